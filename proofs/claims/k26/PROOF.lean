import PyProof.Rows.All
import HandS.Lambda
import HandS.EndTab
import HandS.EndOwn
import Wide.All
import OpenK.AllK
import Wide.FinOn
import HandS.ForMost
import HandS.Evl
import HandS.Wide
import HandS.IsInst
import HandS.Rev
import HandS.Walk
import HandS.TupAny
import HandS.Flow
import HandS.Exc
import HandS.TryOnly
import HandS.ExcOwn
import HandS.WordsExc
import HandS.Conv
import HandS.More
import KE.KDictPairs
import PySem.Challenge.RW_twoimages_k26_whole_asked_again_it_goes
set_option Elab.async false
set_option linter.all false
set_option maxRecDepth 100000
set_option maxHeartbeats 4000000
namespace Z
open PySem L2

/-! ### frames: all that was tracked outside M stays -/
def Fr (M : List Addr) (H H' : Hp) : Prop := ∀ b o, b ∉ M → H b = some o → H' b = some o
section
variable {K : PySem.W.Frag} {M N : List Addr} {H H0 H1 H2 H' : Hp} {p a : Addr} {o o' : HO} {xs : List V}
theorem Fr.refl (M : List Addr) (H : Hp) : Fr M H H := fun _ _ _ e => e
theorem Fr.trans (f : Fr M H H1) (g : Fr M H1 H2) : Fr M H H2 := fun x o n e => g x o n (f x o n e)
theorem Fr.wk (f : Fr N H H') (h : ∀ a, a ∈ N → a ∈ M) : Fr M H H' := fun x o n e => f x o (fun z => n (h x z)) e
theorem Fr.wk0 (f : Fr [] H H') : Fr M H H' := fun x o _ e => f x o (fun z => nomatch z) e
theorem Fr.new (h : H p = none) : Fr M H (upd H p o) := fun b u _ e => by
  rw [upd_ne (ne_of_none e h)]; exact e
theorem Fr.set (h : p ∈ M) : Fr M H (upd H p o) := fun b u n e => by
  rw [upd_ne (fun z => n (by rw [z]; exact h))]; exact e
theorem Fr.drop (f : Fr (p :: M) H H') (h : H p = none) : Fr M H H' := fun b o n e => f b o (fun z => by
  cases List.mem_cons.mp z with
  | inl z => exact ne_of_none e h z
  | inr z => exact n z) e
theorem Fr.free (f : Fr M H H') (n : p ∉ M) (h : H' p = none) : H p = none := by
  cases q : H p with
  | none => rfl
  | some o => rw [f p o n q] at h; cases h
theorem Fr.ne (f : Fr [] H H') (h : H' p = none) : H p = none := f.free (fun z => nomatch z) h
theorem Fr.rd {u : HO} (f : Fr M H H') (n : a ∉ M) (h : Rd H a u) : Rd H' a u := by
  rcases h with h | ⟨o, h⟩
  · exact .inl (f _ _ n h)
  · exact .inr ⟨o, f _ _ n h⟩
theorem Fr.sl (f : Fr M H H') (n : a ∉ M) (h : SqL K H a xs) : SqL K H' a xs := by
  rcases h with h | h
  · exact .inl (f.rd n h)
  · exact .inr h
theorem Fr.st (f : Fr M H H') (n : a ∉ M) (h : SqT K H a xs) : SqT K H' a xs := by
  rcases h with h | h
  · exact .inl (f.rd n h)
  · exact .inr h
theorem Fr.same (f : Fr [] H H') : Same H H' := fun b o e => f b o (fun z => nomatch z) e
end

/-! ### data of any depth that stands clear of the mutable addresses M -/
def SLA (K : PySem.W.Frag) (M : List Addr) (H : Hp) (a : Addr) (xs : List V) : Prop := SqL K H a xs ∧ (a ∉ M ∨ ∀ H', SqL K H' a xs)
def STA (K : PySem.W.Frag) (M : List Addr) (H : Hp) (a : Addr) (xs : List V) : Prop := SqT K H a xs ∧ (a ∉ M ∨ ∀ H', SqT K H' a xs)
mutual
def Dt (K : PySem.W.Frag) (M : List Addr) (H : Hp) : PyData → V → Prop
  | .none, v => v = .non
  | .bool b, v => v = .bl b
  | .int i, v => v = .int i
  | .str s, v => v = .str s
  | .list ds, v => ∃ a xs, v = .ref a ∧ SLA K M H a xs ∧ DtL K M H ds xs
  | .tuple ds, v => ∃ a xs, v = .ref a ∧ STA K M H a xs ∧ DtL K M H ds xs
  | .dict _, _ => False
def DtL (K : PySem.W.Frag) (M : List Addr) (H : Hp) : List PyData → List V → Prop
  | [], vs => vs = []
  | d :: ds, vs => ∃ v r, vs = v :: r ∧ Dt K M H d v ∧ DtL K M H ds r
end
section
variable {K : PySem.W.Frag} {M N : List Addr} {H H' : Hp}
theorem SLA.mono {a : Addr} {xs : List V} (h : SLA K M H a xs) (f : Fr M H H') : SLA K M H' a xs := by
  rcases h with ⟨h, n | n⟩
  · exact ⟨f.sl n h, .inl n⟩
  · exact ⟨n H', .inr n⟩
theorem STA.mono {a : Addr} {xs : List V} (h : STA K M H a xs) (f : Fr M H H') : STA K M H' a xs := by
  rcases h with ⟨h, n | n⟩
  · exact ⟨f.st n h, .inl n⟩
  · exact ⟨n H', .inr n⟩
theorem SLA.wk {a : Addr} {xs : List V} (h : SLA K M H a xs) (f : ∀ a, a ∈ N → a ∈ M) : SLA K N H a xs := by
  rcases h with ⟨h, n | n⟩
  · exact ⟨h, .inl fun z => n (f _ z)⟩
  · exact ⟨h, .inr n⟩
theorem STA.wk {a : Addr} {xs : List V} (h : STA K M H a xs) (f : ∀ a, a ∈ N → a ∈ M) : STA K N H a xs := by
  rcases h with ⟨h, n | n⟩
  · exact ⟨h, .inl fun z => n (f _ z)⟩
  · exact ⟨h, .inr n⟩
theorem SLA.cons {a p : Addr} {xs : List V} (h : SLA K M H a xs) (n : H p = none) : SLA K (p :: M) H a xs := by
  rcases h with ⟨(h | ⟨o, h⟩) | h, k⟩
  · rcases k with k | k
    · exact ⟨.inl (.inl h), .inl fun z => by cases List.mem_cons.mp z with | inl z => exact ne_of_none h n z | inr z => exact k z⟩
    · exact ⟨k H, .inr k⟩
  · rcases k with k | k
    · exact ⟨.inl (.inr ⟨o, h⟩), .inl fun z => by cases List.mem_cons.mp z with | inl z => exact ne_of_none h n z | inr z => exact k z⟩
    · exact ⟨k H, .inr k⟩
  · exact ⟨.inr h, .inr fun _ => .inr h⟩
theorem STA.cons {a p : Addr} {xs : List V} (h : STA K M H a xs) (n : H p = none) : STA K (p :: M) H a xs := by
  rcases h with ⟨(h | ⟨o, h⟩) | h, k⟩
  · rcases k with k | k
    · exact ⟨.inl (.inl h), .inl fun z => by cases List.mem_cons.mp z with | inl z => exact ne_of_none h n z | inr z => exact k z⟩
    · exact ⟨k H, .inr k⟩
  · rcases k with k | k
    · exact ⟨.inl (.inr ⟨o, h⟩), .inl fun z => by cases List.mem_cons.mp z with | inl z => exact ne_of_none h n z | inr z => exact k z⟩
    · exact ⟨k H, .inr k⟩
  · exact ⟨.inr h, .inr fun _ => .inr h⟩
mutual
theorem Dt.mapM {N : List Addr} (hl : ∀ a xs, SLA K M H a xs → SLA K N H' a xs) (ht : ∀ a xs, STA K M H a xs → STA K N H' a xs) : ∀ {d : PyData} {v : V}, Dt K M H d v → Dt K N H' d v
  | .none, _, h => by simp only [Dt] at h ⊢; exact h
  | .bool _, _, h => by simp only [Dt] at h ⊢; exact h
  | .int _, _, h => by simp only [Dt] at h ⊢; exact h
  | .str _, _, h => by simp only [Dt] at h ⊢; exact h
  | .list ds, v, h => by
    simp only [Dt] at h ⊢
    obtain ⟨a, xs, e, s, r⟩ := h
    exact ⟨a, xs, e, hl _ _ s, DtL.mapM hl ht r⟩
  | .tuple ds, v, h => by
    simp only [Dt] at h ⊢
    obtain ⟨a, xs, e, s, r⟩ := h
    exact ⟨a, xs, e, ht _ _ s, DtL.mapM hl ht r⟩
  | .dict _, _, h => by simp only [Dt] at h
theorem DtL.mapM {N : List Addr} (hl : ∀ a xs, SLA K M H a xs → SLA K N H' a xs) (ht : ∀ a xs, STA K M H a xs → STA K N H' a xs) : ∀ {ds : List PyData} {vs : List V}, DtL K M H ds vs → DtL K N H' ds vs
  | [], _, h => by simp only [DtL] at h ⊢; exact h
  | d :: ds, vs, h => by
    simp only [DtL] at h ⊢
    obtain ⟨v, r, e, h1, h2⟩ := h
    exact ⟨v, r, e, Dt.mapM hl ht h1, DtL.mapM hl ht h2⟩
end
theorem Dt.mono {d : PyData} {v : V} (h : Dt K M H d v) (f : Fr M H H') : Dt K M H' d v := h.mapM (fun _ _ s => s.mono f) (fun _ _ s => s.mono f)
theorem Dt.wk {d : PyData} {v : V} (h : Dt K M H d v) (f : ∀ a, a ∈ N → a ∈ M) : Dt K N H d v := h.mapM (fun _ _ s => s.wk f) (fun _ _ s => s.wk f)
theorem Dt.cons {d : PyData} {v : V} {p : Addr} (h : Dt K M H d v) (n : H p = none) : Dt K (p :: M) H d v := h.mapM (fun _ _ s => s.cons n) (fun _ _ s => s.cons n)
theorem DtL.mono {ds : List PyData} {vs : List V} (h : DtL K M H ds vs) (f : Fr M H H') : DtL K M H' ds vs := h.mapM (fun _ _ s => s.mono f) (fun _ _ s => s.mono f)
theorem DtL.wk {ds : List PyData} {vs : List V} (h : DtL K M H ds vs) (f : ∀ a, a ∈ N → a ∈ M) : DtL K N H ds vs := h.mapM (fun _ _ s => s.wk f) (fun _ _ s => s.wk f)
mutual
theorem Dt.dp : ∀ {d : PyData} {v : V}, Dt K M H d v → Dp K H v d
  | .none, _, h => by simp only [Dt] at h; subst h; exact .non
  | .bool _, _, h => by simp only [Dt] at h; subst h; exact .bl _
  | .int _, _, h => by simp only [Dt] at h; subst h; exact .int _
  | .str _, _, h => by simp only [Dt] at h; subst h; exact .str _
  | .list ds, v, h => by
    simp only [Dt] at h
    obtain ⟨a, xs, rfl, s, r⟩ := h
    exact .lst s.1 (DtL.dp r)
  | .tuple ds, v, h => by
    simp only [Dt] at h
    obtain ⟨a, xs, rfl, s, r⟩ := h
    exact .tup s.1 (DtL.dp r)
  | .dict _, _, h => by simp only [Dt] at h
theorem DtL.dp : ∀ {ds : List PyData} {vs : List V}, DtL K M H ds vs → DpAll K H vs ds
  | [], _, h => by simp only [DtL] at h; subst h; exact .nil
  | d :: ds, vs, h => by
    simp only [DtL] at h
    obtain ⟨v, r, rfl, h1, h2⟩ := h
    exact .cons (Dt.dp h1) (DtL.dp h2)
end
theorem DtL.len : ∀ {ds : List PyData} {vs : List V}, DtL K M H ds vs → vs.length = ds.length
  | [], _, h => by simp only [DtL] at h; subst h; rfl
  | d :: ds, vs, h => by
    simp only [DtL] at h
    obtain ⟨v, r, rfl, h1, h2⟩ := h
    simp only [List.length_cons, DtL.len h2]
theorem DtL.at : ∀ {ds : List PyData} {vs : List V} {i : Nat} {d : PyData}, DtL K M H ds vs → ds[i]? = some d → ∃ v, vs[i]? = some v ∧ Dt K M H d v
  | [], _, _, _, _, e => by simp at e
  | d :: ds, vs, i, x, h, e => by
    simp only [DtL] at h
    obtain ⟨v, r, rfl, h1, h2⟩ := h
    cases i with
    | zero => simp at e; subst e; exact ⟨v, rfl, h1⟩
    | succ i => simp at e; obtain ⟨u, e1, e2⟩ := DtL.at h2 e; exact ⟨u, by simpa using e1, e2⟩
theorem DtL.of_at : ∀ {ds : List PyData} {vs : List V}, vs.length = ds.length → (∀ (i : Nat) (d : PyData) (v : V), ds[i]? = some d → vs[i]? = some v → Dt K M H d v) → DtL K M H ds vs
  | [], [], _, _ => by simp only [DtL]
  | [], v :: vs, e, _ => by simp at e
  | d :: ds, [], e, _ => by simp at e
  | d :: ds, v :: vs, e, h => by
    simp only [DtL]
    exact ⟨v, vs, rfl, h 0 d v rfl rfl, DtL.of_at (by simpa using e) (fun i d' v' h1 h2 => h (i + 1) d' v' (by simpa using h1) (by simpa using h2))⟩
theorem DtL.append {ds es : List PyData} {vs us : List V} : DtL K M H ds vs → DtL K M H es us → DtL K M H (ds ++ es) (vs ++ us) := by
  induction ds generalizing vs with
  | nil => intro h g; simp only [DtL] at h; subst h; simpa using g
  | cons d ds ih =>
    intro h g
    simp only [DtL] at h
    obtain ⟨v, r, rfl, h1, h2⟩ := h
    simp only [List.cons_append, DtL]
    exact ⟨v, _, rfl, h1, ih h2 g⟩
theorem DtL.ints : ∀ {ns : List Int} {vs : List V}, DtL K M H (ns.map PyData.int) vs ↔ vs = ns.map V.int
  | [], vs => by simp only [List.map_nil, DtL]
  | n :: ns, vs => by
    simp only [List.map_cons, DtL, Dt]
    constructor
    · rintro ⟨v, r, rfl, rfl, h⟩; rw [DtL.ints.mp h]
    · rintro rfl; exact ⟨_, _, rfl, rfl, DtL.ints.mpr rfl⟩
end

/-! ### what is known of the heap: the entries L (each by its object), data Ds clear of M; H0 the heap at the call -/
structure Bs where
  h : Hp
  n : List Addr
instance : CoeFun Bs (fun _ => Addr → Option HO) := ⟨Bs.h⟩
/-- from the heap H on nothing that was known may change -/
abbrev b0 (H : Hp) : Bs := ⟨H, []⟩
/-- a may be changed: it is of those, or it is new -/
def Bs.may (B : Bs) (a : Addr) : Prop := a ∈ B.n ∨ B.h a = none
structure Sy (K : PySem.W.Frag) (H0 : Bs) (M : List Addr) (H : Hp) (L : List (Addr × HO)) (Ds : List (PyData × V)) : Prop where
  fr : Fr H0.n H0.h H
  ent : ∀ x ∈ L, H x.1 = some x.2
  nd : (L.map (·.1)).Nodup
  dat : ∀ x ∈ Ds, Dt K M H x.1 x.2
  dom : ∀ a ∈ M, ∃ o, H a = some o
  nom : ∀ a ∈ H0.n, ∃ o, H a = some o
section
variable {K : PySem.W.Frag} {M N : List Addr} {H H1 H' : Hp} {H0 : Bs} {p a : Addr} {o o' : HO} {xs : List V} {L L' : List (Addr × HO)} {Ds Ds' : List (PyData × V)}
theorem Sy.get (S : Sy K H0 M H L Ds) (i : Nat) (h : L[i]? = some (a, o)) : H a = some o := S.ent _ (List.mem_of_getElem? h)
theorem Sy.sl (S : Sy K H0 M H L Ds) (i : Nat) (h : L[i]? = some (a, .lst xs)) : SqL K H a xs := .inl (.inl (S.get i h))
theorem Sy.slf {ob : Obj} (S : Sy K H0 M H L Ds) (i : Nat) (h : L[i]? = some (a, .frz ob (.lst xs))) : SqL K H a xs := .inl (.inr ⟨_, S.get i h⟩)
theorem Sy.st (S : Sy K H0 M H L Ds) (i : Nat) (h : L[i]? = some (a, .tup xs)) : SqT K H a xs := .inl (.inl (S.get i h))
theorem Sy.d (S : Sy K H0 M H L Ds) (i : Nat) {d : PyData} {v : V} (h : Ds[i]? = some (d, v)) : Dt K M H d v := S.dat _ (List.mem_of_getElem? h)
theorem Sy.start {N : List Addr} (M : List Addr) (L : List (Addr × HO)) (Ds : List (PyData × V)) (h1 : ∀ x ∈ L, H x.1 = some x.2) (h2 : (L.map (·.1)).Nodup) (h3 : ∀ x ∈ Ds, Dt K M H x.1 x.2) (h4 : ∀ a ∈ M, ∃ o, H a = some o) (h5 : ∀ a ∈ N, ∃ o, H a = some o := by exact fun _ z => nomatch z) : Sy K ⟨H, N⟩ M H L Ds :=
  ⟨Fr.refl _ _, h1, h2, h3, h4, h5⟩
theorem nd_new (h1 : ∀ x ∈ L, H x.1 = some x.2) (h2 : (L.map (·.1)).Nodup) (h : H p = none) : ((L ++ [(p, o)]).map (·.1)).Nodup := by
  rw [List.map_append, List.nodup_append]
  refine ⟨h2, by simp, ?_⟩
  intro x hx y hy e
  simp at hy
  obtain ⟨z, hz, rfl⟩ := List.mem_map.mp hx
  subst hy
  have := h1 z hz
  rw [e, h] at this
  cases this
theorem Sy.new (S : Sy K H0 M H L Ds) (h : H p = none) : Sy K H0 M (upd H p o) (L ++ [(p, o)]) Ds :=
  ⟨S.fr.trans (Fr.new h), fun x hx => by
    rcases List.mem_append.mp hx with hx | hx
    · exact Fr.new (M := []) h _ _ (fun z => nomatch z) (S.ent x hx)
    · rw [List.mem_singleton.mp hx]; exact upd_same, nd_new S.ent S.nd h, fun x hx => (S.dat x hx).mono (Fr.new h), fun a ha => by
    obtain ⟨o, e⟩ := S.dom a ha
    exact ⟨o, Fr.new (M := []) h _ _ (fun z => nomatch z) e⟩, fun a ha => by
    obtain ⟨o, e⟩ := S.nom a ha
    exact ⟨o, Fr.new (M := []) h _ _ (fun z => nomatch z) e⟩⟩
theorem Fr.free' {N : List Addr} (f : Fr N H1 H) (hn : ∀ a ∈ N, ∃ o, H a = some o) (h : H p = none) : H1 p = none := f.free (fun z => by
  obtain ⟨o, e⟩ := hn p z
  rw [h] at e; cases e) h
theorem Sy.free (S : Sy K H0 M H L Ds) (h : H p = none) : H0 p = none := S.fr.free' S.nom h
theorem Sy.newM (S : Sy K H0 M H L Ds) (h : H p = none) : Sy K H0 (p :: M) (upd H p o) (L ++ [(p, o)]) Ds := by
  have T := S.new (o := o) h
  refine ⟨T.fr, T.ent, T.nd, fun x hx => ((S.dat x hx).cons h).mono (Fr.new h), fun a ha => ?_, T.nom⟩
  cases List.mem_cons.mp ha with
  | inl z => exact ⟨o, by rw [z]; exact upd_same⟩
  | inr z => exact T.dom a z
theorem nd_set (i : Nat) (h : L[i]? = some (a, o)) (h2 : (L.map (·.1)).Nodup) : ((L.set i (a, o')).map (·.1)).Nodup := by
  have e : (L.set i (a, o')).map (·.1) = L.map (·.1) := by
    rw [List.map_set]
    apply List.ext_getElem?
    intro j
    rw [List.getElem?_set]
    split
    · rename_i e; subst e
      simp [h]
      have := (List.getElem?_eq_some_iff.mp h).1
      simp [this]
    · rfl
  rw [e]; exact h2
theorem ent_set (S : Sy K H0 M H L Ds) (i : Nat) (h : L[i]? = some (a, o)) {x : Addr × HO} (hx : x ∈ L.set i (a, o')) : x = (a, o') ∨ (x ∈ L ∧ x.1 ≠ a) := by
  obtain ⟨j, hj⟩ := List.getElem?_of_mem hx
  rw [List.getElem?_set] at hj
  split at hj
  · rename_i e
    split at hj
    · exact .inl (Option.some.inj hj).symm
    · cases hj
  · rename_i e
    refine .inr ⟨List.mem_of_getElem? hj, fun z => ?_⟩
    have h1 : (L.map (·.1))[i]? = some a := by rw [List.getElem?_map, h]; rfl
    have h2 : (L.map (·.1))[j]? = some a := by rw [List.getElem?_map, hj, ← z]; rfl
    obtain ⟨b1, e1⟩ := List.getElem?_eq_some_iff.mp h1
    obtain ⟨b2, e2⟩ := List.getElem?_eq_some_iff.mp h2
    exact e ((List.getElem_inj S.nd).mp (e1.trans e2.symm))
theorem Bs.fr {B : Bs} (m : B.may a) (f : Fr B.n B.h H) (g : Fr [a] H H') : Fr B.n B.h H' := fun b o n e => by
  refine g b o (fun z => ?_) (f b o n e)
  rw [List.mem_singleton] at z; subst z
  rcases m with m | m
  · exact n m
  · rw [m] at e; cases e
theorem keepS (f : Fr [a] H H') (e : H' a = some o') {b : Addr} (h : ∃ u, H b = some u) : ∃ u, H' b = some u := by
  obtain ⟨u, hu⟩ := h
  by_cases z : b = a
  · subst z; exact ⟨_, e⟩
  · exact ⟨u, f _ _ (fun q => z (List.mem_singleton.mp q)) hu⟩
/-- one known object, mutable, is another; all else stays -/
theorem Sy.put (S : Sy K H0 M H L Ds) (i : Nat) (h : L[i]? = some (a, o)) (m : a ∈ M ∧ H0.may a) (f : Fr [a] H H') (e : H' a = some o') : Sy K H0 M H' (L.set i (a, o')) Ds := by
  have fM : Fr M H H' := f.wk fun b hb => by rw [List.mem_singleton.mp hb]; exact m.1
  refine ⟨Bs.fr m.2 S.fr f, fun x hx => ?_, nd_set i h S.nd, fun x hx => (S.dat x hx).mono fM, fun b hb => keepS f e (S.dom b hb), fun b hb => keepS f e (S.nom b hb)⟩
  rcases ent_set S i h hx with rfl | ⟨hx, n⟩
  · exact e
  · exact f _ _ (fun z => n (List.mem_singleton.mp z)) (S.ent x hx)
theorem Sy.set (S : Sy K H0 M H L Ds) (i : Nat) (h : L[i]? = some (a, o)) (m : a ∈ M ∧ H0.may a) : Sy K H0 M (upd H a o') (L.set i (a, o')) Ds :=
  S.put i h m (Fr.set (List.mem_singleton.mpr rfl)) upd_same
theorem keep0 (f : Fr [] H H') {b : Addr} (h : ∃ u, H b = some u) : ∃ u, H' b = some u := by
  obtain ⟨u, hu⟩ := h
  exact ⟨u, f _ _ (fun z => nomatch z) hu⟩
/-- nothing known is changed -/
theorem Sy.ex (S : Sy K H0 M H L Ds) (f : Fr [] H H') : Sy K H0 M H' L Ds :=
  ⟨S.fr.trans f.wk0, fun x hx => f _ _ (fun z => nomatch z) (S.ent x hx), S.nd, fun x hx => (S.dat x hx).mono f.wk0, fun b hb => keep0 f (S.dom b hb), fun b hb => keep0 f (S.nom b hb)⟩
theorem Sy.exN (S : Sy K H0 M H L Ds) (f : Fr [] H H') (h : H p = none) (e : H' p = some o) : Sy K H0 M H' (L ++ [(p, o)]) Ds := by
  have T := S.ex f
  refine ⟨T.fr, fun x hx => ?_, nd_new S.ent S.nd h, T.dat, T.dom, T.nom⟩
  rcases List.mem_append.mp hx with hx | hx
  · exact T.ent x hx
  · rw [List.mem_singleton.mp hx]; exact e
theorem Sy.addD (S : Sy K H0 M H L Ds) {d : PyData} {v : V} (h : Dt K M H d v) : Sy K H0 M H L (Ds ++ [(d, v)]) :=
  ⟨S.fr, S.ent, S.nd, fun x hx => by
    rcases List.mem_append.mp hx with hx | hx
    · exact S.dat x hx
    · rw [List.mem_singleton.mp hx]; exact h, S.dom, S.nom⟩
theorem Sy.sub (S : Sy K H0 M H L Ds) (h : L'.Sublist L) : Sy K H0 M H L' Ds :=
  ⟨S.fr, fun x hx => S.ent x (h.subset hx), (h.map _).nodup S.nd, S.dat, S.dom, S.nom⟩
theorem Sy.subD (S : Sy K H0 M H L Ds) (h : ∀ x ∈ Ds', x ∈ Ds) : Sy K H0 M H L Ds' := ⟨S.fr, S.ent, S.nd, fun x hx => S.dat x (h x hx), S.dom, S.nom⟩
theorem Sy.dropM (S : Sy K H0 (p :: M) H L Ds) : Sy K H0 M H L Ds :=
  ⟨S.fr, S.ent, S.nd, fun x hx => (S.dat x hx).wk fun _ z => List.mem_cons_of_mem _ z, fun a ha => S.dom a (List.mem_cons_of_mem _ ha), S.nom⟩
/-- the frame counted from here on, nothing known to be changed -/
theorem Sy.rebase (S : Sy K H0 M H L Ds) : Sy K (b0 H) M H L Ds := ⟨Fr.refl _ _, S.ent, S.nd, S.dat, S.dom, fun _ z => nomatch z⟩
end

/-! ### readings, step by step -/
section
variable {K : PySem.W.Frag} {σ σ' : St} {H : Hp} {i : Nat} {v x y : V} {ta tb te tc : TE} {tr tA : TA} {Q : VK} {r r' : R2} {c t u : TT} {D : Ends} {g : TG} {ts tu : TS}
theorem x_var (h : σ[i]? = some (some v)) (q : Q v H) : tVar i σ H Q := ⟨v, h, q⟩
theorem x_c (q : Q v H) : tC v σ H Q := q
theorem x_op (q : ta σ H fun x H1 => tb σ H1 fun y H2 => r x y H2 Q) : tOp r ta tb σ H Q := q
theorem x_un {r : V → Hp → VK → Prop} (q : ta σ H fun x H1 => r x H1 Q) : tUn r ta σ H Q := q
theorem x_I0 {f : Int → Int → V} {i j : Int} (q : Q (f i j) H) : rI0 f (.int i) (.int j) H Q := ⟨i, j, rfl, rfl, q⟩
theorem x_I {C : Int → Int → Prop} {f : Int → Int → V} {i j : Int} (c : C i j) (q : Q (f i j) H) : rI C f (.int i) (.int j) H Q := ⟨i, j, rfl, rfl, c, q⟩
theorem x_U {f : Int → V} {i : Int} (q : Q (f i) H) : rU f (.int i) H Q := ⟨i, rfl, q⟩
theorem x_eq (h : scal x y = true) (q : Q (.bl (decide (x = y))) H) : rEq x y H Q := ⟨h, q⟩
theorem x_ne (h : scal x y = true) (q : Q (.bl (!decide (x = y))) H) : rNe x y H Q := ⟨h, q⟩
theorem x_nil {Q : List V → Hp → Prop} (q : Q [] H) : tNil σ H Q := q
theorem x_cons {Q : List V → Hp → Prop} (q : ta σ H fun x H1 => tr σ H1 fun xs H2 => Q (x :: xs) H2) : tCons ta tr σ H Q := q
theorem x_asg (q : te σ H fun x H1 => g x σ H1 D.nx) : tAsg te g D σ H := q
theorem x_name {Q : St → Hp → Prop} (h : σ.set i (some v) = σ') (q : Q σ' H) : gName i v σ H Q := by subst h; exact q
theorem x_seq (q : ts { D with nx := tu D } σ H) : tSeq ts tu D σ H := q
theorem x_st {ts : TS} (h : σ = σ') (q : ts D σ' H) : ts D σ H := by subst h; exact q
theorem x_next (q : D.nx σ H) : tNext D σ H := q
theorem x_ret (q : te σ H D.rt) : tRet te D σ H := q
theorem x_retN (q : D.rt .non H) : tRetN D σ H := q
theorem x_drop (q : te σ H fun _ H1 => D.nx σ H1) : tDrop te D σ H := q
theorem x_ifs (q : c σ H fun b H1 => if b = true then ts D σ H1 else tu D σ H1) : tIfS c ts tu D σ H := q
theorem x_if (q : c σ H fun b H1 => if b = true then ta σ H1 Q else tb σ H1 Q) : tIf c ta tb σ H Q := q
theorem x_test {Q : Bool → Hp → Prop} (q : te σ H fun x H' => ∃ k, x = .bl k ∧ Q k H') : tTest te σ H Q := q
theorem x_B {Q : Bool → Hp → Prop} (q : te σ H fun x H' => ∃ k, x = .bl k ∧ Q k H') : tB te σ H Q := q
theorem x_k {P : Bool → Prop} {b : Bool} (q : P b) : ∃ k, V.bl b = .bl k ∧ P k := ⟨b, rfl, q⟩
theorem x_and {Q : Bool → Hp → Prop} (q : t σ H fun c H1 => if c = true then u σ H1 Q else Q false H1) : tAnd t u σ H Q := q
theorem x_or {Q : Bool → Hp → Prop} (q : t σ H fun c H1 => if c = true then Q true H1 else u σ H1 Q) : tOr t u σ H Q := q
theorem x_not {Q : Bool → Hp → Prop} (q : t σ H fun c H1 => Q (!c) H1) : tNot t σ H Q := q
theorem x_chain (q : ta σ H fun x H1 => tb σ H1 fun y H2 => r x y H2 fun z H3 => ∃ k, z = .bl k ∧ (if k = true then tc σ H3 fun w' H4 => r' y w' H4 Q else Q (.bl false) H3)) : tChain r r' ta tb tc σ H Q := q
theorem x_yes {Q : Bool → Hp → Prop} (q : Q true H) : tYes σ H Q := q
theorem x_tup (q : tA σ H fun xs H1 => xs.length ≤ sizeLine ∧ ∀ p, H1 p = none → Q (.ref p) (upd H1 p (.tup xs))) : tTup tA σ H Q := q
theorem x_lst (q : tA σ H fun xs H1 => xs.length ≤ sizeLine ∧ ∀ p, H1 p = none → Q (.ref p) (upd H1 p (.lst xs))) : tLst tA σ H Q := q
theorem x_call {sp : Sp} {dvs : List V} {E : XK} (q : tA σ H fun vs H1 => sp (vs ++ dvs) H1 Q E) : tCall sp dvs E tA σ H Q := q
theorem x_cb {r : List V → Hp → VK → Prop} (q : tA σ H fun vs H1 => r vs H1 Q) : tCB r tA σ H Q := q
theorem x_sub {to ti : TE} {tt : TSet} {Q : St → Hp → Prop} (q : to σ H fun o H1 => ti σ H1 fun i H2 => tt o i v H2 fun H3 => Q σ H3) : gSub to ti tt v σ H Q := q
theorem x_isN {x : V} (q : Q (.bl (decide (x = .non))) H) : (fun (x y : V) (H : Hp) (Q : VK) => y = .non ∧ Q (.bl (decide (x = .non))) H) x .non H Q := ⟨rfl, q⟩
theorem x_ite {c : Bool} {A B : Prop} (h1 : c = true → A) (h2 : c = false → B) : if c = true then A else B := by
  cases c with
  | true => exact h1 rfl
  | false => exact h2 rfl
theorem x_iteT {c : Bool} {A B : Prop} (h : c = true) (q : A) : if c = true then A else B := by rw [if_pos h]; exact q
theorem x_iteF {c : Bool} {A B : Prop} (h : c = false) (q : B) : if c = true then A else B := by rw [h, if_neg Bool.false_ne_true]; exact q
theorem x_ixL {p : Addr} {xs : List V} {i : Int} (h : SqL K H p xs) (ha : atI xs i = some v) (q : Q v H) : rIxL K (.ref p) (.int i) H Q := ⟨p, xs, i, v, rfl, rfl, h, ha, q⟩
theorem x_ixT {p : Addr} {xs : List V} {i : Int} (h : SqT K H p xs) (ha : atI xs i = some v) (q : Q v H) : rIxT K (.ref p) (.int i) H Q := ⟨p, xs, i, v, rfl, rfl, h, ha, q⟩
theorem x_setL {p : Addr} {xs : List V} {k : Int} {j : Nat} {Q : Hp → Prop} (h : H p = some (.lst xs)) (e : ixN xs.length k = some j) (q : Q (upd H p (.lst (xs.set j v)))) : rSetL (.ref p) (.int k) v H Q := ⟨p, xs, k, j, rfl, rfl, h, e, q⟩
theorem x_setR {p : Addr} {x0 x1 x2 x3 y0 y1 y2 y3 : V} {k : Int} {j : Nat} {Q : Hp → Prop} (h : H p = some (.lst [x0, x1, x2, x3])) (e : ixN 4 k = some j) (e2 : [x0, x1, x2, x3].set j v = [y0, y1, y2, y3]) (q : Q (upd H p (.lst [y0, y1, y2, y3]))) : rSetL (.ref p) (.int k) v H Q := ⟨p, _, k, j, rfl, rfl, h, e, by rw [e2]; exact q⟩
theorem pe_gi {X : Cx} {x : Str} {pos : Pos} {i : Int} (hg : Gl X x) (h : ∃ t, X.mg x = some (.int i t)) (hd : (x == ("__debug__" : Str)) = false := by decide) (hn : (x == ("__classdict__" : Str)) = false := by decide) : PE X (.Name x pos) (tC (.int i)) := by
  obtain ⟨t, e⟩ := h
  exact pe_glob hg e ⟨t, rfl⟩ hd
end
theorem sz (n : Nat) (h : n ≤ 16777216 := by decide) : n ≤ sizeLine := by rw [sizeLine_eq]; exact h
theorem szl {n : Nat} (h : n < 16777216) : n < sizeLine := by rw [sizeLine_eq]; exact h
theorem szL {n : Nat} (h : n ≤ 16777216) : n ≤ sizeLine := by rw [sizeLine_eq]; exact h
theorem ixN_nat {n j : Nat} (hj : j < n) : ixN n (j : Int) = some j := by
  unfold ixN
  rw [if_pos (by omega), if_pos (by omega)]
  simp
theorem ixN_int {n : Nat} {k : Int} (h0 : 0 ≤ k) (h : k < n) : ixN n k = some k.toNat := by
  unfold ixN
  rw [if_pos h0, if_pos h]
theorem atI_int {α : Type} {xs : List α} {k : Int} {v : α} (h0 : 0 ≤ k) (h : xs[k.toNat]? = some v) : atI xs k = some v := by
  have e : k = (k.toNat : Int) := by omega
  rw [e]; exact atI_nat h
theorem at_map {α β : Type} {f : α → β} {xs : List α} {i : Nat} {x : α} (h : xs[i]? = some x) : (xs.map f)[i]? = some (f x) := by rw [List.getElem?_map, h]; rfl
theorem of_map {α β : Type} {f : α → β} {xs : List α} {i : Nat} {y : β} (h : (xs.map f)[i]? = some y) : ∃ x, xs[i]? = some x ∧ y = f x := by
  rw [List.getElem?_map] at h
  cases e : xs[i]? with
  | none => rw [e] at h; cases h
  | some x => rw [e] at h; exact ⟨x, rfl, (Option.some.inj h).symm⟩
theorem at_lt {α : Type} {xs : List α} {i : Nat} (h : i < xs.length) : ∃ x, xs[i]? = some x := ⟨xs[i], List.getElem?_eq_getElem h⟩
theorem take_more {α : Type} {l : List α} {i : Nat} {x : α} (h : l[i]? = some x) : l.take (i + 1) = l.take i ++ [x] := by
  rw [List.take_add_one, h]; rfl
theorem dec_int' {i j : Int} : decide (V.int i = V.int j) = decide (i = j) := by
  rw [Bool.eq_iff_iff]; simp

/-! ### the drawn numbers: a row of the script, how many are taken, the mixed one, a great one's rest -/
structure Rho where
  i : Int
  x : Int
  g : Int
structure Rho.ok (q : Rho) : Prop where
  i0 : 0 ≤ q.i
  x0 : 0 ≤ q.x
  x1 : q.x < 2147483647
  g0 : 0 ≤ q.g
def rowO (a : Addr) (q : Rho) : HO := .lst [.ref a, .int q.i, .int q.x, .int q.g]
theorem ok0 : Rho.ok ⟨0, 0, 0⟩ := ⟨by decide, by decide, by decide, by decide⟩
/-- _law_taken(row, many): a number below many; the row alone changes -/
def spTaken (K : PySem.W.Frag) : Sp := fun vs H Q _ => ∃ (r a : Addr) (m : Int) (q : Rho) (ns : List Int), vs = [.ref r, .int m] ∧ 0 < m ∧ m < 1000000000 ∧ H r = some (rowO a q) ∧ q.ok ∧ SLA K [r] H a (ns.map V.int) ∧ ns.length ≤ 63 ∧
  ∀ (x : Int) (q' : Rho), 0 ≤ x → x < m → q'.ok → Q (.int x) (upd H r (rowO a q'))
/-! ### a list or a tuple -/
section
variable {X : Cx} {tg l : Expr} {tl : TE} {K : PySem.W.Frag} {H H' : Hp} {H0 : Bs} {M : List Addr} {a p r : Addr} {xs : List V}
def SqE (K : PySem.W.Frag) (H : Hp) (a : Addr) (xs : List V) : Prop := SqL K H a xs ∨ SqT K H a xs
def iEi (K : PySem.W.Frag) (tl : TE) : TI := fun σ H R => iList K tl σ H R ∨ iTup K tl σ H R
theorem pi_ei (hl : PE X l tl) : PI X tg l (iEi X.K tl) := ⟨fun pins s σ H R I h => h.elim ((pi_list hl).run pins s σ H R I) ((pi_tup hl).run pins s σ H R I)⟩
theorem SqE.ofL (h : SqL K H a xs) : SqE K H a xs := .inl h
theorem SqE.ofT (h : SqT K H a xs) : SqE K H a xs := .inr h
theorem Fr.sq (f : Fr M H H') (n : a ∉ M) (h : SqE K H a xs) : SqE K H' a xs := h.elim (fun h => .inl (f.sl n h)) (fun h => .inr (f.st n h))
theorem Fr.sq0 (f : Fr [] H H') (h : SqE K H a xs) : SqE K H' a xs := f.sq (fun z => nomatch z) h
end
section
variable {K : PySem.W.Frag} {H : Hp} {a : Addr} {xs : List V} {σ : L2.St} {i : Nat} {g : TG} {tb : TS} {D : Ends} {n lo : Int}
/-- for .. in a name that holds a list or a tuple -/
theorem x_forE (hv : σ[i]? = some (some (.ref a))) (h : SqE K H a xs) (Pv : Nat → L2.St → Hp → Prop) (h0 : Pv 0 σ H) (hl : ∀ j σ' H', Pv j σ' H' → SqE K H a xs → (SqL K H a xs → SqL K H' a xs) ∧ (SqT K H a xs → SqT K H' a xs))
    (hs : ∀ j x σ' H', xs[j]? = some x → Pv j σ' H' → g x σ' H' fun σ2 H2 => tb { D with nx := Pv (j + 1), ct := Pv (j + 1), bk := D.nx } σ2 H2) (hd : ∀ σ' H', Pv xs.length σ' H' → D.nx σ' H') : tFor (iEi K (tVar i)) g tb D σ H := by
  rcases h with h | h
  · exact .inl ⟨_, hv, a, rfl, ⟨_, h⟩, for_list Pv h0 (fun j σ' H' _ q => (hl j σ' H' q (.inl h)).1 h) hs hd⟩
  · exact .inr ⟨_, hv, a, rfl, ⟨_, h⟩, for_tup Pv h0 (fun j σ' H' _ q => (hl j σ' H' q (.inr h)).2 h) hs hd⟩
theorem x_forL (hv : σ[i]? = some (some (.ref a))) (h : SqL K H a xs) (Pv : Nat → L2.St → Hp → Prop) (h0 : Pv 0 σ H) (hl : ∀ j σ' H', j ≤ xs.length → Pv j σ' H' → SqL K H' a xs)
    (hs : ∀ j x σ' H', xs[j]? = some x → Pv j σ' H' → g x σ' H' fun σ2 H2 => tb { D with nx := Pv (j + 1), ct := Pv (j + 1), bk := D.nx } σ2 H2) (hd : ∀ σ' H', Pv xs.length σ' H' → D.nx σ' H') : tFor (iList K (tVar i)) g tb D σ H :=
  ⟨_, hv, a, rfl, ⟨_, h⟩, for_list Pv h0 hl hs hd⟩
theorem x_forT (hv : σ[i]? = some (some (.ref a))) (h : SqT K H a xs) (Pv : Nat → L2.St → Hp → Prop) (h0 : Pv 0 σ H) (hl : ∀ j σ' H', j ≤ xs.length → Pv j σ' H' → SqT K H' a xs)
    (hs : ∀ j x σ' H', xs[j]? = some x → Pv j σ' H' → g x σ' H' fun σ2 H2 => tb { D with nx := Pv (j + 1), ct := Pv (j + 1), bk := D.nx } σ2 H2) (hd : ∀ σ' H', Pv xs.length σ' H' → D.nx σ' H') : tFor (iTup K (tVar i)) g tb D σ H :=
  ⟨_, hv, a, rfl, ⟨_, h⟩, for_tup Pv h0 hl hs hd⟩
/-- what stands behind «for .. in range(e)», e's value being n -/
theorem x_rng1 {R : It → Hp → Prop} {H : Hp} (h0 : 0 ≤ n) (h1 : n ≤ 1000000) (q : R (Itr 0 n.toNat) H) : ∃ j : Int, [V.int n] = [.int j] ∧ -(2 ^ 62) ≤ j ∧ j < 2 ^ 62 ∧ R (Itr 0 j.toNat) H := ⟨n, rfl, by omega, by omega, q⟩
theorem x_rng2 {R : It → Hp → Prop} {H : Hp} (h0 : -1000000 ≤ lo) (h1 : lo ≤ 1000000) (h2 : -1000000 ≤ n) (h3 : n ≤ 1000000) (q : R (Itr lo (n - lo).toNat) H) : ∃ i j : Int, [V.int lo, V.int n] = [.int i, .int j] ∧ (-(2 ^ 62) ≤ i ∧ i < 2 ^ 62 ∧ -(2 ^ 62) ≤ j ∧ j < 2 ^ 62) ∧ R (Itr i (j - i).toNat) H := ⟨lo, n, rfl, ⟨by omega, by omega, by omega, by omega⟩, q⟩
theorem x_for {wi : TI} (q : wi σ H fun J H1 => ∃ W : Nat → Nat → L2.St → Hp → Prop, (∃ m, W 0 m σ H1) ∧ ∀ i m σ H, W i m σ H →
    (J.stop i H ∧ D.nx σ H) ∨ (J.go i H ∧ ∃ N : L2.St → Hp → Prop, (∀ σ' H', N σ' H' → ∃ m', m' < m ∧ W (i + 1) m' σ' H') ∧ ∀ x H', J.yld i H x H' → g x σ H' fun σ2 H2 => tb { D with nx := N, ct := N, bk := D.nx } σ2 H2)) : tFor wi g tb D σ H := q
theorem x_iR1 {ta : TA} {R : It → Hp → Prop} (q : ta σ H fun vs H1 => ∃ j : Int, vs = [.int j] ∧ -(2 ^ 62) ≤ j ∧ j < 2 ^ 62 ∧ R (Itr 0 j.toNat) H1) : iRng1 ta σ H R := q
theorem x_iR2 {ta : TA} {R : It → Hp → Prop} (q : ta σ H fun vs H1 => ∃ i j : Int, vs = [.int i, .int j] ∧ (-(2 ^ 62) ≤ i ∧ i < 2 ^ 62 ∧ -(2 ^ 62) ≤ j ∧ j < 2 ^ 62) ∧ R (Itr i (j - i).toNat) H1) : iRng2 ta σ H R := q
end

/-! ### sums of a row, some cells broken -/
def ov : Option Int → V
  | none => .non
  | some i => .int i
def sstep (s : Int × Int) (n : Int) : Int × Int := ((s.1 + n + 1) % 9973, (s.2 + (s.1 + n + 1) % 9973) % 9973)
def sumsF (ns : List Int) : Int × Int := ns.foldl sstep (0, 0)
def allI : List (Option Int) → Option (List Int)
  | [] => some []
  | none :: _ => none
  | some i :: r => (allI r).map (i :: ·)
theorem allI_some : ∀ ns : List Int, allI (ns.map some) = some ns
  | [] => rfl
  | n :: r => by simp [allI, allI_some r]
theorem allI_inv : ∀ {xs : List (Option Int)} {ns : List Int}, allI xs = some ns → xs = ns.map some
  | [], ns, h => by simp [allI] at h; subst h; rfl
  | none :: r, ns, h => by simp [allI] at h
  | some i :: r, ns, h => by
    simp only [allI, Option.map_eq_some_iff] at h
    obtain ⟨m, h1, rfl⟩ := h
    rw [allI_inv h1]; rfl
theorem allI_none : ∀ {xs : List (Option Int)}, allI xs = none ↔ none ∈ xs
  | [] => by simp [allI]
  | none :: r => by simp [allI]
  | some i :: r => by simp [allI, allI_none (xs := r)]
theorem ints_ov (ns : List Int) : ns.map V.int = (ns.map some).map ov := by rw [List.map_map]; rfl
theorem sumsF_more (ns : List Int) (n : Int) : sumsF (ns ++ [n]) = sstep (sumsF ns) n := by unfold sumsF; rw [List.foldl_append]; rfl
def spSums (K : PySem.W.Frag) : Sp := fun vs H Q _ => ∃ (p : Addr) (xs : List (Option Int)), vs = [.ref p] ∧ SqE K H p (xs.map ov) ∧ (allI xs = none → Q .non H) ∧
  (∀ ns t, allI xs = some ns → H t = none → Q (.ref t) (upd H t (.tup [.int (sumsF ns).1, .int (sumsF ns).2])))
def kstep (key : Int) (s n : Int) : Int := (s * key + n + 1) % 9973
def sealF (key : Int) (ns : List Int) : Int := ns.foldl (kstep key) key
theorem sealF_more (key : Int) (ns : List Int) (n : Int) : sealF key (ns ++ [n]) = kstep key (sealF key ns) n := by unfold sealF; rw [List.foldl_append]; rfl
theorem sealF_lt (key : Int) (ns : List Int) (h0 : 0 ≤ key) (h1 : key < 9973) : 0 ≤ sealF key ns ∧ sealF key ns < 9973 := by
  have : ∀ (l : List Int) (s : Int), 0 ≤ s → s < 9973 → 0 ≤ l.foldl (kstep key) s ∧ l.foldl (kstep key) s < 9973 := by
    intro l
    induction l with
    | nil => intro s a b; exact ⟨a, b⟩
    | cons n r ih => intro s _ _; exact ih _ (Int.emod_nonneg _ (by decide)) (Int.emod_lt_of_pos _ (by decide))
  exact this ns key h0 h1
def spSeal (K : PySem.W.Frag) : Sp := fun vs H Q _ => ∃ (key : Int) (p : Addr) (ns : List Int), vs = [.int key, .ref p] ∧ 0 ≤ key ∧ key < 9973 ∧ SqE K H p (ns.map V.int) ∧ Q (.int (sealF key ns)) H

/-! ### the row of drawn numbers, in hand -/
def script (ns : List Int) : PyData := .list (ns.map .int)
def RowAt (K : PySem.W.Frag) (H : Hp) (r a : Addr) (q : Rho) (ns : List Int) : Prop := H r = some (rowO a q) ∧ q.ok ∧ SLA K [r] H a (ns.map V.int) ∧ ns.length ≤ 63
section
variable {K : PySem.W.Frag} {H H' : Hp} {H0 : Bs} {M : List Addr} {a p r : Addr} {q : Rho} {ns : List Int} {L : List (Addr × HO)} {Ds : List (PyData × V)} {Q : VK} {E : XK}
theorem dt_script : Dt K M H (script ns) (.ref a) ↔ SLA K M H a (ns.map V.int) := by
  unfold script
  simp only [Dt]
  constructor
  · rintro ⟨b, xs, e, h, g⟩
    cases e
    rw [DtL.ints.mp g] at h
    exact h
  · intro h
    exact ⟨a, _, rfl, h, DtL.ints.mpr rfl⟩
theorem RowAt.sy (h : RowAt K H r a q ns) : Sy K ⟨H, [r]⟩ [r] H [(r, rowO a q)] [(script ns, .ref a)] :=
  Sy.start _ _ _ (fun x hx => by rw [List.mem_singleton.mp hx]; exact h.1) (by simp) (fun x hx => by rw [List.mem_singleton.mp hx]; exact dt_script.mpr h.2.2.1) (fun b hb => by rw [List.mem_singleton.mp hb]; exact ⟨_, h.1⟩) (fun b hb => by rw [List.mem_singleton.mp hb]; exact ⟨_, h.1⟩)
theorem Sy.row (S : Sy K H0 M H ((r, rowO a q) :: L) ((script ns, .ref a) :: Ds)) (hM : r ∈ M) (hq : q.ok) (hl : ns.length ≤ 63) : RowAt K H r a q ns :=
  ⟨S.get 0 rfl, hq, (dt_script.mp (S.d 0 rfl)).wk fun b hb => by rw [List.mem_singleton.mp hb]; exact hM, hl⟩
/-- a draw: the row is another one, all else stays -/
theorem Sy.drawn (S : Sy K H0 M H ((r, rowO a q) :: L) Ds) (hM : r ∈ M ∧ H0.may r) (f : Fr [r] H H') {q' : Rho} (e : H' r = some (rowO a q')) : Sy K H0 M H' ((r, rowO a q') :: L) Ds := S.put 0 rfl hM f e
theorem use_taken {m : Int} (S : Sy K H0 M H ((r, rowO a q) :: L) ((script ns, .ref a) :: Ds)) (hM : r ∈ M ∧ H0.may r) (hq : q.ok) (hl : ns.length ≤ 63) (hm : 0 < m) (hm2 : m < 1000000000)
    (k : ∀ (x : Int) (q' : Rho) (H' : Hp), 0 ≤ x → x < m → q'.ok → Sy K H0 M H' ((r, rowO a q') :: L) ((script ns, .ref a) :: Ds) → Q (.int x) H') : spTaken K [.ref r, .int m] H Q E := by
  obtain ⟨h1, h2, h3, h4⟩ := S.row hM.1 hq hl
  exact ⟨r, a, m, q, ns, rfl, hm, hm2, h1, h2, h3, h4, fun x q' x0 x1 ok => k x q' _ x0 x1 ok (S.drawn hM (Fr.set (List.mem_singleton.mpr rfl)) upd_same)⟩
/-- what draws by a row: a number that keeps C -/
def spDraw (C : Int → Prop) (K : PySem.W.Frag) : Sp := fun vs H Q _ => ∃ (r a : Addr) (q : Rho) (ns : List Int), vs = [.ref r] ∧ RowAt K H r a q ns ∧
  ∀ (x : Int) (q' : Rho) (H' : Hp), C x → q'.ok → Fr [r] H H' → H' r = some (rowO a q') → Q (.int x) H'
theorem use_draw {C : Int → Prop} (S : Sy K H0 M H ((r, rowO a q) :: L) ((script ns, .ref a) :: Ds)) (hM : r ∈ M ∧ H0.may r) (hq : q.ok) (hl : ns.length ≤ 63)
    (k : ∀ (x : Int) (q' : Rho) (H' : Hp), C x → q'.ok → Sy K H0 M H' ((r, rowO a q') :: L) ((script ns, .ref a) :: Ds) → Q (.int x) H') : spDraw C K [.ref r] H Q E :=
  ⟨r, a, q, ns, rfl, S.row hM.1 hq hl, fun x q' H' c ok f e => k x q' H' c ok (S.drawn hM f e)⟩
end

/-! ### new objects -/
section
variable {K : PySem.W.Frag} {H : Hp} {H0 : Bs} {M : List Addr} {o : HO} {L : List (Addr × HO)} {Ds : List (PyData × V)} {Q : VK} {n : Prop}
theorem x_al (S : Sy K H0 M H L Ds) (q : ∀ p H', H p = none → Sy K H0 M H' (L ++ [(p, o)]) Ds → Q (.ref p) H') : ∀ p, H p = none → Q (.ref p) (upd H p o) := fun p hp => q p _ hp (S.new hp)
theorem x_alM (S : Sy K H0 M H L Ds) (q : ∀ p H', H p = none → H0 p = none → Sy K H0 (p :: M) H' (L ++ [(p, o)]) Ds → Q (.ref p) H') : ∀ p, H p = none → Q (.ref p) (upd H p o) := fun p hp => q p _ hp (S.free hp) (S.newM hp)
theorem x_new (S : Sy K H0 M H L Ds) (hl : n) (q : ∀ p H', H p = none → Sy K H0 M H' (L ++ [(p, o)]) Ds → Q (.ref p) H') : n ∧ ∀ p, H p = none → Q (.ref p) (upd H p o) := ⟨hl, x_al S q⟩
theorem x_newM (S : Sy K H0 M H L Ds) (hl : n) (q : ∀ p H', H p = none → H0 p = none → Sy K H0 (p :: M) H' (L ++ [(p, o)]) Ds → Q (.ref p) H') : n ∧ ∀ p, H p = none → Q (.ref p) (upd H p o) := ⟨hl, x_alM S q⟩
theorem x_setS {p : Addr} {xs : List V} {k : Int} {j : Nat} {v : V} {Q : Hp → Prop} (S : Sy K H0 M H L Ds) (i : Nat) (h : L[i]? = some (p, .lst xs)) (m : p ∈ M ∧ H0.may p) (e : ixN xs.length k = some j) (q : ∀ H', Sy K H0 M H' (L.set i (p, .lst (xs.set j v))) Ds → Q H') : rSetL (.ref p) (.int k) v H Q :=
  x_setL (S.get i h) e (q _ (S.set i h m))
theorem x_app {p : Addr} {xs : List V} {v : V} {Q : VK} (S : Sy K H0 M H L Ds) (i : Nat) (h : L[i]? = some (p, .lst xs)) (m : p ∈ M ∧ H0.may p) (hz : xs.length < 16777216) (q : ∀ H', Sy K H0 M H' (L.set i (p, .lst (xs ++ [v]))) Ds → Q .non H') : rAppend (.ref p) [v] H Q :=
  ⟨p, xs, v, rfl, rfl, S.get i h, szl hz, q _ (S.set i h m)⟩
end

/-! ### a list of drawn numbers: [f(row) for k in range(n)] -/
def LcO (g : TG) (tt : TT) (te : TE) (vs : List Nat) (σ : L2.St) (Q : VK) (J : It) (H1 : Hp) : Prop := ∀ D, H1 D = none → ∃ W : Nat → Nat → Hp → Prop, (∃ m, W 0 m (upd H1 D (.lst []))) ∧ ∀ i m H, W i m H →
    (J.stop i H ∧ Q (.ref D) H) ∨ (J.go i H ∧ ∃ Nx : Hp → Prop, (∀ H', Nx H' → ∃ m', m' < m ∧ W (i + 1) m' H') ∧ ∀ x H', J.yld i H x H' → g x (wipe σ vs) H' fun σ2 H2 => wipe σ2 vs = wipe σ vs ∧ tt σ2 H2 fun b H3 =>
      if b = true then te σ2 H3 fun y H4 => ∃ acc, H4 D = some (.lst acc) ∧ acc.length < sizeLine ∧ Nx (upd H4 D (.lst (acc ++ [y]))) else Nx H3)
section
variable {K : PySem.W.Frag} {H : Hp} {H0 : Bs} {M : List Addr} {a r : Addr} {q : Rho} {ns : List Int} {L : List (Addr × HO)} {Ds : List (PyData × V)} {Q : VK} {σ : L2.St} {te : TE} {j n : Nat} {C : Int → Prop}
theorem lc_draw (S : Sy K H0 M H ((r, rowO a q) :: L) Ds) (hM : r ∈ M ∧ H0.may r) (hq : q.ok) (hn : n ≤ 10000)
    (hte : ∀ (v : V) (M' : List Addr) (H' : Hp) (q' : Rho) (L' : List (Addr × HO)) (Q' : VK), r ∈ M' ∧ H0.may r → q'.ok → Sy K H0 M' H' ((r, rowO a q') :: L') Ds →
      (∀ (x : Int) (q'' : Rho) (H'' : Hp), C x → q''.ok → Sy K H0 M' H'' ((r, rowO a q'') :: L') Ds → Q' (.int x) H'') → te ((σ.set j none).set j (some v)) H' Q')
    (k : ∀ (D : Addr) (xs : List Int) (q' : Rho) (H' : Hp), H D = none → xs.length = n → (∀ x ∈ xs, C x) → q'.ok → Sy K H0 M H' ((r, rowO a q') :: (L ++ [(D, .lst (xs.map V.int))])) Ds → Q (.ref D) H') :
    LcO (gName j) tYes te [j] σ Q (Itr 0 n) H := by
  intro D hD
  have DF := S.free hD
  refine lc_range (lo := 0) (n := n) (fun i H' => i ≤ n ∧ ∃ (xs : List Int) (q' : Rho), xs.length = i ∧ (∀ x ∈ xs, C x) ∧ q'.ok ∧ Sy K H0 (D :: M) H' ((r, rowO a q') :: (L ++ [(D, .lst (xs.map V.int))])) Ds) ?_ ?_ ?_
  · exact ⟨Nat.zero_le _, [], q, rfl, (fun _ h => nomatch h), hq, S.newM hD⟩
  · rintro i H' hi ⟨_, xs, q', hx, hC, ok, S'⟩
    have e1 : wipe ((wipe σ [j]).set j (some (V.int (0 + (i : Int))))) [j] = wipe σ [j] := by
      show ((((σ.set j none).set j _)).set j none) = σ.set j none
      rw [List.set_set, List.set_set]
    refine ⟨e1, ?_⟩
    refine hte (.int (0 + (i : Int))) (D :: M) H' q' _ _ ⟨List.mem_cons_of_mem _ hM.1, hM.2⟩ ok S' fun x q'' H'' c ok' S'' => ?_
    have gD : ((r, rowO a q'') :: (L ++ [(D, HO.lst (xs.map V.int))]))[L.length + 1]? = some (D, .lst (xs.map V.int)) := by simp
    refine ⟨xs.map V.int, S''.get (L.length + 1) gD, ?_, ?_⟩
    · rw [List.length_map, hx]; exact szl (by omega)
    · refine ⟨by omega, xs ++ [x], q'', by simp [hx], ?_, ok', ?_⟩
      · intro y hy
        rcases List.mem_append.mp hy with hy | hy
        · exact hC y hy
        · rw [List.mem_singleton.mp hy]; exact c
      · have T := S''.set (o' := .lst (xs.map V.int ++ [V.int x])) (L.length + 1) gD ⟨List.mem_cons_self .., .inr DF⟩
        rw [show (((r, rowO a q'') :: (L ++ [(D, HO.lst (xs.map V.int))])).set (L.length + 1) (D, .lst (xs.map V.int ++ [V.int x]))) = ((r, rowO a q'') :: (L ++ [(D, .lst ((xs ++ [x]).map V.int))])) by
          simp] at T
        exact T
  · rintro H' ⟨_, xs, q', hx, hC, ok, S'⟩
    exact k D xs q' H' hD hx hC ok S'.dropM
end

/-! ### the sums by weights; another number gives other sums -/
def oneR (ns : List Int) : Int := match ns with
  | [] => 0
  | n :: r => (n + 1) + oneR r
def twoR (ns : List Int) : Int := match ns with
  | [] => 0
  | n :: r => ((r.length : Int) + 1) * (n + 1) + twoR r
theorem sums_raw (ns : List Int) : ∀ s : Int × Int, 0 ≤ s.1 → s.1 < 9973 → 0 ≤ s.2 → s.2 < 9973 → ns.foldl sstep s = ((s.1 + oneR ns) % 9973, (s.2 + (ns.length : Int) * s.1 + twoR ns) % 9973) := by
  induction ns with
  | nil =>
    intro s h1 h2 h3 h4
    simp only [List.foldl_nil, oneR, twoR, List.length_nil]
    ext
    · simp only; omega
    · simp only; omega
  | cons n r ih =>
    intro s h1 h2 h3 h4
    rw [List.foldl_cons, ih (sstep s n) (Int.emod_nonneg _ (by decide)) (Int.emod_lt_of_pos _ (by decide)) (Int.emod_nonneg _ (by decide)) (Int.emod_lt_of_pos _ (by decide))]
    unfold sstep
    simp only [oneR, twoR, List.length_cons]
    ext
    · simp only; omega
    · simp only
      have e : ∀ (x y z w : Int), ((x % 9973) + y * (z % 9973) + w) % 9973 = (x + y * z + w) % 9973 := by
        intro x y z w
        have a : (y * (z % 9973)) % 9973 = (y * z) % 9973 := by rw [Int.mul_emod y (z % 9973), Int.emod_emod_of_dvd _ (Int.dvd_refl _), ← Int.mul_emod]
        generalize y * (z % 9973) = u at *
        generalize y * z = u' at *
        omega
      have e2 : ∀ (x z : Int), (x + z % 9973) % 9973 = (x + z) % 9973 := by intro x z; omega
      rw [e2 s.2, e]
      congr 1
      push_cast
      grind
theorem sums_is (ns : List Int) : sumsF ns = (oneR ns % 9973, twoR ns % 9973) := by
  unfold sumsF
  rw [sums_raw ns (0, 0) (by decide) (by decide) (by decide) (by decide)]
  simp
theorem oneR_set : ∀ {ns : List Int} {i : Nat} {n : Int} (x : Int), ns[i]? = some n → oneR (ns.set i x) = oneR ns + (x - n)
  | [], _, _, _, h => by simp at h
  | m :: r, 0, n, x, h => by
    simp at h; subst h
    simp only [List.set_cons_zero, oneR]; omega
  | m :: r, i + 1, n, x, h => by
    simp only [List.set_cons_succ, oneR]
    rw [oneR_set x (by simpa using h)]; omega
theorem twoR_set : ∀ {ns : List Int} {i : Nat} {n : Int} (x : Int), ns[i]? = some n → twoR (ns.set i x) = twoR ns + ((ns.length : Int) - i) * (x - n)
  | [], _, _, _, h => by simp at h
  | m :: r, 0, n, x, h => by
    simp at h; subst h
    simp only [List.set_cons_zero, twoR, List.length_cons]
    push_cast
    have : ((r.length : Int) + 1) * (x + 1) = ((r.length : Int) + 1) * (m + 1) + ((r.length : Int) + 1) * (x - m) := by rw [← Int.mul_add]; congr 1; omega
    rw [this]; simp; omega
  | m :: r, i + 1, n, x, h => by
    simp only [List.set_cons_succ, twoR, List.length_set, List.length_cons]
    rw [twoR_set x (by simpa using h)]
    push_cast
    rw [show ((r.length : Int) + 1 - ((i : Int) + 1)) = (r.length : Int) - i by omega]; omega
theorem prime_small : ∀ d : Nat, d < 100 → 2 ≤ d → ¬ d ∣ 9973 := by decide +kernel
theorem coprime_of {c : Nat} (h0 : 0 < c) (h1 : c < 9973) : Nat.Coprime 9973 c := by
  have hg : Nat.gcd 9973 c ∣ 9973 := Nat.gcd_dvd_left _ _
  have hc : Nat.gcd 9973 c ≤ c := Nat.le_of_dvd h0 (Nat.gcd_dvd_right _ _)
  have hpos : 0 < Nat.gcd 9973 c := Nat.gcd_pos_of_pos_left _ (by decide)
  obtain ⟨e, he⟩ := hg
  unfold Nat.Coprime
  generalize Nat.gcd 9973 c = g at *
  by_cases h : g = 1
  · exact h
  · exfalso
    by_cases hg : g < 100
    · exact prime_small g hg (by omega) ⟨e, he⟩
    · have he1 : e < 100 := by
        rcases Nat.lt_or_ge e 100 with z | z
        · exact z
        · have := Nat.mul_le_mul (show 100 ≤ g by omega) z
          omega
      have he2 : 2 ≤ e := by
        rcases Nat.lt_or_ge e 2 with z | z
        · have : e = 0 ∨ e = 1 := by omega
          rcases this with rfl | rfl
          · simp at he
          · simp at he; omega
        · exact z
      exact prime_small e he1 he2 ⟨g, by rw [Nat.mul_comm]; exact he⟩
/-- 9973 is a prime -/
theorem pmul {c d : Int} (h0 : c % 9973 ≠ 0) (h : (c * d) % 9973 = 0) : d % 9973 = 0 := by
  have h1 : (9973 : Int) ∣ c * d := Int.dvd_of_emod_eq_zero h
  have h2 : (9973 : Nat) ∣ c.natAbs * d.natAbs := by
    rw [← Int.natAbs_mul]
    exact Int.ofNat_dvd_left.mp h1
  have hcop : Nat.Coprime 9973 c.natAbs := by
    have a1 : 0 < c.natAbs % 9973 := by omega
    have a2 : c.natAbs % 9973 < 9973 := Nat.mod_lt _ (by decide)
    have := coprime_of a1 a2
    unfold Nat.Coprime at *
    rw [Nat.gcd_rec, Nat.gcd_comm]
    exact this
  have h3 := hcop.dvd_of_dvd_mul_left h2
  have h4 : (9973 : Int) ∣ d := Int.ofNat_dvd_left.mpr h3
  exact Int.emod_eq_zero_of_dvd h4
theorem kstep_inj {key s t n : Int} (hk : key % 9973 ≠ 0) (s0 : 0 ≤ s) (s1 : s < 9973) (t0 : 0 ≤ t) (t1 : t < 9973) (h : kstep key s n = kstep key t n) : s = t := by
  unfold kstep at h
  have h1 : (key * (s - t)) % 9973 = 0 := by
    rw [Int.mul_sub, Int.mul_comm key s, Int.mul_comm key t]
    generalize s * key = u at *
    generalize t * key = v at *
    omega
  have := pmul hk h1
  omega
theorem kfold_inj {key : Int} (hk : key % 9973 ≠ 0) : ∀ (r : List Int) {s t : Int}, 0 ≤ s → s < 9973 → 0 ≤ t → t < 9973 → r.foldl (kstep key) s = r.foldl (kstep key) t → s = t
  | [], s, t, _, _, _, _, h => h
  | n :: r, s, t, s0, s1, t0, t1, h => by
    have := kfold_inj hk r (s := kstep key s n) (t := kstep key t n) (Int.emod_nonneg _ (by decide)) (Int.emod_lt_of_pos _ (by decide)) (Int.emod_nonneg _ (by decide)) (Int.emod_lt_of_pos _ (by decide)) h
    exact kstep_inj hk s0 s1 t0 t1 this
theorem seal_set {key : Int} (hk0 : 0 < key) (hk1 : key < 9973) : ∀ {ns : List Int} {i : Nat} {n x : Int} {s : Int}, ns[i]? = some n → 0 ≤ n → n < 9973 → 0 ≤ x → x < 9973 → x ≠ n → 0 ≤ s → s < 9973 → (ns.set i x).foldl (kstep key) s ≠ ns.foldl (kstep key) s
  | [], _, _, _, _, h, _, _, _, _, _, _, _ => by simp at h
  | m :: r, 0, n, x, s, h, n0, n1, x0, x1, ne, s0, s1 => by
    simp at h; subst h
    simp only [List.set_cons_zero, List.foldl_cons]
    intro e
    have := kfold_inj (by omega) r (Int.emod_nonneg _ (by decide)) (Int.emod_lt_of_pos _ (by decide)) (Int.emod_nonneg _ (by decide)) (Int.emod_lt_of_pos _ (by decide)) e
    unfold kstep at this
    generalize s * key = u at *
    omega
  | m :: r, i + 1, n, x, s, h, n0, n1, x0, x1, ne, s0, s1 => by
    simp only [List.set_cons_succ, List.foldl_cons]
    exact seal_set hk0 hk1 (by simpa using h) n0 n1 x0 x1 ne (Int.emod_nonneg _ (by decide)) (Int.emod_lt_of_pos _ (by decide))

/-! ### the built-ins' readings by names -/
def NewO (H : Hp) (o : HO) (Q : VK) : Prop := ∀ p, H p = none → Q (.ref p) (upd H p o)
def rLen (K : PySem.W.Frag) : List V → Hp → VK → Prop := fun xs H Q => ∃ p ys, xs = [.ref p] ∧ (SqL K H p ys ∨ SqT K H p ys) ∧ Q (.int ys.length) H
def rListOf (K : PySem.W.Frag) : List V → Hp → VK → Prop := fun xs H Q => ∃ p ys, xs = [.ref p] ∧ (SqL K H p ys ∨ SqT K H p ys) ∧ ∀ l, H l = none → Q (.ref l) (upd H l (.lst ys))
def rTupOf (K : PySem.W.Frag) : List V → Hp → VK → Prop := fun xs H Q => ∃ p ys, xs = [.ref p] ∧ ((SqL K H p ys ∧ ∀ l, H l = none → Q (.ref l) (upd H l (.tup ys))) ∨ (SqT K H p ys ∧ Q (.ref p) H))
def rInt1 : List V → Hp → VK → Prop := fun xs H Q => (∃ i, xs = [.int i] ∧ Q (.int i) H) ∨ ∃ k, xs = [.bl k] ∧ Q (.int (if k then 1 else 0)) H
def rMin2 : List V → Hp → VK → Prop := fun xs H Q => ∃ i j, xs = [.int i, .int j] ∧ Q (.int (if j < i then j else i)) H
def rMax2 : List V → Hp → VK → Prop := fun xs H Q => ∃ i j, xs = [.int i, .int j] ∧ Q (.int (if j > i then j else i)) H
def rIsN : R2 := fun x y H Q => y = .non ∧ Q (.bl (decide (x = .non))) H
def rNotN : R2 := fun x y H Q => y = .non ∧ Q (.bl (!decide (x = .non))) H
section
variable {X : Cx}
theorem c_len : CallR X (.builtin "len") (rLen X.K) := call_len_seq
theorem c_list : CallR X (.type "list") (rListOf X.K) := call_list_of
theorem c_tuple : CallR X (.type "tuple") (rTupOf X.K) := call_tuple_of
theorem c_int : CallR X (.type "int") rInt1 := call_int1
theorem c_min2 (hc : X.calm = true) : CallR X (.builtin "min") rMin2 := call_min2 hc
theorem c_max2 (hc : X.calm = true) : CallR X (.builtin "max") rMax2 := call_max2 hc
theorem c_isN : OpR X (compareOp .Is) rIsN := op_isN
theorem c_notN : OpR X (compareOp .IsNot) rNotN := op_notN
end
section
variable {K : PySem.W.Frag} {σ : L2.St} {H : Hp} {H0 : Bs} {M : List Addr} {o : HO} {L : List (Addr × HO)} {Ds : List (PyData × V)} {Q : VK} {n : Prop} {p : Addr} {xs ys : List V} {tA : TA} {te : TE} {tl th : TO} {x : V} {i j : Int} {b : Bool}
theorem n_al (S : Sy K H0 M H L Ds) (q : ∀ p H', H p = none → H0 p = none → Sy K H0 M H' (L ++ [(p, o)]) Ds → Q (.ref p) H') : NewO H o Q := fun p hp => q p _ hp (S.free hp) (S.new hp)
theorem n_alM (S : Sy K H0 M H L Ds) (q : ∀ p H', H p = none → H0 p = none → Sy K H0 (p :: M) H' (L ++ [(p, o)]) Ds → Q (.ref p) H') : NewO H o Q := x_alM S q
theorem n_tup (q : tA σ H fun xs H1 => xs.length ≤ sizeLine ∧ NewO H1 (.tup xs) Q) : tTup tA σ H Q := q
theorem n_lst (q : tA σ H fun xs H1 => xs.length ≤ sizeLine ∧ NewO H1 (.lst xs) Q) : tLst tA σ H Q := q
theorem n_len (h : SqE K H p xs) (q : Q (.int xs.length) H) : rLen K [.ref p] H Q := ⟨p, xs, rfl, h, q⟩
theorem n_list (h : SqE K H p xs) (q : NewO H (.lst xs) Q) : rListOf K [.ref p] H Q := ⟨p, xs, rfl, h, q⟩
theorem n_tupleL (h : SqL K H p xs) (q : NewO H (.tup xs) Q) : rTupOf K [.ref p] H Q := ⟨p, xs, rfl, .inl ⟨h, q⟩⟩
theorem n_tupleT (h : SqT K H p xs) (q : Q (.ref p) H) : rTupOf K [.ref p] H Q := ⟨p, xs, rfl, .inr ⟨h, q⟩⟩
theorem n_intI (q : Q (.int i) H) : rInt1 [.int i] H Q := .inl ⟨i, rfl, q⟩
theorem n_intB (q : Q (.int (if b then 1 else 0)) H) : rInt1 [.bl b] H Q := .inr ⟨b, rfl, q⟩
theorem n_min2 (q : Q (.int (if j < i then j else i)) H) : rMin2 [.int i, .int j] H Q := ⟨i, j, rfl, q⟩
theorem n_max2 (q : Q (.int (if j > i then j else i)) H) : rMax2 [.int i, .int j] H Q := ⟨i, j, rfl, q⟩
theorem n_isN (q : Q (.bl (decide (x = .non))) H) : rIsN x .non H Q := ⟨rfl, q⟩
theorem n_notN (q : Q (.bl (!decide (x = .non))) H) : rNotN x .non H Q := ⟨rfl, q⟩
theorem n_sl {r : V → Option Int → Option Int → Hp → VK → Prop} (q : te σ H fun x H1 => tl σ H1 fun l H2 => th σ H2 fun u H3 => r x l u H3 Q) : tSl r te tl th σ H Q := q
theorem n_slL {lo hi : Option Int} (h : SqL K H p xs) (q : NewO H (.lst (cutV xs lo hi)) Q) : rSlL K (.ref p) lo hi H Q := ⟨p, xs, rfl, h, q⟩
theorem n_noPart {Q : Option Int → Hp → Prop} (q : Q none H) : tNoPart σ H Q := q
theorem n_part {Q : Option Int → Hp → Prop} (q : te σ H fun x H1 => ∃ i, x = .int i ∧ Q (some i) H1) : tPart te σ H Q := q
theorem n_i {P : Int → Prop} (q : P i) : ∃ j, V.int i = .int j ∧ P j := ⟨i, rfl, q⟩
theorem n_cat {a : Addr} (h1 : H p = some (.lst xs)) (h2 : H a = some (.lst ys)) (hz : xs.length + ys.length ≤ 16777216) (q : NewO H (.lst (xs ++ ys)) Q) : rCat (.ref p) (.ref a) H Q := ⟨p, a, xs, ys, rfl, rfl, h1, h2, szL hz, q⟩
theorem n_rep (h1 : H p = some (.lst xs)) (k0 : -(2 ^ 63) ≤ i) (k1 : i < 2 ^ 63) (hz : xs.length * i.toNat ≤ 16777216) (q : NewO H (.lst (List.replicate i.toNat xs).flatten) Q) : rRep (.ref p) (.int i) H Q := ⟨p, i, xs, rfl, rfl, h1, k0, k1, szL hz, q⟩
theorem n_catT {a : Addr} (h1 : SqT K H p xs) (h2 : SqT K H a ys) (hn : xs ≠ []) (hn2 : ys ≠ []) (hz : xs.length + ys.length ≤ 16777216) (q : NewO H (.tup (xs ++ ys)) Q) : rCatT K (.ref p) (.ref a) H Q := by
  refine ⟨p, a, xs, ys, rfl, rfl, h1, h2, hn, szL hz, ?_⟩
  first
    | exact ⟨fun z => absurd z hn2, fun _ => q⟩
    | exact ⟨fun z => absurd z hn2, q⟩
    | (refine ite2 (fun z => absurd z hn2) (fun _ => q))
theorem n_app (S : Sy K H0 M H L Ds) (i : Nat) {v : V} (h : L[i]? = some (p, .lst xs)) (m : p ∈ M ∧ H0.may p) (hz : xs.length < 16777216) (q : ∀ H', Sy K H0 M H' (L.set i (p, .lst (xs ++ [v]))) Ds → Q .non H') : rAppend (.ref p) [v] H Q := x_app S i h m hz q
theorem n_bm {T : String} {r : V → List V → Hp → VK → Prop} (q : te σ H fun x H1 => tyV K T x H1 ∧ tA σ H1 fun xs H2 => r x xs H2 Q) : tBM K T r te tA σ H Q := q
theorem ty_list (h : SqL K H p xs) : tyV K "list" (.ref p) H := .inl ⟨rfl, _, h⟩
theorem n_eqD {d e : PyData} {v u : V} (h1 : Dp K H v d) (h2 : Dp K H u e) (s1 : SeqAt.shaped d = true) (s2 : SeqAt.shaped e = true) (q : Q (.bl (PyData.eqv d e)) H) : rEqD K v u H Q := ⟨d, e, h1, h2, s1, s2, q⟩
theorem n_neD {d e : PyData} {v u : V} (h1 : Dp K H v d) (h2 : Dp K H u e) (s1 : SeqAt.shaped d = true) (s2 : SeqAt.shaped e = true) (q : Q (.bl (!PyData.eqv d e)) H) : rNeD K v u H Q := ⟨d, e, h1, h2, s1, s2, q⟩
theorem dpa_ints : ∀ ns : List Int, DpAll K H (ns.map V.int) (ns.map PyData.int)
  | [] => .nil
  | n :: r => .cons (.int n) (dpa_ints r)
end

/-! ### == of flat lists -/
def od : Option Int → PyData
  | none => .none
  | some i => .int i
theorem eqvAll_ints : ∀ ns ms : List Int, PyData.eqvAll (ns.map .int) (ms.map .int) = decide (ns = ms)
  | [], [] => by simp [PyData.eqvAll]
  | [], m :: r => by simp [PyData.eqvAll]
  | n :: r, [] => by simp [PyData.eqvAll]
  | n :: r, m :: t => by
    simp only [List.map_cons, PyData.eqvAll, PyData.eqv, eqvAll_ints r t, List.cons.injEq, Bool.decide_and]
    rw [show (n == m) = decide (n = m) by rfl]
theorem eqvAll_od : ∀ ns ms : List (Option Int), PyData.eqvAll (ns.map od) (ms.map od) = decide (ns = ms)
  | [], [] => by simp [PyData.eqvAll]
  | [], m :: r => by simp [PyData.eqvAll]
  | n :: r, [] => by simp [PyData.eqvAll]
  | n :: r, m :: t => by
    simp only [List.map_cons, PyData.eqvAll, eqvAll_od r t, List.cons.injEq, Bool.decide_and]
    congr 1
    cases n <;> cases m <;> simp [od, PyData.eqv]
    rfl
theorem lay_ints : ∀ ns : List Int, PyData.canLayAll0 (ns.map .int) = true
  | [] => by simp [PyData.canLayAll0]
  | n :: r => by simp [PyData.canLayAll0, PyData.canLay0, lay_ints r]
theorem dep_ints : ∀ ns : List Int, PyData.depthAll (ns.map .int) = 0
  | [] => by simp [PyData.depthAll]
  | n :: r => by simp [PyData.depthAll, PyData.depth, dep_ints r]
theorem lay_od : ∀ ns : List (Option Int), PyData.canLayAll0 (ns.map od) = true
  | [] => by simp [PyData.canLayAll0]
  | n :: r => by cases n <;> simp [PyData.canLayAll0, PyData.canLay0, lay_od r, od]
theorem dep_od : ∀ ns : List (Option Int), PyData.depthAll (ns.map od) = 0
  | [] => by simp [PyData.depthAll]
  | n :: r => by cases n <;> simp [PyData.depthAll, PyData.depth, dep_od r, od]
theorem sh_ints (ns : List Int) : SeqAt.shaped (.list (ns.map .int)) = true := by simp [SeqAt.shaped, PyData.canLay0, PyData.depth, lay_ints, dep_ints]
theorem sh_intsT (ns : List Int) : SeqAt.shaped (.tuple (ns.map .int)) = true := by simp [SeqAt.shaped, PyData.canLay0, PyData.depth, lay_ints, dep_ints]
theorem sh_od (ns : List (Option Int)) : SeqAt.shaped (.list (ns.map od)) = true := by simp [SeqAt.shaped, PyData.canLay0, PyData.depth, lay_od, dep_od]
section
variable {K : PySem.W.Frag} {H : Hp} {Q : VK} {a b : Addr}
theorem dpa_od : ∀ ns : List (Option Int), DpAll K H (ns.map ov) (ns.map od)
  | [] => .nil
  | none :: r => .cons .non (dpa_od r)
  | some n :: r => .cons (.int n) (dpa_od r)
/-- two lists of ints compared, two tuples -/
theorem n_eqLL {ns ms : List Int} (h1 : SqL K H a (ns.map V.int)) (h2 : SqL K H b (ms.map V.int)) (q : Q (.bl (decide (ns = ms))) H) : rEqD K (.ref a) (.ref b) H Q := by
  refine n_eqD (.lst h1 (dpa_ints ns)) (.lst h2 (dpa_ints ms)) (sh_ints ns) (sh_ints ms) ?_
  simp only [PyData.eqv, eqvAll_ints]; exact q
theorem n_neLL {ns ms : List Int} (h1 : SqL K H a (ns.map V.int)) (h2 : SqL K H b (ms.map V.int)) (q : Q (.bl (!decide (ns = ms))) H) : rNeD K (.ref a) (.ref b) H Q := by
  refine n_neD (.lst h1 (dpa_ints ns)) (.lst h2 (dpa_ints ms)) (sh_ints ns) (sh_ints ms) ?_
  simp only [PyData.eqv, eqvAll_ints]; exact q
theorem n_eqTT {ns ms : List Int} (h1 : SqT K H a (ns.map V.int)) (h2 : SqT K H b (ms.map V.int)) (q : Q (.bl (decide (ns = ms))) H) : rEqD K (.ref a) (.ref b) H Q := by
  refine n_eqD (.tup h1 (dpa_ints ns)) (.tup h2 (dpa_ints ms)) (sh_intsT ns) (sh_intsT ms) ?_
  simp only [PyData.eqv, eqvAll_ints]; exact q
theorem n_neTT {ns ms : List Int} (h1 : SqT K H a (ns.map V.int)) (h2 : SqT K H b (ms.map V.int)) (q : Q (.bl (!decide (ns = ms))) H) : rNeD K (.ref a) (.ref b) H Q := by
  refine n_neD (.tup h1 (dpa_ints ns)) (.tup h2 (dpa_ints ms)) (sh_intsT ns) (sh_intsT ms) ?_
  simp only [PyData.eqv, eqvAll_ints]; exact q
theorem n_eqOO {ns ms : List (Option Int)} (h1 : SqL K H a (ns.map ov)) (h2 : SqL K H b (ms.map ov)) (q : Q (.bl (decide (ns = ms))) H) : rEqD K (.ref a) (.ref b) H Q := by
  refine n_eqD (.lst h1 (dpa_od ns)) (.lst h2 (dpa_od ms)) (sh_od ns) (sh_od ms) ?_
  simp only [PyData.eqv, eqvAll_od]; exact q
theorem n_neOO {ns ms : List (Option Int)} (h1 : SqL K H a (ns.map ov)) (h2 : SqL K H b (ms.map ov)) (q : Q (.bl (!decide (ns = ms))) H) : rNeD K (.ref a) (.ref b) H Q := by
  refine n_neD (.lst h1 (dpa_od ns)) (.lst h2 (dpa_od ms)) (sh_od ns) (sh_od ms) ?_
  simp only [PyData.eqv, eqvAll_od]; exact q
/-- sums of a list of whole numbers -/
theorem use_sums {H0 : Bs} {M : List Addr} {L : List (Addr × HO)} {Ds : List (PyData × V)} {E : XK} {ns : List Int} (S : Sy K H0 M H L Ds) (h : SqE K H a (ns.map V.int))
    (k : ∀ t H', H t = none → Sy K H0 M H' (L ++ [(t, .tup [.int (sumsF ns).1, .int (sumsF ns).2])]) Ds → Q (.ref t) H') : spSums K [.ref a] H Q E := by
  refine ⟨a, ns.map some, rfl, by rw [← ints_ov]; exact h, fun z => ?_, fun ms t hm ht => ?_⟩
  · rw [allI_some] at z; cases z
  · rw [allI_some] at hm; cases hm
    exact k t _ ht (S.new ht)
theorem use_seal {E : XK} {key : Int} {ns : List Int} (h : SqE K H a (ns.map V.int)) (k0 : 0 ≤ key) (k1 : key < 9973) (k : Q (.int (sealF key ns)) H) : spSeal K [.int key, .ref a] H Q E := ⟨key, a, ns, rfl, k0, k1, h, k⟩
end

/-! ### comprehensions, targets -/
section
variable {K : PySem.W.Frag} {σ : L2.St} {H : Hp} {H0 : Bs} {M : List Addr} {L : List (Addr × HO)} {Ds : List (PyData × V)} {Q : VK} {wi : TI} {g : TG} {gs : TGs} {tt : TT} {te tl : TE} {vs : List Nat} {a p : Addr} {xs : List V} {v : V} {n j : Nat}
theorem x_lc (q : wi σ H (LcO g tt te vs σ Q)) : tLc wi g tt te vs σ H Q := q
theorem x_iL {R : It → Hp → Prop} (q : tl σ H fun x H1 => ∃ a, x = .ref a ∧ (∃ xs, SqL K H1 a xs) ∧ R (Itl K a) H1) : iList K tl σ H R := q
theorem x_iLa {R : It → Hp → Prop} (h : SqL K H a xs) (q : R (Itl K a) H) : ∃ b, V.ref a = .ref b ∧ (∃ xs, SqL K H b xs) ∧ R (Itl K b) H := ⟨a, rfl, ⟨xs, h⟩, q⟩
theorem x_iT {R : It → Hp → Prop} (q : tl σ H fun x H1 => ∃ a, x = .ref a ∧ (∃ xs, SqT K H1 a xs) ∧ R (Itt K a) H1) : iTup K tl σ H R := q
theorem x_iTa {R : It → Hp → Prop} (h : SqT K H a xs) (q : R (Itt K a) H) : ∃ b, V.ref a = .ref b ∧ (∃ xs, SqT K H b xs) ∧ R (Itt K b) H := ⟨a, rfl, ⟨xs, h⟩, q⟩
theorem x_gtup {Q : L2.St → Hp → Prop} (h : SqT K H a xs) (e : xs.length = n) (q : gs xs σ H Q) : gTup K n gs (.ref a) σ H Q := ⟨a, xs, rfl, h, e, q⟩
theorem x_gcons {Q : L2.St → Hp → Prop} (q : g v σ H fun σ' H' => gs xs σ' H' Q) : gCons g gs (v :: xs) σ H Q := ⟨v, xs, rfl, q⟩
theorem x_gnil {Q : L2.St → Hp → Prop} (q : Q σ H) : gNil [] σ H Q := ⟨rfl, q⟩
theorem wipe_one (x : Option V) : wipe ((wipe σ [j]).set j x) [j] = wipe σ [j] := by
  show ((((σ.set j none).set j _)).set j none) = σ.set j none
  rw [List.set_set, List.set_set]
/-- a comprehension over a list none of whose items is kept -/
theorem lc_none (S : Sy K H0 M H L Ds) (i : Nat) (hx : L[i]? = some (p, .lst xs))
    (ht : ∀ (j' : Nat) (x : V) (D : Addr) (H' : Hp) (Q' : Bool → Hp → Prop), xs[j']? = some x → Sy K H0 (D :: M) H' (L ++ [(D, .lst [])]) Ds → (∀ H'', Sy K H0 (D :: M) H'' (L ++ [(D, .lst [])]) Ds → Q' false H'') → tt ((σ.set j none).set j (some x)) H' Q')
    (k : ∀ D H', H D = none → Sy K H0 M H' (L ++ [(D, .lst [])]) Ds → Q (.ref D) H') :
    LcO (gName j) tt te [j] σ Q (Itl K p) H := by
  intro D hD
  have DF := S.free hD
  have hx' : (L ++ [(D, HO.lst [])])[i]? = some (p, .lst xs) := by
    rw [List.getElem?_append_left (List.getElem?_eq_some_iff.mp hx).1]; exact hx
  refine lc_list (xs := xs) (fun _ H' => Sy K H0 (D :: M) H' (L ++ [(D, .lst [])]) Ds) (S.newM hD) (fun _ H' _ S' => S'.sl i hx') ?_ ?_
  · intro i' x H' hi S'
    refine ⟨wipe_one _, ?_⟩
    refine ht i' x D H' _ hi S' fun H'' S'' => ?_
    refine x_iteF rfl S''
  · intro H' S'
    exact k D H' hD S'.dropM
theorem n_eqS {s t : Int × Int} {b : Addr} (h1 : SqT K H a [.int s.1, .int s.2]) (h2 : SqT K H b [.int t.1, .int t.2]) (q : Q (.bl (decide (s = t))) H) : rEqD K (.ref a) (.ref b) H Q := by
  refine n_eqTT (ns := [s.1, s.2]) (ms := [t.1, t.2]) h1 h2 ?_
  have e : decide (([s.1, s.2] : List Int) = [t.1, t.2]) = decide (s = t) := by
    rw [Bool.eq_iff_iff]; simp only [decide_eq_true_eq, List.cons.injEq, and_true]
    exact ⟨fun z => Prod.ext z.1 z.2, fun z => by rw [z]; exact ⟨rfl, rfl⟩⟩
  rw [e]; exact q
theorem n_neS {s t : Int × Int} {b : Addr} (h1 : SqT K H a [.int s.1, .int s.2]) (h2 : SqT K H b [.int t.1, .int t.2]) (q : Q (.bl (!decide (s = t))) H) : rNeD K (.ref a) (.ref b) H Q := by
  refine n_neTT (ns := [s.1, s.2]) (ms := [t.1, t.2]) h1 h2 ?_
  have e : decide (([s.1, s.2] : List Int) = [t.1, t.2]) = decide (s = t) := by
    rw [Bool.eq_iff_iff]; simp only [decide_eq_true_eq, List.cons.injEq, and_true]
    exact ⟨fun z => Prod.ext z.1 z.2, fun z => by rw [z]; exact ⟨rfl, rfl⟩⟩
  rw [e]; exact q
end

/-! ### the rules that name the written part, K said -/
section
variable {X : Cx} {K : PySem.W.Frag} {e l a b : Expr} {ta tb tl : TE} {tA : TA} {tg : Expr} {pos : Pos}
theorem b_eqD (hu : X.A.units + 64 < cLine) (e : X.K = K := by rfl) : OpR X (compareOp .Eq) (rEqD K) := by subst e; exact op_eqD hu
theorem b_neD (hu : X.A.units + 64 < cLine) (e : X.K = K := by rfl) : OpR X (compareOp .NotEq) (rNeD K) := by subst e; exact op_neD hu
theorem b_ixL (e : X.K = K := by rfl) : IxR X (rIxL K) := by subst e; exact ix_list
theorem b_ixT (e : X.K = K := by rfl) : IxR X (rIxT K) := by subst e; exact ix_tup
theorem b_in (e : X.K = K := by rfl) : OpR X (compareOp .In) (rIn K false) := by subst e; exact op_in_seq
theorem b_notIn (e : X.K = K := by rfl) : OpR X (compareOp .NotIn) (rIn K true) := by subst e; exact op_notIn_seq
theorem b_len (e : X.K = K := by rfl) : CallR X (.builtin "len") (rLen K) := by subst e; exact c_len
theorem b_list (e : X.K = K := by rfl) : CallR X (.type "list") (rListOf K) := by subst e; exact c_list
theorem b_tuple (e : X.K = K := by rfl) : CallR X (.type "tuple") (rTupOf K) := by subst e; exact c_tuple
theorem b_slL (e : X.K = K := by rfl) : SlR X (rSlL K) := by subst e; exact sl_list
theorem b_slT (e : X.K = K := by rfl) : SlR X (rSlT K) := by subst e; exact sl_tup
theorem b_catT (e : X.K = K := by rfl) : OpR X (binaryOp .Add) (rCatT K) := by subst e; exact op_catT
theorem b_sum (hc : X.calm = true) (e : X.K = K := by rfl) : CallR X (.builtin "sum") (rSum K) := by subst e; exact cr_sum hc
theorem b_max (hc : X.calm = true) (e : X.K = K := by rfl) : CallR X (.builtin "max") (rMax K) := by subst e; exact cr_max hc
theorem b_min (hc : X.calm = true) (e : X.K = K := by rfl) : CallR X (.builtin "min") (rMin K) := by subst e; exact cr_min hc
theorem b_iL (hl : PE X l tl) (e : X.K = K := by rfl) : PI X tg l (iList K tl) := by subst e; exact pi_list hl
theorem b_iT (hl : PE X l tl) (e : X.K = K := by rfl) : PI X tg l (iTup K tl) := by subst e; exact pi_tup hl
theorem b_iE (hl : PE X l tl) (e : X.K = K := by rfl) : PI X tg l (iEi K tl) := by subst e; exact pi_ei hl
end

/-! ### kinds of data; isinstance; subscripts of a list or a tuple -/
def pyTy : PyData → String
  | .none => "NoneType"
  | .bool _ => "bool"
  | .int _ => "int"
  | .str _ => "str"
  | .list _ => "list"
  | .tuple _ => "tuple"
  | .dict _ => "dict"
section
variable {X : Cx} {K : PySem.W.Frag} {M : List Addr} {H : Hp} {d : PyData} {v : V} {Q : VK} {a p : Addr} {xs : List V} {n : String} {b : Bool}
theorem tyx_l (h : SqL K H a xs) : TyX K H (.ref a) (.type "list") := by
  rcases h with (h | ⟨o, h⟩) | ⟨o, its, n, h, c, _⟩
  · exact .base (.lst h)
  · exact .base (.frz h)
  · exact .kList h c
theorem tyx_t (h : SqT K H a xs) : TyX K H (.ref a) (.type "tuple") := by
  rcases h with (h | ⟨o, h⟩) | ⟨o, its, n, h, c, _⟩
  · exact .base (.tup h)
  · exact .fTuple h
  · exact .kTuple h c
theorem tyx_of (h : Dt K M H d v) : TyX K H v (.type (pyTy d)) := by
  cases d with
  | none => simp only [Dt] at h; subst h; exact .base .non
  | bool b => simp only [Dt] at h; subst h; exact .base (.bl b)
  | int i => simp only [Dt] at h; subst h; exact .base (.int i)
  | str s => simp only [Dt] at h; subst h; exact .base (.str s)
  | list ds => simp only [Dt] at h; obtain ⟨a, xs, rfl, s, _⟩ := h; exact tyx_l s.1
  | tuple ds => simp only [Dt] at h; obtain ⟨a, xs, rfl, s, _⟩ := h; exact tyx_t s.1
  | dict kvs => simp only [Dt] at h
theorem b_isi (e : X.K = K := by rfl) : CallR X (.builtin "isinstance") (rIsi K) := by subst e; exact call_isi
theorem b_isiT (e : X.K = K := by rfl) : CallR X (.builtin "isinstance") (rIsiT K) := by subst e; exact call_isiT
theorem b_ix (e : X.K = K := by rfl) : IxR X (rIx K) := by subst e; exact ix_seq
theorem n_isi (h : Dt K M H d v) (e : kitB (pyTy d) n = some b) (q : Q (.bl b) H) : rIsi K [v, .ty n] H Q := ⟨v, .ty n, _, .type n, b, rfl, .ty n, tyx_of h, kit_ty e, q⟩
theorem n_isiT2 {n1 n2 : String} {b1 b2 : Bool} (h : Dt K M H d v) (hp : H p = some (.tup [.ty n1, .ty n2])) (e1 : kitB (pyTy d) n1 = some b1) (e2 : kitB (pyTy d) n2 = some b2) (q : Q (.bl (b1 || b2)) H) : rIsiT K [v, .ref p] H Q := by
  refine ⟨v, p, [.ty n1, .ty n2], _, [.type n1, .type n2], b1 || b2, rfl, hp, .cons (.ty n1) (.cons (.ty n2) .nil), tyx_of h, ?_, q⟩
  refine kitAny_cons (kit_ty e1) (fun z => ?_) (fun z => by rw [z]; rfl)
  subst z
  refine kitAny_cons (kit_ty e2) (fun z => ?_) (fun z => by rw [z]; rfl)
  subst z
  exact kitAny_nil
theorem n_ixE {i : Int} (h : SqE K H p xs) (ha : atI xs i = some v) (q : Q v H) : rIx K (.ref p) (.int i) H Q := by
  rcases h with h | h
  · exact .inl ⟨p, xs, i, v, rfl, rfl, h, ha, q⟩
  · exact .inr (.inl ⟨p, xs, i, v, rfl, rfl, h, ha, q⟩)
end
/-! ### data alike -/
def okD : PyData → Bool
  | .list ds => decide (ds.length ≤ 100000) && okDL ds
  | .tuple ds => decide (ds.length ≤ 100000) && okDL ds
  | .dict _ => false
  | _ => true
where okDL : List PyData → Bool
  | [] => true
  | d :: r => okD d && okDL r
theorem okDL_at : ∀ {ds : List PyData} {i : Nat} {d : PyData}, okD.okDL ds = true → ds[i]? = some d → okD d = true
  | [], _, _, _, e => by simp at e
  | d :: r, 0, x, h, e => by
    simp at e; subst e
    simp only [okD.okDL, Bool.and_eq_true] at h
    exact h.1
  | d :: r, i + 1, x, h, e => by
    simp only [okD.okDL, Bool.and_eq_true] at h
    exact okDL_at h.2 (by simpa using e)
theorem dep_at : ∀ {ds : List PyData} {i : Nat} {d : PyData}, ds[i]? = some d → d.depth ≤ PyData.depthAll ds
  | [], _, _, e => by simp at e
  | d :: r, 0, x, e => by
    simp at e; subst e
    simp only [PyData.depthAll]; omega
  | d :: r, i + 1, x, e => by
    simp only [PyData.depthAll]
    have := dep_at (ds := r) (i := i) (d := x) (by simpa using e)
    omega
def spAlike : Nat → PySem.W.Frag → Sp
  | 0, _ => fun _ _ _ _ => False
  | n + 1, K => fun vs H Q _ => ∃ (v u : V) (d : PyData), vs = [v, u] ∧ Dt K [] H d v ∧ Dt K [] H d u ∧ d.depth ≤ n ∧ okD d = true ∧ ∀ H', Fr [] H H' → Q (.bl true) H'
theorem fn_never {P : Program} {w : World} {K : PySem.W.Frag} {mg : Str → Option Value} {base : Heap} {CX : CXT} {k : Nat} {f : Addr} {fd : FuncData} {ps : List Str} : FnOk P w K mg base CX k f fd ps (fun _ _ _ _ => False) :=
  ⟨fun _ _ _ _ h => h.elim, fun _ _ _ _ _ _ _ _ _ _ _ _ _ h => h.elim⟩

/-! ### more comprehensions -/
section
variable {K : PySem.W.Frag} {σ : L2.St} {H : Hp} {H0 : Bs} {M : List Addr} {L : List (Addr × HO)} {Ds : List (PyData × V)} {Q : VK} {tt : TT} {te : TE} {p : Addr} {xs : List V} {n j : Nat}
theorem lc_noneR (S : Sy K H0 M H L Ds)
    (ht : ∀ (i : Nat) (D : Addr) (H' : Hp) (Q' : Bool → Hp → Prop), i < n → Sy K H0 (D :: M) H' (L ++ [(D, .lst [])]) Ds → (∀ H'', Sy K H0 (D :: M) H'' (L ++ [(D, .lst [])]) Ds → Q' false H'') → tt ((σ.set j none).set j (some (.int (0 + (i : Int))))) H' Q')
    (k : ∀ D H', H D = none → Sy K H0 M H' (L ++ [(D, .lst [])]) Ds → Q (.ref D) H') : LcO (gName j) tt te [j] σ Q (Itr 0 n) H := by
  intro D hD
  have DF := S.free hD
  refine lc_range (lo := 0) (n := n) (fun _ H' => Sy K H0 (D :: M) H' (L ++ [(D, .lst [])]) Ds) (S.newM hD) ?_ ?_
  · intro i H' hi S'
    refine ⟨wipe_one _, ?_⟩
    refine ht i D H' _ hi S' fun H'' S'' => ?_
    exact x_iteF rfl S''
  · intro H' S'
    exact k D H' hD S'.dropM
/-- [e for x in list], e's value f i, nothing else changed -/
theorem lc_mapL (S : Sy K H0 M H L Ds) (hx : ∀ (D : Addr) (acc : List V) (H' : Hp), Sy K H0 (D :: M) H' (L ++ [(D, .lst acc)]) Ds → SqL K H' p xs) (hz : xs.length ≤ 100000) (f : Nat → V)
    (hte : ∀ (i : Nat) (x : V) (D : Addr) (acc : List V) (H' : Hp) (Q' : VK), xs[i]? = some x → Sy K H0 (D :: M) H' (L ++ [(D, .lst acc)]) Ds → (∀ H'', Sy K H0 (D :: M) H'' (L ++ [(D, .lst acc)]) Ds → Q' (f i) H'') → te ((σ.set j none).set j (some x)) H' Q')
    (k : ∀ D H', H D = none → Sy K H0 M H' (L ++ [(D, .lst ((List.range xs.length).map f))]) Ds → Q (.ref D) H') : LcO (gName j) tYes te [j] σ Q (Itl K p) H := by
  intro D hD
  have DF := S.free hD
  refine lc_list (xs := xs) (fun i H' => i ≤ xs.length ∧ Sy K H0 (D :: M) H' (L ++ [(D, .lst ((List.range i).map f))]) Ds) ⟨Nat.zero_le _, S.newM hD⟩ (fun i H' _ S' => hx _ _ _ S'.2) ?_ ?_
  · rintro i x H' hi ⟨_, S'⟩
    refine ⟨wipe_one _, ?_⟩
    refine hte i x D _ H' _ hi S' fun H'' S'' => ?_
    have hlt := (List.getElem?_eq_some_iff.mp hi).1
    have gD : (L ++ [(D, HO.lst ((List.range i).map f))])[L.length]? = some (D, .lst ((List.range i).map f)) := by simp
    refine ⟨_, S''.get L.length gD, ?_, by omega, ?_⟩
    · rw [List.length_map, List.length_range]; exact szl (by omega)
    · have T := S''.set (o' := .lst ((List.range i).map f ++ [f i])) L.length gD ⟨List.mem_cons_self .., .inr DF⟩
      rw [show (L ++ [(D, HO.lst ((List.range i).map f))]).set L.length (D, .lst ((List.range i).map f ++ [f i])) = L ++ [(D, .lst ((List.range (i + 1)).map f))] by
        simp [List.range_succ]] at T
      exact T
  · rintro H' ⟨_, S'⟩
    exact k D H' hD S'.dropM
theorem lc_mapR (S : Sy K H0 M H L Ds) (hz : n ≤ 100000) (f : Nat → V)
    (hte : ∀ (i : Nat) (D : Addr) (acc : List V) (H' : Hp) (Q' : VK), i < n → Sy K H0 (D :: M) H' (L ++ [(D, .lst acc)]) Ds → (∀ H'', Sy K H0 (D :: M) H'' (L ++ [(D, .lst acc)]) Ds → Q' (f i) H'') → te ((σ.set j none).set j (some (.int (0 + (i : Int))))) H' Q')
    (k : ∀ D H', H D = none → Sy K H0 M H' (L ++ [(D, .lst ((List.range n).map f))]) Ds → Q (.ref D) H') : LcO (gName j) tYes te [j] σ Q (Itr 0 n) H := by
  intro D hD
  have DF := S.free hD
  refine lc_range (lo := 0) (n := n) (fun i H' => i ≤ n ∧ Sy K H0 (D :: M) H' (L ++ [(D, .lst ((List.range i).map f))]) Ds) ⟨Nat.zero_le _, S.newM hD⟩ ?_ ?_
  · rintro i H' hi ⟨_, S'⟩
    refine ⟨wipe_one _, ?_⟩
    refine hte i D _ H' _ hi S' fun H'' S'' => ?_
    have gD : (L ++ [(D, HO.lst ((List.range i).map f))])[L.length]? = some (D, .lst ((List.range i).map f)) := by simp
    refine ⟨_, S''.get L.length gD, ?_, by omega, ?_⟩
    · rw [List.length_map, List.length_range]; exact szl (by omega)
    · have T := S''.set (o' := .lst ((List.range i).map f ++ [f i])) L.length gD ⟨List.mem_cons_self .., .inr DF⟩
      rw [show (L ++ [(D, HO.lst ((List.range i).map f))]).set L.length (D, .lst ((List.range i).map f ++ [f i])) = L ++ [(D, .lst ((List.range (i + 1)).map f))] by
        simp [List.range_succ]] at T
      exact T
  · rintro H' ⟨_, S'⟩
    exact k D H' hD S'.dropM
theorem range_map_get {α β : Type} (f : α → β) : ∀ (xs : List α) (d : α), (List.range xs.length).map (fun i => f (xs.getD i d)) = xs.map f
  | [], d => rfl
  | x :: r, d => by
    rw [List.length_cons, List.range_succ_eq_map, List.map_cons, List.map_map]
    have ih := range_map_get f r d
    show f x :: List.map (fun i => f (r.getD i d)) (List.range r.length) = f x :: r.map f
    rw [ih]
theorem n_sum {ns : List Int} (h : SqL K H p (ns.map V.int)) (q : Q (.int ns.sum) H) : rSum K [.ref p] H Q := ⟨p, ns, rfl, h, q⟩
theorem n_in {x : V} {neg : Bool} (h : SqE K H p xs) (h1 : flatV x = true) (h2 : xs.all flatV = true) (q : Q (.bl (if neg then !inV x xs else inV x xs)) H) : rIn K neg x (.ref p) H Q := ⟨p, xs, rfl, h, h1, h2, q⟩
end
theorem flat_ov (xs : List (Option Int)) : (xs.map ov).all flatV = true := by
  simp only [List.all_map, List.all_eq_true]
  intro x _
  cases x <;> rfl
theorem inV_none (xs : List (Option Int)) : inV .non (xs.map ov) = decide (none ∈ xs) := by
  induction xs with
  | nil => rfl
  | cons x r ih =>
    unfold inV at *
    rw [List.map_cons, List.any_cons, ih]
    cases x <;> simp [ov, eqV]
/-! ### the sums by weights, the seal from its end, sums of rows one behind the other -/
theorem one_sum (ns : List Int) : (ns.map (· + 1)).sum = oneR ns := by
  induction ns with
  | nil => rfl
  | cons n r ih => simp only [List.map_cons, List.sum_cons, oneR, ih]
theorem two_sum (ns : List Int) : ((List.range ns.length).map fun (k : Nat) => ((ns.length : Int) - k) * (ns.getD k 0 + 1)).sum = twoR ns := by
  induction ns with
  | nil => rfl
  | cons n r ih =>
    rw [List.length_cons, List.range_succ_eq_map, List.map_cons, List.map_map, List.sum_cons, twoR, ← ih]
    have e1 : (List.range r.length).map ((fun (k : Nat) => (((r.length + 1 : Nat) : Int) - k) * ((n :: r).getD k 0 + 1)) ∘ Nat.succ) = (List.range r.length).map fun (k : Nat) => ((r.length : Int) - k) * (r.getD k 0 + 1) := by
      apply List.map_congr_left
      intro k _
      show (((r.length + 1 : Nat) : Int) - ((k + 1 : Nat) : Int)) * ((n :: r).getD (k + 1) 0 + 1) = _
      rw [List.getD_cons_succ, show (((r.length + 1 : Nat) : Int) - ((k + 1 : Nat) : Int)) = (r.length : Int) - k by omega]
    rw [e1]
    have e2 : (((r.length + 1 : Nat) : Int) - ((0 : Nat) : Int)) * ((n :: r).getD 0 0 + 1) = ((r.length : Int) + 1) * (n + 1) := by
      rw [List.getD_cons_zero]
      congr 1
    rw [e2]
theorem oneR_app (a b : List Int) : oneR (a ++ b) = oneR a + oneR b := by
  induction a with
  | nil => simp [oneR]
  | cons n r ih => simp only [List.cons_append, oneR, ih]; omega
theorem twoR_app (a b : List Int) : twoR (a ++ b) = twoR a + (b.length : Int) * oneR a + twoR b := by
  induction a with
  | nil => simp [twoR, oneR]
  | cons n r ih =>
    simp only [List.cons_append, twoR, oneR, ih, List.length_append]
    push_cast
    grind
def jstep (s : Int × Int) (t : Int × Int × Int) : Int × Int := ((s.1 + t.1) % 9973, (s.2 + t.2.1 + t.2.2 * s.1) % 9973)
def joinF (ts : List (Int × Int × Int)) : Int × Int := ts.foldl jstep (0, 0)
def titleF (ns : List Int) : Int × Int × Int := ((sumsF ns).1, (sumsF ns).2, ns.length)
theorem joinF_more (ts : List (Int × Int × Int)) (t : Int × Int × Int) : joinF (ts ++ [t]) = jstep (joinF ts) t := by unfold joinF; rw [List.foldl_append]; rfl
theorem sums_app (a b : List Int) : sumsF (a ++ b) = jstep (sumsF a) (titleF b) := by
  unfold jstep titleF
  rw [sums_is, sums_is, sums_is, oneR_app, twoR_app]
  ext
  · simp only; omega
  · simp only
    have e : ((b.length : Int) * (oneR a % 9973)) % 9973 = ((b.length : Int) * oneR a) % 9973 := by rw [Int.mul_emod (b.length : Int) (oneR a % 9973), Int.emod_emod_of_dvd _ (Int.dvd_refl _), ← Int.mul_emod]
    generalize (b.length : Int) * (oneR a % 9973) = u at *
    generalize (b.length : Int) * oneR a = u' at *
    omega
theorem join_titles (cs : List (List Int)) : joinF (cs.map titleF) = sumsF cs.flatten := by
  have : ∀ (cs : List (List Int)) (a : List Int), (cs.map titleF).foldl jstep (sumsF a) = sumsF (a ++ cs.flatten) := by
    intro cs
    induction cs with
    | nil => intro a; simp
    | cons c r ih =>
      intro a
      rw [List.map_cons, List.foldl_cons, ← sums_app, ih, List.flatten_cons, List.append_assoc]
  exact this cs []
def tailR (key : Int) (ns : List Int) : Int := match ns with
  | [] => 0
  | n :: r => tailR key r + (n + 1) * key ^ r.length
theorem seal_raw (key : Int) (ns : List Int) : ∀ s : Int, (ns.foldl (kstep key) s) % 9973 = (s * key ^ ns.length + tailR key ns) % 9973 := by
  induction ns with
  | nil => intro s; simp [tailR]
  | cons n r ih =>
    intro s
    rw [List.foldl_cons, ih]
    unfold kstep
    simp only [tailR, List.length_cons]
    have e : ∀ (x y z : Int), ((x % 9973) * y + z) % 9973 = (x * y + z) % 9973 := by
      intro x y z
      have a : ((x % 9973) * y) % 9973 = (x * y) % 9973 := by rw [Int.mul_emod (x % 9973) y, Int.emod_emod_of_dvd _ (Int.dvd_refl _), ← Int.mul_emod]
      generalize (x % 9973) * y = u at *
      generalize x * y = u' at *
      omega
    rw [e]
    congr 1
    grind
theorem seal_is (key : Int) (ns : List Int) (k0 : 0 ≤ key) (k1 : key < 9973) : sealF key ns = (tailR key ns + key * key ^ ns.length) % 9973 := by
  have h := seal_raw key ns key
  have b := sealF_lt key ns k0 k1
  unfold sealF at *
  rw [Int.emod_eq_of_lt b.1 b.2] at h
  rw [h]
  congr 1
  omega
theorem tail_more (key : Int) {ns : List Int} {i : Nat} {n : Int} (h : ns[ns.length - 1 - i]? = some n) (hi : i < ns.length) : tailR key (ns.drop (ns.length - (i + 1))) = tailR key (ns.drop (ns.length - i)) + (n + 1) * key ^ i := by
  have e : ns.drop (ns.length - (i + 1)) = n :: ns.drop (ns.length - i) := by
    rw [show ns.length - (i + 1) = ns.length - 1 - i by omega]
    obtain ⟨h1, h2⟩ := List.getElem?_eq_some_iff.mp h
    rw [List.drop_eq_getElem_cons h1, h2]
    congr 2
    omega
  rw [e]
  simp only [tailR, List.length_drop]
  rw [show ns.length - (ns.length - i) = i by omega]
theorem pow_nat {key : Int} (k0 : 0 ≤ key) (k1 : key < 16384) : ∀ i : Nat, (key ^ i).natAbs < 2 ^ (14 * i + 1)
  | 0 => by simp
  | i + 1 => by
    have ih := pow_nat k0 k1 i
    rw [Int.pow_succ, Int.natAbs_mul]
    have h2 : key.natAbs < 2 ^ 14 := by omega
    have := Nat.mul_lt_mul'' ih h2
    rw [← Nat.pow_add] at this
    rw [show 14 * (i + 1) + 1 = 14 * i + 1 + 14 by omega]
    exact this
/-- what name tells -/
def spName (K : PySem.W.Frag) : Sp := fun vs H Q _ => ∃ (p : Addr) (xs : List (Option Int)), vs = [.ref p] ∧ SqE K H p (xs.map ov) ∧ xs.length ≤ 100000 ∧ (allI xs = none → ∀ H', Fr [] H H' → Q .non H') ∧
  (∀ ns t H', allI xs = some ns → Fr [] H H' → H t = none → H' t = some (.tup [.int (titleF ns).1, .int (titleF ns).2.1, .int (titleF ns).2.2]) → Q (.ref t) H')
abbrev tripD (t : Int × Int × Int) : PyData := .tuple [.int t.1, .int t.2.1, .int t.2.2]
def spJoined (K : PySem.W.Frag) : Sp := fun vs H Q _ => ∃ (p : Addr) (xs : List V) (ts : List (Int × Int × Int)), vs = [.ref p] ∧ SqE K H p xs ∧ DtL K [] H (ts.map tripD) xs ∧ (∀ t ∈ ts, 0 ≤ t.2.2 ∧ t.2.2 ≤ 100000) ∧
  (∀ t H', Fr [] H H' → H t = none → H' t = some (.tup [.int (joinF ts).1, .int (joinF ts).2]) → Q (.ref t) H')

/-! ### isinstance by the value at hand -/
theorem kb_NoneType_tuple : kitB "NoneType" "tuple" = some false := by decide +kernel
theorem kb_NoneType_list : kitB "NoneType" "list" = some false := by decide +kernel
theorem kb_NoneType_bool : kitB "NoneType" "bool" = some false := by decide +kernel
theorem kb_NoneType_str : kitB "NoneType" "str" = some false := by decide +kernel
theorem kb_NoneType_int : kitB "NoneType" "int" = some false := by decide +kernel
theorem kb_bool_tuple : kitB "bool" "tuple" = some false := by decide +kernel
theorem kb_bool_list : kitB "bool" "list" = some false := by decide +kernel
theorem kb_bool_bool : kitB "bool" "bool" = some true := by decide +kernel
theorem kb_bool_str : kitB "bool" "str" = some false := by decide +kernel
theorem kb_bool_int : kitB "bool" "int" = some true := by decide +kernel
theorem kb_int_tuple : kitB "int" "tuple" = some false := by decide +kernel
theorem kb_int_list : kitB "int" "list" = some false := by decide +kernel
theorem kb_int_bool : kitB "int" "bool" = some false := by decide +kernel
theorem kb_int_str : kitB "int" "str" = some false := by decide +kernel
theorem kb_int_int : kitB "int" "int" = some true := by decide +kernel
theorem kb_str_tuple : kitB "str" "tuple" = some false := by decide +kernel
theorem kb_str_list : kitB "str" "list" = some false := by decide +kernel
theorem kb_str_bool : kitB "str" "bool" = some false := by decide +kernel
theorem kb_str_str : kitB "str" "str" = some true := by decide +kernel
theorem kb_str_int : kitB "str" "int" = some false := by decide +kernel
theorem kb_list_tuple : kitB "list" "tuple" = some false := by decide +kernel
theorem kb_list_list : kitB "list" "list" = some true := by decide +kernel
theorem kb_list_bool : kitB "list" "bool" = some false := by decide +kernel
theorem kb_list_str : kitB "list" "str" = some false := by decide +kernel
theorem kb_list_int : kitB "list" "int" = some false := by decide +kernel
theorem kb_tuple_tuple : kitB "tuple" "tuple" = some true := by decide +kernel
theorem kb_tuple_list : kitB "tuple" "list" = some false := by decide +kernel
theorem kb_tuple_bool : kitB "tuple" "bool" = some false := by decide +kernel
theorem kb_tuple_str : kitB "tuple" "str" = some false := by decide +kernel
theorem kb_tuple_int : kitB "tuple" "int" = some false := by decide +kernel
section
variable {K : PySem.W.Frag} {H : Hp} {Q : VK} {a p : Addr} {xs : List V} {n n1 n2 t : String} {b b1 b2 : Bool} {v : V} {i : Int} {c : Bool} {s : Str}
theorem n_isiX (h : TyX K H v (.type t)) (e : kitB t n = some b) (q : Q (.bl b) H) : rIsi K [v, .ty n] H Q := ⟨v, .ty n, _, .type n, b, rfl, .ty n, h, kit_ty e, q⟩
theorem n_isiN (e : kitB "NoneType" n = some b) (q : Q (.bl b) H) : rIsi K [.non, .ty n] H Q := n_isiX (.base .non) e q
theorem n_isiB (e : kitB "bool" n = some b) (q : Q (.bl b) H) : rIsi K [.bl c, .ty n] H Q := n_isiX (.base (.bl c)) e q
theorem n_isiI (e : kitB "int" n = some b) (q : Q (.bl b) H) : rIsi K [.int i, .ty n] H Q := n_isiX (.base (.int i)) e q
theorem n_isiS (e : kitB "str" n = some b) (q : Q (.bl b) H) : rIsi K [.str s, .ty n] H Q := n_isiX (.base (.str s)) e q
theorem n_isiL (h : SqL K H a xs) (e : kitB "list" n = some b) (q : Q (.bl b) H) : rIsi K [.ref a, .ty n] H Q := n_isiX (tyx_l h) e q
theorem n_isiT (h : SqT K H a xs) (e : kitB "tuple" n = some b) (q : Q (.bl b) H) : rIsi K [.ref a, .ty n] H Q := n_isiX (tyx_t h) e q
theorem n_isi2 (h : TyX K H v (.type t)) (hp : H p = some (.tup [.ty n1, .ty n2])) (e1 : kitB t n1 = some b1) (e2 : kitB t n2 = some b2) (q : Q (.bl (b1 || b2)) H) : rIsiT K [v, .ref p] H Q := by
  refine ⟨v, p, [.ty n1, .ty n2], _, [.type n1, .type n2], b1 || b2, rfl, hp, .cons (.ty n1) (.cons (.ty n2) .nil), h, ?_, q⟩
  refine kitAny_cons (kit_ty e1) (fun z => ?_) (fun z => by rw [z]; rfl)
  subst z
  refine kitAny_cons (kit_ty e2) (fun z => ?_) (fun z => by rw [z]; rfl)
  subst z
  exact kitAny_nil
theorem atI0 {i : Nat} (h : xs[i]? = some v) : atI xs (0 + (i : Int)) = some v := by rw [Int.zero_add]; exact atI_nat h
theorem b_rev {X : Cx} {tg e : Expr} {ta : TA} {p pos : Pos} (hg : Gl X "reversed") (hm : X.mg "reversed" = none) (ha : PA X [e] ta) (eK : X.K = K := by rfl) (hs : starEach [e] X.env = [(false, eval e X.env)] := by rfl) : PI X tg (.Call (.Name "reversed" p) [e] [] pos) (iRev K ta) := by subst eK; exact pi_reversed hg hm ha hs
theorem x_iRev {σ : L2.St} {ta : TA} {R : It → Hp → Prop} (q : ta σ H fun vs H1 => ∃ (a : Addr) (xs : List V), vs = [.ref a] ∧ SqL K H1 a xs ∧ R (Itv K a xs.length) H1) : iRev K ta σ H R := q
end
section
variable {σ : L2.St} {H : Hp} {ta tb : TE} {Q : VK}
theorem x_andV (q : ta σ H fun x H1 => ∃ c, x = .bl c ∧ if c = true then tb σ H1 Q else Q (.bl false) H1) : tAndV ta tb σ H Q := q
theorem x_orV (q : ta σ H fun x H1 => ∃ c, x = .bl c ∧ if c = true then Q (.bl true) H1 else tb σ H1 Q) : tOrV ta tb σ H Q := q
theorem x_notV (q : ta σ H fun x H1 => ∃ c, x = .bl c ∧ Q (.bl (!c)) H1) : tNotV ta σ H Q := q
theorem nd_self {α : Type} [DecidableEq α] {a : α} : (!decide (a = a)) = false := by simp
end
/-- an entry that stands ahead of the new list -/
theorem Sy.slA {K : PySem.W.Frag} {M : List Addr} {H : Hp} {H0 : Bs} {L : List (Addr × HO)} {Ds : List (PyData × V)} {p : Addr} {xs : List V} {e : Addr × HO} (S : Sy K H0 M H (L ++ [e]) Ds) (i : Nat) (h : L[i]? = some (p, .lst xs)) : SqL K H p xs :=
  S.sl i (by rw [List.getElem?_append_left (List.getElem?_eq_some_iff.mp h).1]; exact h)
theorem q_int {Q : VK} {H : Hp} {i j : Int} (e : i = j) (q : Q (.int j) H) : Q (.int i) H := e ▸ q
theorem getD_at {ns : List Int} {i : Nat} {n : Int} (h : ns[i]? = some n) : ns.getD i 0 = n := by simp [h]
/-- the law's own sums: of a list of whole numbers, a new tuple -/
def spLSums (K : PySem.W.Frag) : Sp := fun vs H Q _ => ∃ (p : Addr) (ns : List Int), vs = [.ref p] ∧ SqL K H p (ns.map V.int) ∧ ns.length ≤ 10000 ∧
  ∀ t H', Fr [] H H' → H t = none → H' t = some (.tup [.int (sumsF ns).1, .int (sumsF ns).2]) → Q (.ref t) H'
def spLTitle (K : PySem.W.Frag) : Sp := fun vs H Q _ => ∃ (p : Addr) (ns : List Int), vs = [.ref p] ∧ SqL K H p (ns.map V.int) ∧ ns.length ≤ 10000 ∧
  ∀ t H', Fr [] H H' → H t = none → H' t = some (.tup [.int (titleF ns).1, .int (titleF ns).2.1, .int (titleF ns).2.2]) → Q (.ref t) H'
def spLSeal (K : PySem.W.Frag) : Sp := fun vs H Q _ => ∃ (key : Int) (p : Addr) (ns : List Int), vs = [.int key, .ref p] ∧ 0 ≤ key ∧ key < 9973 ∧ SqL K H p (ns.map V.int) ∧ ns.length ≤ 1000 ∧ (∀ n ∈ ns, 0 ≤ n ∧ n < 9973) ∧ Q (.int (sealF key ns)) H
/-! ### slices, calls in hand -/
theorem cut_take {α : Type} (f : α → V) (xs : List α) {k : Int} (h : 0 ≤ k) : cutV (xs.map f) none (some k) = (xs.take k.toNat).map f := by
  obtain ⟨n, rfl⟩ := Int.eq_ofNat_of_zero_le h
  unfold cutV
  rw [HT.sIx_none, HT.sIx_nat]
  simp only [Int.toNat_natCast, List.length_map, Nat.sub_zero, List.drop_zero]
  rw [← List.map_take]
  congr 1
  rw [Nat.min_def]
  split
  · rfl
  · rw [List.take_of_length_le (Nat.le_refl _), List.take_of_length_le (by omega)]
theorem cut_drop {α : Type} (f : α → V) (xs : List α) {k : Int} (h : 0 ≤ k) : cutV (xs.map f) (some k) none = (xs.drop k.toNat).map f := by
  obtain ⟨n, rfl⟩ := Int.eq_ofNat_of_zero_le h
  unfold cutV
  rw [HT.sIx_none, HT.sIx_nat]
  simp only [Int.toNat_natCast, List.length_map]
  rw [← List.map_drop, ← List.map_take]
  congr 1
  rw [Nat.min_def]
  split
  · rw [List.take_of_length_le (by rw [List.length_drop]; omega)]
  · rw [List.drop_of_length_le (Nat.le_refl _), List.drop_of_length_le (by omega)]
    simp
section
variable {K : PySem.W.Frag} {H : Hp} {H0 : Bs} {M : List Addr} {L : List (Addr × HO)} {Ds : List (PyData × V)} {Q : VK} {E : XK} {a b p : Addr} {o o' : HO} {ns : List Int} {xs : List (Option Int)} {d : PyData} {v u : V} {n : Nat} {key : Int}
theorem Sy.ne (S : Sy K H0 M H L Ds) (i j : Nat) (h1 : L[i]? = some (a, o)) (h2 : L[j]? = some (b, o')) (hij : i ≠ j) : a ≠ b := by
  intro z
  have e1 : (L.map (·.1))[i]? = some a := by rw [List.getElem?_map, h1]; rfl
  have e2 : (L.map (·.1))[j]? = some a := by rw [List.getElem?_map, h2, z]; rfl
  obtain ⟨b1, f1⟩ := List.getElem?_eq_some_iff.mp e1
  obtain ⟨b2, f2⟩ := List.getElem?_eq_some_iff.mp e2
  exact hij ((List.getElem_inj S.nd).mp (f1.trans f2.symm))
theorem dt_T {xs : List Int} (h : SqT K H p (xs.map V.int)) (n : p ∉ M) : Dt K M H (.tuple (xs.map .int)) (.ref p) := by
  simp only [Dt]
  exact ⟨p, _, rfl, ⟨h, .inl n⟩, DtL.ints.mpr rfl⟩
theorem dt_L {xs : List Int} (h : SqL K H p (xs.map V.int)) (n : p ∉ M) : Dt K M H (.list (xs.map .int)) (.ref p) := by
  simp only [Dt]
  exact ⟨p, _, rfl, ⟨h, .inl n⟩, DtL.ints.mpr rfl⟩
theorem use_lsums (S : Sy K H0 M H L Ds) (h : SqL K H p (ns.map V.int)) (hz : ns.length ≤ 10000)
    (k : ∀ t H', H t = none → H0 t = none → Sy K H0 M H' (L ++ [(t, .tup [.int (sumsF ns).1, .int (sumsF ns).2])]) Ds → Q (.ref t) H') : spLSums K [.ref p] H Q E :=
  ⟨p, ns, rfl, h, hz, fun t H' f ht e => k t H' ht (S.free ht) (S.exN f ht e)⟩
theorem use_ltitle (S : Sy K H0 M H L Ds) (h : SqL K H p (ns.map V.int)) (hz : ns.length ≤ 10000)
    (k : ∀ t H', H t = none → H0 t = none → Sy K H0 M H' (L ++ [(t, .tup [.int (titleF ns).1, .int (titleF ns).2.1, .int (titleF ns).2.2])]) Ds → Q (.ref t) H') : spLTitle K [.ref p] H Q E :=
  ⟨p, ns, rfl, h, hz, fun t H' f ht e => k t H' ht (S.free ht) (S.exN f ht e)⟩
theorem use_name (S : Sy K H0 M H L Ds) (h : SqE K H p (ns.map V.int)) (hz : ns.length ≤ 10000)
    (k : ∀ t H', H t = none → H0 t = none → Sy K H0 M H' (L ++ [(t, .tup [.int (titleF ns).1, .int (titleF ns).2.1, .int (titleF ns).2.2])]) Ds → Q (.ref t) H') : spName K [.ref p] H Q E := by
  refine ⟨p, ns.map some, rfl, by rw [← ints_ov]; exact h, by rw [List.length_map]; omega, fun z => ?_, fun ms t H' hm f ht e => ?_⟩
  · rw [allI_some] at z; cases z
  · rw [allI_some] at hm; cases hm
    exact k t H' ht (S.free ht) (S.exN f ht e)
theorem use_nameN (S : Sy K H0 M H L Ds) (h : SqE K H p (xs.map ov)) (hz : xs.length ≤ 10000) (hn : none ∈ xs)
    (k : ∀ H', Sy K H0 M H' L Ds → Q .non H') : spName K [.ref p] H Q E := by
  refine ⟨p, xs, rfl, h, by omega, fun _ H' f => k H' (S.ex f), fun ms t H' hm f ht e => ?_⟩
  rw [allI_none.mpr hn] at hm; cases hm
theorem use_sumsN (h : SqE K H p (xs.map ov)) (hn : none ∈ xs) (k : Q .non H) : spSums K [.ref p] H Q E := by
  refine ⟨p, xs, rfl, h, fun _ => k, fun ms t hm ht => ?_⟩
  rw [allI_none.mpr hn] at hm; cases hm
theorem use_lseal (h : SqL K H p (ns.map V.int)) (k0 : 0 ≤ key) (k1 : key < 9973) (hz : ns.length ≤ 1000) (hb : ∀ n ∈ ns, 0 ≤ n ∧ n < 9973) (k : Q (.int (sealF key ns)) H) : spLSeal K [.int key, .ref p] H Q E :=
  ⟨key, p, ns, rfl, k0, k1, h, hz, hb, k⟩
theorem use_alike (S : Sy K H0 M H L Ds) (d : PyData) (h1 : Dt K [] H d v) (h2 : Dt K [] H d u) (hd : d.depth ≤ n) (ho : okD d = true) (k : ∀ H', Sy K H0 M H' L Ds → Q (.bl true) H') : spAlike (n + 1) K [v, u] H Q E :=
  ⟨v, u, d, rfl, h1, h2, hd, ho, fun H' f => k H' (S.ex f)⟩
theorem use_joined {xs : List V} {ts : List (Int × Int × Int)} (S : Sy K H0 M H L Ds) (h : SqE K H p xs) (hd : DtL K [] H (ts.map tripD) xs) (hb : ∀ t ∈ ts, 0 ≤ t.2.2 ∧ t.2.2 ≤ 100000)
    (k : ∀ t H', H t = none → H0 t = none → Sy K H0 M H' (L ++ [(t, .tup [.int (joinF ts).1, .int (joinF ts).2])]) Ds → Q (.ref t) H') : spJoined K [.ref p] H Q E :=
  ⟨p, xs, ts, rfl, h, hd, hb, fun t H' f ht e => k t H' ht (S.free ht) (S.exN f ht e)⟩
end
/-- a while, by its word -/
theorem x_while {c : TT} {tb : TS} {D : Ends} {σ : L2.St} {H : Hp} (W : Nat → L2.St → Hp → Prop) (m : Nat) (h0 : W m σ H)
    (hs : ∀ m σ' H', W m σ' H' → c σ' H' fun b H1 => if b = true then ∃ N : L2.St → Hp → Prop, (∀ σ2 H2, N σ2 H2 → ∃ m', m' < m ∧ W m' σ2 H2) ∧ tb { D with nx := N, ct := N, bk := D.nx } σ' H1 else D.nx σ' H1) : tWhile c tb D σ H := ⟨W, ⟨m, h0⟩, hs⟩
theorem zip_more {α β : Type} {xs : List α} {ys : List β} (h : xs.length = ys.length) (x : α) (y : β) : (xs ++ [x]).zip (ys ++ [y]) = xs.zip ys ++ [(x, y)] := by
  rw [List.zip_append h]; rfl
theorem DtL.of_zip {K : PySem.W.Frag} {M : List Addr} {H : Hp} {ds : List PyData} {vs : List V} (h : ds.length = vs.length) (hz : ∀ x ∈ ds.zip vs, Dt K M H x.1 x.2) : DtL K M H ds vs :=
  DtL.of_at h.symm fun i d v h1 h2 => hz (d, v) (List.mem_of_getElem? (i := i) (by rw [List.getElem?_zip_eq_some]; exact ⟨h1, h2⟩))

/-! ### data, step by step: what is made is known by its data -/
section
variable {K : PySem.W.Frag} {M : List Addr} {H H' : Hp} {H0 : Bs} {L : List (Addr × HO)} {Ds : List (PyData × V)} {Q : VK} {d : PyData} {ds es : List PyData} {v : V} {vs xs ys : List V} {p a : Addr} {i : Int} {n j : Nat} {σ : L2.St} {te : TE} {tt : TT} {J : It} {G : Hp → Prop} {g : Nat → PyData} {y : Nat → V → Prop}
theorem Dt.int' : Dt K M H (.int i) (.int i) := by simp only [Dt]
theorem Dt.non' : Dt K M H .none .non := by simp only [Dt]
theorem Dt.bl' {b : Bool} : Dt K M H (.bool b) (.bl b) := by simp only [Dt]
theorem Dt.str' {s : Str} : Dt K M H (.str s) (.str s) := by simp only [Dt]
theorem DtL.nil' : DtL K M H [] [] := by simp only [DtL]
theorem DtL.cons' (h : Dt K M H d v) (r : DtL K M H ds vs) : DtL K M H (d :: ds) (v :: vs) := by
  simp only [DtL]; exact ⟨v, vs, rfl, h, r⟩
theorem Dt.tupI (h : STA K M H p xs) (r : DtL K M H ds xs) : Dt K M H (.tuple ds) (.ref p) := by
  simp only [Dt]; exact ⟨p, xs, rfl, h, r⟩
theorem Dt.lstI (h : SLA K M H p xs) (r : DtL K M H ds xs) : Dt K M H (.list ds) (.ref p) := by
  simp only [Dt]; exact ⟨p, xs, rfl, h, r⟩
theorem Dt.tup (h : Dt K M H (.tuple ds) (.ref p)) : ∃ xs, STA K M H p xs ∧ DtL K M H ds xs := by
  simp only [Dt] at h
  obtain ⟨a, xs, e, s, r⟩ := h
  cases e; exact ⟨xs, s, r⟩
theorem Dt.lst (h : Dt K M H (.list ds) (.ref p)) : ∃ xs, SLA K M H p xs ∧ DtL K M H ds xs := by
  simp only [Dt] at h
  obtain ⟨a, xs, e, s, r⟩ := h
  cases e; exact ⟨xs, s, r⟩
theorem Sy.notM (S : Sy K H0 M H L Ds) (h : H p = none) : p ∉ M := fun z => by
  obtain ⟨o, e⟩ := S.dom p z
  rw [h] at e; cases e
/-- a new tuple, a new list, as data -/
theorem d_newT (S : Sy K H0 M H L Ds) (r : DtL K M H ds xs) (q : ∀ p H', Sy K H0 M H' L (Ds ++ [(.tuple ds, .ref p)]) → Q (.ref p) H') : NewO H (.tup xs) Q := fun p hp => by
  refine q p _ ?_
  have T := (S.ex (Fr.new (o := .tup xs) hp))
  exact T.addD (Dt.tupI ⟨.inl (.inl upd_same), .inl (S.notM hp)⟩ (r.mono (Fr.new hp)))
theorem d_newL (S : Sy K H0 M H L Ds) (r : DtL K M H ds xs) (q : ∀ p H', Sy K H0 M H' L (Ds ++ [(.list ds, .ref p)]) → Q (.ref p) H') : NewO H (.lst xs) Q := fun p hp => by
  refine q p _ ?_
  have T := (S.ex (Fr.new (o := .lst xs) hp))
  exact T.addD (Dt.lstI ⟨.inl (.inl upd_same), .inl (S.notM hp)⟩ (r.mono (Fr.new hp)))
theorem d_tup (S : Sy K H0 M H L Ds) (hz : xs.length ≤ 100000) (r : DtL K M H ds xs) (q : ∀ p H', Sy K H0 M H' L (Ds ++ [(.tuple ds, .ref p)]) → Q (.ref p) H') : xs.length ≤ sizeLine ∧ NewO H (.tup xs) Q := ⟨szL (by omega), d_newT S r q⟩
theorem d_lst (S : Sy K H0 M H L Ds) (hz : xs.length ≤ 100000) (r : DtL K M H ds xs) (q : ∀ p H', Sy K H0 M H' L (Ds ++ [(.list ds, .ref p)]) → Q (.ref p) H') : xs.length ≤ sizeLine ∧ NewO H (.lst xs) Q := ⟨szL (by omega), d_newL S r q⟩
/-- an item -/
theorem d_ixTI {n' : Int} (h : Dt K M H (.tuple ds) (.ref p)) (e : atI ds i = some (.int n')) (q : Q (.int n') H) : rIxT K (.ref p) (.int i) H Q := by
  obtain ⟨xs, s, r⟩ := h.tup
  unfold atI at e
  cases hj : ixN ds.length i with
  | none => rw [hj] at e; cases e
  | some j =>
    rw [hj] at e
    obtain ⟨u, hu, w⟩ := r.at e
    simp only [Dt] at w; subst w
    exact ⟨p, xs, i, _, rfl, rfl, s.1, by unfold atI; rw [r.len, hj]; exact hu, q⟩
theorem d_ixT (S : Sy K H0 M H L Ds) (h : Dt K M H (.tuple ds) (.ref p)) (e : atI ds i = some d) (q : ∀ u, Sy K H0 M H L (Ds ++ [(d, u)]) → Q u H) : rIxT K (.ref p) (.int i) H Q := by
  obtain ⟨xs, s, r⟩ := h.tup
  unfold atI at e
  cases hj : ixN ds.length i with
  | none => rw [hj] at e; cases e
  | some j =>
    rw [hj] at e
    obtain ⟨u, hu, w⟩ := r.at e
    exact ⟨p, xs, i, u, rfl, rfl, s.1, by unfold atI; rw [r.len, hj]; exact hu, q u (S.addD w)⟩
theorem d_ixLI {n' : Int} (h : Dt K M H (.list ds) (.ref p)) (e : atI ds i = some (.int n')) (q : Q (.int n') H) : rIxL K (.ref p) (.int i) H Q := by
  obtain ⟨xs, s, r⟩ := h.lst
  unfold atI at e
  cases hj : ixN ds.length i with
  | none => rw [hj] at e; cases e
  | some j =>
    rw [hj] at e
    obtain ⟨u, hu, w⟩ := r.at e
    simp only [Dt] at w; subst w
    exact ⟨p, xs, i, _, rfl, rfl, s.1, by unfold atI; rw [r.len, hj]; exact hu, q⟩
theorem d_ixL (S : Sy K H0 M H L Ds) (h : Dt K M H (.list ds) (.ref p)) (e : atI ds i = some d) (q : ∀ u, Sy K H0 M H L (Ds ++ [(d, u)]) → Q u H) : rIxL K (.ref p) (.int i) H Q := by
  obtain ⟨xs, s, r⟩ := h.lst
  unfold atI at e
  cases hj : ixN ds.length i with
  | none => rw [hj] at e; cases e
  | some j =>
    rw [hj] at e
    obtain ⟨u, hu, w⟩ := r.at e
    exact ⟨p, xs, i, u, rfl, rfl, s.1, by unfold atI; rw [r.len, hj]; exact hu, q u (S.addD w)⟩
theorem d_lenT (h : Dt K M H (.tuple ds) (.ref p)) (q : Q (.int ds.length) H) : rLen K [.ref p] H Q := by
  obtain ⟨xs, s, r⟩ := h.tup
  exact n_len (.inr s.1) (by rw [r.len]; exact q)
theorem d_lenL (h : Dt K M H (.list ds) (.ref p)) (q : Q (.int ds.length) H) : rLen K [.ref p] H Q := by
  obtain ⟨xs, s, r⟩ := h.lst
  exact n_len (.inl s.1) (by rw [r.len]; exact q)
theorem d_catT {a : Addr} (S : Sy K H0 M H L Ds) (h1 : Dt K M H (.tuple ds) (.ref p)) (h2 : Dt K M H (.tuple es) (.ref a)) (n1 : ds ≠ []) (n2 : es ≠ []) (hz : ds.length + es.length ≤ 100000)
    (q : ∀ p H', Sy K H0 M H' L (Ds ++ [(.tuple (ds ++ es), .ref p)]) → Q (.ref p) H') : rCatT K (.ref p) (.ref a) H Q := by
  obtain ⟨xs, s, r⟩ := h1.tup
  obtain ⟨ys, s2, r2⟩ := h2.tup
  have l1 := r.len
  have l2 := r2.len
  refine n_catT s.1 s2.1 (fun z => ?_) (fun z => ?_) (by omega) (d_newT S (r.append r2) q)
  · subst z; exact n1 (List.eq_nil_of_length_eq_zero l1.symm)
  · subst z; exact n2 (List.eq_nil_of_length_eq_zero l2.symm)
theorem d_tupleL (S : Sy K H0 M H L Ds) (h : Dt K M H (.list ds) (.ref p)) (q : ∀ p H', Sy K H0 M H' L (Ds ++ [(.tuple ds, .ref p)]) → Q (.ref p) H') : rTupOf K [.ref p] H Q := by
  obtain ⟨xs, s, r⟩ := h.lst
  exact n_tupleL s.1 (d_newT S r q)
theorem d_tupleT (h : Dt K M H (.tuple ds) (.ref p)) (q : Q (.ref p) H) : rTupOf K [.ref p] H Q := by
  obtain ⟨xs, s, r⟩ := h.tup
  exact n_tupleT s.1 q
theorem d_listL (S : Sy K H0 M H L Ds) (h : Dt K M H (.list ds) (.ref p)) (q : ∀ p H', Sy K H0 M H' L (Ds ++ [(.list ds, .ref p)]) → Q (.ref p) H') : rListOf K [.ref p] H Q := by
  obtain ⟨xs, s, r⟩ := h.lst
  exact n_list (.inl s.1) (d_newL S r q)
theorem d_listT (S : Sy K H0 M H L Ds) (h : Dt K M H (.tuple ds) (.ref p)) (q : ∀ p H', Sy K H0 M H' L (Ds ++ [(.list ds, .ref p)]) → Q (.ref p) H') : rListOf K [.ref p] H Q := by
  obtain ⟨xs, s, r⟩ := h.tup
  exact n_list (.inr s.1) (d_newL S r q)
/-- slices -/
def cutG {α : Type} (xs : List α) (lo hi : Option Int) : List α := (xs.drop (HT.sIx xs.length 0 lo)).take (HT.sIx xs.length xs.length hi - HT.sIx xs.length 0 lo)
theorem DtL.drop : ∀ {ds : List PyData} {vs : List V} (n : Nat), DtL K M H ds vs → DtL K M H (ds.drop n) (vs.drop n)
  | _, _, 0, h => h
  | [], vs, n + 1, h => by simp only [DtL] at h; subst h; simp [DtL]
  | d :: ds, vs, n + 1, h => by
    simp only [DtL] at h
    obtain ⟨v, r, rfl, _, h2⟩ := h
    exact DtL.drop n h2
theorem DtL.take : ∀ {ds : List PyData} {vs : List V} (n : Nat), DtL K M H ds vs → DtL K M H (ds.take n) (vs.take n)
  | _, _, 0, h => by simp [DtL]
  | [], vs, n + 1, h => by simp only [DtL] at h; subst h; simp [DtL]
  | d :: ds, vs, n + 1, h => by
    simp only [DtL] at h
    obtain ⟨v, r, rfl, h1, h2⟩ := h
    exact DtL.cons' h1 (DtL.take n h2)
theorem DtL.cut {lo hi : Option Int} (h : DtL K M H ds vs) : DtL K M H (cutG ds lo hi) (cutV vs lo hi) := by
  unfold cutG cutV
  rw [h.len]
  exact (h.drop _).take _
theorem d_slL {lo hi : Option Int} (S : Sy K H0 M H L Ds) (h : Dt K M H (.list ds) (.ref p)) (q : ∀ p H', Sy K H0 M H' L (Ds ++ [(.list (cutG ds lo hi), .ref p)]) → Q (.ref p) H') : rSlL K (.ref p) lo hi H Q := by
  obtain ⟨xs, s, r⟩ := h.lst
  exact n_slL s.1 (d_newL S r.cut q)
/-- what stands still through a comprehension -/
theorem SLA.still (h : SLA K M H p xs) : ∀ (D : Addr) (H' : Hp), H D = none → Fr (D :: M) H H' → SqL K H' p xs := fun _ _ hD f => ((h.cons hD).mono f).1
theorem STA.still (h : STA K M H p xs) : ∀ (D : Addr) (H' : Hp), H D = none → Fr (D :: M) H H' → SqT K H' p xs := fun _ _ hD f => ((h.cons hD).mono f).1
theorem Sy.over (S : Sy K H0 M H L Ds) {N : List Addr} {H1 : Hp} {L' : List (Addr × HO)} {Ds' : List (PyData × V)} (T : Sy K (b0 H) N H1 L' Ds') : Sy K H0 N H1 L' Ds' := ⟨S.fr.trans (Fr.wk0 T.fr), T.ent, T.nd, T.dat, T.dom, fun b hb => keep0 T.fr (S.nom b hb)⟩
/-- [e for x in ..]: each e's value is data; the list is data -/
theorem lcW_data (w : Walk J n G (fun i H x H' => H' = H ∧ y i x)) (S : Sy K H0 M H L Ds) (hG : ∀ (D : Addr) (H' : Hp), H D = none → Fr [] H H' → G H') (hn : n ≤ 100000) (g : Nat → PyData)
    (hte : ∀ (i : Nat) (x : V) (D : Addr) (acc : List V) (Ds' : List (PyData × V)) (H' : Hp) (Q' : VK), i < n → y i x → H D = none → Sy K (b0 H) (D :: M) H' (L ++ [(D, .lst acc)]) (Ds ++ Ds') →
      (∀ (u : V) (H'' : Hp), Sy K (b0 H) (D :: M) H'' (L ++ [(D, .lst acc)]) (Ds ++ Ds') → Dt K (D :: M) H'' (g i) u → Q' u H'') → te ((σ.set j none).set j (some x)) H' Q')
    (k : ∀ D H', Sy K H0 M H' L (Ds ++ [(.list ((List.range n).map g), .ref D)]) → Q (.ref D) H') : LcO (gName j) tYes te [j] σ Q J H := by
  intro D hD
  have DF := hD
  have S1 : Sy K (b0 H) M H L Ds := S.rebase
  refine lc_it w (fun i H' => i ≤ n ∧ ∃ vs : List V, vs.length = i ∧ Sy K (b0 H) (D :: M) H' (L ++ [(D, .lst vs)]) (Ds ++ ((List.range i).map g).zip vs)) ⟨Nat.zero_le _, [], rfl, by rw [List.range_zero, List.map_nil, List.zip_nil_left, List.append_nil]; exact S1.newM hD⟩ (fun i H' _ S' => by
    obtain ⟨_, vs, _, T⟩ := S'
    exact hG D H' hD T.fr) ?_ ?_
  · rintro i x H2 H' hi ⟨_, vs, hl, T⟩ ⟨rfl, hy⟩
    refine ⟨wipe_one _, ?_⟩
    refine hte i x D vs _ H' _ hi hy hD T fun u H'' T2 hu => ?_
    have gD : (L ++ [(D, HO.lst vs)])[L.length]? = some (D, .lst vs) := by simp
    refine ⟨vs, T2.get L.length gD, szl (by omega), by omega, vs ++ [u], by simp [hl], ?_⟩
    have T3 := (T2.addD hu).set (o' := .lst (vs ++ [u])) L.length gD ⟨List.mem_cons_self .., .inr DF⟩
    rw [show (L ++ [(D, HO.lst vs)]).set L.length (D, .lst (vs ++ [u])) = L ++ [(D, .lst (vs ++ [u]))] by simp] at T3
    rw [List.range_succ, List.map_append, List.map_singleton, zip_more (by simp [hl]), ← List.append_assoc]
    exact T3
  · rintro H' ⟨_, vs, hl, T⟩
    have T1 : Sy K (b0 H) (D :: M) H' L Ds := (T.sub (List.sublist_append_left _ _)).subD (fun x hx => List.mem_append_left _ hx)
    have T2 := (S.over T1).dropM
    refine k D H' (T2.addD ?_)
    have gD : (L ++ [(D, HO.lst vs)])[L.length]? = some (D, .lst vs) := by simp
    have hd : DtL K M H' ((List.range n).map g) vs := (DtL.of_zip (by simp [hl]) fun x hx => T.dat x (List.mem_append_right _ hx)).wk fun _ z => List.mem_cons_of_mem _ z
    exact Dt.lstI ⟨T.sl L.length gD, .inl (S.notM hD)⟩ hd
theorem lcW_none (w : Walk J n G (fun i H x H' => H' = H ∧ y i x)) (S : Sy K H0 M H L Ds) (hG : ∀ (D : Addr) (H' : Hp), H D = none → Fr [] H H' → G H')
    (ht : ∀ (i : Nat) (x : V) (D : Addr) (H' : Hp) (Q' : Bool → Hp → Prop), i < n → y i x → Sy K (b0 H) (D :: M) H' (L ++ [(D, .lst [])]) Ds → (∀ H'', Sy K (b0 H) (D :: M) H'' (L ++ [(D, .lst [])]) Ds → Q' false H'') → tt ((σ.set j none).set j (some x)) H' Q')
    (k : ∀ D H', Sy K H0 M H' L (Ds ++ [(.list [], .ref D)]) → Q (.ref D) H') : LcO (gName j) tt te [j] σ Q J H := by
  intro D hD
  have DF := hD
  refine lc_it w (fun _ H' => Sy K (b0 H) (D :: M) H' (L ++ [(D, .lst [])]) Ds) (S.rebase.newM hD) (fun i H' _ T => hG D H' hD T.fr) ?_ ?_
  · rintro i x H2 H' hi T ⟨rfl, hy⟩
    refine ⟨wipe_one _, ?_⟩
    refine ht i x D H' _ hi hy T fun H'' T2 => ?_
    exact x_iteF rfl T2
  · intro H' T
    have T1 : Sy K (b0 H) (D :: M) H' L Ds := T.sub (List.sublist_append_left _ _)
    have T2 := (S.over T1).dropM
    refine k D H' (T2.addD ?_)
    have gD : (L ++ [(D, HO.lst [])])[L.length]? = some (D, .lst []) := by simp
    exact Dt.lstI ⟨T.sl L.length gD, .inl (S.notM hD)⟩ DtL.nil'
theorem x_iEw {R : It → Hp → Prop} {m : Nat} (hv : σ[m]? = some (some (.ref p))) (h : Dt K M H (.list ds) (.ref p) ∨ Dt K M H (.tuple ds) (.ref p))
    (q : ∀ J G xs, DtL K M H ds xs → Walk J ds.length G (fun i H x H' => H' = H ∧ xs[i]? = some x) → (∀ (D : Addr) (H' : Hp), H D = none → Fr [] H H' → G H') → R J H) : iEi K (tVar m) σ H R := by
  rcases h with h | h
  · obtain ⟨xs, s, r⟩ := h.lst
    exact .inl ⟨_, hv, p, rfl, ⟨xs, s.1⟩, q _ _ xs r (by rw [← r.len]; exact walk_list) (fun D H' hD f => s.still D H' hD (Fr.wk0 f))⟩
  · obtain ⟨xs, s, r⟩ := h.tup
    exact .inr ⟨_, hv, p, rfl, ⟨xs, s.1⟩, q _ _ xs r (by rw [← r.len]; exact walk_tup) (fun D H' hD f => s.still D H' hD (Fr.wk0 f))⟩
/-- over a list that is data, a range, a range by steps -/
theorem lcD_data (S : Sy K H0 M H L Ds) (h : Dt K M H (.list ds) (.ref p)) (hn : ds.length ≤ 100000) (g : Nat → PyData)
    (hte : ∀ (i : Nat) (d : PyData) (x : V) (D : Addr) (acc : List V) (Ds' : List (PyData × V)) (H' : Hp) (Q' : VK), ds[i]? = some d → Dt K M H d x → Dt K (D :: M) H' d x → Sy K (b0 H) (D :: M) H' (L ++ [(D, .lst acc)]) (Ds ++ Ds') →
      (∀ (u : V) (H'' : Hp), Sy K (b0 H) (D :: M) H'' (L ++ [(D, .lst acc)]) (Ds ++ Ds') → Dt K (D :: M) H'' (g i) u → Q' u H'') → te ((σ.set j none).set j (some x)) H' Q')
    (k : ∀ D H', Sy K H0 M H' L (Ds ++ [(.list ((List.range ds.length).map g), .ref D)]) → Q (.ref D) H') : LcO (gName j) tYes te [j] σ Q (Itl K p) H := by
  obtain ⟨xs, s, r⟩ := h.lst
  have hl := r.len
  refine lcW_data (y := fun i x => xs[i]? = some x) (n := ds.length) (by rw [← hl]; exact walk_list) S (fun D H' hD f => s.still D H' hD (Fr.wk0 f)) hn g (fun i x D acc Ds' H' Q' hi hx hDn S' kk => ?_) k
  obtain ⟨d, hd⟩ := at_lt hi
  obtain ⟨u, hu, w⟩ := r.at hd
  rw [hx] at hu; cases hu
  exact hte i d x D acc Ds' H' Q' hd w ((w.cons hDn).mono (Fr.wk0 S'.fr)) S' kk
/-- for k in range(0, n, 3): one turn a piece -/
def pieceN (n : Nat) : Nat := (n + 2) / 3
theorem range3_n {n : Nat} (h : n ≤ 1000000) : RgC 0 (n : Int) 3 (pieceN n) := by
  have e : Builtin.Range.rangeSize 0 (n : Int) 3 = (pieceN n : Int) := by
    unfold Builtin.Range.rangeSize pieceN
    rw [if_pos (by decide)]
    split <;> omega
  refine ⟨by decide, by decide, ?_, e⟩
  unfold Builtin.Range.small
  rw [e]
  have hb : (pieceN n : Int) ≤ 400000 ∧ 0 ≤ (pieceN n : Int) := by unfold pieceN; omega
  have hn : (0 : Int) ≤ (n : Int) ∧ (n : Int) ≤ 1000000 := ⟨by omega, by omega⟩
  clear e
  generalize (pieceN n : Int) = m at *
  generalize (n : Int) = n' at *
  have f : ∀ x : Int, -10000000 ≤ x → x ≤ 10000000 → Builtin.Range.rangeFitsLong x = true := fun x h1 h2 => by
    unfold Builtin.Range.rangeFitsLong
    rw [Bool.and_eq_true]
    exact ⟨decide_eq_true (by omega), decide_eq_true (by omega)⟩
  rw [f 0 (by omega) (by omega), f n' (by omega) (by omega), f 3 (by omega) (by omega)]
  rw [f m (by omega) (by omega), f (n' + (3 - 1)) (by omega) (by omega), if_pos (by decide)]
  simp
theorem x_iR3 {ta : TA} {R : It → Hp → Prop} (q : ta σ H fun vs H1 => ∃ (i j c : Int) (n : Nat), vs = [.int i, .int j, .int c] ∧ RgC i j c n ∧ R (Itc i c n) H1) : iRng3 ta σ H R := q
theorem walk_rangeC' {lo c : Int} {n : Nat} : Walk (Itc lo c n) n (fun _ => True) (fun i H x H' => H' = H ∧ x = .int (lo + (i : Nat) * c)) := walk_rangeC
theorem walk_range' {lo : Int} {n : Nat} : Walk (Itr lo n) n (fun _ => True) (fun i H x H' => H' = H ∧ x = .int (lo + i)) := walk_range
end

/-! ### defs on data: what is handed in is data clear of M, so is what comes out; nothing else is changed -/
def spD {α : Type} (args : α → List PyData) (pre : α → Prop) (res : α → PyData) (K : PySem.W.Frag) : Sp := fun vs H Q _ => ∃ (M : List Addr) (x : α), (∀ a ∈ M, ∃ o, H a = some o) ∧ DtL K M H (args x) vs ∧ pre x ∧
  ∀ v H', Fr [] H H' → Dt K M H' (res x) v → Q v H'
section
variable {α : Type} {args : α → List PyData} {pre : α → Prop} {res : α → PyData} {K : PySem.W.Frag} {M : List Addr} {H : Hp} {H0 : Bs} {L : List (Addr × HO)} {Ds : List (PyData × V)} {Q : VK} {E : XK} {vs : List V} {ds : List PyData} {σ : L2.St} {p : Addr} {n : Nat} {gs : TGs}
theorem spD_len {m : Nat} (h : spD args pre res K vs H Q E) (e : ∀ x, (args x).length = m) : vs.length = m := by
  obtain ⟨M, x, _, hd, _⟩ := h
  rw [hd.len, e]
theorem use_D (x : α) (S : Sy K H0 M H L Ds) (hd : DtL K M H (args x) vs) (hp : pre x) (k : ∀ v H', Sy K H0 M H' L (Ds ++ [(res x, v)]) → Q v H') : spD args pre res K vs H Q E :=
  ⟨M, x, S.dom, hd, hp, fun v H' f hv => k v H' ((S.ex f).addD hv)⟩
theorem Sy.ofD (hdom : ∀ a ∈ M, ∃ o, H a = some o) (hd : DtL K M H ds vs) : Sy K (b0 H) M H [] (ds.zip vs) :=
  Sy.start _ _ _ (fun _ z => nomatch z) (by simp) (fun x hx => by
    obtain ⟨i, hi⟩ := List.getElem?_of_mem hx
    rw [List.getElem?_zip_eq_some] at hi
    obtain ⟨v, hv, w⟩ := hd.at hi.1
    rw [hi.2] at hv; cases hv; exact w) hdom
theorem d_gtup {Q : L2.St → Hp → Prop} (h : Dt K M H (.tuple ds) (.ref p)) (e : ds.length = n) (q : ∀ xs, DtL K M H ds xs → gs xs σ H Q) : gTup K n gs (.ref p) σ H Q := by
  obtain ⟨xs, s, r⟩ := h.tup
  exact ⟨p, xs, rfl, s.1, by rw [r.len, e], q xs r⟩
theorem Dt.sq {ns : List Int} (h : Dt K M H (.list (ns.map .int)) (.ref p) ∨ Dt K M H (.tuple (ns.map .int)) (.ref p)) : SqE K H p (ns.map V.int) := by
  rcases h with h | h
  · obtain ⟨xs, s, r⟩ := h.lst
    rw [DtL.ints.mp r] at s; exact .inl s.1
  · obtain ⟨xs, s, r⟩ := h.tup
    rw [DtL.ints.mp r] at s; exact .inr s.1
theorem du_sums {ns : List Int} (S : Sy K H0 M H L Ds) (h : Dt K M H (.list (ns.map .int)) (.ref p) ∨ Dt K M H (.tuple (ns.map .int)) (.ref p))
    (k : ∀ t H', Sy K H0 M H' L (Ds ++ [(.tuple [.int (sumsF ns).1, .int (sumsF ns).2], .ref t)]) → Q (.ref t) H') : spSums K [.ref p] H Q E := by
  refine ⟨p, ns.map some, rfl, by rw [← ints_ov]; exact Dt.sq h, fun z => ?_, fun ms t hm ht => ?_⟩
  · rw [allI_some] at z; cases z
  · rw [allI_some] at hm; cases hm
    exact d_newT S (DtL.cons' Dt.int' (DtL.cons' Dt.int' DtL.nil')) k t ht
theorem du_seal {ns : List Int} {key : Int} (h : Dt K M H (.list (ns.map .int)) (.ref p) ∨ Dt K M H (.tuple (ns.map .int)) (.ref p)) (k0 : 0 ≤ key) (k1 : key < 9973) (k : Q (.int (sealF key ns)) H) : spSeal K [.int key, .ref p] H Q E :=
  ⟨key, p, ns, rfl, k0, k1, Dt.sq h, k⟩
theorem du_name {ns : List Int} (S : Sy K H0 M H L Ds) (h : Dt K M H (.list (ns.map .int)) (.ref p) ∨ Dt K M H (.tuple (ns.map .int)) (.ref p)) (hz : ns.length ≤ 10000)
    (k : ∀ t H', Sy K H0 M H' L (Ds ++ [(tripD (titleF ns), .ref t)]) → Q (.ref t) H') : spName K [.ref p] H Q E := by
  refine ⟨p, ns.map some, rfl, by rw [← ints_ov]; exact Dt.sq h, by rw [List.length_map]; omega, fun z => ?_, fun ms t H' hm f ht e => ?_⟩
  · rw [allI_some] at z; cases z
  · rw [allI_some] at hm; cases hm
    refine k t H' ((S.ex f).addD ?_)
    exact Dt.tupI ⟨.inl (.inl e), .inl (S.notM ht)⟩ (DtL.cons' Dt.int' (DtL.cons' Dt.int' (DtL.cons' Dt.int' DtL.nil')))
theorem du_joined {ts : List (Int × Int × Int)} (S : Sy K H0 M H L Ds) (h : Dt K M H (.list (ts.map tripD)) (.ref p) ∨ Dt K M H (.tuple (ts.map tripD)) (.ref p)) (hb : ∀ t ∈ ts, 0 ≤ t.2.2 ∧ t.2.2 ≤ 100000)
    (k : ∀ t H', Sy K H0 M H' L (Ds ++ [(.tuple [.int (joinF ts).1, .int (joinF ts).2], .ref t)]) → Q (.ref t) H') : spJoined K [.ref p] H Q E := by
  have go : ∀ t H', Fr [] H H' → H t = none → H' t = some (.tup [.int (joinF ts).1, .int (joinF ts).2]) → Q (.ref t) H' := fun t H' f ht e => by
    refine k t H' ((S.ex f).addD ?_)
    exact Dt.tupI ⟨.inl (.inl e), .inl (S.notM ht)⟩ (DtL.cons' Dt.int' (DtL.cons' Dt.int' DtL.nil'))
  rcases h with h | h
  · obtain ⟨xs, s, r⟩ := h.lst
    exact ⟨p, xs, ts, rfl, .inl s.1, r.wk (fun _ z => nomatch z), hb, go⟩
  · obtain ⟨xs, s, r⟩ := h.tup
    exact ⟨p, xs, ts, rfl, .inr s.1, r.wk (fun _ z => nomatch z), hb, go⟩
theorem du_lsums {ns : List Int} (S : Sy K H0 M H L Ds) (h : Dt K M H (.list (ns.map .int)) (.ref p)) (hz : ns.length ≤ 10000)
    (k : ∀ t H', Sy K H0 M H' L (Ds ++ [(.tuple [.int (sumsF ns).1, .int (sumsF ns).2], .ref t)]) → Q (.ref t) H') : spLSums K [.ref p] H Q E := by
  obtain ⟨xs, s, r⟩ := h.lst
  rw [DtL.ints.mp r] at s
  refine ⟨p, ns, rfl, s.1, hz, fun t H' f ht e => k t H' ((S.ex f).addD ?_)⟩
  exact Dt.tupI ⟨.inl (.inl e), .inl (S.notM ht)⟩ (DtL.cons' Dt.int' (DtL.cons' Dt.int' DtL.nil'))
end
/-! ### pictures, keys, heads, manifests as data -/
structure Pic where
  v : Int
  cells : List Int
  n : Int
abbrev keysD (ks : List Int) : PyData := .tuple (ks.map .int)
abbrev picD (p : Pic) : PyData := .tuple [.int p.v, .tuple (p.cells.map .int), .int p.n]
def gk (ks : List Int) : Prop := 1 ≤ ks.length ∧ ks.length ≤ 4 ∧ ∀ k ∈ ks, 1 ≤ k ∧ k ≤ 9972
def gp (ks : List Int) (p : Pic) : Prop := 1 ≤ p.v ∧ p.v ≤ 999 ∧ 1 ≤ p.cells.length ∧ p.cells.length ≤ 12 ∧ (∀ c ∈ p.cells, 0 ≤ c ∧ c ≤ 9972) ∧ 0 ≤ p.n ∧ p.n < ks.length
/-- the five numbers from the version on -/
def plainF (p : Pic) : List Int := [p.v, p.cells.length, (sumsF p.cells).1, (sumsF p.cells).2, p.n]
def keyOf (ks : List Int) (p : Pic) : Int := ks.getD p.n.toNat 1
def headF (ks : List Int) (p : Pic) : List Int := plainF p ++ [sealF (keyOf ks p) (plainF p)]
/-- a row in pieces of three -/
def piecesF (ns : List Int) : List (List Int) := (List.range (pieceN ns.length)).map fun i => (ns.drop (3 * i)).take 3
def maniD (ks : List Int) (p : Pic) : PyData := .tuple ((headF ks p).map .int ++ [.tuple (((piecesF p.cells).map titleF).map tripD)])
theorem keyOf_ok {ks : List Int} {p : Pic} (h : gk ks) (g : gp ks p) : ks[p.n.toNat]? = some (keyOf ks p) ∧ 1 ≤ keyOf ks p ∧ keyOf ks p ≤ 9972 := by
  obtain ⟨_, _, h3⟩ := h
  obtain ⟨_, _, _, _, _, g1, g2⟩ := g
  obtain ⟨k, hk⟩ := at_lt (xs := ks) (i := p.n.toNat) (by omega)
  have e : keyOf ks p = k := by unfold keyOf; simp [hk]
  rw [e]
  exact ⟨hk, h3 k (List.mem_of_getElem? hk)⟩
theorem pieces_flat (ns : List Int) : (piecesF ns).flatten = ns := by
  have : ∀ (m : Nat) (ns : List Int), pieceN ns.length = m → (piecesF ns).flatten = ns := by
    intro m
    induction m with
    | zero =>
      intro ns h
      have : ns.length = 0 := by unfold pieceN at h; omega
      have e := List.eq_nil_of_length_eq_zero this
      subst e; rfl
    | succ m ih =>
      intro ns h
      have h2 : pieceN (ns.drop 3).length = m := by
        unfold pieceN at *
        rw [List.length_drop]; omega
      have ih2 := ih (ns.drop 3) h2
      unfold piecesF at *
      rw [h2] at ih2
      rw [h, List.range_succ_eq_map, List.map_cons, List.map_map, List.flatten_cons]
      have e : (List.range m).map ((fun i => (ns.drop (3 * i)).take 3) ∘ Nat.succ) = (List.range m).map fun i => ((ns.drop 3).drop (3 * i)).take 3 := by
        apply List.map_congr_left
        intro i _
        show (ns.drop (3 * (i + 1))).take 3 = _
        rw [List.drop_drop]
        congr 2
        omega
      rw [e, ih2, Nat.mul_zero, List.drop_zero]
      exact List.take_append_drop 3 ns
  exact this _ ns rfl
theorem cutG_piece {α : Type} (xs : List α) (i : Nat) : cutG xs (some ((0 : Int) + (i : Nat) * 3)) (some ((0 : Int) + (i : Nat) * 3 + 3)) = (xs.drop (3 * i)).take 3 := by
  unfold cutG
  rw [show (0 : Int) + (i : Nat) * 3 = ((3 * i : Nat) : Int) by omega, show ((3 * i : Nat) : Int) + 3 = ((3 * i + 3 : Nat) : Int) by omega, HT.sIx_nat, HT.sIx_nat]
  rcases Nat.lt_or_ge xs.length (3 * i) with h | h
  · rw [Nat.min_eq_right (by omega), Nat.min_eq_right (by omega), List.drop_of_length_le (Nat.le_refl _), List.drop_of_length_le (by omega)]
    simp
  · rw [Nat.min_eq_left h]
    rcases Nat.lt_or_ge xs.length (3 * i + 3) with h2 | h2
    · rw [Nat.min_eq_right (by omega), List.take_of_length_le (by rw [List.length_drop]; omega), List.take_of_length_le (by rw [List.length_drop]; omega)]
    · rw [Nat.min_eq_left h2]
      congr 1
      omega

/-! ### slices and sums of a list or a tuple -/
/-- a list or a tuple of data -/
def EDt (K : PySem.W.Frag) (M : List Addr) (H : Hp) (ds : List PyData) (v : V) : Prop := Dt K M H (.list ds) v ∨ Dt K M H (.tuple ds) v
def rSlE (K : PySem.W.Frag) : V → Option Int → Option Int → Hp → VK → Prop := fun x lo hi H Q => rSlL K x lo hi H Q ∨ rSlA K x lo hi H Q
section
variable {X : Cx} {K : PySem.W.Frag} {M : List Addr} {H H' : Hp} {H0 : Bs} {L : List (Addr × HO)} {Ds : List (PyData × V)} {Q : VK} {E : XK} {ds : List PyData} {p : Addr} {vs : List V} {v : V} {i : Int} {d : PyData} {n : Nat}
theorem b_slE (e : X.K = K := by rfl) : SlR X (rSlE K) := by
  subst e
  exact sl_list.or sl_tupA
theorem EDt.mono (h : EDt K M H ds v) (f : Fr M H H') : EDt K M H' ds v := h.elim (fun h => .inl (h.mono f)) (fun h => .inr (h.mono f))
theorem EDt.cons (h : EDt K M H ds v) (n : H p = none) : EDt K (p :: M) H ds v := h.elim (fun h => .inl (h.cons n)) (fun h => .inr (h.cons n))
theorem EDt.ex (h : EDt K M H ds v) : ∃ p xs, v = .ref p ∧ SqE K H p xs ∧ DtL K M H ds xs := by
  rcases h with h | h
  · simp only [Dt] at h
    obtain ⟨a, xs, rfl, s, r⟩ := h
    exact ⟨a, xs, rfl, .inl s.1, r⟩
  · simp only [Dt] at h
    obtain ⟨a, xs, rfl, s, r⟩ := h
    exact ⟨a, xs, rfl, .inr s.1, r⟩
/-- a slice of the same kind -/
theorem d_slE {lo hi : Option Int} (S : Sy K H0 M H L Ds) (h : EDt K M H ds (.ref p)) (q : ∀ u H', EDt K M H' (cutG ds lo hi) u → Sy K H0 M H' L Ds → Q u H') : rSlE K (.ref p) lo hi H Q := by
  rcases h with h | h
  · obtain ⟨xs, s, r⟩ := h.lst
    refine .inl (n_slL s.1 (d_newL S r.cut fun p' H' S' => ?_))
    exact q _ H' (.inl (S'.d Ds.length (by simp))) (S'.subD fun x hx => List.mem_append_left _ hx)
  · obtain ⟨xs, s, r⟩ := h.tup
    refine .inr ⟨p, xs, rfl, s.1, ?_⟩
    have hz := r.len
    refine ⟨fun z => ?_, fun _ p' hp => ?_⟩
    · refine q _ H (.inr ?_) S
      have e : cutG ds lo hi = ds := by
        unfold cutG
        rw [← hz, z.1, z.2, Nat.sub_zero, List.drop_zero, hz, List.take_length]
      rw [e]; exact h
    · have T := d_newT S (r.cut (lo := lo) (hi := hi)) (Q := fun u H' => ∃ ds', ds' = cutG ds lo hi ∧ EDt K M H' ds' u ∧ Sy K H0 M H' L Ds) (fun p' H' S' => ⟨_, rfl, .inr (S'.d Ds.length (by simp)), S'.subD fun x hx => List.mem_append_left _ hx⟩) p' hp
      obtain ⟨ds', rfl, t1, t2⟩ := T
      exact q _ _ t1 t2
theorem d_tupleE (S : Sy K H0 M H L Ds) (h : EDt K M H ds (.ref p)) (q : ∀ p H', Dt K M H' (.tuple ds) (.ref p) → Sy K H0 M H' L Ds → Q (.ref p) H') : rTupOf K [.ref p] H Q := by
  rcases h with h | h
  · refine d_tupleL S h fun p' H' S' => q p' H' (S'.d Ds.length (by simp)) (S'.subD fun x hx => List.mem_append_left _ hx)
  · exact d_tupleT h (q p H h S)
theorem d_lenE (h : EDt K M H ds (.ref p)) (q : Q (.int ds.length) H) : rLen K [.ref p] H Q := h.elim (fun h => d_lenL h q) (fun h => d_lenT h q)
theorem EDt.sqe (h : EDt K M H ds (.ref p)) : ∃ xs, SqE K H p xs ∧ DtL K M H ds xs := by
  obtain ⟨p', xs, e, s, r⟩ := h.ex
  cases e; exact ⟨xs, s, r⟩
theorem EDt.ints {ns : List Int} (h : EDt K M H (ns.map .int) (.ref p)) : SqE K H p (ns.map V.int) := Dt.sq h
theorem d_ixEI {n' : Int} (h : EDt K M H ds (.ref p)) (e : atI ds i = some (.int n')) (q : Q (.int n') H) : rIx K (.ref p) (.int i) H Q := h.elim (fun h => .inl (d_ixLI h e q)) (fun h => .inr (.inl (d_ixTI h e q)))
/-- defs on a list or a tuple of whole numbers -/
def spE (pre : List Int → Prop) (res : List Int → PyData) (K : PySem.W.Frag) : Sp := fun vs H Q _ => ∃ (M : List Addr) (ns : List Int) (v : V), vs = [v] ∧ (∀ a ∈ M, ∃ o, H a = some o) ∧ EDt K M H (ns.map .int) v ∧ pre ns ∧
  ∀ u H', Fr [] H H' → Dt K M H' (res ns) u → Q u H'
theorem use_E {pre : List Int → Prop} {res : List Int → PyData} (ns : List Int) (S : Sy K H0 M H L Ds) (h : EDt K M H (ns.map .int) v) (hp : pre ns) (k : ∀ u H', Sy K H0 M H' L (Ds ++ [(res ns, u)]) → Q u H') : spE pre res K [v] H Q E :=
  ⟨M, ns, v, rfl, S.dom, h, hp, fun u H' f hu => k u H' ((S.ex f).addD hu)⟩
theorem x_iEe {σ : L2.St} {R : It → Hp → Prop} {m : Nat} (hv : σ[m]? = some (some (.ref p))) (h : EDt K M H ds (.ref p))
    (q : ∀ J G xs, DtL K M H ds xs → Walk J ds.length G (fun i H x H' => H' = H ∧ xs[i]? = some x) → (∀ (D : Addr) (H' : Hp), H D = none → Fr [] H H' → G H') → R J H) : iEi K (tVar m) σ H R := x_iEw hv h q
end

/-! ### tests that the facts decide; empty lists -/
theorem nd_of {p : Prop} [Decidable p] (h : p) : (!decide p) = false := by simp [h]
theorem nd_not {p : Prop} [Decidable p] (h : ¬ p) : (!decide p) = true := by simp [h]
theorem q_b {Q : Bool → Hp → Prop} {b c : Bool} {H : Hp} (e : b = c) (q : Q c H) : Q b H := e ▸ q
section
variable {K : PySem.W.Frag} {M : List Addr} {H : Hp} {H0 : Bs} {L : List (Addr × HO)} {Ds : List (PyData × V)} {Q : VK} {d e : PyData} {v u : V} {a b : Addr}
theorem d_neNil (h1 : Dt K M H (.list []) v) (h2 : Dt K M H (.list []) u) (q : Q (.bl false) H) : rNeD K v u H Q := n_neD h1.dp h2.dp (by decide +kernel) (by decide +kernel) (by simpa [PyData.eqv, PyData.eqvAll] using q)
theorem d_eqNil (h1 : Dt K M H (.list []) v) (h2 : Dt K M H (.list []) u) (q : Q (.bl true) H) : rEqD K v u H Q := n_eqD h1.dp h2.dp (by decide +kernel) (by decide +kernel) (by simpa [PyData.eqv, PyData.eqvAll] using q)
theorem d_neS (h1 : Dt K M H d v) (h2 : Dt K M H d u) (s : SeqAt.shaped d = true) (q : Q (.bl false) H) : rNeD K v u H Q := by
  refine n_neD h1.dp h2.dp s s ?_
  rw [SeqAt.eqv_refl d (SeqAt.canLay_of_shaped s)]; exact q
theorem d_eqS (h1 : Dt K M H d v) (h2 : Dt K M H d u) (s : SeqAt.shaped d = true) (q : Q (.bl true) H) : rEqD K v u H Q := by
  refine n_eqD h1.dp h2.dp s s ?_
  rw [SeqAt.eqv_refl d (SeqAt.canLay_of_shaped s)]; exact q
end

/-! ### drawn data: by a row; the row alone is changed, what comes out is clear of M -/
def spDrawD {α : Type} (args : α → List PyData) (pre : α → Prop) (res : α → PyData → Prop) (K : PySem.W.Frag) : Sp := fun vs H Q _ => ∃ (M : List Addr) (x : α) (r a : Addr) (q : Rho) (ns : List Int) (ws : List V), vs = .ref r :: ws ∧
  H r = some (rowO a q) ∧ q.ok ∧ SLA K M H a (ns.map V.int) ∧ ns.length ≤ 63 ∧ r ∈ M ∧ (∀ b ∈ M, ∃ o, H b = some o) ∧ DtL K M H (args x) ws ∧ pre x ∧
  ∀ d v q' H', res x d → q'.ok → Fr [r] H H' → H' r = some (rowO a q') → Dt K M H' d v → Q v H'
section
variable {α : Type} {args : α → List PyData} {pre : α → Prop} {res : α → PyData → Prop} {K : PySem.W.Frag} {M : List Addr} {H : Hp} {H0 : Bs} {L : List (Addr × HO)} {Ds : List (PyData × V)} {Q : VK} {E : XK} {vs ws : List V} {r a p D : Addr} {q : Rho} {ns : List Int} {ds : List PyData} {j : Nat} {σ : L2.St} {te : TE} {i : Int} {d : PyData} {n : Nat}
theorem spDrawD_len {m : Nat} (h : spDrawD args pre res K vs H Q E) (e : ∀ x, (args x).length + 1 = m) : vs.length = m := by
  obtain ⟨M, x, r, a, q, ns, ws, rfl, _, _, _, _, _, _, hd, _⟩ := h
  rw [List.length_cons, hd.len, e]
theorem use_DD (x : α) (S : Sy K H0 M H ((r, rowO a q) :: L) ((script ns, .ref a) :: Ds)) (hM : r ∈ M ∧ H0.may r) (hq : q.ok) (hl : ns.length ≤ 63) (hd : DtL K M H (args x) ws) (hp : pre x)
    (k : ∀ d v q' H', res x d → q'.ok → Sy K H0 M H' ((r, rowO a q') :: L) ((script ns, .ref a) :: (Ds ++ [(d, v)])) → Q v H') : spDrawD args pre res K (.ref r :: ws) H Q E :=
  ⟨M, x, r, a, q, ns, ws, rfl, S.get 0 rfl, hq, dt_script.mp (S.d 0 rfl), hl, hM.1, S.dom, hd, hp, fun d v q' H' hr ok f e hv => k d v q' H' hr ok ((S.drawn hM f e).addD hv)⟩
theorem Sy.ofDD (h0 : H r = some (rowO a q)) (hs : SLA K M H a (ns.map V.int)) (hr : r ∈ M) (hdom : ∀ b ∈ M, ∃ o, H b = some o) (hd : DtL K M H ds ws) : Sy K ⟨H, [r]⟩ M H [(r, rowO a q)] ((script ns, .ref a) :: ds.zip ws) :=
  Sy.start _ _ _ (fun x hx => by rw [List.mem_singleton.mp hx]; exact h0) (by simp) (fun x hx => by
      rcases List.mem_cons.mp hx with rfl | hx
      · exact dt_script.mpr hs
      · obtain ⟨i, hi⟩ := List.getElem?_of_mem hx
        rw [List.getElem?_zip_eq_some] at hi
        obtain ⟨v, hv, w⟩ := hd.at hi.1
        rw [hi.2] at hv; cases hv; exact w) hdom (fun b hb => by rw [List.mem_singleton.mp hb]; exact ⟨_, h0⟩)
theorem lcD_dataT (S : Sy K H0 M H L Ds) (h : Dt K M H (.tuple ds) (.ref p)) (hn : ds.length ≤ 100000) (g : Nat → PyData)
    (hte : ∀ (i : Nat) (d : PyData) (x : V) (D : Addr) (acc : List V) (Ds' : List (PyData × V)) (H' : Hp) (Q' : VK), ds[i]? = some d → Dt K M H d x → Dt K (D :: M) H' d x → Sy K (b0 H) (D :: M) H' (L ++ [(D, .lst acc)]) (Ds ++ Ds') →
      (∀ (u : V) (H'' : Hp), Sy K (b0 H) (D :: M) H'' (L ++ [(D, .lst acc)]) (Ds ++ Ds') → Dt K (D :: M) H'' (g i) u → Q' u H'') → te ((σ.set j none).set j (some x)) H' Q')
    (k : ∀ D H', Sy K H0 M H' L (Ds ++ [(.list ((List.range ds.length).map g), .ref D)]) → Q (.ref D) H') : LcO (gName j) tYes te [j] σ Q (Itt K p) H := by
  obtain ⟨xs, s, r⟩ := h.tup
  have hl := r.len
  refine lcW_data (y := fun i x => xs[i]? = some x) (n := ds.length) (by rw [← hl]; exact walk_tup) S (fun D H' hD f => s.still D H' hD (Fr.wk0 f)) hn g (fun i x D acc Ds' H' Q' hi hx hDn S' kk => ?_) k
  obtain ⟨d, hd⟩ := at_lt hi
  obtain ⟨u, hu, w⟩ := r.at hd
  rw [hx] at hu; cases hu
  exact hte i d x D acc Ds' H' Q' hd w ((w.cons hDn).mono (Fr.wk0 S'.fr)) S' kk
theorem d_slT {lo hi : Option Int} (S : Sy K H0 M H L Ds) (h : Dt K M H (.tuple ds) (.ref p)) (hw : ¬ (HT.sIx ds.length 0 lo = 0 ∧ HT.sIx ds.length ds.length hi = ds.length))
    (q : ∀ p H', Sy K H0 M H' L (Ds ++ [(.tuple (cutG ds lo hi), .ref p)]) → Q (.ref p) H') : rSlT K (.ref p) lo hi H Q := by
  obtain ⟨xs, s, r⟩ := h.tup
  exact ⟨p, xs, rfl, s.1, by rw [r.len]; exact hw, d_newT S r.cut q⟩
end
theorem sumsF_ok (ns : List Int) : 0 ≤ (sumsF ns).1 ∧ (sumsF ns).1 < 9973 ∧ 0 ≤ (sumsF ns).2 ∧ (sumsF ns).2 < 9973 := by
  rw [sums_is]
  exact ⟨Int.emod_nonneg _ (by decide), Int.emod_lt_of_pos _ (by decide), Int.emod_nonneg _ (by decide), Int.emod_lt_of_pos _ (by decide)⟩
theorem plainF_ok {ks : List Int} {p : Pic} (hk : ks.length ≤ 4) (h : gp ks p) : ∀ n ∈ plainF p, 0 ≤ n ∧ n < 9973 := by
  obtain ⟨h1, h2, h3, h4, _, h6, h7⟩ := h
  have s := sumsF_ok p.cells
  intro n hn
  unfold plainF at hn
  simp only [List.mem_cons, List.not_mem_nil, or_false] at hn
  rcases hn with rfl | rfl | rfl | rfl | rfl <;> omega
theorem join_pieces (ns : List Int) : joinF ((piecesF ns).map titleF) = sumsF ns := by rw [join_titles, pieces_flat]
theorem sum_pieces (ns : List Int) : (((piecesF ns).map titleF).map fun t => t.2.2).sum = ns.length := by
  have : ∀ cs : List (List Int), ((cs.map titleF).map fun t => t.2.2).sum = (cs.flatten.length : Int) := by
    intro cs
    induction cs with
    | nil => rfl
    | cons c r ih =>
      rw [List.map_cons, List.map_cons, List.sum_cons, ih, List.flatten_cons, List.length_append]
      simp [titleF]
  rw [this, pieces_flat]
theorem piece_len {ns c : List Int} (h : c ∈ piecesF ns) : c.length ≤ 3 := by
  obtain ⟨j, hj, rfl⟩ := List.mem_map.mp h
  rw [List.length_take]; omega
theorem Dt.refT {K : PySem.W.Frag} {M : List Addr} {H : Hp} {ds : List PyData} {v : V} (h : Dt K M H (.tuple ds) v) : ∃ a, v = .ref a := by
  simp only [Dt] at h
  obtain ⟨a, _, rfl, _⟩ := h
  exact ⟨a, rfl⟩
theorem Dt.refL {K : PySem.W.Frag} {M : List Addr} {H : Hp} {ds : List PyData} {v : V} (h : Dt K M H (.list ds) v) : ∃ a, v = .ref a := by
  simp only [Dt] at h
  obtain ⟨a, _, rfl, _⟩ := h
  exact ⟨a, rfl⟩

/-! ### manifests: their depth, their parts -/
theorem dep_trips : ∀ ts : List (Int × Int × Int), PyData.depthAll (ts.map tripD) ≤ 1
  | [] => by simp [PyData.depthAll]
  | t :: r => by
    have := dep_trips r
    simp only [List.map_cons, PyData.depthAll, PyData.depth]
    omega
theorem ok_trips : ∀ ts : List (Int × Int × Int), okD.okDL (ts.map tripD) = true
  | [] => by simp [okD.okDL]
  | t :: r => by
    have := ok_trips r
    simp only [List.map_cons, okD.okDL, okD, this, Bool.and_true]
    simp
theorem depthAll_app : ∀ (a b : List PyData), PyData.depthAll (a ++ b) = max (PyData.depthAll a) (PyData.depthAll b)
  | [], b => by simp [PyData.depthAll]
  | x :: a, b => by
    simp only [List.cons_append, PyData.depthAll, depthAll_app a b]; omega
theorem okDL_app : ∀ (a b : List PyData), okD.okDL (a ++ b) = (okD.okDL a && okD.okDL b)
  | [], b => by simp [okD.okDL]
  | x :: a, b => by simp only [List.cons_append, okD.okDL, okDL_app a b, Bool.and_assoc]
theorem okDL_ints : ∀ ns : List Int, okD.okDL (ns.map .int) = true
  | [] => by simp [okD.okDL]
  | n :: r => by simp [okD.okDL, okD, okDL_ints r]
theorem pieces_len {ns : List Int} (h : ns.length ≤ 12) : (piecesF ns).length ≤ 4 := by
  unfold piecesF pieceN
  rw [List.length_map, List.length_range]; omega
theorem maniD_dep (ks : List Int) (p : Pic) : (maniD ks p).depth ≤ 3 := by
  unfold maniD
  have h := dep_trips ((piecesF p.cells).map titleF)
  simp only [PyData.depth, depthAll_app, dep_ints, PyData.depthAll]
  omega
theorem maniD_ok (ks : List Int) (p : Pic) (h : p.cells.length ≤ 12) : okD (maniD ks p) = true := by
  unfold maniD
  have h1 := pieces_len h
  simp only [okD, okDL_app, okDL_ints, okD.okDL, ok_trips, Bool.and_true, Bool.true_and, Bool.and_eq_true, decide_eq_true_eq, List.length_append, List.length_map, List.length_singleton]
  constructor
  · simp [headF, plainF]
  · omega
section
variable {K : PySem.W.Frag} {M : List Addr} {H : Hp} {H0 : Bs} {L : List (Addr × HO)} {Ds : List (PyData × V)} {Q : VK} {ds es : List PyData} {p : Addr} {i : Int}
theorem d_ixTT (S : Sy K H0 M H L Ds) (h : Dt K M H (.tuple ds) (.ref p)) (e : atI ds i = some (.tuple es)) (q : ∀ b, Sy K H0 M H L (Ds ++ [(.tuple es, .ref b)]) → Q (.ref b) H) : rIxT K (.ref p) (.int i) H Q :=
  d_ixT S h e fun u S' => by
    obtain ⟨b, rfl⟩ := (S'.d Ds.length (d := .tuple es) (v := u) (by simp)).refT
    exact q b S'
theorem d_ixLT (S : Sy K H0 M H L Ds) (h : Dt K M H (.list ds) (.ref p)) (e : atI ds i = some (.tuple es)) (q : ∀ b, Sy K H0 M H L (Ds ++ [(.tuple es, .ref b)]) → Q (.ref b) H) : rIxL K (.ref p) (.int i) H Q :=
  d_ixL S h e fun u S' => by
    obtain ⟨b, rfl⟩ := (S'.d Ds.length (d := .tuple es) (v := u) (by simp)).refT
    exact q b S'
end

/-! ## texts -/
section
variable {K : PySem.W.Frag} {M : List Addr} {H : Hp} {H0 : Bs} {L : List (Addr × HO)} {Ds : List (PyData × V)} {Q : VK} {σ : L2.St} {tt : TT} {te : TE} {j : Nat} {p : Addr}
theorem pe_gs {X : Cx} {x : Str} {pos : Pos} {i : Str} (hg : Gl X x) (h : ∃ t, X.mg x = some (.str i t)) (hd : (x == ("__debug__" : Str)) = false := by decide) : PE X (.Name x pos) (tC (.str i)) := by
  obtain ⟨t, e⟩ := h
  exact pe_glob hg e ⟨t, rfl⟩ hd
/-- [e for x in ..], e's value f i, as an exact entry -/
theorem lcW_map {J : It} {n : Nat} {G : Hp → Prop} {y : Nat → V → Prop} (w : Walk J n G (fun i H x H' => H' = H ∧ y i x)) (S : Sy K H0 M H L Ds) (hG : ∀ (D : Addr) (H' : Hp), H D = none → Fr [] H H' → G H') (hn : n ≤ 100000) (f : Nat → V)
    (hte : ∀ (i : Nat) (x : V) (D : Addr) (acc : List V) (H' : Hp) (Q' : VK), i < n → y i x → H D = none → Sy K (b0 H) (D :: M) H' (L ++ [(D, .lst acc)]) Ds →
      (∀ H'', Sy K (b0 H) (D :: M) H'' (L ++ [(D, .lst acc)]) Ds → Q' (f i) H'') → te ((σ.set j none).set j (some x)) H' Q')
    (k : ∀ D H', H D = none → Sy K H0 M H' (L ++ [(D, .lst ((List.range n).map f))]) Ds → Q (.ref D) H') : LcO (gName j) tYes te [j] σ Q J H := by
  intro D hD
  have DF := hD
  refine lc_it w (fun i H' => i ≤ n ∧ Sy K (b0 H) (D :: M) H' (L ++ [(D, .lst ((List.range i).map f))]) Ds) ⟨Nat.zero_le _, S.rebase.newM hD⟩ (fun i H' _ S' => hG D H' hD S'.2.fr) ?_ ?_
  · rintro i x H2 H' hi ⟨_, T⟩ ⟨rfl, hy⟩
    refine ⟨wipe_one _, ?_⟩
    refine hte i x D _ H' _ hi hy hD T fun H'' T2 => ?_
    have gD : (L ++ [(D, HO.lst ((List.range i).map f))])[L.length]? = some (D, .lst ((List.range i).map f)) := by simp
    refine ⟨_, T2.get L.length gD, ?_, by omega, ?_⟩
    · rw [List.length_map, List.length_range]; exact szl (by omega)
    · have T3 := T2.set (o' := .lst ((List.range i).map f ++ [f i])) L.length gD ⟨List.mem_cons_self .., .inr DF⟩
      rw [show (L ++ [(D, HO.lst ((List.range i).map f))]).set L.length (D, .lst ((List.range i).map f ++ [f i])) = L ++ [(D, .lst ((List.range (i + 1)).map f))] by
        simp [List.range_succ]] at T3
      exact T3
  · rintro H' ⟨_, T⟩
    exact k D H' hD (S.over T).dropM
/-- the same over a tuple, a list, that is data -/
theorem lcD_mapT (S : Sy K H0 M H L Ds) {ds : List PyData} (h : Dt K M H (.tuple ds) (.ref p)) (hn : ds.length ≤ 100000) (f : Nat → V)
    (hte : ∀ (i : Nat) (d : PyData) (x : V) (D : Addr) (acc : List V) (H' : Hp) (Q' : VK), ds[i]? = some d → Dt K (D :: M) H' d x → Sy K (b0 H) (D :: M) H' (L ++ [(D, .lst acc)]) Ds →
      (∀ H'', Sy K (b0 H) (D :: M) H'' (L ++ [(D, .lst acc)]) Ds → Q' (f i) H'') → te ((σ.set j none).set j (some x)) H' Q')
    (k : ∀ D H', H D = none → Sy K H0 M H' (L ++ [(D, .lst ((List.range ds.length).map f))]) Ds → Q (.ref D) H') : LcO (gName j) tYes te [j] σ Q (Itt K p) H := by
  obtain ⟨xs, s, r⟩ := h.tup
  have hl := r.len
  refine lcW_map (y := fun i x => xs[i]? = some x) (n := ds.length) (by rw [← hl]; exact walk_tup) S (fun D H' hD f => s.still D H' hD (Fr.wk0 f)) hn f (fun i x D acc H' Q' hi hx hDn S' kk => ?_) k
  obtain ⟨d, hd⟩ := at_lt hi
  obtain ⟨u, hu, w⟩ := r.at hd
  rw [hx] at hu; cases hu
  exact hte i d x D acc H' Q' hd ((w.cons hDn).mono (Fr.wk0 S'.fr)) S' kk
/-- [x for x in a tuple that is data if ..], none taken -/
theorem lcD_noneT (S : Sy K H0 M H L Ds) {ds : List PyData} (h : Dt K M H (.tuple ds) (.ref p))
    (ht : ∀ (i : Nat) (d : PyData) (x : V) (D : Addr) (H' : Hp) (Q' : Bool → Hp → Prop), ds[i]? = some d → Dt K (D :: M) H' d x → Sy K (b0 H) (D :: M) H' (L ++ [(D, .lst [])]) Ds →
      (∀ H'', Sy K (b0 H) (D :: M) H'' (L ++ [(D, .lst [])]) Ds → Q' false H'') → tt ((σ.set j none).set j (some x)) H' Q')
    (k : ∀ D H', Sy K H0 M H' L (Ds ++ [(.list [], .ref D)]) → Q (.ref D) H') : LcO (gName j) tt te [j] σ Q (Itt K p) H := by
  obtain ⟨xs, s, r⟩ := h.tup
  intro D hD
  have w : Walk (Itt K p) ds.length (fun H => SqT K H p xs) (fun i H x H' => H' = H ∧ xs[i]? = some x) := by rw [← r.len]; exact walk_tup
  refine lc_it w (fun _ H' => Sy K (b0 H) (D :: M) H' (L ++ [(D, .lst [])]) Ds) (S.rebase.newM hD) (fun i H' _ T => s.still D H' hD (Fr.wk0 T.fr)) ?_ ?_
  · rintro i x H2 H' hi T ⟨rfl, hy⟩
    refine ⟨wipe_one _, ?_⟩
    obtain ⟨d, hd⟩ := at_lt hi
    obtain ⟨u, hu, w⟩ := r.at hd
    rw [hy] at hu; cases hu
    refine ht i d x D H' _ hd ((w.cons hD).mono (Fr.wk0 T.fr)) T fun H'' T2 => ?_
    exact x_iteF rfl T2
  · intro H' T
    have T1 : Sy K (b0 H) (D :: M) H' L Ds := T.sub (List.sublist_append_left _ _)
    have T2 := (S.over T1).dropM
    refine k D H' (T2.addD ?_)
    have gD : (L ++ [(D, HO.lst [])])[L.length]? = some (D, .lst []) := by simp
    exact Dt.lstI ⟨T.sl L.length gD, .inl (S.notM hD)⟩ DtL.nil'
/-- .. over a text's signs, none taken -/
theorem lcS_none (S : Sy K H0 M H L Ds) {z : Str}
    (ht : ∀ (i c : Nat) (D : Addr) (H' : Hp) (Q' : Bool → Hp → Prop), z.cps[i]? = some c → Sy K (b0 H) (D :: M) H' (L ++ [(D, .lst [])]) Ds →
      (∀ H'', Sy K (b0 H) (D :: M) H'' (L ++ [(D, .lst [])]) Ds → Q' false H'') → tt ((σ.set j none).set j (some (.str ⟨#[c]⟩))) H' Q')
    (k : ∀ D H', Sy K H0 M H' L (Ds ++ [(.list [], .ref D)]) → Q (.ref D) H') : LcO (gName j) tt te [j] σ Q (Its z) H :=
  lcW_none (y := fun i v => ∃ c, z.cps[i]? = some c ∧ v = .str ⟨#[c]⟩) (n := z.cps.size) walk_str S (fun _ _ _ _ => trivial) (fun i x D H' Q' hi hx S' kk => by
    obtain ⟨c, hc, rfl⟩ := hx
    exact ht i c D H' Q' hc S' kk) k
/-! rules over texts, named -/
def rStrI : List V → Hp → VK → Prop := fun xs H Q => ∃ i, xs = [.int i] ∧ i.natAbs.log2 < 1920 ∧ Q (.str (toString i)) H
def rIntS : List V → Hp → VK → Prop := fun xs H Q => ∃ a n, xs = [.str a] ∧ PySem.intText? a = some n ∧ a.length ≤ 640 ∧ Q (.int n) H
def rLenS : List V → Hp → VK → Prop := fun xs H Q => ∃ z, xs = [.str z] ∧ z.length ≤ sizeLine ∧ Q (.int z.length) H
def rNotIn1 : R2 := fun x y H Q => ∃ (c : Nat) (z : Str), x = .str ⟨#[c]⟩ ∧ y = .str z ∧ Q (.bl (!decide (c ∈ z.cps.toList))) H
def rJoin (K : PySem.W.Frag) : V → List V → Hp → VK → Prop := fun x xs H Q => ∃ a p, ∃ ys : List Str, x = .str a ∧ xs = [.ref p] ∧ (SqL K H p (ys.map V.str) ∨ SqT K H p (ys.map V.str)) ∧
      (ys.map (·.length)).sum + ys.length * a.length ≤ 16777216 ∧ Q (.str (Txt.join a ys)) H
def rSplit : V → List V → Hp → VK → Prop := fun x xs H Q => ∃ a b, x = .str a ∧ xs = [.str b] ∧ (b.length == 0) = false ∧ a.length + 2 ≤ sizeLine ∧ rNewStrs (Txt.split a b) H Q
section
variable {X : Cx}
theorem c_str : CallR X (.type "str") rStrI := call_str_int
theorem c_intS : CallR X (.type "int") rIntS := call_int_str
theorem c_lenS : CallR X (.builtin "len") rLenS := call_len_str
theorem b_join (e : X.K = K := by rfl) : MtR X "str.join" (rJoin K) := by subst e; exact mt_join
theorem c_split : MtR X "str.split" rSplit := mt_split
theorem c_notInS : OpR X (compareOp .NotIn) rNotIn1 := op_notIn_sign
theorem c_ixS : IxR X rIxS := ix_str
end
def numS (i : Int) : Str := Str.ofString (toString i)
theorem numS_tl {i : Int} (h : 0 ≤ i) : TL.tl (numS i) = TL.numL i.toNat := by
  obtain ⟨n, rfl⟩ := Int.eq_ofNat_of_zero_le h
  exact TL.tl_num n
theorem numS_len {i : Int} (h : 0 ≤ i) (h2 : i < 10000) : 1 ≤ (numS i).length ∧ (numS i).length ≤ 4 := by
  rw [TL.len_tl, numS_tl h]
  refine ⟨?_, TL.numL_len (k := 4) (by decide) (by omega)⟩
  have := TL.numL_ne i.toNat
  cases e : TL.numL i.toNat with
  | nil => exact absurd e this
  | cons a b => simp
theorem numS_int {i : Int} (h : 0 ≤ i) (h2 : i < 10000) : PySem.intText? (numS i) = some i := by
  have hl := (numS_len h h2).2
  rw [TL.len_tl, numS_tl h] at hl
  obtain ⟨n, rfl⟩ := Int.eq_ofNat_of_zero_le h
  exact TL.int_num (n := n) (by simpa using Nat.le_trans hl (by decide))
theorem numS_inj {i k : Int} (h : 0 ≤ i) (h2 : 0 ≤ k) (e : numS i = numS k) : i = k := by
  have e1 := congrArg TL.tl e
  rw [numS_tl h, numS_tl h2] at e1
  have := TL.numL_inj e1
  omega
theorem numS_free {i : Int} (h : 0 ≤ i) {s : Nat} (hs : s < 48 ∨ 57 < s) : s ∉ TL.tl (numS i) := by rw [numS_tl h]; exact TL.numL_free hs
theorem numL_head : ∀ n : Nat, n < 10000 → (TL.numL n).head? = some 48 → n = 0 := by
  intro n
  induction n using Nat.strongRecOn with
  | _ n ih =>
    intro hn he
    by_cases h : n < 10
    · rw [TL.numL_lt h] at he
      simp at he; omega
    · rw [TL.numL_step (by omega)] at he
      have h1 : (TL.numL (n / 10)).head? = some 48 := by
        cases e : TL.numL (n / 10) with
        | nil => exact absurd e (TL.numL_ne _)
        | cons a b => rw [e] at he; simpa using he
      have := ih (n / 10) (by omega) (by omega) h1
      omega
theorem n_strI {i : Int} (h : 0 ≤ i) (h2 : i < 10000) (q : Q (.str (numS i)) H) : rStrI [.int i] H Q := by
  refine ⟨i, rfl, ?_, q⟩
  have : i.natAbs < 2 ^ 14 := by omega
  by_cases h0 : i.natAbs = 0
  · rw [h0]; decide
  · have := (Nat.log2_lt h0).mpr this
    omega
theorem n_intS {i : Int} (h : 0 ≤ i) (h2 : i < 10000) (q : Q (.int i) H) : rIntS [.str (numS i)] H Q := ⟨numS i, i, rfl, numS_int h h2, by have := numS_len h h2; omega, q⟩
theorem n_lenS {z : Str} (h : z.length ≤ 16777216) (q : Q (.int z.length) H) : rLenS [.str z] H Q := ⟨z, rfl, szL h, q⟩
theorem n_join {a : Str} {ys : List Str} (h : SqE K H p (ys.map V.str)) (hz : (ys.map (·.length)).sum + ys.length * a.length ≤ 16777216) (q : Q (.str (Txt.join a ys)) H) : rJoin K (.str a) [.ref p] H Q := ⟨a, p, ys, rfl, rfl, h, hz, q⟩
theorem n_split {a b : Str} (hb : (b.length == 0) = false) (hz : a.length ≤ 1000000) (q : NewO H (.lst ((Txt.split a b).map V.str)) Q) : rSplit (.str a) [.str b] H Q := ⟨a, b, rfl, rfl, hb, szL (by omega), q⟩
theorem n_notInS {c : Nat} {z : Str} (q : Q (.bl (!decide (c ∈ z.cps.toList))) H) : rNotIn1 (.str ⟨#[c]⟩) (.str z) H Q := ⟨c, z, rfl, rfl, q⟩
theorem n_ixS {z : Str} {i : Int} {c : Nat} (hz : z.length ≤ 16777216) (e : atI z.cps.toList i = some c) (q : Q (.str ⟨#[c]⟩) H) : rIxS (.str z) (.int i) H Q := ⟨z, i, c, rfl, rfl, szL hz, e, q⟩
theorem x_iS {R : It → Hp → Prop} (q : te σ H fun v H1 => ∃ x, v = .str x ∧ R (Its x) H1) : iStr te σ H R := q
theorem x_sv {P : Str → Prop} {s : Str} (q : P s) : ∃ x, V.str s = .str x ∧ P x := ⟨s, rfl, q⟩
theorem x_m1 {r : V → List V → Hp → VK → Prop} {to : TE} (q : to σ H fun x H1 => (∃ a, x = .str a) ∧ te σ H1 fun y H2 => r x [y] H2 Q) : tM1 r to te σ H Q := q
theorem x_m1s {P : Prop} {s : Str} (q : P) : (∃ a, V.str s = .str a) ∧ P := ⟨⟨s, rfl⟩, q⟩
theorem DtL.strs {K : PySem.W.Frag} {M : List Addr} {H : Hp} : ∀ {ss : List Str} {vs : List V}, DtL K M H (ss.map PyData.str) vs ↔ vs = ss.map V.str
  | [], [] => by simp [DtL]
  | [], _ :: _ => by simp [DtL]
  | s :: r, vs => by
    rw [List.map_cons, List.map_cons]
    simp only [DtL]
    constructor
    · rintro ⟨x, xs, rfl, hx, hr⟩
      simp only [Dt] at hx
      rw [DtL.strs.mp hr, hx]
    · rintro rfl
      exact ⟨_, _, rfl, by simp only [Dt], DtL.strs.mpr rfl⟩
end
/-! ### what lies in a joined text -/
theorem mem_joinL {s x : Nat} (hx : x ≠ s) : ∀ {ps : List (List Nat)}, (∀ p ∈ ps, x ∉ p) → x ∉ TL.joinL [s] ps
  | [], _ => by simp [TL.joinL]
  | [p], h => by simpa [TL.joinL] using h p (List.mem_singleton.mpr rfl)
  | p :: q :: r, h => by
    show x ∉ p ++ ([s] ++ TL.joinL [s] (q :: r))
    have h1 := h p (List.mem_cons_self ..)
    have h2 := mem_joinL hx (ps := q :: r) fun z hz => h z (List.mem_cons_of_mem _ hz)
    simp only [List.mem_append, List.mem_singleton, not_or]
    exact ⟨h1, hx, h2⟩
theorem len_joinL {s : Nat} : ∀ {ps : List (List Nat)}, (TL.joinL [s] ps).length ≤ (ps.map (·.length)).sum + ps.length
  | [] => by simp [TL.joinL]
  | [p] => by simp [TL.joinL]
  | p :: q :: r => by
    have h := len_joinL (s := s) (ps := q :: r)
    show (p ++ ([s] ++ TL.joinL [s] (q :: r))).length ≤ _
    simp only [List.length_append, List.map_cons, List.sum_cons, List.length_cons, List.length_nil] at h ⊢
    omega
theorem sum_le_of {ss : List Str} {b : Nat} (h : ∀ s ∈ ss, s.length ≤ b) : (ss.map (·.length)).sum ≤ ss.length * b := by
  induction ss with
  | nil => simp
  | cons a r ih =>
    have h1 := h a (List.mem_cons_self ..)
    have h2 := ih fun s hs => h s (List.mem_cons_of_mem _ hs)
    simp only [List.map_cons, List.sum_cons, List.length_cons, Nat.succ_mul]
    omega
theorem join_len {y : Str} {s : Nat} (ey : TL.tl y = [s]) {ss : List Str} {b : Nat} (h : ∀ z ∈ ss, z.length ≤ b) : (Txt.join y ss).length ≤ ss.length * (b + 1) := by
  rw [TL.len_tl, TL.join_eq, TL.tl_join, ey]
  refine Nat.le_trans len_joinL ?_
  have h1 := sum_le_of h
  rw [List.map_map, List.length_map, Nat.mul_succ]
  have e : (ss.map ((fun x : List Nat => x.length) ∘ TL.tl)) = ss.map (·.length) := List.map_congr_left fun z _ => (TL.len_tl z).symm
  rw [e]
  omega
/-! ### a manifest -/
structure Man where
  v : Int
  many : Int
  one : Int
  two : Int
  n : Int
  s : Int
  ts : List (Int × Int × Int)
abbrev Man.h (m : Man) : List Int := [m.v, m.many, m.one, m.two, m.n, m.s]
def manD (m : Man) : PyData := .tuple (m.h.map .int ++ [.tuple (m.ts.map tripD)])
def sizesF (n : Int) : List Int := (List.range (pieceN n.toNat)).map fun (i : Nat) => min 3 (n - (0 + (i : Int) * 3))
structure gman (m : Man) : Prop where
  v : 1 ≤ m.v ∧ m.v ≤ 999
  many : 1 ≤ m.many ∧ m.many ≤ 12
  sizes : m.ts.map (fun t => t.2.2) = sizesF m.many
  ts : ∀ t ∈ m.ts, (0 ≤ t.1 ∧ t.1 ≤ 9972) ∧ (0 ≤ t.2.1 ∧ t.2.1 ≤ 9972)
  sums : joinF m.ts = (m.one, m.two)
  n : 0 ≤ m.n ∧ m.n < 4
  s : 0 ≤ m.s ∧ m.s ≤ 9972
def trS (t : Int × Int × Int) : Str := Txt.join "," [numS t.1, numS t.2.1, numS t.2.2]
def wordsF (m : Man) : List Str := ("picture" : Str) :: m.h.map numS ++ m.ts.map trS
def textF (m : Man) : Str := Txt.join " " (wordsF m)
theorem gman.many' {m : Man} (g : gman m) : m.ts.length ≤ 4 := by
  have h := congrArg List.length g.sizes
  have := g.many
  rw [List.length_map] at h
  unfold sizesF at h
  rw [List.length_map, List.length_range] at h
  unfold pieceN at h
  omega
theorem gman.three {m : Man} (g : gman m) {t : Int × Int × Int} (ht : t ∈ m.ts) : 0 ≤ t.2.2 ∧ t.2.2 ≤ 3 := by
  have h : t.2.2 ∈ sizesF m.many := by rw [← g.sizes]; exact List.mem_map_of_mem ht
  have hm := g.many
  unfold sizesF at h
  obtain ⟨i, hi, e⟩ := List.mem_map.mp h
  have hi := List.mem_range.mp hi
  unfold pieceN at hi
  omega
theorem gman.hb {m : Man} (g : gman m) : ∀ i ∈ m.h, 0 ≤ i ∧ i < 10000 := by
  have h1 := sumsF_ok
  have hj : ∀ ts : List (Int × Int × Int), 0 ≤ (joinF ts).1 ∧ (joinF ts).1 < 9973 ∧ 0 ≤ (joinF ts).2 ∧ (joinF ts).2 < 9973 := by
    intro ts
    by_cases e : ts = []
    · subst e; decide
    · obtain ⟨a, b, rfl⟩ : ∃ a b, ts = a ++ [b] := ⟨ts.dropLast, ts.getLast e, (List.dropLast_concat_getLast e).symm⟩
      rw [joinF_more]; unfold jstep; dsimp only; omega
  have h2 := hj m.ts
  rw [g.sums] at h2
  have := g.v; have := g.many; have := g.n; have := g.s
  intro i hi
  simp only [Man.h, List.mem_cons, List.not_mem_nil, or_false] at hi
  rcases hi with rfl | rfl | rfl | rfl | rfl | rfl <;> omega
theorem gman.tb {m : Man} (g : gman m) {t : Int × Int × Int} (ht : t ∈ m.ts) : (0 ≤ t.1 ∧ t.1 < 10000) ∧ (0 ≤ t.2.1 ∧ t.2.1 < 10000) ∧ (0 ≤ t.2.2 ∧ t.2.2 < 10000) := by
  have h1 := g.ts t ht
  have h2 := g.three ht
  omega
theorem trS_len {t : Int × Int × Int} (h : (0 ≤ t.1 ∧ t.1 < 10000) ∧ (0 ≤ t.2.1 ∧ t.2.1 < 10000) ∧ (0 ≤ t.2.2 ∧ t.2.2 < 10000)) : (trS t).length ≤ 15 := by
  refine join_len (s := 44) (b := 4) (by rfl) ?_
  intro z hz
  simp only [List.mem_cons, List.not_mem_nil, or_false] at hz
  rcases hz with rfl | rfl | rfl <;> first | exact (numS_len h.1.1 h.1.2).2 | exact (numS_len h.2.1.1 h.2.1.2).2 | exact (numS_len h.2.2.1 h.2.2.2).2
theorem trS_free {t : Int × Int × Int} (h : (0 ≤ t.1 ∧ t.1 < 10000) ∧ (0 ≤ t.2.1 ∧ t.2.1 < 10000) ∧ (0 ≤ t.2.2 ∧ t.2.2 < 10000)) : 32 ∉ TL.tl (trS t) := by
  unfold trS
  rw [TL.join_eq, TL.tl_join]
  refine mem_joinL (s := 44) (by decide) ?_
  intro p hp
  simp only [List.map_cons, List.map_nil, List.mem_cons, List.not_mem_nil, or_false] at hp
  rcases hp with rfl | rfl | rfl <;> exact numS_free (by omega) (by decide)
theorem trS_split {t : Int × Int × Int} (h : (0 ≤ t.1 ∧ t.1 < 10000) ∧ (0 ≤ t.2.1 ∧ t.2.1 < 10000) ∧ (0 ≤ t.2.2 ∧ t.2.2 < 10000)) : Txt.split (trS t) "," = [numS t.1, numS t.2.1, numS t.2.2] := by
  refine TL.split_join (s := 44) (S := []) (by rfl) (by decide +kernel) (by simp) ?_
  intro p hp
  simp only [List.mem_cons, List.not_mem_nil, or_false] at hp
  rcases hp with rfl | rfl | rfl <;> exact numS_free (by omega) (by decide)
theorem gman.words {m : Man} (g : gman m) : ∀ z ∈ wordsF m, z.length ≤ 15 ∧ 32 ∉ TL.tl z := by
  intro z hz
  unfold wordsF at hz
  rcases List.mem_append.mp hz with hz | hz
  · rcases List.mem_cons.mp hz with rfl | hz
    · exact ⟨by decide, by decide⟩
    · obtain ⟨i, hi, rfl⟩ := List.mem_map.mp hz
      have := g.hb i hi
      exact ⟨by have := (numS_len this.1 this.2).2; omega, numS_free this.1 (by decide)⟩
  · obtain ⟨t, ht, rfl⟩ := List.mem_map.mp hz
    exact ⟨trS_len (g.tb ht), trS_free (g.tb ht)⟩
theorem gman.split {m : Man} (g : gman m) : Txt.split (textF m) " " = wordsF m := by
  refine TL.split_join (s := 32) (S := []) (by rfl) (by decide +kernel) (by simp [wordsF]) fun p hp => (g.words p hp).2
theorem gman.wlen {m : Man} (g : gman m) : (wordsF m).length ≤ 11 := by
  have := g.many'
  unfold wordsF
  simp only [List.length_append, List.length_cons, List.length_map, List.length_nil, Man.h]
  omega
theorem gman.tlen {m : Man} (g : gman m) : (textF m).length ≤ 176 := by
  refine Nat.le_trans (join_len (s := 32) (b := 15) (by rfl) fun z hz => (g.words z hz).1) ?_
  have := g.wlen
  omega
theorem gman.jlen {m : Man} (g : gman m) : ((wordsF m).map (·.length)).sum + (wordsF m).length * (" " : Str).length ≤ 16777216 := by
  have h1 := sum_le_of (fun z hz => (g.words z hz).1)
  have := g.wlen
  have e : (" " : Str).length = 1 := by decide
  rw [e]
  omega
theorem trS_jlen {t : Int × Int × Int} (h : (0 ≤ t.1 ∧ t.1 < 10000) ∧ (0 ≤ t.2.1 ∧ t.2.1 < 10000) ∧ (0 ≤ t.2.2 ∧ t.2.2 < 10000)) :
    (([numS t.1, numS t.2.1, numS t.2.2] : List Str).map (·.length)).sum + ([numS t.1, numS t.2.1, numS t.2.2] : List Str).length * ("," : Str).length ≤ 16777216 := by
  have h1 := numS_len h.1.1 h.1.2
  have h2 := numS_len h.2.1.1 h.2.1.2
  have h3 := numS_len h.2.2.1 h.2.2.2
  have e : ("," : Str).length = 1 := by decide
  rw [e]
  simp only [List.map_cons, List.map_nil, List.sum_cons, List.sum_nil, List.length_cons, List.length_nil]
  omega
/-- the manifest of a picture is one -/
def manOf (ks : List Int) (p : Pic) : Man := ⟨p.v, p.cells.length, (sumsF p.cells).1, (sumsF p.cells).2, p.n, sealF (keyOf ks p) (plainF p), (piecesF p.cells).map titleF⟩
theorem manOf_D (ks : List Int) (p : Pic) : maniD ks p = manD (manOf ks p) := rfl
theorem manOf_ok {ks : List Int} {p : Pic} (hk : gk ks) (hp : gp ks p) : gman (manOf ks p) := by
  have hko := keyOf_ok hk hp
  obtain ⟨p1, p2, p3, p4, p5, p6, p7⟩ := hp
  obtain ⟨g1, g2, g3⟩ := hk
  refine ⟨⟨p1, p2⟩, ?_, ?_, ?_, ?_, ?_, ?_⟩
  · show 1 ≤ (p.cells.length : Int) ∧ (p.cells.length : Int) ≤ 12
    omega
  · show ((piecesF p.cells).map titleF).map (fun t => t.2.2) = sizesF (p.cells.length : Int)
    unfold piecesF sizesF
    rw [List.map_map, List.map_map, Int.toNat_natCast]
    refine List.map_congr_left fun i hi => ?_
    have hi := List.mem_range.mp hi
    unfold pieceN at hi
    show ((((p.cells.drop (3 * i)).take 3).length : Nat) : Int) = min 3 ((p.cells.length : Int) - (0 + (i : Int) * 3))
    rw [List.length_take, List.length_drop]
    omega
  · intro t ht
    obtain ⟨c, _, rfl⟩ := List.mem_map.mp ht
    have := sumsF_ok c
    unfold titleF
    dsimp only
    omega
  · exact join_pieces p.cells
  · show 0 ≤ p.n ∧ p.n < 4
    omega
  · show 0 ≤ sealF (keyOf ks p) (plainF p) ∧ sealF (keyOf ks p) (plainF p) ≤ 9972
    have := sealF_lt (keyOf ks p) (plainF p) (by omega) (by omega)
    omega

def spWorth (K : PySem.W.Frag) : Sp := fun vs H Q _ => ∃ n : Int, vs = [.int n] ∧ Q (.bl (decide (0 ≤ n) && decide (n ≤ 9972))) H
theorem use_worth {K : PySem.W.Frag} {n : Int} {H : Hp} {Q : VK} {E : XK} (h0 : 0 ≤ n) (h1 : n ≤ 9972) (q : Q (.bl true) H) : spWorth K [.int n] H Q E := ⟨n, rfl, by simpa [h0, h1] using q⟩
theorem DtL.consM {K : PySem.W.Frag} {M : List Addr} {H : Hp} {p : Addr} {ds : List PyData} {vs : List V} (h : DtL K M H ds vs) (n : H p = none) : DtL K (p :: M) H ds vs := h.mapM (fun _ _ s => s.cons n) (fun _ _ s => s.cons n)
theorem man_at {K : PySem.W.Frag} {M : List Addr} {H : Hp} {m : Man} {v : V} (h : Dt K M H (manD m) v) : ∃ p tp zs, v = .ref p ∧ STA K M H p [.int m.v, .int m.many, .int m.one, .int m.two, .int m.n, .int m.s, .ref tp] ∧ STA K M H tp zs ∧ DtL K M H (m.ts.map tripD) zs := by
  obtain ⟨p, rfl⟩ := Dt.refT h
  obtain ⟨xs, sp, hx⟩ := Dt.tup h
  simp only [Man.h, List.map_cons, List.map_nil, List.cons_append, List.nil_append, DtL] at hx
  obtain ⟨_, _, rfl, h1, _, _, rfl, h2, _, _, rfl, h3, _, _, rfl, h4, _, _, rfl, h5, _, _, rfl, h6, _, _, rfl, ht, rfl⟩ := hx
  simp only [Dt] at h1 h2 h3 h4 h5 h6
  subst h1; subst h2; subst h3; subst h4; subst h5; subst h6
  obtain ⟨tp, rfl⟩ := ht.refT
  obtain ⟨zs, s4, r4⟩ := ht.tup
  exact ⟨p, tp, zs, rfl, sp, s4, r4⟩
theorem manD_dep (m : Man) : (manD m).depth ≤ 3 := by
  unfold manD
  simp only [PyData.depth, Man.h, List.map_cons, List.map_nil, List.cons_append, List.nil_append, PyData.depthAll]
  have := dep_trips m.ts
  omega
theorem manD_ok {m : Man} (g : gman m) : okD (manD m) = true := by
  have hl := g.many'
  unfold manD
  simp only [okD, Man.h, List.map_cons, List.map_nil, List.cons_append, List.nil_append, okD.okDL, Bool.and_eq_true, decide_eq_true_eq, List.length_map, Bool.true_and, Bool.and_true]
  exact ⟨by simp only [List.length_cons, List.length_nil]; omega, by omega, ok_trips m.ts⟩
theorem mem_cutV {xs : List V} {lo hi : Option Int} {x : V} (h : x ∈ cutV xs lo hi) : x ∈ xs := by
  unfold cutV at h
  exact List.mem_of_mem_drop (List.mem_of_mem_take h)

/-! ## the memory -/
structure Mem where
  cells : List (Option Int)
  left : Option Int
  torn : Str
  up : Bool
  many : Int
def memF (l : Addr) (μ : Mem) : List (Str × V) := [("worths", .ref l), ("left", ov μ.left), ("torn", .str μ.torn), ("is_up", .bl μ.up), ("many", .int μ.many)]
abbrev memO (C dx l : Addr) (μ : Mem) : HO := .ins C dx (memF l μ)
abbrev cellsO (μ : Mem) : HO := .lst (μ.cells.map ov)
def MemAt (C : Addr) (H : Hp) (m dx l : Addr) (μ : Mem) : Prop := H m = some (memO C dx l μ) ∧ H l = some (cellsO μ) ∧ m ≠ l
def Mem.new (n : Nat) : Mem := ⟨List.replicate n (some 0), none, "old", true, 0⟩
theorem lk_here {k : Str} {v : V} {r : List (Str × V)} : List.lookup k ((k, v) :: r) = some v := by
  have e : (k == k) = true := beq_self_eq_true k
  simp only [List.lookup, e]
theorem lk_past {k g : Str} {v : V} {r : List (Str × V)} (h : (k == g) = false) : List.lookup k ((g, v) :: r) = List.lookup k r := by
  simp only [List.lookup, h]
theorem put_here {f : Str} {v x : V} {r : List (Str × V)} : putF f v ((f, x) :: r) = (f, v) :: r := if_pos rfl
theorem put_past {f g : Str} {v x : V} {r : List (Str × V)} (h : ¬ g = f) : putF f v ((g, x) :: r) = (g, x) :: putF f v r := if_neg h
theorem put_nil {f : Str} {v : V} : putF f v [] = [(f, v)] := rfl
section
variable {l : Addr} {μ : Mem}
theorem memF_worths : (memF l μ).lookup ("worths" : Str) = some (.ref l) := lk_here
theorem memF_left : (memF l μ).lookup ("left" : Str) = some (ov μ.left) := (lk_past (by decide +kernel)).trans lk_here
theorem memF_torn : (memF l μ).lookup ("torn" : Str) = some (.str μ.torn) := (lk_past (by decide +kernel)).trans ((lk_past (by decide +kernel)).trans lk_here)
theorem memF_up : (memF l μ).lookup ("is_up" : Str) = some (.bl μ.up) := (lk_past (by decide +kernel)).trans ((lk_past (by decide +kernel)).trans ((lk_past (by decide +kernel)).trans lk_here))
theorem memF_many : (memF l μ).lookup ("many" : Str) = some (.int μ.many) := (lk_past (by decide +kernel)).trans ((lk_past (by decide +kernel)).trans ((lk_past (by decide +kernel)).trans ((lk_past (by decide +kernel)).trans lk_here)))
theorem memF_no {m : Str} (h : (m == "worths" || m == "left" || m == "torn" || m == "is_up" || m == "many") = false) : (memF l μ).lookup m = none := by
  simp only [Bool.or_eq_false_iff] at h
  obtain ⟨⟨⟨⟨h1, h2⟩, h3⟩, h4⟩, h5⟩ := h
  unfold memF
  rw [lk_past h1, lk_past h2, lk_past h3, lk_past h4, lk_past h5]; rfl
theorem memF_pleft (v : Option Int) : putF ("left" : Str) (ov v) (memF l μ) = memF l { μ with left := v } := (put_past (by decide +kernel)).trans (congrArg _ put_here)
theorem memF_ptorn (v : Str) : putF ("torn" : Str) (.str v) (memF l μ) = memF l { μ with torn := v } := (put_past (by decide +kernel)).trans (congrArg _ ((put_past (by decide +kernel)).trans (congrArg _ put_here)))
theorem memF_pup (v : Bool) : putF ("is_up" : Str) (.bl v) (memF l μ) = memF l { μ with up := v } := (put_past (by decide +kernel)).trans (congrArg _ ((put_past (by decide +kernel)).trans (congrArg _ ((put_past (by decide +kernel)).trans (congrArg _ put_here)))))
theorem memF_pmany (v : Int) : putF ("many" : Str) (.int v) (memF l μ) = memF l { μ with many := v } := (put_past (by decide +kernel)).trans (congrArg _ ((put_past (by decide +kernel)).trans (congrArg _ ((put_past (by decide +kernel)).trans (congrArg _ ((put_past (by decide +kernel)).trans (congrArg _ put_here)))))))
theorem memF_new (l : Addr) (n : Nat) : putF ("many" : Str) (.int 0) (putF ("is_up" : Str) (.bl true) (putF ("torn" : Str) (.str "old") (putF ("left" : Str) .non (putF ("worths" : Str) (.ref l) [])))) = memF l (Mem.new n) := by
  repeat (first | rw [put_nil] | rw [put_past (by decide +kernel)])
  rfl
theorem len_putF (f : Str) (v : V) : ∀ fs : List (Str × V), (putF f v fs).length ≤ fs.length + 1
  | [] => by simp [putF]
  | (g, x) :: r => by
    have ih := len_putF f v r
    by_cases h : g = f
    · subst h; rw [put_here]; simp
    · rw [put_past h]; simp only [List.length_cons]; omega
end
def FldO (K : PySem.W.Frag) (f : Str) (x : V) (H : Hp) (Q : VK) : Prop := ∃ a C dx fs v, x = .ref a ∧ H a = some (.ins C dx fs) ∧ Cls K C ∧ NoAttr K C f ∧ fs.lookup f = some v ∧ Q v H
def MethO (C : Addr) (m : Str) (sp : Sp) (dvs : List V) (E : XK) (t : TA) (σ : L2.St) (x : V) (H : Hp) (Q : VK) : Prop := ∃ a dx fs, x = .ref a ∧ H a = some (.ins C dx fs) ∧ fs.lookup m = none ∧ t σ H fun vs H2 => sp (x :: (vs ++ dvs)) H2 Q E
def SetO (K : PySem.W.Frag) (f : Str) (y x : V) (H : Hp) (Q : Hp → Prop) : Prop := ∃ a C dx fs, x = .ref a ∧ H a = some (.ins C dx fs) ∧ Cls K C ∧ NoAttr K C f ∧ fs.length < 1000 ∧ Q (upd H a (.ins C dx (putF f y fs)))
def MakeO (C : Addr) (sp : Sp) (vs : List V) (E : XK) (H : Hp) (Q : VK) : Prop := ∀ x dx, H x = none → H dx = none → dx ≠ x → sp (.ref x :: vs) (upd (upd H dx (.own x)) x (.ins C dx [])) (fun v H2 => v = .non ∧ Q (.ref x) H2) E
section
variable {K : PySem.W.Frag} {M : List Addr} {H : Hp} {H0 : Bs} {L : List (Addr × HO)} {Ds : List (PyData × V)} {Q : VK} {σ : L2.St} {f m : Str} {ta tv : TE} {a C dx l : Addr} {μ : Mem} {sp : Sp} {dvs : List V} {E : XK} {t : TA} {D : Ends} {y : V} {fs : List (Str × V)}
theorem b_fld {X : Cx} {e : Expr} {pos : Pos} (he : PE X e ta) (hb : attributeBase e f X.env (eval e X.env) = eval e X.env) (eK : X.K = K := by rfl) : PE X (.Attribute e f pos) (tFld K ta f) := by subst eK; exact pe_fld he hb
theorem x_fld (q : ta σ H fun x H1 => FldO K f x H1 Q) : tFld K ta f σ H Q := q
theorem x_meth (q : ta σ H fun x H1 => MethO C m sp dvs E t σ x H1 Q) : tMeth C m sp dvs E ta t σ H Q := q
theorem x_sfld (q : tv σ H fun y H1 => ta σ H1 fun x H2 => SetO K f y x H2 fun H3 => D.nx σ H3) : sFld K ta tv f D σ H := q
theorem x_make (q : t σ H fun vs H1 => MakeO C sp (vs ++ dvs) E H1 Q) : tMake C sp dvs E t σ H Q := q
theorem n_worths (h : H a = some (memO C dx l μ)) (c : Cls K C) (n : NoAttr K C "worths") (q : Q (.ref l) H) : FldO K "worths" (.ref a) H Q := ⟨a, C, dx, _, _, rfl, h, c, n, memF_worths, q⟩
theorem n_left (h : H a = some (memO C dx l μ)) (c : Cls K C) (n : NoAttr K C "left") (q : Q (ov μ.left) H) : FldO K "left" (.ref a) H Q := ⟨a, C, dx, _, _, rfl, h, c, n, memF_left, q⟩
theorem n_torn (h : H a = some (memO C dx l μ)) (c : Cls K C) (n : NoAttr K C "torn") (q : Q (.str μ.torn) H) : FldO K "torn" (.ref a) H Q := ⟨a, C, dx, _, _, rfl, h, c, n, memF_torn, q⟩
theorem n_up (h : H a = some (memO C dx l μ)) (c : Cls K C) (n : NoAttr K C "is_up") (q : Q (.bl μ.up) H) : FldO K "is_up" (.ref a) H Q := ⟨a, C, dx, _, _, rfl, h, c, n, memF_up, q⟩
theorem n_many (h : H a = some (memO C dx l μ)) (c : Cls K C) (n : NoAttr K C "many") (q : Q (.int μ.many) H) : FldO K "many" (.ref a) H Q := ⟨a, C, dx, _, _, rfl, h, c, n, memF_many, q⟩
theorem n_meth (h : H a = some (memO C dx l μ)) (hm : (memF l μ).lookup m = none) (q : t σ H fun vs H2 => sp (.ref a :: (vs ++ dvs)) H2 Q E) : MethO C m sp dvs E t σ (.ref a) H Q := ⟨a, dx, _, rfl, h, hm, q⟩
/-- an attribute that is set -/
theorem n_set (S : Sy K H0 M H L Ds) (i : Nat) (h : L[i]? = some (a, .ins C dx fs)) (hm : a ∈ M ∧ H0.may a) (c : Cls K C) (n : NoAttr K C f) (hz : fs.length < 1000) {Q : Hp → Prop} {fs' : List (Str × V)} (e : putF f y fs = fs')
    (q : ∀ H', Sy K H0 M H' (L.set i (a, .ins C dx fs')) Ds → Q H') : SetO K f y (.ref a) H Q := ⟨a, C, dx, fs, rfl, S.get i h, c, n, hz, by rw [e]; exact q _ (S.set i h hm)⟩
theorem MemAt.ex {H' : Hp} (h : MemAt C H a dx l μ) (f : Fr [] H H') : MemAt C H' a dx l μ := ⟨f _ _ (fun z => nomatch z) h.1, f _ _ (fun z => nomatch z) h.2.1, h.2.2⟩
theorem MemAt.sy (h : MemAt C H a dx l μ) : Sy K ⟨H, [a, l]⟩ [a, l] H [(a, memO C dx l μ), (l, cellsO μ)] [] := by
  have go : ∀ b ∈ [a, l], ∃ o, H b = some o := by
    intro b hb
    simp only [List.mem_cons, List.not_mem_nil, or_false] at hb
    rcases hb with rfl | rfl
    · exact ⟨_, h.1⟩
    · exact ⟨_, h.2.1⟩
  refine Sy.start _ _ _ ?_ (by simp [h.2.2]) (fun _ z => nomatch z) go go
  intro x hx
  simp only [List.mem_cons, List.not_mem_nil, or_false] at hx
  rcases hx with rfl | rfl
  · exact h.1
  · exact h.2.1
end
section
variable (C : Addr) (K : PySem.W.Frag)
def spPlace : Sp := fun vs H Q _ => ∃ (m dx l : Addr) (μ : Mem) (i : Int), vs = [.ref m, .int i] ∧ MemAt C H m dx l μ ∧ 0 ≤ i ∧ i < μ.cells.length ∧ Q .non H
def spPower : Sp := fun vs H Q _ => ∃ (m dx l : Addr) (μ : Mem), vs = [.ref m] ∧ MemAt C H m dx l μ ∧ μ.up = true ∧ Q .non H
def spRead : Sp := fun vs H Q _ => ∃ (m dx l : Addr) (μ : Mem) (i : Int), vs = [.ref m, .int i] ∧ MemAt C H m dx l μ ∧ μ.up = true ∧ 0 ≤ i ∧ i < μ.cells.length ∧ Q (ov (μ.cells.getD i.toNat none)) H
def spMRow : Sp := fun vs H Q _ => ∃ (m dx l : Addr) (μ : Mem) (i k : Int), vs = [.ref m, .int i, .int k] ∧ MemAt C H m dx l μ ∧ μ.up = true ∧ 0 ≤ i ∧ 0 ≤ k ∧ i + k ≤ μ.cells.length ∧ μ.cells.length ≤ 400 ∧
  ∀ p H', Fr [] H H' → H p = none → H' p = some (.lst (((μ.cells.drop i.toNat).take k.toNat).map ov)) → Q (.ref p) H'
def spCell : Sp := fun vs H Q _ => ∃ (m dx l : Addr) (μ : Mem) (i w : Int), vs = [.ref m, .int i, .int w] ∧ MemAt C H m dx l μ ∧ 0 ≤ i ∧ i < μ.cells.length ∧ 0 ≤ w ∧ w ≤ 9972 ∧ Q .non H
def spWrite : Sp := fun vs H Q _ => ∃ (m dx l : Addr) (μ : Mem) (i w : Int), vs = [.ref m, .int i, .int w] ∧ MemAt C H m dx l μ ∧ μ.up = true ∧ μ.left = none ∧ 0 ≤ i ∧ i < μ.cells.length ∧ 0 ≤ w ∧ w ≤ 9972 ∧
  ∀ H', Fr [m, l] H H' → MemAt C H' m dx l { μ with cells := μ.cells.set i.toNat (some w), many := μ.many + 1 } → Q .non H'
def spSpoil : Sp := fun vs H Q _ => ∃ (m dx l : Addr) (μ : Mem) (i : Int) (w : Option Int), vs = [.ref m, .int i, ov w] ∧ MemAt C H m dx l μ ∧ 0 ≤ i ∧ i < μ.cells.length ∧ (∀ n, w = some n → 0 ≤ n ∧ n ≤ 9972) ∧
  ∀ H', Fr [m, l] H H' → MemAt C H' m dx l { μ with cells := μ.cells.set i.toNat w } → Q .non H'
def spCells : Sp := fun vs H Q _ => ∃ (m dx l : Addr) (μ : Mem), vs = [.ref m] ∧ MemAt C H m dx l μ ∧ ∀ p H', Fr [] H H' → H p = none → H' p = some (.lst (μ.cells.map ov)) → Q (.ref p) H'
def spWrites : Sp := fun vs H Q _ => ∃ (m dx l : Addr) (μ : Mem), vs = [.ref m] ∧ MemAt C H m dx l μ ∧ Q (.int μ.many) H
def spInit : Sp := fun vs H Q _ => ∃ (p dx : Addr) (n : Int), vs = [.ref p, .int n] ∧ 1 ≤ n ∧ n ≤ 400 ∧ H p = some (.ins C dx []) ∧
  ∀ l H', H l = none → MemAt C H' p dx l (Mem.new n.toNat) → Fr [p] H H' → Q .non H'
end
theorem range_getD_take (xs : List (Option Int)) {n : Nat} (h : n ≤ xs.length) : (List.range n).map (fun j => ov (xs.getD j none)) = (xs.take n).map ov := by
  apply List.ext_getElem?
  intro i
  by_cases hi : i < n
  · have h1 : i < xs.length := by omega
    simp [hi, h1, List.getElem?_take]
  · simp [hi, List.getElem?_take]
theorem Dt.memX {K : PySem.W.Frag} {H : Hp} {l : Addr} {μ : Mem} (h : H l = some (cellsO μ)) : SqL K H l (μ.cells.map ov) := .inl (.inl h)

/-! ## counters -/
def countF (a b : Option Int) : Option Int := match a, b with
  | none, none => none
  | some x, none => some x
  | none, some y => some y
  | some x, some y => some (max x y)
def posF (a b : Option Int) : Nat := if b.getD (-1) < a.getD (-1) then 1 else 0
def needF (a b : Option Int) (n : Int) : Bool := match countF a b with
  | none => true
  | some h => decide (h < n)
theorem count_none {a b : Option Int} (h : [a, b].filterMap id = []) : countF a b = none := by
  cases a <;> cases b <;> simp_all [countF]
theorem count_max {a b : Option Int} {m : Int} (h : m ∈ [a, b].filterMap id) (hy : ∀ y, y ∈ [a, b].filterMap id → y ≤ m) : countF a b = some m := by
  cases a with
  | none =>
    cases b with
    | none => simp at h
    | some y => simp at h; simp [countF, h]
  | some x =>
    cases b with
    | none => simp at h; simp [countF, h]
    | some y =>
      have h1 := hy x (by simp)
      have h2 := hy y (by simp)
      simp at h
      simp only [countF, Option.some.injEq]
      omega
theorem two_at {α : Type} (xs : List (Option α)) {i : Nat} (h : i + 2 ≤ xs.length) : (xs.drop i).take 2 = [xs.getD i none, xs.getD (i + 1) none] := by
  have g1 : xs.getD i none = xs[i] := by simp [List.getD_eq_getElem?_getD, List.getElem?_eq_getElem (show i < xs.length by omega)]
  have g2 : xs.getD (i + 1) none = xs[i + 1] := by simp [List.getD_eq_getElem?_getD, List.getElem?_eq_getElem (show i + 1 < xs.length by omega)]
  rw [g1, g2, List.drop_eq_getElem_cons (show i < xs.length by omega), List.drop_eq_getElem_cons (show i + 1 < xs.length by omega)]
  rfl
theorem cut_two (xs : List (Option Int)) {i : Int} (h0 : 0 ≤ i) (h : i + 2 ≤ xs.length) : cutV (xs.map ov) (some i) (some (i + 2)) = ([xs.getD i.toNat none, xs.getD (i.toNat + 1) none] : List (Option Int)).map ov := by
  rw [← two_at xs (i := i.toNat) (by omega)]
  unfold cutV
  rw [List.length_map, ← List.map_drop, ← List.map_take]
  congr 1
  have e1 : HT.sIx xs.length 0 (some i) = i.toNat := by simp only [HT.sIx]; split <;> omega
  have e2 : HT.sIx xs.length xs.length (some (i + 2)) = i.toNat + 2 := by simp only [HT.sIx]; split <;> omega
  rw [e1, e2, show i.toNat + 2 - i.toNat = 2 by omega]
section
variable {K : PySem.W.Frag} {M : List Addr} {H : Hp} {H0 : Bs} {L : List (Addr × HO)} {Ds : List (PyData × V)} {Q : VK} {σ : L2.St} {tt : TT} {te : TE} {j : Nat} {p : Addr} {xs : List (Option Int)}
/-- [n for n in a list if it is none of the broken ones] -/
theorem lc_whole (S : Sy K H0 M H L Ds) (i : Nat) (h : L[i]? = some (p, .lst (xs.map ov))) (hz : xs.length ≤ 1000)
    (ht : ∀ (c : Option Int) (D : Addr) (acc : List V) (H' : Hp) (Q' : Bool → Hp → Prop), Sy K (b0 H) (D :: M) H' (L ++ [(D, .lst acc)]) Ds → (∀ H'', Sy K (b0 H) (D :: M) H'' (L ++ [(D, .lst acc)]) Ds → Q' c.isSome H'') → tt ((σ.set j none).set j (some (ov c))) H' Q')
    (hte : ∀ (n : Int) (D : Addr) (acc : List V) (H' : Hp) (Q' : VK), Sy K (b0 H) (D :: M) H' (L ++ [(D, .lst acc)]) Ds → (∀ H'', Sy K (b0 H) (D :: M) H'' (L ++ [(D, .lst acc)]) Ds → Q' (.int n) H'') → te ((σ.set j none).set j (some (.int n))) H' Q')
    (k : ∀ D H', H D = none → Sy K H0 M H' (L ++ [(D, .lst ((xs.filterMap id).map V.int))]) Ds → Q (.ref D) H') : LcO (gName j) tt te [j] σ Q (Itl K p) H := by
  intro D hD
  have DF := hD
  have w : Walk (Itl K p) (xs.map ov).length (fun H => SqL K H p (xs.map ov)) (fun i H x H' => H' = H ∧ (xs.map ov)[i]? = some x) := walk_list
  have ha : (L ++ [(D, HO.lst [])])[i]? = some (p, .lst (xs.map ov)) := by
    rw [List.getElem?_append_left (List.getElem?_eq_some_iff.mp h).1]; exact h
  refine lc_it w (fun m H' => Sy K (b0 H) (D :: M) H' (L ++ [(D, .lst (((xs.take m).filterMap id).map V.int))]) Ds) (by simpa using S.rebase.newM hD) (fun m H' _ T => T.sl i (by rw [List.getElem?_append_left (List.getElem?_eq_some_iff.mp h).1]; exact h)) ?_ ?_
  · rintro m x H2 H' hi T ⟨rfl, hy⟩
    refine ⟨wipe_one _, ?_⟩
    obtain ⟨c, hc, rfl⟩ := of_map hy
    refine ht c D _ H' _ T fun H'' T2 => ?_
    cases c with
    | none =>
      refine x_iteF rfl ?_
      rw [take_more hc]
      simpa using T2
    | some n =>
      refine x_iteT rfl ?_
      refine hte n D _ H'' _ T2 fun H3 T3 => ?_
      have gD : ∀ acc : List V, (L ++ [(D, HO.lst acc)])[L.length]? = some (D, .lst acc) := fun acc => by simp
      refine ⟨_, T3.get L.length (gD _), ?_, ?_⟩
      · have h1 : ((xs.take m).filterMap id).length ≤ (xs.take m).length := List.length_filterMap_le ..
        rw [List.length_map]
        rw [List.length_take] at h1
        exact szl (by omega)
      · have T4 := T3.set (o' := .lst (((xs.take m).filterMap id).map V.int ++ [.int n])) L.length (gD _) ⟨List.mem_cons_self .., .inr DF⟩
        rw [take_more hc]
        simpa using T4
  · intro H' T
    rw [List.length_map, List.take_length] at T
    exact k D H' hD (S.over T).dropM
end
section
variable (C : Addr) (K : PySem.W.Frag)
def spCount : Sp := fun vs H Q _ => ∃ (m dx l : Addr) (μ : Mem) (i : Int), vs = [.ref m, .int i] ∧ MemAt C H m dx l μ ∧ μ.up = true ∧ 0 ≤ i ∧ i + 2 ≤ μ.cells.length ∧ μ.cells.length ≤ 400 ∧
  ∀ H', Fr [] H H' → Q (ov (countF (μ.cells.getD i.toNat none) (μ.cells.getD (i.toNat + 1) none))) H'
def spLCount : Sp := fun vs H Q _ => ∃ (p : Addr) (xs : List (Option Int)) (i : Int), vs = [.ref p, .int i] ∧ SqL K H p (xs.map ov) ∧ 0 ≤ i ∧ i + 2 ≤ xs.length ∧ xs.length ≤ 400 ∧
  ∀ H', Fr [] H H' → Q (ov (countF (xs.getD i.toNat none) (xs.getD (i.toNat + 1) none))) H'
def spRaise : Sp := fun vs H Q _ => ∃ (m dx l : Addr) (μ : Mem) (i n : Int), vs = [.ref m, .int i, .int n] ∧ MemAt C H m dx l μ ∧ μ.up = true ∧ μ.left = none ∧ 0 ≤ i ∧ i + 2 ≤ μ.cells.length ∧ μ.cells.length ≤ 400 ∧ 0 ≤ n ∧ n ≤ 9972 ∧
  (needF (μ.cells.getD i.toNat none) (μ.cells.getD (i.toNat + 1) none) n = false → ∀ H', Fr [] H H' → Q (.bl false) H') ∧
  (needF (μ.cells.getD i.toNat none) (μ.cells.getD (i.toNat + 1) none) n = true → ∀ H', Fr [m, l] H H' →
    MemAt C H' m dx l { μ with cells := μ.cells.set (i.toNat + posF (μ.cells.getD i.toNat none) (μ.cells.getD (i.toNat + 1) none)) (some n), many := μ.many + 1 } → Q (.bl true) H')
end
theorem MemAt.fr {C m dx l : Addr} {μ : Mem} {H H' : Hp} (h : MemAt C H m dx l μ) (f : Fr [] H H') : MemAt C H' m dx l μ := h.ex f
end Z

namespace Z
open PySem L2

/-! ## exceptions -/
section
variable {X : Cx} {CX : CXT} {k : Nat} {f C : Addr} {fd : FuncData} {ps : List Str} {sp : Sp} {x m : Str} {p pos apos : Pos} {e o : Expr} {es : List Expr} {ta : TE} {t : TA}
theorem passX {E : XK} {E₁ : Value → Shared → Prop} (hs : X.stack = X.env :: X.outer) (hf : X.env.frame = some X.env.locals) (hex : X.ex = [])
    (hx : X.xe = fun e s' => wpAny (model X.prog X.w) X.A (leaving X.env e) (fun _ s'' => L2.CX X.prog X.w X.outer X.H_0 X.s_0 E e s'') E₁ s') : Passes (L2.CX X.prog X.w) X E :=
  passes_call (takes_of hs hf hex hx) (fun _ _ _ _ h => h)
def tMethX (C : Addr) (m : Str) (sp : Sp) (E : L2.St → XK) (ta : TE) (t : TA) : TE := fun σ H Q => ta σ H fun x H1 => ∃ a dx fs, x = .ref a ∧ H1 a = some (.ins C dx fs) ∧ fs.lookup m = none ∧ t σ H1 fun vs H2 => sp (x :: vs) H2 Q (E σ)
theorem pe_methX {E : L2.St → XK} {pl : Sem Bool} (he : PE X o ta) (c : Cls X.K C) (hm : Meth X.K C m f) (F : FnOk X.prog X.w X.K X.mg X.base CX k f fd ps sp) (hr : Room k X.A) (hb : Binds X.K fd ps []) (hx : ∀ σ, PassesAt CX X σ (E σ)) (ha : PA X (e :: es) t)
    (hst : starEach (e :: es) X.env = (false, eval e X.env) :: starEach es X.env := by rfl) (hpl : (backTo pos (starEach es X.env)).any (·.1) = false := by rfl)
    (ht : eval (.Call (.Attribute o m apos) (e :: es) [] pos) X.env = (do
      let ov ← eval o X.env
      standAt apos.atName
      let (f, first) ← holding [ov] (getMethod ov m pl)
      callWith pos f first (backTo pos (starEach (e :: es) X.env)) (backToKw pos (keywordEach [] X.env))) := by rfl) :
    PE X (.Call (.Attribute o m apos) (e :: es) [] pos) (tMethX C m sp E ta t) := by
  refine ⟨fun pins s σ H Q I h => ?_⟩
  refine PySem.W.methodCall_KW (pl := pl) (thn (he.run pins s σ H _ I h) fun u s1 ⟨x, H1, I1, rx, a, dx, fs, ex, ea, l, q⟩ => ?_) ht
  subst ex
  obtain rfl : u = Value.ref a := rx
  refine getmeth_ok I1 ea c hm l ?_
  refine PySem.W.callWith_K (first := [.ref a]) (h₀ := X.base) I.ok.mod.kin hm.kp (thn (ha.run pos pins s1 σ H1 _ I1 q) fun us s2 ⟨vs, H2, I2, r, q2⟩ => ⟨I2.kIn, ?_⟩) hst hpl
  exact run_fnS (us := .ref a :: us) (vs := .ref a :: vs) F hr hb (hx σ) I2 (.cons rfl r) q2
theorem pe_methX0 {E : L2.St → XK} {pl : Sem Bool} (he : PE X o ta) (c : Cls X.K C) (hm : Meth X.K C m f) (F : FnOk X.prog X.w X.K X.mg X.base CX k f fd ps sp) (hr : Room k X.A) (hb : Binds X.K fd ps []) (hx : ∀ σ, PassesAt CX X σ (E σ))
    (ht : eval (.Call (.Attribute o m apos) [] [] pos) X.env = (do
      let ov ← eval o X.env
      standAt apos.atName
      let (f, first) ← holding [ov] (getMethod ov m pl)
      callWith pos f first (backTo pos (starEach [] X.env)) (backToKw pos (keywordEach [] X.env))) := by rfl) :
    PE X (.Call (.Attribute o m apos) [] [] pos) (tMethX C m sp E ta tNil) := by
  refine ⟨fun pins s σ H Q I h => ?_⟩
  refine PySem.W.methodCall_KW (pl := pl) (thn (he.run pins s σ H _ I h) fun u s1 ⟨x, H1, I1, rx, a, dx, fs, ex, ea, l, q⟩ => ?_) ht
  subst ex
  obtain rfl : u = Value.ref a := rx
  refine getmeth_ok I1 ea c hm l ?_
  exact PySem.W.callWith_K0 (first := [.ref a]) I1.kIn hm.kp (run_fnS (us := [.ref a]) (vs := [.ref a]) F hr hb (hx σ) I1 (.cons rfl .nil) q)
end
theorem exm_mk {K : PySem.W.Frag} {C D : Addr} {b : Bool} (h1 : PySem.W.subIn K (.ref D) (.type "BaseException") = some true) (h2 : PySem.W.isClsIn K D = true) (h3 : PySem.W.typeIn K (.ref D) = some (.type "type")) (h4 : PySem.W.subIn K (.ref C) (.ref D) = some b) :
    PySem.W.exmOne K (.ref C) (.ref D) = some b := by
  have e1 : (PySem.W.subIn K (.ref D) (.type "BaseException") == some true) = true := by rw [h1] <;> rfl
  have e2 : ((PySem.W.clsIn K D).isSome && PySem.W.typeIn K (.ref D) == some (.type "type")) = true := by
    have h2' : (PySem.W.clsIn K D).isSome = true := h2
    rw [h2', h3] <;> rfl
  show (if (PySem.W.subIn K (.ref D) (.type "BaseException") == some true) = true then (if ((PySem.W.clsIn K D).isSome && PySem.W.typeIn K (.ref D) == some (.type "type")) = true then PySem.W.subIn K (.ref C) (.ref D) else none) else none) = some b
  rw [if_pos e1, if_pos e2]
  exact h4
section
variable {K : PySem.W.Frag} {σ : L2.St} {H : Hp} {Q : VK} {sp : Sp} {E : L2.St → XK} {tA : TA} {C : Addr} {m : Str} {ta : TE} {cls c : Value} {d : Option Addr} {ts : Addr → Value → Option Addr → TS} {Wout : WX} {D : Ends} {i : Nat}
theorem x_callS (q : tA σ H fun vs H1 => sp vs H1 Q (E σ)) : tCallS sp E tA σ H Q := q
theorem x_methX (q : ta σ H fun x H1 => MethO C m sp [] (E σ) tA σ x H1 Q) : tMethX C m sp E ta tA σ H Q := by
  have e : tMethX C m sp E ta tA = fun σ H Q => ta σ H fun x H1 => MethO C m sp [] (E σ) tA σ x H1 Q := by
    funext σ H Q
    unfold tMethX MethO
    congr 1
    funext x H1
    congr 1; funext a; congr 1; funext dx; congr 1; funext fs
    simp
  rw [e]; exact q
/-- an exception that the clause names -/
theorem x_caught (e : PySem.W.exmOne K cls c = some true) (q : ∀ a, H a = none → ts a cls d D σ H) : WE (wOnly K c ts Wout D) σ cls d H := ⟨true, e, fun _ => q, fun z => nomatch z⟩
theorem x_caughtAs (e : PySem.W.exmOne K cls c = some true) (q : ∀ a, H a = none → ts a cls d { nx := fun σ' H' => D.nx (σ'.set i none) H', rt := D.rt, bk := fun σ' H' => D.bk (σ'.set i none) H', ct := fun σ' H' => D.ct (σ'.set i none) H' } (σ.set i (some (.ref a))) H) : WE (wAs K c i ts Wout D) σ cls d H := ⟨true, e, fun _ => q, fun z => nomatch z⟩
end

/-! ## the module's own tuples -/
abbrev TupK (K : PySem.W.Frag) (a : Addr) (xs : List V) : Prop := ∃ (o : Obj) (its : Array Value) (n : Nat), K.lookup a = some o ∧ o.cls = .type "tuple" ∧ o.data = .seq its n ∧ its.size ≤ sizeLine ∧ Vals xs its.toList
theorem TupK.st {K : PySem.W.Frag} {H : Hp} {a : Addr} {xs : List V} (h : TupK K a xs) : SqT K H a xs := .inr h
theorem pe_gt {X : Cx} {x : Str} {pos : Pos} {a : Addr} (hg : Gl X x) (h : X.mg x = some (.ref a)) (hd : (x == ("__debug__" : Str)) = false := by decide) : PE X (.Name x pos) (tC (.ref a)) := pe_glob hg h rfl hd

/-! ## a memory, its writes, a cut -/
abbrev Wr := Nat × Int
def Mem.down (μ : Mem) (i : Nat) (w : Int) : Mem :=
  { μ with up := false, left := none, cells := if μ.torn = "broken" then μ.cells.set i none else if μ.torn = "new" then μ.cells.set i (some w) else μ.cells }
def Mem.wr (μ : Mem) (i : Nat) (w : Int) : Mem := { μ with left := μ.left.map (· - 1), cells := μ.cells.set i (some w), many := μ.many + 1 }
/-- writes one behind the other; whether all are whole -/
def Mem.run : List Wr → Mem → Mem × Bool
  | [], μ => (μ, true)
  | (i, w) :: r, μ => if μ.left = some 0 then (μ.down i w, false) else Mem.run r (μ.wr i w)
def applyW (ws : List Wr) (cs : List (Option Int)) : List (Option Int) := ws.foldl (fun cs w => cs.set w.1 (some w.2)) cs
theorem applyW_app (a b : List Wr) (cs : List (Option Int)) : applyW (a ++ b) cs = applyW b (applyW a cs) := by unfold applyW; rw [List.foldl_append]
theorem applyW_len (ws : List Wr) : ∀ cs : List (Option Int), (applyW ws cs).length = cs.length := by
  induction ws with
  | nil => intro cs; rfl
  | cons w r ih => intro cs; show (applyW r (cs.set w.1 (some w.2))).length = _; rw [ih, List.length_set]
theorem run_nil (μ : Mem) : Mem.run [] μ = (μ, true) := rfl
theorem run_cut {μ : Mem} {i : Nat} {w : Int} {r : List Wr} (h : μ.left = some 0) : Mem.run ((i, w) :: r) μ = (μ.down i w, false) := by unfold Mem.run; rw [if_pos h]
theorem run_go {μ : Mem} {i : Nat} {w : Int} {r : List Wr} (h : ¬ μ.left = some 0) : Mem.run ((i, w) :: r) μ = Mem.run r (μ.wr i w) := by rw [Mem.run, if_neg h]
theorem run_app (a b : List Wr) : ∀ μ : Mem, Mem.run (a ++ b) μ = if (Mem.run a μ).2 = true then Mem.run b (Mem.run a μ).1 else Mem.run a μ := by
  induction a with
  | nil => intro μ; rw [List.nil_append, run_nil, if_pos rfl]
  | cons p r ih =>
    intro μ
    obtain ⟨i, w⟩ := p
    by_cases h : μ.left = some 0
    · rw [List.cons_append, run_cut h, run_cut h, if_neg Bool.false_ne_true]
    · rw [List.cons_append, run_go h, run_go h, ih]
theorem run_ok {a b : List Wr} {μ : Mem} (h : (Mem.run a μ).2 = true) : Mem.run (a ++ b) μ = Mem.run b (Mem.run a μ).1 := by rw [run_app, if_pos h]
theorem run_no {a b : List Wr} {μ : Mem} (h : (Mem.run a μ).2 = false) : Mem.run (a ++ b) μ = Mem.run a μ := by rw [run_app, h, if_neg Bool.false_ne_true]
theorem run_whole : ∀ {ws : List Wr} {μ : Mem}, (Mem.run ws μ).2 = true → (Mem.run ws μ).1 = { μ with left := μ.left.map (· - ws.length), cells := applyW ws μ.cells, many := μ.many + ws.length }
  | [], μ, _ => by cases μ; rename_i l _ _ _; cases l <;> simp [Mem.run, applyW]
  | (i, w) :: r, μ, h => by
    by_cases hl : μ.left = some 0
    · rw [run_cut hl] at h; cases h
    · rw [run_go hl] at h ⊢
      rw [run_whole h]
      obtain ⟨c, l, t, u, m⟩ := μ
      simp only [Mem.wr, List.length_cons, applyW, List.foldl_cons, Mem.mk.injEq]
      refine ⟨trivial, ?_, trivial, trivial, by push_cast; omega⟩
      cases l with
      | none => rfl
      | some n => simp only [Option.map_some, Option.some.injEq]; push_cast; omega
theorem run_cells {ws : List Wr} {μ : Mem} (h : (Mem.run ws μ).2 = true) : (Mem.run ws μ).1.cells = applyW ws μ.cells := by rw [run_whole h]
theorem run_upT {ws : List Wr} {μ : Mem} (h : (Mem.run ws μ).2 = true) : (Mem.run ws μ).1.up = μ.up := by rw [run_whole h]
theorem run_free {ws : List Wr} {μ : Mem} (h : μ.left = none) : (Mem.run ws μ).2 = true := by
  induction ws generalizing μ with
  | nil => rfl
  | cons p r ih =>
    obtain ⟨i, w⟩ := p
    rw [run_go (by rw [h]; exact fun z => nomatch z)]
    exact ih (by simp [Mem.wr, h])
theorem run_len : ∀ (ws : List Wr) (μ : Mem), (Mem.run ws μ).1.cells.length = μ.cells.length
  | [], μ => rfl
  | (i, w) :: r, μ => by
    by_cases hl : μ.left = some 0
    · rw [run_cut hl]
      simp only [Mem.down]
      split
      · simp
      · split <;> simp
    · rw [run_go hl, run_len r]; simp [Mem.wr]
theorem run_stop : ∀ {ws : List Wr} {μ : Mem}, (Mem.run ws μ).2 = false → (Mem.run ws μ).1.up = false ∧ (Mem.run ws μ).1.left = none ∧ (Mem.run ws μ).1.torn = μ.torn
  | [], μ, h => by cases h
  | (i, w) :: r, μ, h => by
    by_cases hl : μ.left = some 0
    · rw [run_cut hl]; exact ⟨rfl, rfl, rfl⟩
    · rw [run_go hl] at h ⊢
      exact run_stop h
/-- a write of so many: whole if the cut lies behind all of them -/
theorem run_left {n : Nat} : ∀ {ws : List Wr} {μ : Mem}, μ.left = some (n : Int) → (Mem.run ws μ).2 = decide (ws.length ≤ n) := by
  induction n with
  | zero =>
    intro ws μ h
    cases ws with
    | nil => rfl
    | cons p r => obtain ⟨i, w⟩ := p; rw [run_cut h]; simp
  | succ n ih =>
    intro ws μ h
    cases ws with
    | nil => simp [Mem.run]
    | cons p r =>
      obtain ⟨i, w⟩ := p
      rw [run_go (by rw [h]; intro z; cases z), ih (μ := μ.wr i w) (by simp [Mem.wr, h])]
      simp
/-- the places and numbers of writes that can be -/
def okW (n : Nat) (ws : List Wr) : Prop := ∀ p ∈ ws, p.1 < n ∧ 0 ≤ p.2 ∧ p.2 ≤ 9972
/-- why a deed is refused -/
inductive Er | size | place | worth | cut | stopped
deriving DecidableEq
section
variable (C : Addr) (er : Er → Addr)
def spPlaceX : Sp := fun vs H Q E => ∃ (m dx l : Addr) (μ : Mem) (i : Int), vs = [.ref m, .int i] ∧ MemAt C H m dx l μ ∧ (0 ≤ i → i < μ.cells.length → Q .non H) ∧ (¬ (0 ≤ i ∧ i < μ.cells.length) → E (.ref (er .place)) none H)
def spPowerX : Sp := fun vs H Q E => ∃ (m dx l : Addr) (μ : Mem), vs = [.ref m] ∧ MemAt C H m dx l μ ∧ (μ.up = true → Q .non H) ∧ (μ.up = false → E (.ref (er .stopped)) none H)
def spReadX : Sp := fun vs H Q E => ∃ (m dx l : Addr) (μ : Mem) (i : Int), vs = [.ref m, .int i] ∧ MemAt C H m dx l μ ∧ (0 ≤ i → i < μ.cells.length → μ.up = true → Q (ov (μ.cells.getD i.toNat none)) H) ∧
  (¬ (0 ≤ i ∧ i < μ.cells.length) → E (.ref (er .place)) none H) ∧ (0 ≤ i → i < μ.cells.length → μ.up = false → E (.ref (er .stopped)) none H)
def spCellX : Sp := fun vs H Q E => ∃ (m dx l : Addr) (μ : Mem) (i w : Int), vs = [.ref m, .int i, .int w] ∧ MemAt C H m dx l μ ∧ (0 ≤ i → i < μ.cells.length → 0 ≤ w → w ≤ 9972 → Q .non H) ∧
  (¬ (0 ≤ i ∧ i < μ.cells.length) → E (.ref (er .place)) none H) ∧ (0 ≤ i → i < μ.cells.length → ¬ (0 ≤ w ∧ w ≤ 9972) → E (.ref (er .worth)) none H)
def spDownX : Sp := fun vs H Q E => ∃ (m dx l : Addr) (μ : Mem) (i w : Int), vs = [.ref m, .int i, .int w] ∧ MemAt C H m dx l μ ∧ 0 ≤ i ∧ i < μ.cells.length ∧
  ∀ H', Fr [m, l] H H' → MemAt C H' m dx l (μ.down i.toNat w) → E (.ref (er .stopped)) none H'
def spWriteX : Sp := fun vs H Q E => ∃ (m dx l : Addr) (μ : Mem) (i w : Int), vs = [.ref m, .int i, .int w] ∧ MemAt C H m dx l μ ∧
  (0 ≤ i → i < μ.cells.length → 0 ≤ w → w ≤ 9972 → μ.up = true → ¬ μ.left = some 0 → ∀ H', Fr [m, l] H H' → MemAt C H' m dx l (μ.wr i.toNat w) → Q .non H') ∧
  (0 ≤ i → i < μ.cells.length → 0 ≤ w → w ≤ 9972 → μ.up = true → μ.left = some 0 → ∀ H', Fr [m, l] H H' → MemAt C H' m dx l (μ.down i.toNat w) → E (.ref (er .stopped)) none H') ∧
  (¬ (0 ≤ i ∧ i < μ.cells.length) → E (.ref (er .place)) none H) ∧ (0 ≤ i → i < μ.cells.length → ¬ (0 ≤ w ∧ w ≤ 9972) → E (.ref (er .worth)) none H) ∧
  (0 ≤ i → i < μ.cells.length → 0 ≤ w → w ≤ 9972 → μ.up = false → E (.ref (er .stopped)) none H)
def spCutX : Sp := fun vs H Q E => ∃ (m dx l : Addr) (μ : Mem) (n : Int) (t : Str), vs = [.ref m, .int n, .str t] ∧ MemAt C H m dx l μ ∧
  (0 ≤ n → n ≤ 100000 → (t = "old" ∨ t = "broken" ∨ t = "new") → ∀ H', Fr [m, l] H H' → MemAt C H' m dx l { μ with left := some n, torn := t } → Q .non H') ∧
  (¬ (0 ≤ n ∧ n ≤ 100000 ∧ (t = "old" ∨ t = "broken" ∨ t = "new")) → E (.ref (er .cut)) none H)
def spUpX : Sp := fun vs H Q _ => ∃ (m dx l : Addr) (μ : Mem), vs = [.ref m] ∧ MemAt C H m dx l μ ∧ ∀ H', Fr [m, l] H H' → MemAt C H' m dx l { μ with up := true, left := none } → Q .non H'
def spSpoilX : Sp := fun vs H Q E => ∃ (m dx l : Addr) (μ : Mem) (i : Int) (w : Option Int), vs = [.ref m, .int i, ov w] ∧ MemAt C H m dx l μ ∧
  (0 ≤ i → i < μ.cells.length → (∀ n, w = some n → 0 ≤ n ∧ n ≤ 9972) → ∀ H', Fr [m, l] H H' → MemAt C H' m dx l { μ with cells := μ.cells.set i.toNat w } → Q .non H') ∧
  (¬ (0 ≤ i ∧ i < μ.cells.length) → E (.ref (er .place)) none H) ∧ (0 ≤ i → i < μ.cells.length → (∃ n, w = some n ∧ ¬ (0 ≤ n ∧ n ≤ 9972)) → E (.ref (er .worth)) none H)
def spInitX : Sp := fun vs H Q E => ∃ (p dx : Addr) (n : Int), vs = [.ref p, .int n] ∧ H p = some (.ins C dx []) ∧
  (1 ≤ n → n ≤ 400 → ∀ l H', H l = none → MemAt C H' p dx l (Mem.new n.toNat) → Fr [p] H H' → Q .non H') ∧ (¬ (1 ≤ n ∧ n ≤ 400) → E (.ref (er .size)) none H)
/-- what a deed on a memory does: its writes and what it tells, found from the cells -/
def ranX (C m dx l : Addr) (μ : Mem) (ws : List Wr) (H : Hp) (Q : Hp → Prop) (S : Hp → Prop) : Prop := ∀ H', Fr [m, l] H H' → MemAt C H' m dx l (Mem.run ws μ).1 → ((Mem.run ws μ).2 = true → Q H') ∧ ((Mem.run ws μ).2 = false → S H')
end
section
variable {K : PySem.W.Frag} {M : List Addr} {H H' : Hp} {H0 : Bs} {L : List (Addr × HO)} {Ds : List (PyData × V)} {Q : VK} {C dx l m r p : Addr} {o : HO} {μ μ' : Mem} {E : XK} {er : Er → Addr}
theorem Sy.put2 {a b : Addr} {o o2 o' o2' : HO} (S : Sy K H0 M H L Ds) (i j : Nat) (h1 : L[i]? = some (a, o)) (h2 : L[j]? = some (b, o2)) (hij : i ≠ j) (ma : a ∈ M ∧ H0.may a) (mb : b ∈ M ∧ H0.may b) (f : Fr [a, b] H H') (e1 : H' a = some o') (e2 : H' b = some o2') :
    Sy K H0 M H' ((L.set i (a, o')).set j (b, o2')) Ds := by
  have hne := S.ne i j h1 h2 hij
  have S1 := S.put (H' := fun x => if x = b then H x else H' x) (o' := o') i h1 ma (fun x u n e => by
    show (if x = b then H x else H' x) = _
    by_cases hb : x = b
    · rw [if_pos hb]; exact e
    · rw [if_neg hb]; exact f x u (by simp at n ⊢; exact ⟨n, hb⟩) e) (by
    show (if a = b then H a else H' a) = _
    rw [if_neg hne]; exact e1)
  have S2 := S1.put (H' := H') (o' := o2') j (by rw [List.getElem?_set_ne hij]; exact h2) mb (fun x u n e => by
    have e : (if x = b then H x else H' x) = some u := e
    rw [if_neg (by simpa using n)] at e; exact e) e2
  exact S2
theorem Sy.exNM (S : Sy K H0 M H L Ds) (f : Fr [] H H') (h : H p = none) (e : H' p = some o) : Sy K H0 (p :: M) H' (L ++ [(p, o)]) Ds :=
  (S.newM (o := o) h).ex (fun b u _ q => by
    by_cases hb : b = p
    · subst hb; rw [upd_same] at q; rw [e]; exact q
    · rw [upd_ne hb] at q; exact f b u (fun z => nomatch z) q)
theorem use_initX (S : Sy K H0 M H L Ds) {n : Int} (h1 : 1 ≤ n) (h2 : n ≤ 400) (q : ∀ m dx l H', Sy K H0 (l :: m :: M) H' ((L ++ [(m, memO C dx l (Mem.new n.toNat))]) ++ [(l, cellsO (Mem.new n.toNat))]) Ds → H0 m = none → H0 l = none → Q (.ref m) H') : MakeO C (spInitX C er) [.int n] E H Q := by
  intro x dx hx hdx hne
  refine ⟨x, dx, n, rfl, upd_same, fun _ _ l H' hl hM f => ⟨rfl, ?_⟩, fun z => absurd ⟨h1, h2⟩ z⟩
  have S1 := S.ex (Fr.new (o := .own x) hdx)
  have hx1 : (upd H dx (.own x)) x = none := by rw [upd_ne hne.symm]; exact hx
  have S2 := S1.newM (o := .ins C dx []) hx1
  have xl : l ≠ x := hM.2.2.symm
  have S3 := S2.put (H' := fun b => if b = x then H' x else (upd (upd H dx (.own x)) x (.ins C dx [])) b) (a := x) (o := .ins C dx []) (o' := memO C dx l (Mem.new n.toNat)) L.length (by simp) ⟨List.mem_cons_self .., .inr (S.free hx)⟩ (fun b u n e => by
    show (if b = x then _ else _) = _
    rw [if_neg (by simpa using n)]; exact e) (by
    show (if x = x then _ else _) = _
    rw [if_pos rfl]; exact hM.1)
  rw [show (L ++ [(x, HO.ins C dx [])]).set L.length (x, memO C dx l (Mem.new n.toNat)) = L ++ [(x, memO C dx l (Mem.new n.toNat))] by simp] at S3
  have hl3 : (fun b => if b = x then H' x else (upd (upd H dx (.own x)) x (.ins C dx [])) b) l = none := by
    show (if l = x then _ else _) = _
    rw [if_neg xl]; exact hl
  have S4 := Sy.exNM S3 (H' := H') (p := l) (o := cellsO (Mem.new n.toNat)) (fun b u _ e => by
    have e : (if b = x then H' x else (upd (upd H dx (.own x)) x (.ins C dx [])) b) = some u := e
    by_cases hb : b = x
    · rw [if_pos hb] at e; rw [hb]; exact e
    · rw [if_neg hb] at e; exact f b u (by simpa using hb) e) hl3 hM.2.1
  exact q x dx l H' S4 (S.free hx) (S3.free hl3)
theorem n_orI {σ : L2.St} {i : Nat} {c : Option Int} (h : σ[i]? = some (some (ov c))) (q : Q (.int (c.getD 0)) H) : tOrT K (tVar i) (tC (.int 0)) σ H Q := by
  cases c with
  | none => exact ⟨_, h, false, rfl, q⟩
  | some n =>
    by_cases hn : n = 0
    · subst hn; exact ⟨_, h, false, by simp [TruV, ov], q⟩
    · exact ⟨_, h, true, by simp [TruV, ov, hn], q⟩
theorem dt_od (c : Option Int) : Dt K M H (od c) (ov c) := by
  cases c <;> simp [od, ov, Dt]
theorem od_dep (c : Option Int) : (od c).depth ≤ 4 := by cases c <;> simp [od, PyData.depth]
theorem od_ok (c : Option Int) : okD (od c) = true := by cases c <;> rfl
theorem count_b {a b : Option Int} (ha : ∀ n, a = some n → 0 ≤ n ∧ n ≤ 9972) (hb : ∀ n, b = some n → 0 ≤ n ∧ n ≤ 9972) : 0 ≤ (countF a b).getD 0 ∧ (countF a b).getD 0 ≤ 9972 := by
  cases a with
  | none => cases b with
    | none => simp [countF]
    | some y => have := hb y rfl; simpa [countF] using this
  | some x => cases b with
    | none => have := ha x rfl; simpa [countF] using this
    | some y => have h1 := ha x rfl; have h2 := hb y rfl; simp only [countF, Option.getD_some]; omega
theorem getD_b {cs : List (Option Int)} (h : ∀ c ∈ cs, ∀ n, c = some n → 0 ≤ n ∧ n ≤ 9972) (i : Nat) : ∀ n, cs.getD i none = some n → 0 ≤ n ∧ n ≤ 9972 := by
  intro n e
  by_cases hi : i < cs.length
  · rw [List.getD_eq_getElem?_getD, List.getElem?_eq_getElem hi, Option.getD_some] at e
    exact h _ (List.getElem_mem hi) n e
  · rw [List.getD_eq_getElem?_getD, List.getElem?_eq_none (by omega)] at e
    cases e
end
section
variable {K : PySem.W.Frag} {H : Hp} {Q : VK} {E : XK} {C m dx l : Addr} {er : Er → Addr} {μ : Mem} {i w : Int} {M : List Addr} {H' : Hp} {H0 : Bs} {L : List (Addr × HO)} {Ds : List (PyData × V)}
theorem use_wr (h : MemAt C H m dx l μ) (hup : μ.up = true) (h0 : 0 ≤ i) (h1 : i < μ.cells.length) (w0 : 0 ≤ w) (w1 : w ≤ 9972) (k : ranX C m dx l μ [(i.toNat, w)] H (Q .non) (E (.ref (er .stopped)) none)) : spWriteX C er [.ref m, .int i, .int w] H Q E := by
  refine ⟨m, dx, l, μ, i, w, rfl, h, fun _ _ _ _ _ hl H' f hM => ?_, fun _ _ _ _ _ hl H' f hM => ?_, fun z => absurd ⟨h0, h1⟩ z, fun _ _ z => absurd ⟨w0, w1⟩ z, fun _ _ _ _ z => by rw [hup] at z; cases z⟩
  · have := k H' f (by rw [run_go hl, run_nil]; exact hM)
    exact this.1 (by rw [run_go hl]; rfl)
  · have := k H' f (by rw [run_cut hl]; exact hM)
    exact this.2 (by rw [run_cut hl])
/-- the memory's two entries, wherever they stand, are others -/
theorem Sy.memAt {i j : Nat} {μ' : Mem} (S : Sy K H0 M H L Ds) (h1 : L[i]? = some (m, memO C dx l μ)) (h2 : L[j]? = some (l, cellsO μ)) (hij : i ≠ j) (ma : m ∈ M ∧ H0.may m) (mb : l ∈ M ∧ H0.may l) (f : Fr [m, l] H H') (h : MemAt C H' m dx l μ') :
    Sy K H0 M H' ((L.set i (m, memO C dx l μ')).set j (l, cellsO μ')) Ds := S.put2 i j h1 h2 hij ma mb f h.1 h.2.1
theorem MemAt.up1 (h : MemAt C H m dx l μ) : MemAt C H m dx l μ := h
end
/-- the writes of a raising -/
def raiseW (cs : List (Option Int)) (i : Nat) (n : Int) : List Wr := if needF (cs.getD i none) (cs.getD (i + 1) none) n = true then [(i + posF (cs.getD i none) (cs.getD (i + 1) none), n)] else []
def spRaiseX (C : Addr) (er : Er → Addr) : Sp := fun vs H Q E => ∃ (m dx l : Addr) (μ : Mem) (i n : Int), vs = [.ref m, .int i, .int n] ∧ MemAt C H m dx l μ ∧ μ.up = true ∧ 0 ≤ i ∧ i + 2 ≤ μ.cells.length ∧ μ.cells.length ≤ 400 ∧ 0 ≤ n ∧ n ≤ 9972 ∧
  ranX C m dx l μ (raiseW μ.cells i.toNat n) H (Q (.bl (needF (μ.cells.getD i.toNat none) (μ.cells.getD (i.toNat + 1) none) n))) (E (.ref (er .stopped)) none)
def geO (c : Option Int) (n : Int) : Bool := match c with | none => false | some h => decide (n ≤ h)
theorem geO_need (a b : Option Int) (n : Int) : geO (countF a b) n = !needF a b n := by
  unfold geO needF
  cases countF a b with
  | none => rfl
  | some h =>
    show decide (n ≤ h) = !decide (h < n)
    by_cases z : n ≤ h
    · rw [decide_eq_true z, decide_eq_false (by omega)]; rfl
    · rw [decide_eq_false z, decide_eq_true (by omega)]; rfl
section
variable {K : PySem.W.Frag} {σ : L2.St} {H : Hp} {Q : VK} {i j : Nat} {c : Option Int} {n : Int} {ta tb : TE} {xs : List (Option Int)} {p : Addr}
/-- x is not None and x >= n -/
theorem t_someGe {Q : Bool → Hp → Prop} (hi : σ[i]? = some (some (ov c))) (hj : σ[j]? = some (some (.int n))) (q : Q (geO c n) H) :
    tAnd (tTest (tOp rNotN (tVar i) (tC .non))) (tTest (tOp (rI0 fun i j => V.bl (decide (j ≤ i))) (tVar i) (tVar j))) σ H Q := by
  cases c with
  | none => exact ⟨_, hi, rfl, _, rfl, q⟩
  | some h => exact ⟨_, hi, rfl, _, rfl, ⟨_, hi, _, hj, _, _, rfl, rfl, _, rfl, q⟩⟩
/-- -1 if x is None else x -/
theorem t_orMinus (hi : σ[i]? = some (some (ov c))) (q : Q (.int (c.getD (-1))) H) :
    tIf (tTest (tOp rIsN (tVar i) (tC V.non))) (tUn (rU fun i => V.int (-i)) (tC (V.int 1))) (tVar i) σ H Q := by
  cases c with
  | none => exact ⟨_, hi, rfl, _, rfl, ⟨1, rfl, q⟩⟩
  | some h => exact ⟨_, hi, rfl, _, rfl, ⟨_, hi, q⟩⟩
end
theorem inV_torns (t : Str) : inV (.str t) [.str "old", .str "broken", .str "new"] = decide (t = "old" ∨ t = "broken" ∨ t = "new") := by
  rw [Bool.eq_iff_iff]
  simp only [inV, eqV, List.any_cons, List.any_nil, Bool.or_false, Bool.or_eq_true, beq_iff_eq, decide_eq_true_eq]
  constructor <;> (rintro (h | h | h) <;> simp [h])
section
variable {K : PySem.W.Frag} {M : List Addr} {H H' : Hp} {H0 : Bs} {L : List (Addr × HO)} {Ds : List (PyData × V)} {C dx l m r p : Addr} {o : HO} {μ μ' : Mem}
theorem Sy.mem (S : Sy K H0 M H ((r, o) :: (m, memO C dx l μ) :: (l, cellsO μ) :: L) Ds) (hm : m ∈ M ∧ H0.may m) (hl : l ∈ M ∧ H0.may l) (f : Fr [m, l] H H') (h : MemAt C H' m dx l μ') : Sy K H0 M H' ((r, o) :: (m, memO C dx l μ') :: (l, cellsO μ') :: L) Ds := by
  have hne := h.2.2
  have S1 := S.put (H' := fun b => if b = l then H b else H' b) 1 rfl hm (fun b u n e => by
    show (if b = l then H b else H' b) = _
    by_cases hb : b = l
    · rw [if_pos hb]; exact e
    · rw [if_neg hb]; exact f b u (by simp at n ⊢; exact ⟨n, hb⟩) e) (by
    show (if m = l then H m else H' m) = _
    rw [if_neg hne]; exact h.1)
  have S2 := S1.put (H' := H') 2 rfl hl (fun b u n e => by
    have e : (if b = l then H b else H' b) = some u := e
    rw [if_neg (by simpa using n)] at e; exact e) h.2.1
  exact S2
end
/-! ## books -/
abbrev Rec := Int × Int × Int
def recD (r : Rec) : PyData := .tuple [.int r.1, .int r.2.1, .int r.2.2]
def pageL (xs : List (Option Int)) : Option (Int × Rec) := match xs with
  | [some n, some a, some b, some c, some s, some t] => if n ≠ 0 ∧ sumsF [n, a, b, c] = (s, t) then some (n, a, b, c) else none
  | _ => none
def pageO (cs : List (Option Int)) (i : Nat) : Option (Int × Rec) := pageL ((cs.drop i).take 6)
def newestO (cs : List (Option Int)) (i : Nat) : Option (Int × Int × Rec) := match pageO cs i, pageO cs (i + 6) with
  | none, none => none
  | some p, none => some (0, p)
  | none, some q => some (1, q)
  | some p, some q => if q.1 > p.1 then some (1, q) else some (0, p)
def recordO (cs : List (Option Int)) (i : Nat) : Option Rec := (newestO cs i).map fun x => x.2.2
def pageD : Option (Int × Rec) → PyData
  | none => .none
  | some p => .tuple [.int p.1, recD p.2]
def newestD : Option (Int × Int × Rec) → PyData
  | none => .none
  | some p => .tuple [.int p.1, .int p.2.1, recD p.2.2]
def recordD : Option Rec → PyData
  | none => .none
  | some p => recD p
/-- which page is to be written, and its number -/
def nextO (cs : List (Option Int)) (i : Nat) : Int × Int := match newestO cs i with
  | none => (0, 1)
  | some p => (1 - p.1, p.2.1 + 1)
def rowF (n : Int) (r : Rec) : List Int := [n, r.1, r.2.1, r.2.2, (sumsF [n, r.1, r.2.1, r.2.2]).1, (sumsF [n, r.1, r.2.1, r.2.2]).2]
def noteW (cs : List (Option Int)) (i : Nat) (r : Rec) : List Wr :=
  let b := i + 6 * (nextO cs i).1.toNat
  let t := rowF (nextO cs i).2 r
  [(b, 0), (b + 1, t.getD 1 0), (b + 2, t.getD 2 0), (b + 3, t.getD 3 0), (b + 4, t.getD 4 0), (b + 5, t.getD 5 0), (b, (nextO cs i).2)]
/-- what is read of a memory at a place: data -/
def spMI (C : Addr) (pre : Mem → Int → Prop) (res : Mem → Int → PyData) (K : PySem.W.Frag) : Sp := fun vs H Q _ => ∃ (M : List Addr) (m dx l : Addr) (μ : Mem) (i : Int), vs = [.ref m, .int i] ∧ (∀ a ∈ M, ∃ o, H a = some o) ∧ MemAt C H m dx l μ ∧ μ.up = true ∧ pre μ i ∧
  ∀ v H', Fr [] H H' → Dt K M H' (res μ i) v → Q v H'
section
variable {K : PySem.W.Frag} {M : List Addr} {H H' : Hp} {H0 : Bs} {L : List (Addr × HO)} {Ds : List (PyData × V)} {C dx l m r p : Addr} {o : HO} {μ μ' : Mem} {Q : VK} {E : XK} {pre : Mem → Int → Prop} {res : Mem → Int → PyData} {i : Int}
theorem use_MI (S : Sy K H0 M H L Ds) (h : MemAt C H m dx l μ) (hup : μ.up = true) (hp : pre μ i) (k : ∀ v H', Sy K H0 M H' L (Ds ++ [(res μ i, v)]) → Fr [] H H' → Q v H') : spMI C pre res K [.ref m, .int i] H Q E :=
  ⟨M, m, dx, l, μ, i, rfl, S.dom, h, hup, hp, fun v H' f hd => k v H' ((S.ex f).addD hd) f⟩
theorem Sy.atD (hd : ∀ a ∈ M, ∃ o, H a = some o) : Sy K (b0 H) M H [] [] := Sy.start _ _ _ (fun _ z => nomatch z) (by simp) (fun _ z => nomatch z) hd
end
abbrev preN (n : Int) (μ : Mem) (i : Int) : Prop := 0 ≤ i ∧ i + n ≤ μ.cells.length ∧ μ.cells.length ≤ 400
def spPage (C : Addr) := spMI C (preN 6) fun μ i => pageD (pageO μ.cells i.toNat)
def spNewest (C : Addr) := spMI C (preN 12) fun μ i => newestD (newestO μ.cells i.toNat)
def spRecord (C : Addr) := spMI C (preN 12) fun μ i => recordD (recordO μ.cells i.toNat)
theorem row6 {xs : List (Option Int)} (h : xs.length = 6) (hn : none ∉ xs) : ∃ n a b c s t, xs = [some n, some a, some b, some c, some s, some t] := by
  match xs, h with
  | [x0, x1, x2, x3, x4, x5], _ =>
    simp only [List.mem_cons, List.not_mem_nil, or_false, not_or] at hn
    obtain ⟨h0, h1, h2, h3, h4, h5⟩ := hn
    cases x0 <;> cases x1 <;> cases x2 <;> cases x3 <;> cases x4 <;> cases x5 <;> simp_all
theorem pageL_some (n a b c s t : Int) : pageL [some n, some a, some b, some c, some s, some t] = if n ≠ 0 ∧ sumsF [n, a, b, c] = (s, t) then some (n, a, b, c) else none := rfl
theorem cut_14 (x0 x1 x2 x3 x4 x5 : V) : cutV [x0, x1, x2, x3, x4, x5] (some 1) (some 4) = [x1, x2, x3] := rfl
theorem cut_4 (x0 x1 x2 x3 x4 x5 : V) : cutV [x0, x1, x2, x3, x4, x5] none (some 4) = [x0, x1, x2, x3] := rfl
theorem pageL_none {xs : List (Option Int)} (hn : none ∈ xs) : pageL xs = none := by
  unfold pageL
  split
  · simp at hn
  · rfl
/-! ## the law's own sums, of rows with broken cells too -/
def spLSumsO (K : PySem.W.Frag) : Sp := fun vs H Q _ => ∃ (p : Addr) (xs : List (Option Int)), vs = [.ref p] ∧ SqE K H p (xs.map ov) ∧ xs.length ≤ 10000 ∧
  (allI xs = none → ∀ H', Fr [] H H' → Q .non H') ∧ (∀ ns t H', allI xs = some ns → Fr [] H H' → H t = none → H' t = some (.tup [.int (sumsF ns).1, .int (sumsF ns).2]) → Q (.ref t) H')
section
variable {K : PySem.W.Frag} {M : List Addr} {H H' : Hp} {H0 : Bs} {L : List (Addr × HO)} {Ds : List (PyData × V)} {p : Addr} {Q : VK} {E : XK} {ns : List Int} {xs : List (Option Int)}
theorem use_lsumsO (S : Sy K H0 M H L Ds) (h : SqE K H p (ns.map V.int)) (hz : ns.length ≤ 10000)
    (k : ∀ t H', H t = none → H0 t = none → Sy K H0 M H' (L ++ [(t, .tup [.int (sumsF ns).1, .int (sumsF ns).2])]) Ds → Q (.ref t) H') : spLSumsO K [.ref p] H Q E := by
  refine ⟨p, ns.map some, rfl, by rw [← ints_ov]; exact h, by rw [List.length_map]; exact hz, fun z => ?_, fun ms t H' hm f ht e => ?_⟩
  · rw [allI_some] at z; cases z
  · rw [allI_some] at hm; cases hm
    exact k t H' ht (S.free ht) (S.exN f ht e)
theorem use_lsumsN (S : Sy K H0 M H L Ds) (h : SqE K H p (xs.map ov)) (hz : xs.length ≤ 10000) (hn : none ∈ xs) (k : ∀ H', Sy K H0 M H' L Ds → Q .non H') : spLSumsO K [.ref p] H Q E := by
  refine ⟨p, xs, rfl, h, hz, fun _ H' f => k H' (S.ex f), fun ms t H' hm f ht e => ?_⟩
  rw [allI_none.mpr hn] at hm; cases hm
end
/-- the newest of the first so many pages -/
def moreF (a : Option (Int × Int × Rec)) (w : Int) (p : Option (Int × Rec)) : Option (Int × Int × Rec) := match p with
  | none => a
  | some p => match a with
    | none => some (w, p)
    | some b => if p.1 > b.2.1 then some (w, p) else a
def foundF (cs : List (Option Int)) (i : Nat) : Nat → Option (Int × Int × Rec)
  | 0 => none
  | j + 1 => moreF (foundF cs i j) (j : Int) (pageO cs (i + 6 * j))
theorem foundF_two (cs : List (Option Int)) (i : Nat) : foundF cs i 2 = newestO cs i := by
  unfold newestO
  simp only [foundF, moreF, Nat.mul_zero, Nat.add_zero, Nat.mul_one]
  cases pageO cs i <;> cases pageO cs (i + 6) <;> simp
theorem foundF_more (cs : List (Option Int)) (i j : Nat) : foundF cs i (j + 1) = moreF (foundF cs i j) (j : Int) (pageO cs (i + 6 * j)) := rfl
theorem ranX_step {C m dx l : Addr} {μ : Mem} {ws : List Wr} {j : Nat} {p : Wr} {H H1 : Hp} {Q Q2 S : Hp → Prop} (hp : ws[j]? = some p) (hok : (Mem.run (ws.take j) μ).2 = true) (k : ranX C m dx l μ ws H Q S) (f : Fr [m, l] H H1)
    (next : ∀ H2, Fr [m, l] H1 H2 → MemAt C H2 m dx l (Mem.run (ws.take (j + 1)) μ).1 → (Mem.run (ws.take (j + 1)) μ).2 = true → Q2 H2) : ranX C m dx l (Mem.run (ws.take j) μ).1 [p] H1 Q2 S := by
  intro H2 f2 hM
  have e : Mem.run (ws.take (j + 1)) μ = Mem.run [p] (Mem.run (ws.take j) μ).1 := by rw [take_more hp, run_ok hok]
  rw [← e] at hM ⊢
  refine ⟨fun hw => next H2 f2 hM hw, fun hw => ?_⟩
  have e2 : Mem.run ws μ = Mem.run (ws.take (j + 1)) μ := by
    have := run_no (b := ws.drop (j + 1)) hw
    rw [List.take_append_drop] at this
    exact this
  exact (k H2 (f.trans f2) (by rw [e2]; exact hM)).2 (by rw [e2]; exact hw)
def okRec (r : Rec) : Prop := (0 ≤ r.1 ∧ r.1 ≤ 9972) ∧ (0 ≤ r.2.1 ∧ r.2.1 ≤ 9972) ∧ (0 ≤ r.2.2 ∧ r.2.2 ≤ 9972)
def spNote (C : Addr) (er : Er → Addr) (K : PySem.W.Frag) : Sp := fun vs H Q E => ∃ (m dx l : Addr) (μ : Mem) (i : Int) (r : Rec) (v : V), vs = [.ref m, .int i, v] ∧ MemAt C H m dx l μ ∧ μ.up = true ∧ preN 12 μ i ∧ Dt K [m, l] H (recD r) v ∧ okRec r ∧ (nextO μ.cells i.toNat).2 ≤ 9972 ∧ 1 ≤ (nextO μ.cells i.toNat).2 ∧
  ranX C m dx l μ (noteW μ.cells i.toNat r) H (Q .non) (E (.ref (er .stopped)) none)
abbrev spPageRow := spD (fun x : Int × Rec => [.int x.1, recD x.2]) (fun _ => True) (fun x => .tuple ((rowF x.1 x.2).map .int))
theorem newest_w {cs : List (Option Int)} {i : Nat} {p : Int × Int × Rec} (h : newestO cs i = some p) : p.1 = 0 ∨ p.1 = 1 := by
  unfold newestO at h
  split at h
  · cases h
  · cases h; exact .inl rfl
  · cases h; exact .inr rfl
  · split at h
    · cases h; exact .inr rfl
    · cases h; exact .inl rfl
theorem next_w (cs : List (Option Int)) (i : Nat) : (nextO cs i).1 = 0 ∨ (nextO cs i).1 = 1 := by
  unfold nextO
  split
  · exact .inl rfl
  · rename_i p h
    have := newest_w h
    show 1 - p.1 = 0 ∨ 1 - p.1 = 1
    omega
theorem rowF_ok {n : Int} {r : Rec} (h0 : 0 ≤ n) (h1 : n ≤ 9972) (h : okRec r) : ∀ x ∈ rowF n r, 0 ≤ x ∧ x ≤ 9972 := by
  obtain ⟨h2, h3, h4⟩ := h
  have s := sumsF_ok [n, r.1, r.2.1, r.2.2]
  intro x hx
  simp only [rowF, List.mem_cons, List.not_mem_nil, or_false] at hx
  rcases hx with rfl | rfl | rfl | rfl | rfl | rfl <;> omega
theorem noteW_mid (cs : List (Option Int)) (i : Nat) (r : Rec) {j : Nat} (hj : j < 5) : (noteW cs i r)[j + 1]? = some (i + 6 * (nextO cs i).1.toNat + (j + 1), (rowF (nextO cs i).2 r).getD (j + 1) 0) := by
  have : j = 0 ∨ j = 1 ∨ j = 2 ∨ j = 3 ∨ j = 4 := by omega
  rcases this with rfl | rfl | rfl | rfl | rfl <;> rfl
/-! ## rows with broken cells, as data -/
def sumsD (xs : List (Option Int)) : PyData := match allI xs with
  | none => .none
  | some ns => .tuple [.int (sumsF ns).1, .int (sumsF ns).2]
def titleO (xs : List (Option Int)) : Option (Int × Int × Int) := (allI xs).map titleF
def titleD : Option (Int × Int × Int) → PyData
  | none => .none
  | some t => tripD t
def spEO (pre : List (Option Int) → Prop) (res : List (Option Int) → PyData) (K : PySem.W.Frag) : Sp := fun vs H Q _ => ∃ (M : List Addr) (xs : List (Option Int)) (p : Addr), vs = [.ref p] ∧ (∀ a ∈ M, ∃ o, H a = some o) ∧ SqE K H p (xs.map ov) ∧ pre xs ∧
  ∀ u H', Fr [] H H' → Dt K M H' (res xs) u → Q u H'
/-- of a list of cells and a place -/
def spLI (pre : List (Option Int) → Int → Prop) (res : List (Option Int) → Int → PyData) (K : PySem.W.Frag) : Sp := fun vs H Q _ => ∃ (M : List Addr) (xs : List (Option Int)) (p : Addr) (i : Int), vs = [.ref p, .int i] ∧ (∀ a ∈ M, ∃ o, H a = some o) ∧ SqL K H p (xs.map ov) ∧ pre xs i ∧
  ∀ u H', Fr [] H H' → Dt K M H' (res xs i) u → Q u H'
section
variable {K : PySem.W.Frag} {M : List Addr} {H H' : Hp} {H0 : Bs} {L : List (Addr × HO)} {Ds : List (PyData × V)} {p : Addr} {Q : VK} {E : XK} {ns : List Int} {xs : List (Option Int)} {i : Int} {σ : L2.St} {te : TE} {tt : TT} {j : Nat}
theorem use_EO {pre : List (Option Int) → Prop} {res : List (Option Int) → PyData} (xs : List (Option Int)) (S : Sy K H0 M H L Ds) (h : SqE K H p (xs.map ov)) (hp : pre xs) (k : ∀ u H', Sy K H0 M H' L (Ds ++ [(res xs, u)]) → Q u H') : spEO pre res K [.ref p] H Q E :=
  ⟨M, xs, p, rfl, S.dom, h, hp, fun u H' f hu => k u H' ((S.ex f).addD hu)⟩
theorem use_LI {pre : List (Option Int) → Int → Prop} {res : List (Option Int) → Int → PyData} (xs : List (Option Int)) (S : Sy K H0 M H L Ds) (h : SqL K H p (xs.map ov)) (hp : pre xs i) (k : ∀ u H', Sy K H0 M H' L (Ds ++ [(res xs i, u)]) → Q u H') : spLI pre res K [.ref p, .int i] H Q E :=
  ⟨M, xs, p, i, rfl, S.dom, h, hp, fun u H' f hu => k u H' ((S.ex f).addD hu)⟩
theorem sq_od {ns : List Int} (h : SqE K H p (ns.map V.int)) : SqE K H p ((ns.map some).map ov) := by rw [← ints_ov]; exact h
theorem x_iEx {xs : List V} {R : It → Hp → Prop} {m : Nat} (hv : σ[m]? = some (some (.ref p))) (h : SqE K H p xs)
    (q : ∀ J G, Walk J xs.length G (fun i H x H' => H' = H ∧ xs[i]? = some x) → (∀ (D : Addr) (H' : Hp), H D = none → Fr [] H H' → G H') → R J H) : iEi K (tVar m) σ H R := by
  rcases h with h | h
  · exact .inl ⟨_, hv, p, rfl, ⟨xs, h⟩, q _ _ walk_list fun _ _ _ f => f.sl (fun z => nomatch z) h⟩
  · exact .inr ⟨_, hv, p, rfl, ⟨xs, h⟩, q _ _ walk_tup fun _ _ _ f => f.st (fun z => nomatch z) h⟩
/-- [e for x in ..]: the list as an entry, its items as data -/
theorem lcW_zip {J : It} {n : Nat} {G : Hp → Prop} {y : Nat → V → Prop} (w : Walk J n G (fun i H x H' => H' = H ∧ y i x)) (S : Sy K H0 M H L Ds) (hG : ∀ (D : Addr) (H' : Hp), H D = none → Fr [] H H' → G H') (hn : n ≤ 100000) (g : Nat → PyData)
    (hte : ∀ (i : Nat) (x : V) (D : Addr) (acc : List V) (Ds' : List (PyData × V)) (H' : Hp) (Q' : VK), i < n → y i x → H D = none → Sy K (b0 H) (D :: M) H' (L ++ [(D, .lst acc)]) (Ds ++ Ds') →
      (∀ (u : V) (H'' : Hp), Sy K (b0 H) (D :: M) H'' (L ++ [(D, .lst acc)]) (Ds ++ Ds') → Dt K (D :: M) H'' (g i) u → Q' u H'') → te ((σ.set j none).set j (some x)) H' Q')
    (k : ∀ D H' vs, H D = none → vs.length = n → Sy K H0 M H' (L ++ [(D, .lst vs)]) (Ds ++ ((List.range n).map g).zip vs) → Q (.ref D) H') : LcO (gName j) tYes te [j] σ Q J H := by
  intro D hD
  have DF := hD
  have S1 : Sy K (b0 H) M H L Ds := S.rebase
  refine lc_it w (fun i H' => i ≤ n ∧ ∃ vs : List V, vs.length = i ∧ Sy K (b0 H) (D :: M) H' (L ++ [(D, .lst vs)]) (Ds ++ ((List.range i).map g).zip vs)) ⟨Nat.zero_le _, [], rfl, by rw [List.range_zero, List.map_nil, List.zip_nil_left, List.append_nil]; exact S1.newM hD⟩ (fun i H' _ S' => by
    obtain ⟨_, vs, _, T⟩ := S'
    exact hG D H' hD T.fr) ?_ ?_
  · rintro i x H2 H' hi ⟨_, vs, hl, T⟩ ⟨rfl, hy⟩
    refine ⟨wipe_one _, ?_⟩
    refine hte i x D vs _ H' _ hi hy hD T fun u H'' T2 hu => ?_
    have gD : (L ++ [(D, HO.lst vs)])[L.length]? = some (D, .lst vs) := by simp
    refine ⟨vs, T2.get L.length gD, szl (by omega), by omega, vs ++ [u], by simp [hl], ?_⟩
    have T3 := (T2.addD hu).set (o' := .lst (vs ++ [u])) L.length gD ⟨List.mem_cons_self .., .inr DF⟩
    rw [show (L ++ [(D, HO.lst vs)]).set L.length (D, .lst (vs ++ [u])) = L ++ [(D, .lst (vs ++ [u]))] by simp] at T3
    rw [List.range_succ, List.map_append, List.map_singleton, zip_more (by simp [hl]), ← List.append_assoc]
    exact T3
  · rintro H' ⟨_, vs, hl, T⟩
    exact k D H' vs hD hl (S.over T).dropM
end
theorem sumsD_some (ns : List Int) : sumsD (ns.map some) = .tuple [.int (sumsF ns).1, .int (sumsF ns).2] := by unfold sumsD; rw [allI_some]
theorem sumsD_none {xs : List (Option Int)} (h : none ∈ xs) : sumsD xs = .none := by unfold sumsD; rw [allI_none.mpr h]
theorem whole_of {xs : List (Option Int)} (h : none ∉ xs) : ∃ ns : List Int, xs = ns.map some := by
  cases e : allI xs with
  | none => exact absurd (allI_none.mp e) h
  | some ns => exact ⟨ns, allI_inv e⟩
/-- of a slice that lies within -/
theorem cut_in {α : Type} (f : α → V) (xs : List α) {a b : Int} (h0 : 0 ≤ a) (h1 : a ≤ b) (h2 : b ≤ xs.length) : cutV (xs.map f) (some a) (some b) = ((xs.drop a.toNat).take (b - a).toNat).map f := by
  unfold cutV
  rw [List.length_map, ← List.map_drop, ← List.map_take]
  congr 1
  have e1 : HT.sIx xs.length 0 (some a) = a.toNat := by simp only [HT.sIx]; split <;> omega
  have e2 : HT.sIx xs.length xs.length (some b) = b.toNat := by simp only [HT.sIx]; split <;> omega
  rw [e1, e2, show b.toNat - a.toNat = (b - a).toNat by omega]
def wrD (w : Wr) : PyData := .tuple [.int w.1, .int w.2]
def logD (ws : List Wr) : PyData := .list (ws.map wrD)
abbrev spLNewest := spLI (fun xs i => 0 ≤ i ∧ i + 12 ≤ xs.length ∧ xs.length ≤ 400 ∧ ∀ n, some n ∈ xs → 0 ≤ n) fun xs i => newestD (newestO xs i.toNat)
def spLNoted (K : PySem.W.Frag) : Sp := fun vs H Q _ => ∃ (M : List Addr) (xs : List (Option Int)) (p : Addr) (i : Int) (r : Rec) (v : V), vs = [.ref p, .int i, v] ∧ (∀ a ∈ M, ∃ o, H a = some o) ∧ SqL K H p (xs.map ov) ∧ (0 ≤ i ∧ i + 12 ≤ xs.length ∧ xs.length ≤ 400 ∧ ∀ n, some n ∈ xs → 0 ≤ n) ∧ Dt K M H (recD r) v ∧
  ∀ u H', Fr [] H H' → Dt K M H' (logD (noteW xs i.toNat r)) u → Q u H'
section
variable {K : PySem.W.Frag} {M : List Addr} {H : Hp} {Q : VK} {v u : V} {s t : Int × Int}
theorem d_eqTT {ns ms : List Int} (h1 : Dt K M H (.tuple (ns.map .int)) v) (h2 : Dt K M H (.tuple (ms.map .int)) u) (q : Q (.bl (decide (ns = ms))) H) : rEqD K v u H Q := by
  refine n_eqD h1.dp h2.dp (sh_intsT ns) (sh_intsT ms) ?_
  simp only [PyData.eqv, eqvAll_ints]; exact q
theorem d_neTT {ns ms : List Int} (h1 : Dt K M H (.tuple (ns.map .int)) v) (h2 : Dt K M H (.tuple (ms.map .int)) u) (q : Q (.bl (!decide (ns = ms))) H) : rNeD K v u H Q := by
  refine n_neD h1.dp h2.dp (sh_intsT ns) (sh_intsT ms) ?_
  simp only [PyData.eqv, eqvAll_ints]; exact q
theorem pair_eq : decide (([s.1, s.2] : List Int) = [t.1, t.2]) = decide (s = t) := by
  rw [Bool.eq_iff_iff]; simp only [decide_eq_true_eq, List.cons.injEq, and_true]
  exact ⟨fun z => Prod.ext z.1 z.2, fun z => by rw [z]; exact ⟨rfl, rfl⟩⟩
theorem d_eqP (h1 : Dt K M H (.tuple [.int s.1, .int s.2]) v) (h2 : Dt K M H (.tuple [.int t.1, .int t.2]) u) (q : Q (.bl (decide (s = t))) H) : rEqD K v u H Q :=
  d_eqTT (ns := [s.1, s.2]) (ms := [t.1, t.2]) h1 h2 (by rw [pair_eq]; exact q)
theorem d_neP (h1 : Dt K M H (.tuple [.int s.1, .int s.2]) v) (h2 : Dt K M H (.tuple [.int t.1, .int t.2]) u) (q : Q (.bl (!decide (s = t))) H) : rNeD K v u H Q :=
  d_neTT (ns := [s.1, s.2]) (ms := [t.1, t.2]) h1 h2 (by rw [pair_eq]; exact q)
end
theorem next_cases (cs : List (Option Int)) (i : Nat) : newestO cs i = none ∧ (nextO cs i).1 = 0 ∧ (nextO cs i).2 = 1 ∨ ∃ p, newestO cs i = some p ∧ (nextO cs i).1 = 1 - p.1 ∧ (nextO cs i).2 = p.2.1 + 1 := by
  unfold nextO
  cases e : newestO cs i with
  | none => exact .inl ⟨rfl, rfl, rfl⟩
  | some p => exact .inr ⟨p, rfl, rfl, rfl⟩
theorem Sy.back {K : PySem.W.Frag} {M : List Addr} {H : Hp} {H0 : Bs} {L : List (Addr × HO)} {Ds Ds' Es : List (PyData × V)} (S : Sy K H0 M H L (Ds ++ (Ds' ++ Es))) : Sy K H0 M H L (Ds ++ Ds') := S.subD fun x hx => by
  rcases List.mem_append.mp hx with h | h
  · exact List.mem_append_left _ h
  · exact List.mem_append_right _ (List.mem_append_left _ h)
theorem notM0 {M : List Addr} {H : Hp} {p : Addr} (hd : ∀ a ∈ M, ∃ o, H a = some o) (h : H p = none) : p ∉ M := fun z => by
  obtain ⟨o, e⟩ := hd _ z
  rw [h] at e; cases e
/-! ## books, plainly -/
theorem applyW_out {k : Nat} : ∀ {ws : List Wr} {cs : List (Option Int)}, (∀ p ∈ ws, p.1 ≠ k) → (applyW ws cs)[k]? = cs[k]?
  | [], _, _ => rfl
  | w :: r, cs, h => by
    show (applyW r (cs.set w.1 (some w.2)))[k]? = _
    rw [applyW_out (ws := r) (fun p hp => h p (List.mem_cons_of_mem _ hp)), List.getElem?_set_ne (h w (List.mem_cons_self ..))]
theorem row_ext {cs cs' : List (Option Int)} {j n : Nat} (h : ∀ k, j ≤ k → k < j + n → cs'[k]? = cs[k]?) : (cs'.drop j).take n = (cs.drop j).take n := by
  apply List.ext_getElem?
  intro k
  by_cases hk : k < n
  · rw [List.getElem?_take_of_lt hk, List.getElem?_take_of_lt hk, List.getElem?_drop, List.getElem?_drop, h (j + k) (by omega) (by omega)]
  · rw [List.getElem?_eq_none (by rw [List.length_take]; omega), List.getElem?_eq_none (by rw [List.length_take]; omega)]
theorem page_same {cs cs' : List (Option Int)} {j : Nat} (h : ∀ k, j ≤ k → k < j + 6 → cs'[k]? = cs[k]?) : pageO cs' j = pageO cs j := by
  unfold pageO; rw [row_ext h]
/-- the page that is to be written, and the other one -/
def wPage (cs : List (Option Int)) (i : Nat) : Nat := i + 6 * (nextO cs i).1.toNat
def oPage (cs : List (Option Int)) (i : Nat) : Nat := i + 6 * (1 - (nextO cs i).1).toNat
theorem record_other {cs cs' : List (Option Int)} {i : Nat} (h1 : pageO cs' (wPage cs i) = none) (h2 : pageO cs' (oPage cs i) = pageO cs (oPage cs i)) : newestO cs' i = newestO cs i := by
  unfold wPage oPage nextO at *
  unfold newestO at *
  cases e0 : pageO cs i with
  | none =>
    cases e1 : pageO cs (i + 6) with
    | none => rw [e0, e1] at h1 h2; simp at h1 h2; rw [h1, h2, e1]
    | some q => rw [e0, e1] at h1 h2; simp at h1 h2; rw [h1, h2, e1]
  | some p =>
    cases e1 : pageO cs (i + 6) with
    | none => rw [e0, e1] at h1 h2; simp at h1 h2; rw [h1, h2, e0]
    | some q =>
      rw [e0, e1] at h1 h2
      by_cases hq : q.1 > p.1
      · simp [if_pos hq] at h1 h2
        rw [h1, h2, e1]
        simp [if_pos hq]
      · simp [if_neg hq] at h1 h2
        rw [h1, h2, e0]
        simp [if_neg hq]
theorem record_new {cs cs' : List (Option Int)} {i : Nat} {r : Rec} (h1 : pageO cs' (wPage cs i) = some ((nextO cs i).2, r)) (h2 : pageO cs' (oPage cs i) = pageO cs (oPage cs i)) : newestO cs' i = some ((nextO cs i).1, (nextO cs i).2, r) := by
  unfold wPage oPage nextO at *
  unfold newestO at *
  cases e0 : pageO cs i with
  | none =>
    cases e1 : pageO cs (i + 6) with
    | none => rw [e0, e1] at h1 h2; simp at h1 h2; rw [h1, h2, e1]
    | some q => rw [e0, e1] at h1 h2; simp at h1 h2; rw [h1, h2, e1]; simp; omega
  | some p =>
    cases e1 : pageO cs (i + 6) with
    | none => rw [e0, e1] at h1 h2; simp at h1 h2; rw [h1, h2, e0]; simp; omega
    | some q =>
      rw [e0, e1] at h1 h2
      by_cases hq : q.1 > p.1
      · simp [if_pos hq] at h1 h2
        rw [h1, h2, e1]
        simp [if_pos hq]; omega
      · simp [if_neg hq] at h1 h2
        rw [h1, h2, e0]
        simp [if_neg hq]; omega
theorem noteW_at (cs : List (Option Int)) (i : Nat) (r : Rec) : ∀ p ∈ noteW cs i r, wPage cs i ≤ p.1 ∧ p.1 < wPage cs i + 6 := by
  intro p hp
  unfold noteW at hp
  simp only [List.mem_cons, List.not_mem_nil, or_false] at hp
  unfold wPage
  rcases hp with rfl | rfl | rfl | rfl | rfl | rfl | rfl <;> simp <;> omega
theorem pages_apart (cs : List (Option Int)) (i : Nat) : oPage cs i + 6 ≤ wPage cs i ∨ wPage cs i + 6 ≤ oPage cs i := by
  unfold oPage wPage
  rcases next_w cs i with h | h <;> rw [h] <;> simp
theorem pages_in (cs : List (Option Int)) (i : Nat) : i ≤ wPage cs i ∧ wPage cs i + 6 ≤ i + 12 ∧ i ≤ oPage cs i ∧ oPage cs i + 6 ≤ i + 12 := by
  unfold oPage wPage
  rcases next_w cs i with h | h <;> rw [h] <;> simp
/-- a page that holds a row -/
theorem page_of {cs : List (Option Int)} {b : Nat} {n : Int} {r : Rec} (h : (cs.drop b).take 6 = (rowF n r).map some) (hn : n ≠ 0) : pageO cs b = some (n, r) := by
  unfold pageO
  rw [h]
  show pageL [some n, some r.1, some r.2.1, some r.2.2, some _, some _] = _
  rw [pageL_some, if_pos ⟨hn, rfl⟩]
theorem page_zero {cs : List (Option Int)} {b : Nat} (h : cs[b]? = some none ∨ cs[b]? = some (some 0)) : pageO cs b = none := by
  unfold pageO
  have hb : b < cs.length := by
    rcases h with h | h <;> exact (List.getElem?_eq_some_iff.mp h).1
  rw [List.drop_eq_getElem_cons hb, List.take_succ_cons]
  have e : cs[b] = none ∨ cs[b] = some 0 := by
    rcases h with h | h
    · exact .inl (List.getElem?_eq_some_iff.mp h).2
    · exact .inr (List.getElem?_eq_some_iff.mp h).2
  rcases e with e | e
  · rw [e]; unfold pageL; rfl
  · rw [e]
    unfold pageL
    split
    · rename_i n a b' c s t z
      simp only [List.cons.injEq, Option.some.injEq] at z
      rw [if_neg]
      exact fun z2 => z2.1 z.1.symm
    · rfl
theorem set6 {cs : List (Option Int)} {b : Nat} (hb : b + 6 ≤ cs.length) (x0 x1 x2 x3 x4 x5 : Int) : ((applyW [(b, 0), (b + 1, x1), (b + 2, x2), (b + 3, x3), (b + 4, x4), (b + 5, x5), (b, x0)] cs).drop b).take 6 = [some x0, some x1, some x2, some x3, some x4, some x5] := by
  have hl : (applyW [(b, 0), (b + 1, x1), (b + 2, x2), (b + 3, x3), (b + 4, x4), (b + 5, x5), (b, x0)] cs).length = cs.length := applyW_len _ _
  apply List.ext_getElem?
  intro k
  by_cases hk : k < 6
  · rw [List.getElem?_take_of_lt hk, List.getElem?_drop]
    have : k = 0 ∨ k = 1 ∨ k = 2 ∨ k = 3 ∨ k = 4 ∨ k = 5 := by omega
    simp only [applyW, List.foldl_cons, List.foldl_nil]
    rcases this with rfl | rfl | rfl | rfl | rfl | rfl <;> simp [List.getElem?_set] <;> omega
  · rw [List.getElem?_eq_none (by rw [List.length_take]; omega), List.getElem?_eq_none (by simp; omega)]
/-- a whole noting -/
theorem note_whole {cs : List (Option Int)} {i : Nat} {r : Rec} (h : i + 12 ≤ cs.length) (hn : (nextO cs i).2 ≠ 0) : newestO (applyW (noteW cs i r) cs) i = some ((nextO cs i).1, (nextO cs i).2, r) := by
  have hp := pages_in cs i
  refine record_new (page_of ?_ hn) (page_same fun k h1 h2 => applyW_out fun p hp => ?_)
  · exact set6 (by omega) _ _ _ _ _ _
  · have := noteW_at cs i r p hp
    have := pages_apart cs i
    omega
/-- a cell that is being written when power goes -/
def tornW (t : Str) (cs : List (Option Int)) (p : Wr) : List (Option Int) := if t = "broken" then cs.set p.1 none else if t = "new" then cs.set p.1 (some p.2) else cs
theorem run_torn : ∀ {ws : List Wr} {μ : Mem}, (∀ n, μ.left = some n → 0 ≤ n) → (Mem.run ws μ).2 = false → ∃ (n : Nat) (p : Wr), ws[n]? = some p ∧ μ.left = some (n : Int) ∧ (Mem.run ws μ).1.cells = tornW μ.torn (applyW (ws.take n) μ.cells) p ∧ (Mem.run ws μ).1.many = μ.many + n
  | [], μ, _, h => by cases h
  | (i, w) :: r, μ, h0, h => by
    by_cases hl : μ.left = some 0
    · rw [run_cut hl]
      refine ⟨0, (i, w), rfl, hl, ?_, by simp [Mem.down]⟩
      simp only [Mem.down, tornW, applyW, List.take_zero, List.foldl_nil]
    · rw [run_go hl] at h ⊢
      cases e : μ.left with
      | none => rw [run_free (by simp [Mem.wr, e])] at h; cases h
      | some k =>
        have hk := h0 k e
        have hk1 : k ≠ 0 := fun z => hl (by rw [e, z])
        obtain ⟨n, p, h1, h2, h3, h4⟩ := run_torn (ws := r) (μ := μ.wr i w) (fun n hn => by simp only [Mem.wr, e, Option.map_some, Option.some.injEq] at hn; omega) h
        refine ⟨n + 1, p, by simpa using h1, ?_, ?_, ?_⟩
        · simp only [Mem.wr, e, Option.map_some, Option.some.injEq] at h2
          congr 1; push_cast; omega
        · rw [h3]; rfl
        · rw [h4]; simp only [Mem.wr]; push_cast; omega
theorem tornW_len (t : Str) (cs : List (Option Int)) (p : Wr) : (tornW t cs p).length = cs.length := by
  unfold tornW; split
  · simp
  · split <;> simp
theorem tornW_out {t : Str} {cs : List (Option Int)} {p : Wr} {k : Nat} (h : p.1 ≠ k) : (tornW t cs p)[k]? = cs[k]? := by
  unfold tornW; split
  · exact List.getElem?_set_ne h
  · split
    · exact List.getElem?_set_ne h
    · rfl
/-- a noting that is stopped: the elder record, or the new one -/
theorem note_torn {cs : List (Option Int)} {i n : Nat} {r : Rec} {p : Wr} {t : Str} (h : i + 12 ≤ cs.length) (hn : (nextO cs i).2 ≠ 0) (hp : (noteW cs i r)[n]? = some p) :
    newestO (tornW t (applyW ((noteW cs i r).take n) cs) p) i = newestO cs i ∨ (newestO (tornW t (applyW ((noteW cs i r).take n) cs) p) i = some ((nextO cs i).1, (nextO cs i).2, r) ∧ n = 6) := by
  have hin := pages_in cs i
  have hpm := noteW_at cs i r p (List.mem_of_getElem? hp)
  have other : pageO (tornW t (applyW ((noteW cs i r).take n) cs) p) (oPage cs i) = pageO cs (oPage cs i) := page_same fun k h1 h2 => by
    have := pages_apart cs i
    rw [tornW_out (by omega)]
    refine applyW_out fun q hq => ?_
    have := noteW_at cs i r q (List.mem_of_mem_take hq)
    omega
  have hlen : (applyW ((noteW cs i r).take n) cs).length = cs.length := applyW_len _ _
  have hn7 : n < 7 := (List.getElem?_eq_some_iff.mp hp).1
  by_cases h0 : n = 0
  · subst h0
    have e : p = (wPage cs i, 0) := (Option.some.inj hp).symm
    subst e
    simp only [List.take_zero] at other ⊢
    have ea : applyW [] cs = cs := rfl
    rw [ea] at other ⊢
    by_cases hb : t = "broken"
    · refine .inl (record_other (page_zero ?_) other)
      rw [tornW, if_pos hb]; left; exact List.getElem?_set_self (by omega)
    · by_cases hw : t = "new"
      · refine .inl (record_other (page_zero ?_) other)
        rw [tornW, if_neg hb, if_pos hw]; right; exact List.getElem?_set_self (by omega)
      · rw [tornW, if_neg hb, if_neg hw]; exact .inl rfl
  · have zero : (applyW ((noteW cs i r).take n) cs)[wPage cs i]? = some (some 0) := by
      obtain ⟨k, rfl⟩ : ∃ k, n = k + 1 := ⟨n - 1, by omega⟩
      have e : (noteW cs i r).take (k + 1) = (wPage cs i, 0) :: ((noteW cs i r).drop 1).take k := rfl
      rw [e]
      show (applyW _ (cs.set (wPage cs i) (some 0)))[wPage cs i]? = _
      rw [applyW_out]
      · exact List.getElem?_set_self (by omega)
      · intro q hq
        have hk : k ≤ 5 := by omega
        have hq2 : q ∈ ((noteW cs i r).drop 1).take 5 := by
          have : ((noteW cs i r).drop 1).take k = (((noteW cs i r).drop 1).take 5).take k := by rw [List.take_take, Nat.min_eq_left hk]
          rw [this] at hq
          exact List.mem_of_mem_take hq
        simp only [noteW, List.drop_succ_cons, List.drop_zero, List.take_succ_cons, List.take_zero, List.mem_cons, List.not_mem_nil, or_false] at hq2
        unfold wPage
        rcases hq2 with rfl | rfl | rfl | rfl | rfl <;> simp
    by_cases h6 : n = 6
    · subst h6
      have e : p = (wPage cs i, (nextO cs i).2) := (Option.some.inj hp).symm
      by_cases hb : t = "broken"
      · refine .inl (record_other (page_zero ?_) other)
        rw [tornW, if_pos hb, e]; left; exact List.getElem?_set_self (by omega)
      · by_cases hw : t = "new"
        · refine .inr ⟨?_, rfl⟩
          rw [tornW, if_neg hb, if_pos hw, e]
          exact note_whole h hn
        · refine .inl (record_other (page_zero ?_) other)
          rw [tornW, if_neg hb, if_neg hw]; exact .inr zero
    · refine .inl (record_other (page_zero ?_) other)
      have hne : p.1 ≠ wPage cs i := by
        have : n = 1 ∨ n = 2 ∨ n = 3 ∨ n = 4 ∨ n = 5 := by omega
        unfold wPage
        rcases this with rfl | rfl | rfl | rfl | rfl <;> (cases Option.some.inj hp; simp)
      rw [tornW_out hne]
      exact .inr zero
def Mem.of (cs : List (Option Int)) : Mem := ⟨cs, none, "old", true, 0⟩
theorem row_is {cs : List (Option Int)} {b n : Nat} {xs : List (Option Int)} (hl : xs.length = n) (h : ∀ k, k < n → cs[b + k]? = xs[k]?) : (cs.drop b).take n = xs := by
  apply List.ext_getElem?
  intro k
  by_cases hk : k < n
  · rw [List.getElem?_take_of_lt hk, List.getElem?_drop, h k hk]
  · rw [List.getElem?_eq_none (by rw [List.length_take]; omega), List.getElem?_eq_none (by omega)]
/-! ## loops over lists and tuples that are data; a frame of its own meanwhile -/
section
variable {K : PySem.W.Frag} {M M' N : List Addr} {H H' : Hp} {B : Bs} {L L' : List (Addr × HO)} {Ds Ds' : List (PyData × V)} {p : Addr} {ds : List PyData} {σ : L2.St} {g : TG} {tb : TS} {D : Ends}
theorem Sy.from (S : Sy K B M H L Ds) (N : List Addr) (h : ∀ a ∈ N, ∃ o, H a = some o) : Sy K ⟨H, N⟩ M H L Ds := ⟨Fr.refl _ _, S.ent, S.nd, S.dat, S.dom, h⟩
theorem Sy.into (S : Sy K B M H L Ds) (T : Sy K ⟨H, N⟩ M' H' L' Ds') (hN : ∀ a ∈ N, B.may a) : Sy K B M' H' L' Ds' := by
  refine ⟨fun b o n e => ?_, T.ent, T.nd, T.dat, T.dom, fun a ha => ?_⟩
  · refine T.fr b o (fun z => ?_) (S.fr b o n e)
    rcases hN b z with h | h
    · exact n h
    · rw [h] at e; cases e
  · obtain ⟨u, hu⟩ := S.nom a ha
    by_cases z : a ∈ N
    · exact T.nom a z
    · exact ⟨u, T.fr a u z hu⟩
theorem for_dataL (h : Dt K M H (.list ds) (.ref p)) (Pv : Nat → L2.St → Hp → Prop) (h0 : Pv 0 σ H) (hf : ∀ j σ' H', Pv j σ' H' → Fr M H H')
    (hs : ∀ j d x σ' H', ds[j]? = some d → Dt K M H' d x → Pv j σ' H' → g x σ' H' fun σ2 H2 => tb { D with nx := Pv (j + 1), ct := Pv (j + 1), bk := D.nx } σ2 H2) (hd : ∀ σ' H', Pv ds.length σ' H' → D.nx σ' H') :
    ∃ W : Nat → Nat → L2.St → Hp → Prop, (∃ m, W 0 m σ H) ∧ ∀ i m σ H, W i m σ H →
      ((Itl K p).stop i H ∧ D.nx σ H) ∨ ((Itl K p).go i H ∧ ∃ N : L2.St → Hp → Prop, (∀ σ' H', N σ' H' → ∃ m', m' < m ∧ W (i + 1) m' σ' H') ∧ ∀ x H', (Itl K p).yld i H x H' → g x σ H' fun σ2 H2 => tb { D with nx := N, ct := N, bk := D.nx } σ2 H2) := by
  obtain ⟨vs, s, r⟩ := h.lst
  refine for_list (xs := vs) Pv h0 (fun j σ' H' _ q => (s.mono (hf j σ' H' q)).1) (fun j x σ' H' hx q => ?_) (fun σ' H' q => hd σ' H' (by rw [← r.len]; exact q))
  have hj := (List.getElem?_eq_some_iff.mp hx).1
  rw [r.len] at hj
  obtain ⟨d, hdd⟩ := at_lt hj
  obtain ⟨v, hv, w⟩ := r.at hdd
  rw [hx] at hv; cases hv
  exact hs j d x σ' H' hdd (w.mono (hf j σ' H' q)) q
theorem for_dataT (h : Dt K M H (.tuple ds) (.ref p)) (Pv : Nat → L2.St → Hp → Prop) (h0 : Pv 0 σ H) (hf : ∀ j σ' H', Pv j σ' H' → Fr M H H')
    (hs : ∀ j d x σ' H', ds[j]? = some d → Dt K M H' d x → Pv j σ' H' → g x σ' H' fun σ2 H2 => tb { D with nx := Pv (j + 1), ct := Pv (j + 1), bk := D.nx } σ2 H2) (hd : ∀ σ' H', Pv ds.length σ' H' → D.nx σ' H') :
    ∃ W : Nat → Nat → L2.St → Hp → Prop, (∃ m, W 0 m σ H) ∧ ∀ i m σ H, W i m σ H →
      ((Itt K p).stop i H ∧ D.nx σ H) ∨ ((Itt K p).go i H ∧ ∃ N : L2.St → Hp → Prop, (∀ σ' H', N σ' H' → ∃ m', m' < m ∧ W (i + 1) m' σ' H') ∧ ∀ x H', (Itt K p).yld i H x H' → g x σ H' fun σ2 H2 => tb { D with nx := N, ct := N, bk := D.nx } σ2 H2) := by
  obtain ⟨vs, s, r⟩ := h.tup
  refine for_tup (xs := vs) Pv h0 (fun j σ' H' _ q => (s.mono (hf j σ' H' q)).1) (fun j x σ' H' hx q => ?_) (fun σ' H' q => hd σ' H' (by rw [← r.len]; exact q))
  have hj := (List.getElem?_eq_some_iff.mp hx).1
  rw [r.len] at hj
  obtain ⟨d, hdd⟩ := at_lt hj
  obtain ⟨v, hv, w⟩ := r.at hdd
  rw [hx] at hv; cases hv
  exact hs j d x σ' H' hdd (w.mono (hf j σ' H' q)) q
end
/-! ## in of a tuple of data; a dict of three texts -/
def rInT (K : PySem.W.Frag) (neg : Bool) : R2 := fun x y H Q => ∃ d ds, Dp K H x d ∧ Dp K H y (.tuple ds) ∧ SeqAt.shaped d = true ∧ SeqAt.shaped (.tuple ds) = true ∧ Q (.bl (if neg then !ds.any fun z => PyData.eqv z d else ds.any fun z => PyData.eqv z d)) H
section
variable {X : Cx} {K : PySem.W.Frag}
theorem op_inT (hu : X.A.units + 65 < cLine) : OpR X (compareOp .In) (rInT X.K false) := by
  intro pins s σ H x y v u Q I rx ry h
  obtain ⟨d, ds, hd, he, sd, se, q⟩ := h
  obtain ⟨as, r1⟩ := Dp.reads I d x v hd rx
  obtain ⟨bs, r2⟩ := Dp.reads I (.tuple ds) y u he ry
  exact SeqAt.in_tuple_reads r2 r1 (SeqAt.canLay_of_shaped se) (SeqAt.canLay_of_shaped sd) (PyProof.Rows.room_in_shaped sd hu) ⟨.bl _, H, I, rfl, q⟩
theorem op_notInT (hu : X.A.units + 65 < cLine) : OpR X (compareOp .NotIn) (rInT X.K true) := by
  intro pins s σ H x y v u Q I rx ry h
  obtain ⟨d, ds, hd, he, sd, se, q⟩ := h
  obtain ⟨as, r1⟩ := Dp.reads I d x v hd rx
  obtain ⟨bs, r2⟩ := Dp.reads I (.tuple ds) y u he ry
  exact SeqAt.notIn_tuple_reads r2 r1 (SeqAt.canLay_of_shaped se) (SeqAt.canLay_of_shaped sd) (PyProof.Rows.room_in_shaped sd hu) ⟨.bl _, H, I, rfl, q⟩
theorem b_inT (hu : X.A.units + 65 < cLine) (e : X.K = K := by rfl) : OpR X (compareOp .In) (rInT K false) := by subst e; exact op_inT hu
theorem b_notInT (hu : X.A.units + 65 < cLine) (e : X.K = K := by rfl) : OpR X (compareOp .NotIn) (rInT K true) := by subst e; exact op_notInT hu
theorem hr65 {k : Nat} {A : Around} (r : Room k A) : A.units + 65 < cLine := by have := r.un; omega
end
section
variable {K : PySem.W.Frag} {M : List Addr} {H : Hp} {Q : VK} {d : PyData} {ds : List PyData} {v u : V} {neg : Bool} {σ : L2.St} {tv1 tv2 tv3 : TE} {k : Nat} {v1 v2 v3 : V} {t : Str}
theorem d_inT (h1 : Dt K M H d v) (h2 : Dt K M H (.tuple ds) u) (s1 : SeqAt.shaped d = true) (s2 : SeqAt.shaped (.tuple ds) = true) (q : Q (.bl (if neg then !ds.any fun z => PyData.eqv z d else ds.any fun z => PyData.eqv z d)) H) : rInT K neg v u H Q := ⟨d, ds, h1.dp, h2.dp, s1, s2, q⟩
theorem key_on : ¬ (Sum.inr ("old" : Str) : Key) = (Sum.inr ("new" : Str) : Key) := by decide +kernel
theorem key_ob : ¬ (Sum.inr ("old" : Str) : Key) = (Sum.inr ("broken" : Str) : Key) := by decide +kernel
theorem key_bn : ¬ (Sum.inr ("broken" : Str) : Key) = (Sum.inr ("new" : Str) : Key) := by decide +kernel
def tornK (v1 v2 v3 : V) : List (Key × V) := [(.inr "old", v1), (.inr "broken", v2), (.inr "new", v3)]
theorem tornK_merge : mergeK [] (tornK v1 v2 v3) = tornK v1 v2 v3 := by
  have e1 : putK ([] : List (Key × V)) (Sum.inr ("old" : Str) : Key) v1 = [((Sum.inr ("old" : Str) : Key), v1)] := putK_new _ rfl
  have g2 : valV [((Sum.inr ("old" : Str) : Key), v1)] (Sum.inr ("broken" : Str) : Key) = none := by
    rw [valV_neg (p := ((Sum.inr ("old" : Str) : Key), v1)) key_ob]; rfl
  have e2 : putK [((Sum.inr ("old" : Str) : Key), v1)] (Sum.inr ("broken" : Str) : Key) v2 = [((Sum.inr ("old" : Str) : Key), v1), (Sum.inr ("broken" : Str), v2)] := putK_new _ g2
  have g3 : valV [((Sum.inr ("old" : Str) : Key), v1), (Sum.inr ("broken" : Str), v2)] (Sum.inr ("new" : Str) : Key) = none := by
    rw [valV_neg (p := ((Sum.inr ("old" : Str) : Key), v1)) key_on, valV_neg (p := ((Sum.inr ("broken" : Str) : Key), v2)) key_bn]; rfl
  have e3 : putK [((Sum.inr ("old" : Str) : Key), v1), (Sum.inr ("broken" : Str), v2)] (Sum.inr ("new" : Str) : Key) v3 = tornK v1 v2 v3 := putK_new _ g3
  show putK (putK (putK [] (Sum.inr ("old" : Str) : Key) v1) (Sum.inr ("broken" : Str) : Key) v2) (Sum.inr ("new" : Str) : Key) v3 = _
  rw [e1, e2, e3]
theorem tornK_val (ht : t = "old" ∨ t = "broken" ∨ t = "new") : valV (tornK v1 v2 v3) (.inr t) = some (if t = "broken" then v2 else if t = "new" then v3 else v1) := by
  unfold tornK
  rcases ht with rfl | rfl | rfl
  · rw [if_neg (by decide +kernel), if_neg (by decide +kernel)]; exact valV_pos rfl
  · rw [if_pos rfl, valV_neg (p := ((Sum.inr ("old" : Str) : Key), v1)) key_ob]; exact valV_pos rfl
  · rw [if_neg (by decide +kernel), if_pos rfl, valV_neg (p := ((Sum.inr ("old" : Str) : Key), v1)) key_on, valV_neg (p := ((Sum.inr ("broken" : Str) : Key), v2)) key_bn]; exact valV_pos rfl
/-- {"old": .., "broken": .., "new": ..}[t] -/
theorem x_torn3 (h1 : ∀ H' (Q' : VK), Fr [] H H' → Q' v1 H' → tv1 σ H' Q') (h2 : ∀ H' (Q' : VK), Fr [] H H' → Q' v2 H' → tv2 σ H' Q') (h3 : ∀ H' (Q' : VK), Fr [] H H' → Q' v3 H' → tv3 σ H' Q') (hk : σ[k]? = some (some (.str t))) (ht : t = "old" ∨ t = "broken" ∨ t = "new")
    (q : ∀ H', Fr [] H H' → Q (if t = "broken" then v2 else if t = "new" then v3 else v1) H') : tDGet (tDisp [(tC (.str "old"), tv1), (tC (.str "broken"), tv2), (tC (.str "new"), tv3)]) (tVar k) σ H Q := by
  intro p hp
  have f1 : Fr [] H (upd H p (.dK [])) := Fr.new hp
  refine h1 _ _ f1 (h2 _ _ f1 (h3 _ _ f1 ?_))
  refine ⟨upd_same, tornK v1 v2 v3, rfl, by simp [tornK], ?_⟩
  rw [upd_upd, tornK_merge]
  refine ⟨_, hk, p, _, rfl, ?_, q _ (Fr.new hp)⟩
  have := DGet.k (H := upd H p (.dK (tornK v1 v2 v3))) (a := p) (kvs := tornK v1 v2 v3) (k := .inr t) upd_same
  rw [tornK_val ht] at this
  exact this
end
/-- a new list of the cells behind a stop -/
def spLStopped (K : PySem.W.Frag) : Sp := fun vs H Q _ => ∃ (M : List Addr) (p : Addr) (cs : List (Option Int)) (ws : List Wr) (v : V) (n : Nat) (t : Str) (w : Wr), vs = [.ref p, v, .int n, .str t] ∧ (∀ a ∈ M, ∃ o, H a = some o) ∧ SqL K H p (cs.map ov) ∧ Dt K M H (logD ws) v ∧ ws[n]? = some w ∧ (∀ w ∈ ws, w.1 < cs.length) ∧ cs.length ≤ 400 ∧ (t = "old" ∨ t = "broken" ∨ t = "new") ∧
  ∀ u H', Fr [] H H' → H u = none → H' u = some (.lst ((tornW t (applyW (ws.take n) cs) w).map ov)) → Q (.ref u) H'
theorem page_inv {cs : List (Option Int)} {j : Nat} {n : Int} {r : Rec} (h : pageO cs j = some (n, r)) : ∃ s t, (cs.drop j).take 6 = [some n, some r.1, some r.2.1, some r.2.2, some s, some t] ∧ sumsF [n, r.1, r.2.1, r.2.2] = (s, t) ∧ n ≠ 0 := by
  unfold pageO pageL at h
  split at h
  · rename_i n' a b c s t e
    split at h
    · rename_i hc
      cases h
      exact ⟨s, t, e, hc.2, hc.1⟩
    · cases h
  · cases h
def bnd (cs : List (Option Int)) : Prop := ∀ n, some n ∈ cs → 0 ≤ n ∧ n ≤ 9972
theorem mem_row {cs : List (Option Int)} {j : Nat} {x : Option Int} (h : x ∈ (cs.drop j).take 6) : x ∈ cs := List.mem_of_mem_drop (List.mem_of_mem_take h)
theorem page_nn {cs : List (Option Int)} {j : Nat} {n : Int} {r : Rec} (hb : bnd cs) (h : pageO cs j = some (n, r)) : 0 ≤ n := by
  obtain ⟨s, t, e, _, _⟩ := page_inv h
  exact (hb n (mem_row (j := j) (by rw [e]; simp))).1
theorem bnd_set {cs : List (Option Int)} (h : bnd cs) {i : Nat} {w : Option Int} (hw : ∀ n, w = some n → 0 ≤ n ∧ n ≤ 9972) : bnd (cs.set i w) := by
  intro n hn
  rcases List.mem_or_eq_of_mem_set hn with z | z
  · exact h n z
  · exact hw n z.symm
theorem noteW_ok {cs : List (Option Int)} {i : Nat} {r : Rec} (h : 1 ≤ (nextO cs i).2 ∧ (nextO cs i).2 ≤ 9970) (hr : okRec r) : ∀ p ∈ noteW cs i r, 0 ≤ p.2 ∧ p.2 ≤ 9972 := by
  have hro := rowF_ok (n := (nextO cs i).2) (by omega) (by omega) hr
  intro p hp
  simp only [noteW, List.mem_cons, List.not_mem_nil, or_false] at hp
  rcases hp with rfl | rfl | rfl | rfl | rfl | rfl | rfl
  · exact ⟨Int.le_refl _, by show (0 : Int) ≤ 9972; decide⟩
  · exact hro _ (by simp [rowF])
  · exact hro _ (by simp [rowF])
  · exact hro _ (by simp [rowF])
  · exact hro _ (by simp [rowF])
  · exact hro _ (by simp [rowF])
  · dsimp only; omega
theorem recD_dep (r : Rec) : (recD r).depth ≤ 4 := by simp [recD, PyData.depth, PyData.depthAll]
theorem recD_ok (r : Rec) : okD (recD r) = true := by simp [recD, okD, okD.okDL]
theorem memof_run (cs : List (Option Int)) (ws : List Wr) : (Mem.run ws (Mem.of cs)).2 = true ∧ (Mem.run ws (Mem.of cs)).1.cells = applyW ws cs ∧ (Mem.run ws (Mem.of cs)).1.many = ws.length ∧ (Mem.run ws (Mem.of cs)).1.up = true := by
  have h := run_free (ws := ws) (μ := Mem.of cs) rfl
  refine ⟨h, ?_⟩
  rw [run_whole h]
  exact ⟨rfl, by show (0 : Int) + ws.length = ws.length; omega, rfl⟩
theorem bnd_applyW : ∀ {ws : List Wr} {cs : List (Option Int)}, bnd cs → (∀ p ∈ ws, 0 ≤ p.2 ∧ p.2 ≤ 9972) → bnd (applyW ws cs)
  | [], _, h, _ => h
  | w :: r, cs, h, hw => bnd_applyW (ws := r) (bnd_set h (i := w.1) (w := some w.2) fun n e => by cases e; exact hw w (List.mem_cons_self ..)) fun p hp => hw p (List.mem_cons_of_mem _ hp)
theorem bnd_tornW {t : Str} {cs : List (Option Int)} {p : Wr} (h : bnd cs) (hp : 0 ≤ p.2 ∧ p.2 ≤ 9972) : bnd (tornW t cs p) := by
  unfold tornW; split
  · exact bnd_set h fun n e => nomatch e
  · split
    · exact bnd_set h fun n e => by cases e; exact hp
    · exact h
/-- the cells that are due behind writes with a cut at n -/
def dueF (t : Str) (n : Nat) (ws : List Wr) (cs : List (Option Int)) : List (Option Int) := if n < ws.length then tornW t (applyW (ws.take n) cs) (ws.getD n (0, 0)) else applyW ws cs
theorem run_due {ws : List Wr} {μ : Mem} {n : Nat} (h : μ.left = some (n : Int)) : (Mem.run ws μ).1.cells = dueF μ.torn n ws μ.cells ∧ (Mem.run ws μ).2 = decide (ws.length ≤ n) := by
  have h2 := run_left (ws := ws) h
  refine ⟨?_, h2⟩
  unfold dueF
  by_cases hn : n < ws.length
  · rw [if_pos hn]
    rw [decide_eq_false (by omega)] at h2
    obtain ⟨k, p, e1, e2, e3, _⟩ := run_torn (fun m e => by rw [h] at e; cases e; omega) h2
    rw [h] at e2
    have : k = n := by simp only [Option.some.injEq] at e2; omega
    subst this
    rw [e3, List.getD_eq_getElem?_getD, e1]; rfl
  · rw [if_neg hn]
    rw [decide_eq_true (by omega)] at h2
    exact run_cells h2
theorem bnd_dueF {t : Str} {n : Nat} {ws : List Wr} {cs : List (Option Int)} (h : bnd cs) (hw : ∀ p ∈ ws, 0 ≤ p.2 ∧ p.2 ≤ 9972) : bnd (dueF t n ws cs) := by
  unfold dueF
  split
  · rename_i hn
    refine bnd_tornW (bnd_applyW h fun p hp => hw p (List.mem_of_mem_take hp)) (hw _ ?_)
    rw [List.getD_eq_getElem?_getD, List.getElem?_eq_getElem hn]; exact List.getElem_mem hn
  · exact bnd_applyW h hw
theorem dueF_len (t : Str) (n : Nat) (ws : List Wr) (cs : List (Option Int)) : (dueF t n ws cs).length = cs.length := by
  unfold dueF
  split
  · rw [tornW_len, applyW_len]
  · exact applyW_len _ _
/-- a noting with a cut: the elder record, or the new one -/
theorem note_due {cs : List (Option Int)} {i n : Nat} {r : Rec} {t : Str} (h : i + 12 ≤ cs.length) (hn : (nextO cs i).2 ≠ 0) :
    (newestO (dueF t n (noteW cs i r) cs) i = newestO cs i ∧ n < 7) ∨ newestO (dueF t n (noteW cs i r) cs) i = some ((nextO cs i).1, (nextO cs i).2, r) := by
  have h7 : (noteW cs i r).length = 7 := rfl
  unfold dueF
  by_cases hl : n < (noteW cs i r).length
  · rw [if_pos hl]
    have hp : (noteW cs i r)[n]? = some ((noteW cs i r).getD n (0, 0)) := by rw [List.getD_eq_getElem?_getD, List.getElem?_eq_getElem hl]; rfl
    rcases note_torn (t := t) h hn hp with e | ⟨e, _⟩
    · exact .inl ⟨e, by omega⟩
    · exact .inr e
  · rw [if_neg hl]; exact .inr (note_whole h hn)
/-! ## slots, floors, what lies in a slot -/
theorem b_lst {X : Cx} {K : PySem.W.Frag} {pos : Pos} {es : List Expr} {k : Nat} {t : TGs} {n : Nat} (hc : X.calm = true) (h : PGs X es t) (hn : (assignEach es X.env).length = n := by rfl) (hst : (assignEach es X.env).findIdx? (·.1) = none := by rfl) (e : X.K = K := by rfl) : PG X (.Tuple es k pos) (gLst K n t) := by subst e; exact pg_lst hc h hn hst
theorem x_glst {K : PySem.W.Frag} {σ : L2.St} {H : Hp} {a : Addr} {xs : List V} {n : Nat} {gs : TGs} {Q : L2.St → Hp → Prop} (h : SqL K H a xs) (e : xs.length = n) (q : gs xs σ H Q) : gLst K n gs (.ref a) σ H Q := ⟨a, xs, rfl, h, e, q⟩
def slotB (s : Int) : Int := if s = 0 then 16 else 35
theorem slot_at {s : Int} (h : s = 0 ∨ s = 1) : atI ([.int 16, .int 35] : List V) s = some (.int (slotB s)) := by
  rcases h with rfl | rfl <;> rfl
theorem slotB_b {s : Int} (h : s = 0 ∨ s = 1) : 16 ≤ slotB s ∧ slotB s ≤ 35 ∧ (slotB s = 16 ∨ slotB s = 35) := by
  rcases h with rfl | rfl <;> decide
def headL (cs : List (Option Int)) (s : Int) : List (Option Int) := (cs.drop (slotB s).toNat).take 7
def partsL (cs : List (Option Int)) (s many : Int) : List (Option Int) := (cs.drop (slotB s + 7).toNat).take many.toNat
def floorO (cs : List (Option Int)) (i : Nat) : Int := (countF (cs.getD i none) (cs.getD (i + 1) none)).getD 0
def whyH (cs : List (Option Int)) (ks : List Int) (s mk v many one two n sl : Int) : Str :=
  if mk ≠ 1 then "none" else if ¬ (1 ≤ many ∧ many ≤ 12) then "length" else if (allI (partsL cs s many)).map sumsF ≠ some (one, two) then "sum" else if ¬ (floorO cs 2 ≤ n ∧ n < ks.length) then "key"
  else if sealF (ks.getD n.toNat 0) [v, many, one, two, n] ≠ sl then "seal" else if v < floorO cs 0 then "old" else ""
def whyF (cs : List (Option Int)) (ks : List Int) (s : Int) : Str := match headL cs s with
  | [some mk, some v, some many, some one, some two, some n, some sl] => whyH cs ks s mk v many one two n sl
  | _ => "none"
def judgedD (cs : List (Option Int)) (ks : List Int) (s : Int) : PyData := if whyF cs ks s = "" then .tuple [.str "good", od (cs.getD (slotB s + 1).toNat none)] else .tuple [.str (whyF cs ks s)]
theorem cut7_1 (x0 x1 x2 x3 x4 x5 x6 : V) : cutV [x0, x1, x2, x3, x4, x5, x6] (some 1) none = [x1, x2, x3, x4, x5, x6] := rfl
theorem cut7_16 (x0 x1 x2 x3 x4 x5 x6 : V) : cutV [x0, x1, x2, x3, x4, x5, x6] (some 1) (some 6) = [x1, x2, x3, x4, x5] := rfl
theorem row7 {xs : List (Option Int)} (h : xs.length = 7) (hn : none ∉ xs) : ∃ a b c d e f g, xs = [some a, some b, some c, some d, some e, some f, some g] := by
  match xs, h with
  | [x0, x1, x2, x3, x4, x5, x6], _ =>
    simp only [List.mem_cons, List.not_mem_nil, or_false, not_or] at hn
    obtain ⟨h0, h1, h2, h3, h4, h5, h6⟩ := hn
    cases x0 <;> cases x1 <;> cases x2 <;> cases x3 <;> cases x4 <;> cases x5 <;> cases x6 <;> simp_all
theorem headL_len {cs : List (Option Int)} {s : Int} (h : cs.length = 54) (hs : s = 0 ∨ s = 1) : (headL cs s).length = 7 := by
  have := slotB_b hs
  unfold headL
  rw [List.length_take, List.length_drop]; omega
theorem why_none {cs : List (Option Int)} {ks : List Int} {s : Int} (h : none ∈ headL cs s) : whyF cs ks s = "none" := by
  unfold whyF
  split
  · rename_i e; rw [e] at h; simp at h
  · rfl
theorem why_some {cs : List (Option Int)} {ks : List Int} {s a b c d e f g : Int} (h : headL cs s = [some a, some b, some c, some d, some e, some f, some g]) : whyF cs ks s = whyH cs ks s a b c d e f g := by
  unfold whyF; rw [h]
theorem floorO_b {cs : List (Option Int)} (h : bnd cs) (i : Nat) : 0 ≤ floorO cs i ∧ floorO cs i ≤ 9972 := by
  refine count_b (fun n e => ?_) (fun n e => ?_)
  · rw [List.getD_eq_getElem?_getD] at e
    cases z : cs[i]? with
    | none => rw [z] at e; cases e
    | some x => rw [z] at e; exact h n (by rw [Option.getD_some] at e; rw [← e]; exact List.mem_of_getElem? z)
  · rw [List.getD_eq_getElem?_getD] at e
    cases z : cs[i + 1]? with
    | none => rw [z] at e; cases e
    | some x => rw [z] at e; exact h n (by rw [Option.getD_some] at e; rw [← e]; exact List.mem_of_getElem? z)
section
variable (C : Addr) (K : PySem.W.Frag)
def spHead : Sp := fun vs H Q _ => ∃ (m dx l : Addr) (μ : Mem) (s : Int), vs = [.ref m, .int s] ∧ MemAt C H m dx l μ ∧ μ.up = true ∧ μ.cells.length = 54 ∧ (s = 0 ∨ s = 1) ∧
  ∀ p H', Fr [] H H' → H p = none → H' p = some (.lst ((headL μ.cells s).map ov)) → Q (.ref p) H'
def spParts : Sp := fun vs H Q _ => ∃ (m dx l : Addr) (μ : Mem) (s n : Int), vs = [.ref m, .int s, .int n] ∧ MemAt C H m dx l μ ∧ μ.up = true ∧ μ.cells.length = 54 ∧ (s = 0 ∨ s = 1) ∧ 0 ≤ n ∧ n ≤ 12 ∧
  ∀ p H', Fr [] H H' → H p = none → H' p = some (.lst ((partsL μ.cells s n).map ov)) → Q (.ref p) H'
def spFloor : Sp := fun vs H Q _ => ∃ (m dx l : Addr) (μ : Mem) (i : Int), vs = [.ref m, .int i] ∧ MemAt C H m dx l μ ∧ μ.up = true ∧ μ.cells.length = 54 ∧ 0 ≤ i ∧ i ≤ 50 ∧ ∀ H', Fr [] H H' → Q (.int (floorO μ.cells i.toNat)) H'
def spWhy : Sp := fun vs H Q _ => ∃ (M : List Addr) (m dx l : Addr) (μ : Mem) (ks : List Int) (v : V) (s : Int), vs = [.ref m, v, .int s] ∧ (∀ a ∈ M, ∃ o, H a = some o) ∧ MemAt C H m dx l μ ∧ μ.up = true ∧ μ.cells.length = 54 ∧ bnd μ.cells ∧ Dt K M H (keysD ks) v ∧ gk ks ∧ (s = 0 ∨ s = 1) ∧
  ∀ H', Fr [] H H' → Q (.str (whyF μ.cells ks s)) H'
def spJudged : Sp := fun vs H Q _ => ∃ (M : List Addr) (m dx l : Addr) (μ : Mem) (ks : List Int) (v : V) (s : Int), vs = [.ref m, v, .int s] ∧ (∀ a ∈ M, ∃ o, H a = some o) ∧ MemAt C H m dx l μ ∧ μ.up = true ∧ μ.cells.length = 54 ∧ bnd μ.cells ∧ Dt K M H (keysD ks) v ∧ gk ks ∧ (s = 0 ∨ s = 1) ∧
  ∀ u H', Fr [] H H' → Dt K M H' (judgedD μ.cells ks s) u → Q u H'
/-- the law's own, of a list of cells -/
def spLWhy : Sp := fun vs H Q _ => ∃ (M : List Addr) (p : Addr) (cs : List (Option Int)) (ks : List Int) (v : V) (s : Int), vs = [.ref p, v, .int s] ∧ (∀ a ∈ M, ∃ o, H a = some o) ∧ SqL K H p (cs.map ov) ∧ cs.length = 54 ∧ bnd cs ∧ Dt K M H (keysD ks) v ∧ gk ks ∧ (s = 0 ∨ s = 1) ∧
  ∀ H', Fr [] H H' → Q (.str (whyF cs ks s)) H'
def spLJudged : Sp := fun vs H Q _ => ∃ (M : List Addr) (p : Addr) (cs : List (Option Int)) (ks : List Int) (v : V) (s : Int), vs = [.ref p, v, .int s] ∧ (∀ a ∈ M, ∃ o, H a = some o) ∧ SqL K H p (cs.map ov) ∧ cs.length = 54 ∧ bnd cs ∧ Dt K M H (keysD ks) v ∧ gk ks ∧ (s = 0 ∨ s = 1) ∧
  ∀ u H', Fr [] H H' → Dt K M H' (judgedD cs ks s) u → Q u H'
end
theorem key_at {ks : List Int} (h : gk ks) {n : Int} (h0 : 0 ≤ n) (h1 : n < ks.length) : atI (ks.map PyData.int) n = some (.int (ks.getD n.toNat 0)) ∧ 1 ≤ ks.getD n.toNat 0 ∧ ks.getD n.toNat 0 ≤ 9972 := by
  have hlt : n.toNat < ks.length := by omega
  have e : ks.getD n.toNat 0 = ks[n.toNat] := by rw [List.getD_eq_getElem?_getD, List.getElem?_eq_getElem hlt]; rfl
  refine ⟨atI_int h0 (by rw [List.getElem?_map, List.getElem?_eq_getElem hlt, e]; rfl), ?_⟩
  rw [e]
  exact h.2.2 _ (List.getElem_mem hlt)
theorem atO {cs : List (Option Int)} {i : Int} (h0 : 0 ≤ i) (h1 : i < cs.length) : atI (cs.map ov) i = some (ov (cs.getD i.toNat none)) := by
  have hl : i.toNat < cs.length := by omega
  refine atI_int h0 ?_
  rw [List.getElem?_map, List.getElem?_eq_getElem hl, List.getD_eq_getElem?_getD, List.getElem?_eq_getElem hl]; rfl
theorem head_get {cs : List (Option Int)} {s : Int} (hs : s = 0 ∨ s = 1) (j : Nat) (hj : j < 7) : cs.getD (slotB s + j).toNat none = (headL cs s).getD j none := by
  have := slotB_b hs
  unfold headL
  rw [List.getD_eq_getElem?_getD, List.getD_eq_getElem?_getD, List.getElem?_take_of_lt hj, List.getElem?_drop, show (slotB s + (j : Int)).toNat = (slotB s).toNat + j by omega]
theorem head_cut {cs : List (Option Int)} {s : Int} (hs : s = 0 ∨ s = 1) (hl : cs.length = 54) : cutV (cs.map ov) (some (slotB s)) (some (slotB s + 7)) = (headL cs s).map ov := by
  have := slotB_b hs
  rw [cut_in ov cs (by omega) (by omega) (by omega), show (slotB s + 7 - slotB s).toNat = 7 by omega]; rfl
theorem head_cut1 {cs : List (Option Int)} {s : Int} (hs : s = 0 ∨ s = 1) (hl : cs.length = 54) : cutV (cs.map ov) (some (slotB s + 1)) (some (slotB s + 7)) = ((headL cs s).drop 1).map ov := by
  have := slotB_b hs
  rw [cut_in ov cs (by omega) (by omega) (by omega), show (slotB s + 7 - (slotB s + 1)).toNat = 6 by omega]
  unfold headL
  rw [List.drop_take, List.drop_drop, show (slotB s + 1).toNat = (slotB s).toNat + 1 by omega]
theorem head_cut16 {cs : List (Option Int)} {s : Int} (hs : s = 0 ∨ s = 1) (hl : cs.length = 54) : cutV (cs.map ov) (some (slotB s + 1)) (some (slotB s + 6)) = (((headL cs s).drop 1).take 5).map ov := by
  have := slotB_b hs
  rw [cut_in ov cs (by omega) (by omega) (by omega), show (slotB s + 6 - (slotB s + 1)).toNat = 5 by omega]
  unfold headL
  rw [List.drop_take, List.take_take, List.drop_drop, show (slotB s + 1).toNat = (slotB s).toNat + 1 by omega]; rfl
theorem parts_cut {cs : List (Option Int)} {s n : Int} (hs : s = 0 ∨ s = 1) (hl : cs.length = 54) (n0 : 0 ≤ n) (n1 : n ≤ 12) : cutV (cs.map ov) (some (slotB s + 7)) (some (slotB s + 7 + n)) = (partsL cs s n).map ov := by
  have := slotB_b hs
  rw [cut_in ov cs (by omega) (by omega) (by omega), show (slotB s + 7 + n - (slotB s + 7)).toNat = n.toNat by omega]; rfl
theorem n_orC {K : PySem.W.Frag} {σ : L2.St} {H : Hp} {Q : VK} {c : Option Int} (q : Q (.int (c.getD 0)) H) : ∃ b, TruV K (ov c) H b ∧ if b = true then Q (ov c) H else tC (.int 0) σ H Q := by
  cases c with
  | none => exact ⟨false, rfl, q⟩
  | some n =>
    by_cases hn : n = 0
    · subst hn; exact ⟨false, by simp [TruV, ov], q⟩
    · exact ⟨true, by simp [TruV, ov, hn], q⟩

theorem n_orU {K : PySem.W.Frag} {ta tb : TE} {σ : L2.St} {H : Hp} {Q : VK} (q : ta σ H fun x H1 => ∃ k, TruV K x H1 k ∧ if k = true then Q x H1 else tb σ H1 Q) : tOrT K ta tb σ H Q := q

/-- d.update(e): two dicts with ints and texts as keys -/
def rDUpd : V → List V → Hp → VK → Prop := fun x xs H Q => ∃ (a b : Addr) (kvs more : List (Key × V)), x = V.ref a ∧ xs = [V.ref b] ∧ a ≠ b ∧ H a = some (.dK kvs) ∧ H b = some (.dK more) ∧ kvs.length + more.length ≤ sizeLine ∧
  Q .non (upd H a (.dK (mergeK kvs more)))
theorem mt_dupd {X : Cx} : MtR X "dict.update" rDUpd := by
  intro pins s σ H x xs v us Q I rx rxs h
  obtain ⟨a, b, kvs, more, rfl, rfl, hab, ha, hb, hz, q⟩ := h
  cases rx
  cases rxs with
  | cons ry rt =>
    cases rt
    cases ry
    obtain ⟨_, hd, vs, rel, dd⟩ := dk_of I.hok ha
    obtain ⟨_, hd2, ws, rel2, dd2⟩ := dk_of I.hok hb
    refine call_meetsIn PySem.F.slot_dict_update dd.typeIs PySem.F.entry_dict_update (PySem.F.args_dict_update_2 _ _) (meets_dict_update (mixKind X.prog X.w) a b hab hd2) ⟨vs, ws, dd, dd2, by rw [← rel.length, ← rel2.length]; exact hz, fun h' dd' _ hs => ⟨.non, upd H a (.dK (mergeK kvs more)), ?_, rfl, q⟩⟩
    have he : ∃ q, h'.get? a = some q := let ⟨q, _, _, hq, _⟩ := dd'; ⟨q, hq⟩
    exact d_write (t' := s.toks) I (by rw [ha]; exact True.intro) hs he (dk_new (Nat.le_trans (length_mergeK more kvs) hz) hd (rel2.merge rel) dd')

/-- a dict with texts as keys -/
def kvT (kvs : List (Str × V)) : List (Key × V) := kvs.map fun p => (.inr p.1, p.2)
theorem valT_none {k : Str} : ∀ {kvs : List (Str × V)}, k ∉ kvs.map (·.1) → valV (kvT kvs) (.inr k) = none
  | [], _ => rfl
  | p :: r, h => by
    simp only [List.map_cons, List.mem_cons, not_or] at h
    show valV ((.inr p.1, p.2) :: kvT r) _ = _
    rw [valV_neg (by intro e; exact h.1 (Sum.inr.inj e).symm)]
    exact valT_none h.2
theorem valT_at {k : Str} {v : V} : ∀ {kvs : List (Str × V)} {i : Nat}, (kvs.map (·.1)).Nodup → kvs[i]? = some (k, v) → valV (kvT kvs) (.inr k) = some v
  | [], _, _, h => by cases h
  | p :: r, 0, nd, h => by
    cases h
    exact valV_pos rfl
  | p :: r, i + 1, nd, h => by
    simp only [List.map_cons, List.nodup_cons] at nd
    show valV ((.inr p.1, p.2) :: kvT r) _ = _
    have h' : r[i]? = some (k, v) := h
    rw [valV_neg (by
      intro e
      have e := Sum.inr.inj e
      refine nd.1 (e ▸ ?_)
      exact List.mem_map_of_mem (f := (·.1)) (List.mem_of_getElem? h'))]
    exact valT_at nd.2 h'
theorem mergeT : ∀ {b a : List (Str × V)}, ((a ++ b).map (·.1)).Nodup → mergeK (kvT a) (kvT b) = kvT (a ++ b)
  | [], a, _ => by rw [List.append_nil]; rfl
  | p :: r, a, nd => by
    have hn : p.1 ∉ a.map (·.1) := by
      rw [List.map_append, List.nodup_append] at nd
      intro h
      exact nd.2.2 _ h _ (by simp) rfl
    show mergeK (putK (kvT a) (.inr p.1) p.2) (kvT r) = _
    rw [putK_new _ (valT_none hn)]
    have e : kvT a ++ [(.inr p.1, p.2)] = kvT (a ++ [p]) := by simp [kvT]
    rw [e, mergeT (by rw [List.append_assoc]; exact nd), List.append_assoc]
    rfl
def DispN (p : Addr) (ps : List (V × V)) (H2 : Hp) (Q : VK) : Prop := H2 p = some (.dK []) ∧ ∃ kvs : List (Key × V), ps = kvs.map (fun kv => (kV kv.1, kv.2)) ∧ kvs.length ≤ 15 ∧ Q (.ref p) (upd H2 p (.dK (mergeK [] kvs)))
theorem x_dispN {trs : List (TE × TE)} {σ : L2.St} {H : Hp} {Q : VK} (q : ∀ p, H p = none → tPairs trs σ (upd H p (.dK [])) fun ps H2 => DispN p ps H2 Q) : tDisp trs σ H Q := q
theorem x_pair {tk tv : TE} {r : List (TE × TE)} {σ : L2.St} {H : Hp} {Q : List (V × V) → Hp → Prop} (q : tk σ H fun x H1 => tv σ H1 fun y H2 => tPairs r σ H2 fun ps H3 => Q ((x, y) :: ps) H3) : tPairs ((tk, tv) :: r) σ H Q := q
theorem x_pair0 {σ : L2.St} {H : Hp} {Q : List (V × V) → Hp → Prop} (q : Q [] H) : tPairs [] σ H Q := q
theorem n_dispN {p : Addr} {H : Hp} {Q : VK} (kvs : List (Str × V)) (ks : List Str) (h : H p = some (.dK [])) (l : kvs.length ≤ 15) (e : kvs.map (·.1) = ks) (nd : ks.Nodup) (q : Q (.ref p) (upd H p (.dK (kvT kvs)))) : DispN p (kvs.map fun x => (V.str x.1, x.2)) H Q := by
  refine ⟨h, kvT kvs, by simp [kvT, kV], by simpa [kvT] using l, ?_⟩
  have := mergeT (a := []) (b := kvs) (by rw [List.nil_append, e]; exact nd)
  rw [show ([] : List (Key × V)) = kvT [] from rfl, this]
  exact q
theorem n_dupT {a b : Addr} {H : Hp} {Q : VK} {ka kb : List (Str × V)} (ks : List Str) (ha : H a = some (.dK (kvT ka))) (hb : H b = some (.dK (kvT kb))) (hab : a ≠ b) (e : (ka ++ kb).map (·.1) = ks) (nd : ks.Nodup) (l : ka.length + kb.length ≤ 30) (q : Q .non (upd H a (.dK (kvT (ka ++ kb))))) : rDUpd (.ref a) [.ref b] H Q :=
  ⟨a, b, kvT ka, kvT kb, rfl, rfl, hab, ha, hb, by rw [sizeLine_eq]; simp [kvT]; omega, by rw [mergeT (by rw [e]; exact nd)]; exact q⟩
def DgT (x y : V) (H : Hp) (Q : VK) : Prop := ∃ a v, x = .ref a ∧ DGet H a y (some v) ∧ Q v H
theorem x_dgT {td ty : TE} {σ : L2.St} {H : Hp} {Q : VK} (q : td σ H fun x H1 => ty σ H1 fun y H2 => DgT x y H2 Q) : tDGet td ty σ H Q := q
theorem n_dgT {a : Addr} {H : Hp} {Q : VK} {kvs : List (Str × V)} {k : Str} {v : V} (i : Nat) (ks : List Str) (h : H a = some (.dK (kvT kvs))) (hi : kvs[i]? = some (k, v)) (e : kvs.map (·.1) = ks) (nd : ks.Nodup) (q : Q v H) : DgT (.ref a) (.str k) H Q :=
  ⟨a, v, rfl, by have := DGet.k (k := .inr k) h; rw [valT_at (by rw [e]; exact nd) hi] at this; exact this, q⟩

abbrev spLHead (K : PySem.W.Frag) : Sp := spD (fun (x : List Int × Pic) => [keysD x.1, picD x.2]) (fun x => gk x.1 ∧ gp x.1 x.2) (fun x => .tuple ((headF x.1 x.2).map .int)) K
/-- a slot's row: the mark, the head, the cells -/
def slotRow (ks : List Int) (p : Pic) : List Int := 1 :: (headF ks p ++ p.cells)
def layB (row : List Int) (j : Nat) (cs : List (Option Int)) : List (Option Int) := applyW ((List.range j).flatMap fun k => [(16 + k, row.getD k 0), (35 + k, row.getD k 0)]) cs
def layW (b : Nat) (row : List Int) (j : Nat) (cs : List (Option Int)) : List (Option Int) := applyW ((List.range j).map fun k => (b + k, row.getD k 0)) cs
def machB (p : Pic) : List (Option Int) := ((List.replicate 54 (some 0)).set 0 (some p.v)).set 2 (some p.n)
def machN (p : Pic) : List (Option Int) := applyW (noteW (machB p) 4 (0, 0, 0)) (machB p)
def machC (ks : List Int) (p : Pic) : List (Option Int) := layB (slotRow ks p) (slotRow ks p).length (machN p)
def machKV (c : Addr) (v : V) (t : Int) : List (Str × V) := [("cells", .ref c), ("keys", v), ("tries", .int t), ("runs", .non), ("left", .non), ("torn", .str "old"), ("many", .int 0)]
def spLMachine (K : PySem.W.Frag) : Sp := fun vs H Q _ => ∃ (M : List Addr) (ks : List Int) (pic : Pic) (t : Int) (v u : V), vs = [v, .int t, u] ∧ (∀ a ∈ M, ∃ o, H a = some o) ∧ Dt K M H (keysD ks) v ∧ Dt K M H (picD pic) u ∧ gk ks ∧ gp ks pic ∧
  ∀ d c H', Fr [] H H' → H d = none → H c = none → d ≠ c → H' d = some (.dK (kvT (machKV c v t))) → H' c = some (.lst ((machC ks pic).map ov)) → Q (.ref d) H'
abbrev spLNewer (K : PySem.W.Frag) : Sp := spDrawD (fun (x : List Int × Pic × Int) => [keysD x.1, picD x.2.1, .int x.2.2]) (fun x => gk x.1 ∧ gp x.1 x.2.1 ∧ -1000 ≤ x.2.2 ∧ x.2.2 ≤ 1000) (fun x d => ∃ pic, d = picD pic ∧ gp x.1 pic) K
def spLMemory (C : Addr) (K : PySem.W.Frag) : Sp := fun vs H Q _ => ∃ (p : Addr) (cs : List (Option Int)), vs = [.ref p] ∧ SqL K H p (cs.map ov) ∧ 1 ≤ cs.length ∧ cs.length ≤ 400 ∧ bnd cs ∧
  ∀ m dx l H', Fr [] H H' → H m = none → H l = none → MemAt C H' m dx l (Mem.of cs) → Q (.ref m) H'
theorem layB_zero (row : List Int) (cs : List (Option Int)) : layB row 0 cs = cs := rfl
theorem layB_more (row : List Int) (j : Nat) (cs : List (Option Int)) : layB row (j + 1) cs = ((layB row j cs).set (16 + j) (some (row.getD j 0))).set (35 + j) (some (row.getD j 0)) := by
  unfold layB
  rw [List.range_succ, List.flatMap_append, applyW_app]
  rfl
theorem layW_zero (b : Nat) (row : List Int) (cs : List (Option Int)) : layW b row 0 cs = cs := rfl
theorem layW_more (b : Nat) (row : List Int) (j : Nat) (cs : List (Option Int)) : layW b row (j + 1) cs = (layW b row j cs).set (b + j) (some (row.getD j 0)) := by
  unfold layW
  rw [List.range_succ, List.map_append, applyW_app]
  rfl
theorem layB_len (row : List Int) (j : Nat) (cs : List (Option Int)) : (layB row j cs).length = cs.length := applyW_len _ _
theorem layW_len (b : Nat) (row : List Int) (j : Nat) (cs : List (Option Int)) : (layW b row j cs).length = cs.length := applyW_len _ _
theorem machB_len (p : Pic) : (machB p).length = 54 := by simp [machB]
theorem machN_len (p : Pic) : (machN p).length = 54 := by unfold machN; rw [applyW_len, machB_len]
theorem machC_len (ks : List Int) (p : Pic) : (machC ks p).length = 54 := by unfold machC; rw [layB_len, machN_len]

theorem bnd_machB {p : Pic} (p1 : 1 ≤ p.v) (p2 : p.v ≤ 999) (p3 : 0 ≤ p.n) (p4 : p.n ≤ 9972) : bnd (machB p) := by
  unfold machB
  refine bnd_set (bnd_set (fun n hn => ?_) fun n e => ?_) fun n e => ?_
  · cases List.eq_of_mem_replicate hn
    omega
  · cases e; omega
  · cases e; omega

theorem ty_dict {K : PySem.W.Frag} {p : Addr} {H : Hp} {kvs : List (Key × V)} (h : H p = some (.dK kvs)) : tyV K "dict" (.ref p) H := .inr (.inr (.inl ⟨rfl, .inl ⟨_, h⟩⟩))

theorem take_fill {α : Type} {cs : List α} {d : α} {j : Nat} (hj : j < cs.length) : (cs.take j ++ List.replicate (cs.length - j) d).set j cs[j] = cs.take (j + 1) ++ List.replicate (cs.length - (j + 1)) d := by
  have hl : (cs.take j).length = j := by rw [List.length_take]; omega
  rw [List.set_append_right _ _ (by omega), hl, Nat.sub_self, show cs.length - j = (cs.length - (j + 1)) + 1 by omega, List.replicate_succ, List.set_cons_zero, List.take_succ_eq_append_getElem hj, List.append_assoc]
  rfl

theorem cut_to {α : Type} (f : α → V) (xs : List α) {b : Int} (h : 0 ≤ b) : cutV (xs.map f) none (some b) = (xs.take b.toNat).map f := by
  unfold cutV
  rw [List.length_map, ← List.map_drop, ← List.map_take, HT.sIx_none, Nat.sub_zero, List.drop_zero]
  congr 1
  have e2 : HT.sIx xs.length xs.length (some b) = min b.toNat xs.length := by simp only [HT.sIx]; rw [if_neg (by omega)]
  rw [e2]
  by_cases g : b.toNat ≤ xs.length
  · rw [Nat.min_eq_left g]
  · rw [List.take_of_length_le (by omega), List.take_of_length_le (by omega)]
theorem cut_from {α : Type} (f : α → V) (xs : List α) {b : Int} (h : 0 ≤ b) : cutV (xs.map f) (some b) none = (xs.drop b.toNat).map f := by
  unfold cutV
  rw [List.length_map, ← List.map_drop, ← List.map_take, HT.sIx_none]
  congr 1
  have e2 : HT.sIx xs.length 0 (some b) = min b.toNat xs.length := by simp only [HT.sIx]; rw [if_neg (by omega)]
  rw [e2]
  by_cases g : b.toNat ≤ xs.length
  · rw [Nat.min_eq_left g, List.take_of_length_le (by rw [List.length_drop]; omega)]
  · rw [List.drop_of_length_le (by omega), List.drop_of_length_le (by omega), List.take_nil]

theorem Sy.drawnNM {K : PySem.W.Frag} {H0 : Bs} {M : List Addr} {H H' : Hp} {r a p : Addr} {q : Rho} {o : HO} {L : List (Addr × HO)} {Ds : List (PyData × V)} (S : Sy K H0 M H ((r, rowO a q) :: L) Ds) (hM : r ∈ M ∧ H0.may r) (f : Fr [r] H H') {q' : Rho} (e : H' r = some (rowO a q')) (h : H p = none) (e2 : H' p = some o) :
    Sy K H0 (p :: M) H' ((r, rowO a q') :: (L ++ [(p, o)])) Ds :=
  (S.newM (o := o) h).put 0 rfl ⟨List.mem_cons_of_mem _ hM.1, hM.2⟩ (fun b u n z => by
    by_cases hb : b = p
    · subst hb; rw [upd_same] at z; rw [e2]; exact z
    · rw [upd_ne hb] at z; exact f b u n z) e
/-- the pages' numbers of the book at 4 are at most so much -/
def pgn (j : Int) (cs : List (Option Int)) : Prop := (∀ n, cs.getD 4 none = some n → n ≤ j) ∧ (∀ n, cs.getD 10 none = some n → n ≤ j)
theorem getD_setN {cs : List (Option Int)} {i k : Nat} {w : Option Int} (h : i ≠ k) : (cs.set i w).getD k none = cs.getD k none := by
  rw [List.getD_eq_getElem?_getD, List.getD_eq_getElem?_getD, List.getElem?_set_ne h]
theorem getD_setS {cs : List (Option Int)} {k : Nat} {w : Option Int} (h : k < cs.length) : (cs.set k w).getD k none = w := by
  rw [List.getD_eq_getElem?_getD, List.getElem?_set_self h]; rfl
theorem pgn_set {j : Int} {cs : List (Option Int)} (h : pgn j cs) {i : Nat} {w : Option Int} (h1 : i ≠ 4) (h2 : i ≠ 10) : pgn j (cs.set i w) := by
  unfold pgn
  rw [getD_setN h1, getD_setN h2]; exact h
theorem pgn_mono {j k : Int} {cs : List (Option Int)} (h : pgn j cs) (hk : j ≤ k) : pgn k cs := ⟨fun n e => Int.le_trans (h.1 n e) hk, fun n e => Int.le_trans (h.2 n e) hk⟩
theorem page_first {cs : List (Option Int)} {i : Nat} {n : Int} {r : Rec} (h : pageO cs i = some (n, r)) : cs.getD i none = some n := by
  obtain ⟨s, t, e, _, _⟩ := page_inv h
  have : ((cs.drop i).take 6)[0]? = some (some n) := by rw [e]; rfl
  rw [List.getElem?_take_of_lt (by decide), List.getElem?_drop, Nat.add_zero] at this
  rw [List.getD_eq_getElem?_getD, this]; rfl
theorem newest_pgn {j : Int} {cs : List (Option Int)} {p : Int × Int × Rec} (h : pgn j cs) (e : newestO cs 4 = some p) : p.2.1 ≤ j := by
  unfold newestO at e
  split at e
  · cases e
  · rename_i p1 h1 h2
    cases e
    exact h.1 _ (page_first (r := p1.2) h1)
  · rename_i q1 h1 h2
    cases e
    exact h.2 _ (page_first (r := q1.2) h2)
  · rename_i p1 q1 h1 h2
    split at e
    · cases e
      exact h.2 _ (page_first (r := q1.2) h2)
    · cases e
      exact h.1 _ (page_first (r := p1.2) h1)
theorem next_pgn {j : Int} {cs : List (Option Int)} (h : pgn j cs) (hj : 0 ≤ j) : (nextO cs 4).2 ≤ j + 1 := by
  rcases next_cases cs 4 with ⟨_, _, e⟩ | ⟨p, e, _, e2⟩
  · omega
  · have := newest_pgn h e; omega
theorem note_pgn {j : Int} {cs : List (Option Int)} {r : Rec} (h : pgn j cs) (hj : 0 ≤ j) (hl : cs.length = 54) : pgn (j + 1) (applyW (noteW cs 4 r) cs) := by
  have hn := next_pgn h hj
  rcases next_w cs 4 with e | e
  · simp only [noteW, applyW, List.foldl_cons, List.foldl_nil, e]
    constructor
    · intro n hh
      rw [show 4 + 6 * (0 : Int).toNat = 4 from rfl, getD_setS (by simp; omega)] at hh
      cases hh
      exact hn
    · intro n hh
      rw [show 4 + 6 * (0 : Int).toNat = 4 from rfl] at hh
      rw [getD_setN (by decide), getD_setN (by decide), getD_setN (by decide), getD_setN (by decide), getD_setN (by decide), getD_setN (by decide), getD_setN (by decide)] at hh
      have := h.2 n hh; omega
  · simp only [noteW, applyW, List.foldl_cons, List.foldl_nil, e]
    constructor
    · intro n hh
      rw [show 4 + 6 * (1 : Int).toNat = 10 from rfl] at hh
      rw [getD_setN (by decide), getD_setN (by decide), getD_setN (by decide), getD_setN (by decide), getD_setN (by decide), getD_setN (by decide), getD_setN (by decide)] at hh
      have := h.1 n hh; omega
    · intro n hh
      rw [show 4 + 6 * (1 : Int).toNat = 10 from rfl, getD_setS (by simp; omega)] at hh
      cases hh
      exact hn
theorem machB_pgn (p : Pic) : pgn 0 (machB p) := by
  constructor
  · intro n h
    unfold machB at h
    rw [getD_setN (by decide), getD_setN (by decide)] at h
    cases h; decide
  · intro n h
    unfold machB at h
    rw [getD_setN (by decide), getD_setN (by decide)] at h
    cases h; decide
theorem layB_pgn {j : Int} {row : List Int} {cs : List (Option Int)} (h : pgn j cs) : ∀ k, pgn j (layB row k cs)
  | 0 => h
  | k + 1 => by rw [layB_more]; exact pgn_set (pgn_set (layB_pgn h k) (by omega) (by omega)) (by omega) (by omega)
theorem layB_bnd {row : List Int} {cs : List (Option Int)} (h : bnd cs) (hr : ∀ n ∈ row, 0 ≤ n ∧ n ≤ 9972) : ∀ k, k ≤ row.length → bnd (layB row k cs)
  | 0, _ => h
  | k + 1, hk => by
    have hg : 0 ≤ row.getD k 0 ∧ row.getD k 0 ≤ 9972 := by
      rw [List.getD_eq_getElem?_getD, List.getElem?_eq_getElem (by omega)]
      exact hr _ (List.getElem_mem _)
    rw [layB_more]
    exact bnd_set (bnd_set (layB_bnd h hr k (by omega)) fun n e => by cases e; exact hg) fun n e => by cases e; exact hg

theorem newest_nn {cs : List (Option Int)} {p : Int × Int × Rec} (h : bnd cs) {i : Nat} (e : newestO cs i = some p) : 0 ≤ p.2.1 := by
  unfold newestO at e
  split at e
  · cases e
  · rename_i p1 h1 h2
    cases e
    exact page_nn (r := p1.2) h h1
  · rename_i q1 h1 h2
    cases e
    exact page_nn (r := q1.2) h h2
  · rename_i p1 q1 h1 h2
    split at e
    · cases e
      exact page_nn (r := q1.2) h h2
    · cases e
      exact page_nn (r := p1.2) h h1
theorem next_nn {cs : List (Option Int)} (h : bnd cs) (i : Nat) : 1 ≤ (nextO cs i).2 := by
  rcases next_cases cs i with ⟨_, _, e⟩ | ⟨p, e, _, e2⟩
  · omega
  · have := newest_nn h e; omega
theorem note_bnd {cs : List (Option Int)} {r : Rec} {j : Int} (h : bnd cs) (g : pgn j cs) (h0 : 0 ≤ j) (h1 : j ≤ 9000) (hr : okRec r) : bnd (applyW (noteW cs 4 r) cs) :=
  bnd_applyW h (noteW_ok ⟨next_nn h 4, by have := next_pgn g h0; omega⟩ hr)
theorem headF_b {ks : List Int} {p : Pic} (h : gk ks) (g : gp ks p) : ∀ n ∈ headF ks p, 0 ≤ n ∧ n ≤ 9972 := by
  have hk := keyOf_ok h g
  have hp := plainF_ok h.2.1 g
  intro n hn
  rcases List.mem_append.mp hn with z | z
  · have := hp n z; omega
  · rw [List.mem_singleton.mp z]
    have := sealF_lt (keyOf ks p) (plainF p) (by omega) (by omega)
    omega
theorem slotRow_b {ks : List Int} {p : Pic} (h : gk ks) (g : gp ks p) : ∀ n ∈ slotRow ks p, 0 ≤ n ∧ n ≤ 9972 := by
  intro n hn
  rcases List.mem_cons.mp hn with rfl | z
  · exact ⟨by decide, by decide⟩
  · rcases List.mem_append.mp z with z | z
    · exact headF_b h g n z
    · exact g.2.2.2.2.1 n z
theorem slotRow_len (ks : List Int) (p : Pic) : (slotRow ks p).length = 7 + p.cells.length := by simp [slotRow, headF, plainF]; omega
theorem machB_b {ks : List Int} {p : Pic} (h : gk ks) (g : gp ks p) : bnd (machB p) := by
  obtain ⟨p1, p2, p3, p4, p5, p6, p7⟩ := g
  exact bnd_machB p1 p2 p6 (by have := h.2.1; omega)
theorem machC_b {ks : List Int} {p : Pic} (h : gk ks) (g : gp ks p) : bnd (machC ks p) ∧ pgn 1 (machC ks p) := by
  have hb := machB_b h g
  have hn : bnd (machN p) := note_bnd hb (machB_pgn p) (Int.le_refl _) (by decide) ⟨by decide, by decide, by decide⟩
  have hg : pgn (0 + 1) (machN p) := note_pgn (machB_pgn p) (Int.le_refl _) (machB_len p)
  exact ⟨layB_bnd hn (slotRow_b h g) _ (Nat.le_refl _), layB_pgn hg _⟩
def spLState (K : PySem.W.Frag) : Sp := fun vs H Q _ => ∃ (M : List Addr) (r a : Addr) (q : Rho) (ns ks : List Int) (pic : Pic) (v u : V), vs = [.ref r, v, u] ∧ H r = some (rowO a q) ∧ q.ok ∧ SLA K M H a (ns.map V.int) ∧ ns.length ≤ 63 ∧ r ∈ M ∧ (∀ b ∈ M, ∃ o, H b = some o) ∧
  Dt K M H (keysD ks) v ∧ Dt K M H (picD pic) u ∧ gk ks ∧ gp ks pic ∧
  ∀ q' c cs H', q'.ok → Fr [r] H H' → H c = none → H' r = some (rowO a q') → H' c = some (.lst (cs.map ov)) → cs.length = 54 → bnd cs → Q (.ref c) H'
def spLAnew (K : PySem.W.Frag) : Sp := fun vs H Q _ => ∃ (M : List Addr) (r a p : Addr) (q : Rho) (ns ks : List Int) (cs : List (Option Int)) (v : V), vs = [.ref r, .ref p, v] ∧ H r = some (rowO a q) ∧ q.ok ∧ SLA K M H a (ns.map V.int) ∧ ns.length ≤ 63 ∧ r ∈ M ∧ p ∈ M ∧ r ≠ p ∧ (∀ b ∈ M, ∃ o, H b = some o) ∧
  H p = some (.lst (cs.map ov)) ∧ cs.length = 54 ∧ bnd cs ∧ Dt K M H (keysD ks) v ∧ gk ks ∧
  ∀ q' cs' H', q'.ok → Fr [r, p] H H' → H' r = some (rowO a q') → H' p = some (.lst (cs'.map ov)) → cs'.length = 54 → bnd cs' → Q .non H'

/-- a choice whose both sides are walked to one continuation -/
def tIfM (c : TT) (a b : TE) : TE := tIf c a b
theorem pe_ifM {X : Cx} {c a b : Expr} {pos : Pos} {tc : TT} {ta tb : TE} (h1 : PT X c tc) (h2 : PE X a ta) (h3 : PE X b tb) : PE X (.IfExp c a b pos) (tIfM tc ta tb) := pe_ifExp h1 h2 h3
theorem x_ifM {tc : TT} {ta tb : TE} {σ : L2.St} {H : Hp} {Q : VK} (C : V → Hp → Prop) (h : ∀ Q' : VK, (∀ v H', C v H' → Q' v H') → tIf tc ta tb σ H Q') (k : ∀ v H', C v H' → Q v H') : tIfM tc ta tb σ H Q := h Q k

theorem nl_mul0 {n m : Int} (h1 : 0 ≤ n) (h3 : 0 ≤ m) : 0 ≤ n * m := Int.mul_nonneg h1 h3

theorem nl_mul3 {n m : Int} (h1 : 0 ≤ n) (h2 : n < 4) (h3 : 0 ≤ m) (h4 : m < 2) : n * m ≤ 3 := by
  obtain rfl | rfl : m = 0 ∨ m = 1 := by omega
  · omega
  · omega

theorem Sy.exMem {K : PySem.W.Frag} {H0 : Bs} {M : List Addr} {H H' : Hp} {C m dx l : Addr} {μ : Mem} {L : List (Addr × HO)} {Ds : List (PyData × V)} (S : Sy K H0 M H L Ds) (f : Fr [] H H') (hm : H m = none) (hl : H l = none) (hM : MemAt C H' m dx l μ) :
    Sy K H0 (l :: m :: M) H' ((L ++ [(m, memO C dx l μ)]) ++ [(l, cellsO μ)]) Ds :=
  Sy.exNM (S.newM (o := memO C dx l μ) hm) (fun b u _ q => by
    by_cases hb : b = m
    · subst hb; rw [upd_same] at q; rw [hM.1]; exact q
    · rw [upd_ne hb] at q; exact f b u (fun z => nomatch z) q) (by rw [upd_ne hM.2.2.symm]; exact hl) hM.2.1
theorem judgedD_dep (cs : List (Option Int)) (ks : List Int) (s : Int) : (judgedD cs ks s).depth ≤ 4 := by
  unfold judgedD
  split
  · generalize cs.getD (slotB s + 1).toNat none = c
    cases c <;> simp [od, PyData.depth, PyData.depthAll]
  · simp [PyData.depth, PyData.depthAll]
theorem judgedD_ok (cs : List (Option Int)) (ks : List Int) (s : Int) : okD (judgedD cs ks s) = true := by
  unfold judgedD
  split
  · generalize cs.getD (slotB s + 1).toNat none = c
    cases c <;> rfl
  · rfl

end Z

namespace Z
open PySem L2

/-! ## deeds of several writes -/
section
variable {C m dx l : Addr} {μ : Mem} {ws ws2 : List Wr} {H H1 H2 : Hp} {Q Q1 S : Hp → Prop}
theorem ranX_mono (k : ranX C m dx l μ ws H Q S) (f : Fr [m, l] H H1) : ranX C m dx l μ ws H1 Q S := fun H' g hM => k H' (f.trans g) hM
theorem ranX_ex (k : ranX C m dx l μ ws H Q S) (f : Fr [] H H1) : ranX C m dx l μ ws H1 Q S := ranX_mono k f.wk0
/-- the first writes; then the others -/
theorem ranX_app (k : ranX C m dx l μ (ws ++ ws2) H Q S) (next : ∀ H1 μ1, Fr [m, l] H H1 → MemAt C H1 m dx l μ1 → μ1.cells = applyW ws μ.cells → μ1.up = μ.up → μ1.torn = μ.torn → ranX C m dx l μ1 ws2 H1 Q S → Q1 H1) : ranX C m dx l μ ws H Q1 S := by
  intro H1 f hM
  refine ⟨fun hw => ?_, fun hw => ?_⟩
  · refine next H1 _ f hM (run_cells hw) (run_upT hw) (by rw [run_whole hw]) fun H2 g hM2 => ?_
    rw [← run_ok hw] at hM2 ⊢
    exact k H2 (f.trans g) hM2
  · have := k H1 f (by rw [run_no hw]; exact hM)
    exact this.2 (by rw [run_no hw]; exact hw)
/-- no writes are left -/
theorem ranX_nil (k : ranX C m dx l μ [] H Q S) (hM : MemAt C H m dx l μ) : Q H := (k H (Fr.refl _ _) hM).1 rfl
/-- the last writes -/
theorem ranX_end (k : ranX C m dx l μ ws H Q S) (q : ∀ H1, Fr [m, l] H H1 → Q H1 → Q1 H1) : ranX C m dx l μ ws H Q1 S := fun H1 f hM => ⟨fun hw => q H1 f ((k H1 f hM).1 hw), (k H1 f hM).2⟩
end
/-- those of some cells that hold something else -/
def putW (cs : List (Option Int)) (i : Nat) (row : List Int) : List Wr := (List.range row.length).filterMap fun k => if cs.getD (i + k) none ≠ some (row.getD k 0) then some (i + k, row.getD k 0) else none
def putU (cs : List (Option Int)) (i : Nat) (row : List Int) (j : Nat) : List Wr := (List.range j).filterMap fun k => if cs.getD (i + k) none ≠ some (row.getD k 0) then some (i + k, row.getD k 0) else none
theorem putU_zero (cs : List (Option Int)) (i : Nat) (row : List Int) : putU cs i row 0 = [] := rfl
theorem putU_all (cs : List (Option Int)) (i : Nat) (row : List Int) : putU cs i row row.length = putW cs i row := rfl
theorem putU_yes {cs : List (Option Int)} {i : Nat} {row : List Int} {j : Nat} (h : cs.getD (i + j) none ≠ some (row.getD j 0)) : putU cs i row (j + 1) = putU cs i row j ++ [(i + j, row.getD j 0)] := by
  unfold putU
  rw [List.range_succ, List.filterMap_append]
  congr 1
  simp only [List.filterMap_cons, List.filterMap_nil]
  rw [if_pos h]
theorem putU_no {cs : List (Option Int)} {i : Nat} {row : List Int} {j : Nat} (h : cs.getD (i + j) none = some (row.getD j 0)) : putU cs i row (j + 1) = putU cs i row j := by
  unfold putU
  rw [List.range_succ, List.filterMap_append]
  simp only [List.filterMap_cons, List.filterMap_nil]
  rw [if_neg (by simpa using h), List.append_nil]
theorem putU_mem {cs : List (Option Int)} {i : Nat} {row : List Int} {j : Nat} {p : Wr} (h : p ∈ putU cs i row j) : i ≤ p.1 ∧ p.1 < i + j ∧ p.2 = row.getD (p.1 - i) 0 := by
  unfold putU at h
  obtain ⟨k, hk, e⟩ := List.mem_filterMap.mp h
  rw [List.mem_range] at hk
  split at e
  · cases e
    exact ⟨by simp, by simpa using hk, by simp⟩
  · cases e
theorem putU_pre (cs : List (Option Int)) (i : Nat) (row : List Int) {j k : Nat} (h : j ≤ k) : ∃ r, putU cs i row k = putU cs i row j ++ r := by
  induction k with
  | zero => obtain rfl : j = 0 := by omega
            exact ⟨[], by simp⟩
  | succ k ih =>
    by_cases e : j = k + 1
    · subst e; exact ⟨[], by simp⟩
    · obtain ⟨r, hr⟩ := ih (by omega)
      by_cases hc : cs.getD (i + k) none = some (row.getD k 0)
      · rw [putU_no hc]; exact ⟨r, hr⟩
      · rw [putU_yes hc, hr, List.append_assoc]; exact ⟨_, rfl⟩
theorem applyW_outD {k : Nat} {ws : List Wr} {cs : List (Option Int)} (h : ∀ p ∈ ws, p.1 ≠ k) : (applyW ws cs).getD k none = cs.getD k none := by
  rw [List.getD_eq_getElem?_getD, applyW_out h, List.getD_eq_getElem?_getD]
/-- a row that is put lies there -/
theorem putU_at {cs : List (Option Int)} {i : Nat} {row : List Int} : ∀ {j : Nat}, i + j ≤ cs.length → ∀ k, k < j → (applyW (putU cs i row j) cs).getD (i + k) none = some (row.getD k 0)
  | 0, _, k, hk => absurd hk (Nat.not_lt_zero _)
  | j + 1, hl, k, hk => by
    by_cases hc : cs.getD (i + j) none = some (row.getD j 0)
    · rw [putU_no hc]
      by_cases e : k = j
      · subst e
        rw [applyW_outD (fun p hp => by have := putU_mem hp; omega)]; exact hc
      · exact putU_at (by omega) k (by omega)
    · rw [putU_yes hc, applyW_app]
      show ((applyW (putU cs i row j) cs).set (i + j) (some (row.getD j 0))).getD (i + k) none = _
      by_cases e : k = j
      · subst e
        exact getD_setS (by rw [applyW_len]; omega)
      · rw [getD_setN (by omega)]; exact putU_at (by omega) k (by omega)
theorem putW_at {cs : List (Option Int)} {i : Nat} {row : List Int} (hl : i + row.length ≤ cs.length) {k : Nat} (hk : k < row.length) : (applyW (putW cs i row) cs).getD (i + k) none = some (row.getD k 0) := putU_at hl k hk
theorem putW_out {cs : List (Option Int)} {i : Nat} {row : List Int} {k : Nat} (h : k < i ∨ i + row.length ≤ k) : (applyW (putW cs i row) cs).getD k none = cs.getD k none :=
  applyW_outD fun p hp => by have := putU_mem (j := row.length) hp; omega
theorem putW_ok {cs : List (Option Int)} {i : Nat} {row : List Int} (h : ∀ n ∈ row, 0 ≤ n ∧ n ≤ 9972) : ∀ p ∈ putW cs i row, i ≤ p.1 ∧ p.1 < i + row.length ∧ 0 ≤ p.2 ∧ p.2 ≤ 9972 := by
  intro p hp
  have := putU_mem (j := row.length) hp
  refine ⟨this.1, this.2.1, ?_⟩
  rw [this.2.2]
  have hk : p.1 - i < row.length := by omega
  rw [List.getD_eq_getElem?_getD, List.getElem?_eq_getElem hk]
  exact h _ (List.getElem_mem hk)
theorem putW_len (cs : List (Option Int)) (i : Nat) (row : List Int) : (putW cs i row).length ≤ row.length := by
  unfold putW
  exact Nat.le_trans (List.length_filterMap_le _ _) (by rw [List.length_range]; exact Nat.le_refl _)
/-- one deed behind the other, each by the cells that the ones ahead have left -/
def thenW (f g : List (Option Int) → List Wr) (cs : List (Option Int)) : List Wr := f cs ++ g (applyW (f cs) cs)
def bookedO (cs : List (Option Int)) : Rec := (recordO cs 4).getD (0, 0, 0)
def openW (s : Int) (cs : List (Option Int)) : List Wr := if cs.getD (slotB s).toNat none ≠ some 0 then [((slotB s).toNat, 0)] else []
def closeW (s : Int) (hd : List Int) : List (Option Int) → List Wr := thenW (fun cs => putW cs ((slotB s).toNat + 1) hd) fun _ => [((slotB s).toNat, 1)]
/-- what the cells of a head hold, of whole ones -/
def wholeF (xs : List (Option Int)) : List Int := xs.map (·.getD 0)
/-- whether the other slot is to be laid anew -/
def needsL (cs : List (Option Int)) (ks : List Int) (t : Int) : Bool := decide (headL cs (1 - t) ≠ headL cs t) || !PyData.eqv (judgedD cs ks (1 - t)) (judgedD cs ks t)
def copyW (cs : List (Option Int)) (t : Int) : List Int := wholeF (partsL cs t ((headL cs t).getD 2 none |>.getD 0))
def doubleL (ks : List Int) (t : Int) (cs : List (Option Int)) : List Wr :=
  if needsL cs ks t = true then thenW (openW (1 - t)) (thenW (fun c => putW c ((slotB (1 - t)).toNat + 7) (copyW cs t)) (closeW (1 - t) (wholeF ((headL cs t).drop 1)))) cs else []
def laidN (ks : List Int) (t : Int) (cs : List (Option Int)) : Int := if needsL cs ks t = true then ((putW (applyW (openW (1 - t) cs) cs) ((slotB (1 - t)).toNat + 7) (copyW cs t)).length : Int) else 0
def doubleOk (b : Rec) (cs : List (Option Int)) (ks : List Int) : Bool := decide (b.2.1 ≠ 1) && decide (whyF cs ks b.1 = "")
def doubleWb (b : Rec) (ks : List Int) (cs : List (Option Int)) : List Wr :=
  if doubleOk b cs ks = true then thenW (doubleL ks b.1) (thenW (fun c => raiseW c 0 ((headL cs b.1).getD 1 none |>.getD 0)) fun c => raiseW c 2 ((headL cs b.1).getD 5 none |>.getD 0)) cs else []
def doubleDb (b : Rec) (ks : List Int) (cs : List (Option Int)) : PyData :=
  if doubleOk b cs ks = true then .tuple [.str "doubled", .int (laidN ks b.1 cs)] else .tuple [.str "no", .str (if b.2.1 = 1 then "trial" else whyF cs ks b.1)]
def doubleW (ks : List Int) (cs : List (Option Int)) : List Wr := doubleWb (bookedO cs) ks cs
def doubleD (ks : List Int) (cs : List (Option Int)) : PyData := doubleDb (bookedO cs) ks cs
def bookOk (cs : List (Option Int)) : Prop := (bookedO cs).1 = 0 ∨ (bookedO cs).1 = 1

section
variable {K : PySem.W.Frag} {M N : List Addr} {H H' : Hp} {B : Bs} {L : List (Addr × HO)} {Ds : List (PyData × V)}
/-- some that stand nowhere in L are changed -/
theorem Sy.away (S : Sy K B M H L Ds) (f : Fr N H H') (hN : ∀ a ∈ N, a ∈ M ∧ B.may a) (hne : ∀ a ∈ N, a ∉ L.map (·.1)) (hk : ∀ a ∈ N, ∃ o, H' a = some o) : Sy K B M H' L Ds := by
  have keep : ∀ a, (∃ o, H a = some o) → ∃ o, H' a = some o := fun a ⟨o, e⟩ => by
    by_cases z : a ∈ N
    · exact hk a z
    · exact ⟨o, f a o z e⟩
  refine ⟨fun b o n e => ?_, fun x hx => ?_, S.nd, fun x hx => (S.dat x hx).mono (f.wk fun a ha => (hN a ha).1), fun a ha => keep a (S.dom a ha), fun a ha => keep a (S.nom a ha)⟩
  · refine f b o (fun z => ?_) (S.fr b o n e)
    rcases (hN b z).2 with h | h
    · exact n h
    · rw [h] at e; cases e
  · exact f _ _ (fun z => hne _ z (List.mem_map_of_mem (f := (·.1)) hx)) (S.ent x hx)
end
/-! ## the laws' own cells and log -/
def sKV (c g : Addr) : List (Str × V) := [("cells", .ref c), ("log", .ref g)]
/-- at d a dict: at c the cells, at g the log -/
structure LogAt (K : PySem.W.Frag) (M : List Addr) (H : Hp) (d c g : Addr) (cs : List (Option Int)) (ws : List Wr) : Prop where
  hd : H d = some (.dK (kvT (sKV c g)))
  hc : H c = some (.lst (cs.map ov))
  hg : ∃ vs, H g = some (.lst vs) ∧ DtL K M H (ws.map wrD) vs
  dc : d ≠ c
  dg : d ≠ g
  cg : c ≠ g
  dm : d ∈ M
  cm : c ∈ M
  gm : g ∈ M
section
variable {K : PySem.W.Frag} {M N : List Addr} {H H' : Hp} {d c g : Addr} {cs : List (Option Int)} {ws : List Wr} {Q : VK}
theorem LogAt.fr (h : LogAt K M H d c g cs ws) (f : Fr N H H') (hN : ∀ a ∈ N, a ∈ M) (nd : d ∉ N) (nc : c ∉ N) (ng : g ∉ N) : LogAt K M H' d c g cs ws :=
  ⟨f _ _ nd h.hd, f _ _ nc h.hc, let ⟨vs, e, hv⟩ := h.hg; ⟨vs, f _ _ ng e, hv.mono (f.wk hN)⟩, h.dc, h.dg, h.cg, h.dm, h.cm, h.gm⟩
theorem LogAt.ex (h : LogAt K M H d c g cs ws) (f : Fr [] H H') : LogAt K M H' d c g cs ws := h.fr f (fun _ z => nomatch z) (fun z => nomatch z) (fun z => nomatch z) (fun z => nomatch z)
theorem LogAt.sl (h : LogAt K M H d c g cs ws) : SqL K H c (cs.map ov) := .inl (.inl h.hc)
theorem n_scells (h : LogAt K M H d c g cs ws) (q : Q (.ref c) H) : DgT (.ref d) (.str "cells") H Q := n_dgT 0 ["cells", "log"] h.hd rfl rfl (by decide +kernel) q
theorem n_slog (h : LogAt K M H d c g cs ws) (q : Q (.ref g) H) : DgT (.ref d) (.str "log") H Q := n_dgT 1 ["cells", "log"] h.hd rfl rfl (by decide +kernel) q
end
/-- what a mirrored deed does -/
def logX (K : PySem.W.Frag) (M : List Addr) (d c g : Addr) (cs : List (Option Int)) (ws0 ws : List Wr) (H : Hp) (Q : Hp → Prop) : Prop := ∀ H', Fr [c, g] H H' → LogAt K M H' d c g (applyW ws cs) (ws0 ++ ws) → Q H'
section
variable {K : PySem.W.Frag} {M : List Addr} {d c g : Addr} {cs : List (Option Int)} {ws0 ws ws2 : List Wr} {H H1 : Hp} {Q Q1 : Hp → Prop}
theorem logX_mono (k : logX K M d c g cs ws0 ws H Q) (f : Fr [c, g] H H1) : logX K M d c g cs ws0 ws H1 Q := fun H' g' hM => k H' (f.trans g') hM
theorem logX_ex (k : logX K M d c g cs ws0 ws H Q) (f : Fr [] H H1) : logX K M d c g cs ws0 ws H1 Q := logX_mono k f.wk0
theorem logX_app (k : logX K M d c g cs ws0 (ws ++ ws2) H Q) (next : ∀ H1, Fr [c, g] H H1 → LogAt K M H1 d c g (applyW ws cs) (ws0 ++ ws) → logX K M d c g (applyW ws cs) (ws0 ++ ws) ws2 H1 Q → Q1 H1) : logX K M d c g cs ws0 ws H Q1 := fun H1 f hL =>
  next H1 f hL fun H2 f2 hL2 => k H2 (f.trans f2) (by rw [applyW_app, ← List.append_assoc]; exact hL2)
theorem logX_nil (k : logX K M d c g cs ws0 [] H Q) (h : LogAt K M H d c g cs ws0) : Q H := k H (Fr.refl _ _) (by rw [List.append_nil]; exact h)
theorem logX_end (k : logX K M d c g cs ws0 ws H Q) (q : ∀ H1, Fr [c, g] H H1 → LogAt K M H1 d c g (applyW ws cs) (ws0 ++ ws) → Q H1 → Q1 H1) : logX K M d c g cs ws0 ws H Q1 := fun H1 f hL => q H1 f hL (k H1 f hL)
end

theorem set_self {xs : List Int} {i : Nat} {n : Int} (h : xs[i]? = some n) : xs.set i n = xs := by
  obtain ⟨hi, e⟩ := List.getElem?_eq_some_iff.mp h
  rw [← e, List.set_getElem_self]
theorem sums_set1 {xs : List Int} {i : Nat} {n x : Int} (h : xs[i]? = some n) (n0 : 0 ≤ n) (n1 : n < 9973) (x0 : 0 ≤ x) (x1 : x < 9973) (ne : x ≠ n) : sumsF (xs.set i x) ≠ sumsF xs := by
  rw [sums_is, sums_is]
  intro e
  have e1 := (Prod.mk.inj e).1
  rw [oneR_set x h] at e1
  omega
theorem sums_set2 {xs : List Int} {i j : Nat} {n x m y : Int} (h : xs[i]? = some n) (h2 : xs[j]? = some m) (hij : i ≠ j) (hl : xs.length < 9973) (n0 : 0 ≤ n) (n1 : n < 9973) (x0 : 0 ≤ x) (x1 : x < 9973) (ne : x ≠ n) :
    sumsF ((xs.set i x).set j y) ≠ sumsF xs := by
  have h3 : (xs.set i x)[j]? = some m := by rw [List.getElem?_set_ne hij]; exact h2
  have li := (List.getElem?_eq_some_iff.mp h).1
  have lj := (List.getElem?_eq_some_iff.mp h2).1
  rw [sums_is, sums_is]
  intro e
  have e1 := (Prod.mk.inj e).1
  have e2 := (Prod.mk.inj e).2
  rw [oneR_set y h3, oneR_set x h] at e1
  rw [twoR_set y h3, twoR_set x h, List.length_set] at e2
  obtain ⟨k, hk⟩ : ∃ k : Int, (x - n) + (y - m) = 9973 * k := ⟨((x - n) + (y - m)) / 9973, by omega⟩
  have hy : y - m = 9973 * k - (x - n) := by omega
  rw [hy] at e2
  have e3 : ((xs.length : Int) - i) * (x - n) + ((xs.length : Int) - j) * (9973 * k - (x - n)) = ((j : Int) - i) * (x - n) + 9973 * (k * ((xs.length : Int) - j)) := by grind
  have e4 : (((j : Int) - i) * (x - n)) % 9973 = 0 := by
    rw [Int.add_assoc, e3] at e2
    generalize ((j : Int) - i) * (x - n) = u at *
    generalize k * ((xs.length : Int) - j) = u2 at *
    omega
  have := pmul (by omega) e4
  omega
theorem good_inv {cs : List (Option Int)} {ks : List Int} {s : Int} (h : whyF cs ks s = "") : ∃ v many one two n sl, headL cs s = [some 1, some v, some many, some one, some two, some n, some sl] ∧ 1 ≤ many ∧ many ≤ 12 ∧ (allI (partsL cs s many)).map sumsF = some (one, two) ∧ floorO cs 2 ≤ n ∧ n < ks.length ∧
    sealF (ks.getD n.toNat 0) [v, many, one, two, n] = sl ∧ floorO cs 0 ≤ v := by
  unfold whyF at h
  split at h
  · rename_i mk v many one two n sl e
    unfold whyH at h
    by_cases h1 : mk ≠ 1
    · rw [if_pos h1] at h; exact absurd h (by decide +kernel)
    rw [if_neg h1] at h
    by_cases h2 : ¬ (1 ≤ many ∧ many ≤ 12)
    · rw [if_pos h2] at h; exact absurd h (by decide +kernel)
    rw [if_neg h2] at h
    by_cases h3 : (allI (partsL cs s many)).map sumsF ≠ some (one, two)
    · rw [if_pos h3] at h; exact absurd h (by decide +kernel)
    rw [if_neg h3] at h
    by_cases h4 : ¬ (floorO cs 2 ≤ n ∧ n < ks.length)
    · rw [if_pos h4] at h; exact absurd h (by decide +kernel)
    rw [if_neg h4] at h
    by_cases h5 : sealF (ks.getD n.toNat 0) [v, many, one, two, n] ≠ sl
    · rw [if_pos h5] at h; exact absurd h (by decide +kernel)
    rw [if_neg h5] at h
    by_cases h6 : v < floorO cs 0
    · rw [if_pos h6] at h; exact absurd h (by decide +kernel)
    have e1 : mk = 1 := Decidable.of_not_not h1
    subst e1
    have h2 := Decidable.of_not_not h2
    have h4 := Decidable.of_not_not h4
    exact ⟨v, many, one, two, n, sl, e, h2.1, h2.2, Decidable.of_not_not h3, h4.1, h4.2, Decidable.of_not_not h5, by omega⟩
  · exact absurd h (by decide +kernel)
theorem layB_at {row : List Int} {cs : List (Option Int)} (hl : cs.length = 54) : ∀ k, k ≤ 19 → ∀ j, j < k → (layB row k cs)[16 + j]? = some (some (row.getD j 0)) ∧ (layB row k cs)[35 + j]? = some (some (row.getD j 0))
  | 0, _, j, h => absurd h (Nat.not_lt_zero _)
  | k + 1, hk, j, h => by
    have hlen : (layB row k cs).length = 54 := by rw [layB_len, hl]
    rw [layB_more]
    by_cases e : j = k
    · subst e
      refine ⟨?_, ?_⟩
      · rw [List.getElem?_set_ne (by omega), List.getElem?_set_self (by omega)]
      · rw [List.getElem?_set_self (by rw [List.length_set]; omega)]
    · have ih := layB_at (row := row) hl k (by omega) j (by omega)
      refine ⟨?_, ?_⟩
      · rw [List.getElem?_set_ne (by omega), List.getElem?_set_ne (by omega)]; exact ih.1
      · rw [List.getElem?_set_ne (by omega), List.getElem?_set_ne (by omega)]; exact ih.2
theorem layB_low {row : List Int} {cs : List (Option Int)} {i : Nat} (h : i < 16) : ∀ k, (layB row k cs)[i]? = cs[i]?
  | 0 => rfl
  | k + 1 => by rw [layB_more, List.getElem?_set_ne (by omega), List.getElem?_set_ne (by omega)]; exact layB_low h k
/-- a slot's first cells hold this row -/
def inSlot (cs : List (Option Int)) (s : Int) (row : List Int) : Prop := ∀ j, j < row.length → cs[(slotB s).toNat + j]? = some (some (row.getD j 0))
theorem mach_slot {ks : List Int} {p : Pic} (h : p.cells.length ≤ 12) {s : Int} (hs : s = 0 ∨ s = 1) : inSlot (machC ks p) s (slotRow ks p) := by
  intro j hj
  have hl := slotRow_len ks p
  have := layB_at (row := slotRow ks p) (machN_len p) (slotRow ks p).length (by omega) j hj
  rcases hs with rfl | rfl
  · exact this.1
  · exact this.2
theorem head_of_slot {cs : List (Option Int)} {s : Int} {row : List Int} (hs : s = 0 ∨ s = 1) (hl : cs.length = 54) (h : inSlot cs s row) (h7 : 7 ≤ row.length) : headL cs s = [some (row.getD 0 0), some (row.getD 1 0), some (row.getD 2 0), some (row.getD 3 0), some (row.getD 4 0), some (row.getD 5 0), some (row.getD 6 0)] := by
  have hb := slotB_b hs
  unfold headL
  refine row_is (n := 7) rfl fun k hk => ?_
  rw [h k (by omega)]
  match k, hk with
  | 0, _ => rfl
  | 1, _ => rfl
  | 2, _ => rfl
  | 3, _ => rfl
  | 4, _ => rfl
  | 5, _ => rfl
  | 6, _ => rfl
theorem machC_low {ks : List Int} {p : Pic} : (machC ks p)[0]? = some (some p.v) ∧ (machC ks p)[1]? = some (some 0) ∧ (machC ks p)[2]? = some (some p.n) ∧ (machC ks p)[3]? = some (some 0) := by
  have hn : ∀ i : Nat, i < 4 → (machN p)[i]? = (machB p)[i]? := by
    intro i hi
    unfold machN
    rcases next_w (machB p) 4 with e | e
    · simp only [noteW, applyW, List.foldl_cons, List.foldl_nil, e]
      rw [show 4 + 6 * (0 : Int).toNat = 4 from rfl]
      rw [List.getElem?_set_ne (by omega), List.getElem?_set_ne (by omega), List.getElem?_set_ne (by omega), List.getElem?_set_ne (by omega), List.getElem?_set_ne (by omega), List.getElem?_set_ne (by omega), List.getElem?_set_ne (by omega)]
    · simp only [noteW, applyW, List.foldl_cons, List.foldl_nil, e]
      rw [show 4 + 6 * (1 : Int).toNat = 10 from rfl]
      rw [List.getElem?_set_ne (by omega), List.getElem?_set_ne (by omega), List.getElem?_set_ne (by omega), List.getElem?_set_ne (by omega), List.getElem?_set_ne (by omega), List.getElem?_set_ne (by omega), List.getElem?_set_ne (by omega)]
  have hb : (machB p)[0]? = some (some p.v) ∧ (machB p)[1]? = some (some 0) ∧ (machB p)[2]? = some (some p.n) ∧ (machB p)[3]? = some (some 0) := ⟨rfl, rfl, rfl, rfl⟩
  unfold machC
  refine ⟨?_, ?_, ?_, ?_⟩
  · rw [layB_low (by decide), hn 0 (by decide)]; exact hb.1
  · rw [layB_low (by decide), hn 1 (by decide)]; exact hb.2.1
  · rw [layB_low (by decide), hn 2 (by decide)]; exact hb.2.2.1
  · rw [layB_low (by decide), hn 3 (by decide)]; exact hb.2.2.2
theorem getD_of {α : Type} {cs : List α} {i : Nat} {d v : α} (h : cs[i]? = some v) : cs.getD i d = v := by rw [List.getD_eq_getElem?_getD, h]; rfl
theorem slot_parts {cs : List (Option Int)} {s : Int} {a ns : List Int} (hs : s = 0 ∨ s = 1) (h : inSlot cs s (a ++ ns)) (h7 : a.length = 7) : partsL cs s ns.length = ns.map some := by
  have hb := slotB_b hs
  unfold partsL
  rw [Int.toNat_natCast]
  refine row_is (n := ns.length) (by rw [List.length_map]) fun k hk => ?_
  have := h (7 + k) (by rw [List.length_append]; omega)
  rw [show (slotB s + 7).toNat + k = (slotB s).toNat + (7 + k) by omega, this, List.getElem?_map, List.getElem?_eq_getElem hk]
  congr 2
  rw [List.getD_eq_getElem?_getD, List.getElem?_append_right (by omega), show 7 + k - a.length = k by omega, List.getElem?_eq_getElem hk]; rfl
theorem mach_good {ks : List Int} {p : Pic} (gg : gk ks) (hp : gp ks p) {s : Int} (hs : s = 0 ∨ s = 1) : whyF (machC ks p) ks s = "" := by
  obtain ⟨p1, p2, p3, p4, p5, p6, p7⟩ := _root_.id hp
  have hk := keyOf_ok gg hp
  have hin := mach_slot (ks := ks) p4 hs
  have hh := head_of_slot hs (machC_len ks p) hin (by rw [slotRow_len]; omega)
  have hh : headL (machC ks p) s = [some 1, some p.v, some p.cells.length, some (sumsF p.cells).1, some (sumsF p.cells).2, some p.n, some (sealF (keyOf ks p) (plainF p))] := hh
  have hpt : partsL (machC ks p) s p.cells.length = p.cells.map some := slot_parts (a := 1 :: headF ks p) hs hin (by simp [headF, plainF])
  obtain ⟨l0, l1, l2, l3⟩ := machC_low (ks := ks) (p := p)
  have f0 : floorO (machC ks p) 0 = p.v := by
    unfold floorO
    rw [getD_of l0, getD_of l1]
    simp [countF]; omega
  have f2 : floorO (machC ks p) 2 = p.n := by
    unfold floorO
    rw [getD_of l2, getD_of l3]
    simp [countF]; omega
  rw [why_some hh]
  unfold whyH
  rw [hpt, allI_some, f0, f2]
  have hkk : ks.getD p.n.toNat 0 = keyOf ks p := getD_of hk.1
  rw [hkk]
  rw [if_neg (by simp), if_neg (fun z => z ⟨by omega, by omega⟩), if_neg (by simp), if_neg (fun z => z ⟨by omega, p7⟩), if_neg (fun z => z rfl), if_neg (by omega)]
/-- a slot's first cells are these -/
def slotO (cs : List (Option Int)) (s : Int) (xs : List (Option Int)) : Prop := ∀ j, j < xs.length → cs[(slotB s).toNat + j]? = xs[j]?
theorem slotO_of {cs : List (Option Int)} {s : Int} {row : List Int} (h : inSlot cs s row) : slotO cs s (row.map some) := by
  intro j hj
  rw [List.length_map] at hj
  rw [h j hj, List.getElem?_map, List.getElem?_eq_getElem hj, List.getD_eq_getElem?_getD, List.getElem?_eq_getElem hj]; rfl
theorem slotO_set {cs : List (Option Int)} {s : Int} {xs : List (Option Int)} (h : slotO cs s xs) (hl : (slotB s).toNat + xs.length ≤ cs.length) {j : Nat} (hj : j < xs.length) (w : Option Int) : slotO (cs.set ((slotB s).toNat + j) w) s (xs.set j w) := by
  intro k hk
  rw [List.length_set] at hk
  by_cases e : j = k
  · subst e
    rw [List.getElem?_set_self (by omega), List.getElem?_set_self hj]
  · rw [List.getElem?_set_ne (by omega), List.getElem?_set_ne e]; exact h k hk
theorem slotO_out {cs : List (Option Int)} {s : Int} {xs : List (Option Int)} (h : slotO cs s xs) {i : Nat} (hi : i < (slotB s).toNat ∨ (slotB s).toNat + xs.length ≤ i) (w : Option Int) : slotO (cs.set i w) s xs := by
  intro k hk
  rw [List.getElem?_set_ne (by omega)]; exact h k hk
theorem headL_of {cs : List (Option Int)} {s : Int} {xs : List (Option Int)} (h : slotO cs s xs) (h7 : 7 ≤ xs.length) : headL cs s = xs.take 7 := by
  unfold headL
  refine row_is (by rw [List.length_take]; omega) fun k hk => ?_
  rw [h k (by omega), List.getElem?_take_of_lt hk]
theorem partsL_of {cs : List (Option Int)} {s : Int} {xs : List (Option Int)} (hs : s = 0 ∨ s = 1) (h : slotO cs s xs) {n : Int} (hn : xs.length = 7 + n.toNat) : partsL cs s n = xs.drop 7 := by
  have hb := slotB_b hs
  unfold partsL
  refine row_is (by rw [List.length_drop]; omega) fun k hk => ?_
  rw [show (slotB s + 7).toNat + k = (slotB s).toNat + (7 + k) by omega, h _ (by omega), List.getElem?_drop]
def lowIs (cs : List (Option Int)) (p : Pic) : Prop := cs[0]? = some (some p.v) ∧ cs[1]? = some (some 0) ∧ cs[2]? = some (some p.n) ∧ cs[3]? = some (some 0)
theorem lowIs_set {cs : List (Option Int)} {p : Pic} (h : lowIs cs p) {i : Nat} (hi : 4 ≤ i) (w : Option Int) : lowIs (cs.set i w) p := by
  unfold lowIs
  rw [List.getElem?_set_ne (by omega), List.getElem?_set_ne (by omega), List.getElem?_set_ne (by omega), List.getElem?_set_ne (by omega)]
  exact h
theorem rowO_is (ks : List Int) (p : Pic) : (slotRow ks p).map some = [some 1, some p.v, some p.cells.length, some (sumsF p.cells).1, some (sumsF p.cells).2, some p.n, some (sealF (keyOf ks p) (plainF p))] ++ p.cells.map some := by
  simp [slotRow, headF, plainF]
theorem slot_good {cs : List (Option Int)} {ks : List Int} {p : Pic} (gg : gk ks) (hp : gp ks p) {s : Int} (hs : s = 0 ∨ s = 1) (low : lowIs cs p) (h : slotO cs s ((slotRow ks p).map some)) : whyF cs ks s = "" ∧ judgedD cs ks s = .tuple [.str "good", .int p.v] := by
  obtain ⟨p1, p2, p3, p4, p5, p6, p7⟩ := _root_.id hp
  have hk := keyOf_ok gg hp
  rw [rowO_is] at h
  have hh : headL cs s = [some 1, some p.v, some p.cells.length, some (sumsF p.cells).1, some (sumsF p.cells).2, some p.n, some (sealF (keyOf ks p) (plainF p))] := (headL_of h (by simp)).trans rfl
  have hpt : partsL cs s p.cells.length = p.cells.map some := (partsL_of hs h (by simp; omega)).trans rfl
  obtain ⟨l0, l1, l2, l3⟩ := low
  have f0 : floorO cs 0 = p.v := by
    unfold floorO
    rw [getD_of l0, getD_of l1]
    simp [countF]; omega
  have f2 : floorO cs 2 = p.n := by
    unfold floorO
    rw [getD_of l2, getD_of l3]
    simp [countF]; omega
  have hw : whyF cs ks s = "" := by
    rw [why_some hh]
    unfold whyH
    rw [hpt, allI_some, f0, f2]
    have hkk : ks.getD p.n.toNat 0 = keyOf ks p := getD_of hk.1
    rw [hkk]
    rw [if_neg (by simp), if_neg (fun z => z ⟨by omega, by omega⟩), if_neg (by simp), if_neg (fun z => z ⟨by omega, p7⟩), if_neg (fun z => z rfl), if_neg (by omega)]
  refine ⟨hw, ?_⟩
  unfold judgedD
  have e := head_get (cs := cs) hs 1 (by decide)
  rw [hh] at e
  rw [if_pos hw, show slotB s + 1 = slotB s + ((1 : Nat) : Int) from rfl, e]; rfl
theorem bad_head {cs : List (Option Int)} {ks : List Int} {p : Pic} (gg : gk ks) (hp : gp ks p) {s : Int} {off : Nat} (ho : off = 0 ∨ off = 1 ∨ off = 2 ∨ off = 3 ∨ off = 4 ∨ off = 6) {cw : Option Int} (hcw : ∀ n, cw = some n → 0 ≤ n ∧ n ≤ 9972 ∧ n ≠ (slotRow ks p).getD off 0)
    (h : slotO cs s (((slotRow ks p).map some).set off cw)) : whyF cs ks s ≠ "" := by
  intro z
  obtain ⟨v, many, one, two, n, sl, e, -, -, -, -, -, e2, -⟩ := good_inv z
  have hh := headL_of h (by rw [List.length_set, List.length_map, slotRow_len]; omega)
  rw [hh, rowO_is] at e
  have hko := keyOf_ok gg hp
  have hpo := plainF_ok gg.2.1 hp
  have hkk : ks.getD p.n.toNat 0 = keyOf ks p := getD_of hko.1
  have sl0 := sealF_lt (keyOf ks p) (plainF p) (by omega) (by omega)
  have ne : ∀ (i : Nat) (x m : Int), (plainF p)[i]? = some m → 0 ≤ x → x ≤ 9972 → x ≠ m → sealF (keyOf ks p) ((plainF p).set i x) ≠ sealF (keyOf ks p) (plainF p) := fun i x m hi h0 h1 hx => by
    have := hpo m (List.mem_of_getElem? hi)
    exact seal_set (by omega) (by omega) hi this.1 this.2 h0 (by omega) hx (by omega) (by omega)
  rcases ho with rfl | rfl | rfl | rfl | rfl | rfl <;>
    simp only [List.cons_append, List.nil_append, List.set_cons_zero, List.set_cons_succ, List.take_succ_cons, List.take_zero, List.cons.injEq, Option.some.injEq, and_true, true_and] at e
  · obtain ⟨rfl, -⟩ := e
    exact (hcw 1 rfl).2.2 rfl
  · obtain ⟨rfl, rfl, rfl, rfl, rfl, rfl⟩ := e
    rw [hkk] at e2
    have hc := hcw v rfl
    exact ne 0 v p.v rfl hc.1 hc.2.1 hc.2.2 e2
  · obtain ⟨rfl, rfl, rfl, rfl, rfl, rfl⟩ := e
    rw [hkk] at e2
    have hc := hcw many rfl
    exact ne 1 many _ rfl hc.1 hc.2.1 hc.2.2 e2
  · obtain ⟨rfl, rfl, rfl, rfl, rfl, rfl⟩ := e
    rw [hkk] at e2
    have hc := hcw one rfl
    exact ne 2 one _ rfl hc.1 hc.2.1 hc.2.2 e2
  · obtain ⟨rfl, rfl, rfl, rfl, rfl, rfl⟩ := e
    rw [hkk] at e2
    have hc := hcw two rfl
    exact ne 3 two _ rfl hc.1 hc.2.1 hc.2.2 e2
  · obtain ⟨rfl, rfl, rfl, rfl, rfl, rfl⟩ := e
    rw [hkk] at e2
    have hc := hcw sl rfl
    exact hc.2.2 e2.symm
theorem bad_parts {cs : List (Option Int)} {ks : List Int} {p : Pic} {s : Int} (hs : s = 0 ∨ s = 1) {ys : List (Option Int)} (hy : ys.length = p.cells.length) (hne : (allI ys).map sumsF ≠ some (sumsF p.cells))
    (h : slotO cs s ([some 1, some p.v, some p.cells.length, some (sumsF p.cells).1, some (sumsF p.cells).2, some p.n, some (sealF (keyOf ks p) (plainF p))] ++ ys)) : whyF cs ks s ≠ "" := by
  intro z
  obtain ⟨v, many, one, two, n, sl, e, -, -, e3, -, -, e2, -⟩ := good_inv z
  have hh := headL_of h (by simp)
  rw [hh] at e
  simp only [List.cons_append, List.nil_append, List.take_succ_cons, List.take_zero, List.cons.injEq, Option.some.injEq, and_true, true_and] at e
  obtain ⟨rfl, rfl, rfl, rfl, rfl, rfl⟩ := e
  rw [partsL_of hs h (by simp [hy]; omega)] at e3
  exact hne e3
theorem allI_bad {ys : List (Option Int)} (h : none ∈ ys) (s : Int × Int) : (allI ys).map sumsF ≠ some s := by
  rw [allI_none.mpr h]; exact fun z => nomatch z
theorem set_map {xs : List Int} {i : Nat} {x : Int} : (xs.map some).set i (some x) = (xs.set i x).map some := by rw [List.map_set]
theorem one_bad {xs : List Int} (hx : ∀ c ∈ xs, 0 ≤ c ∧ c ≤ 9972) {i : Nat} (hi : i < xs.length) {cw : Option Int} (hcw : ∀ n, cw = some n → 0 ≤ n ∧ n ≤ 9972 ∧ n ≠ xs.getD i 0) : (allI ((xs.map some).set i cw)).map sumsF ≠ some (sumsF xs) := by
  cases cw with
  | none => exact allI_bad (List.mem_of_getElem? (i := i) (by rw [List.getElem?_set_self (by rw [List.length_map]; exact hi)])) _
  | some x =>
    have hc := hcw x rfl
    obtain ⟨n, hn⟩ := at_lt hi
    rw [getD_of hn] at hc
    have := hx n (List.mem_of_getElem? hn)
    rw [set_map, allI_some]
    intro z
    exact sums_set1 hn (by omega) (by omega) (by omega) (by omega) hc.2.2 (Option.some.inj z)
theorem two_bad {xs : List Int} (hx : ∀ c ∈ xs, 0 ≤ c ∧ c ≤ 9972) (hl : xs.length ≤ 12) {i j : Nat} (hi : i < xs.length) (hj : j < xs.length) (hij : i ≠ j) {cw : Option Int} (hcw : ∀ n, cw = some n → 0 ≤ n ∧ n ≤ 9972 ∧ n ≠ xs.getD i 0) (y : Int) : (allI (((xs.map some).set i cw).set j (some y))).map sumsF ≠ some (sumsF xs) := by
  cases cw with
  | none => exact allI_bad (List.mem_of_getElem? (i := i) (by rw [List.getElem?_set_ne (by omega), List.getElem?_set_self (by rw [List.length_map]; exact hi)])) _
  | some x =>
    have hc := hcw x rfl
    obtain ⟨n, hn⟩ := at_lt hi
    obtain ⟨m, hm⟩ := at_lt hj
    rw [getD_of hn] at hc
    have := hx n (List.mem_of_getElem? hn)
    rw [set_map, set_map, allI_some]
    intro z
    exact sums_set2 hn hm hij (by omega) (by omega) (by omega) (by omega) (by omega) hc.2.2 (Option.some.inj z)
theorem judged_bad {cs : List (Option Int)} {ks : List Int} {s : Int} (h : whyF cs ks s ≠ "") : judgedD cs ks s = .tuple [.str (whyF cs ks s)] := by
  unfold judgedD; rw [if_neg h]
theorem why_ng (cs : List (Option Int)) (ks : List Int) (s : Int) : whyF cs ks s ≠ "good" := by
  unfold whyF
  split
  · unfold whyH
    repeat' split
    all_goals decide +kernel
  · decide +kernel
theorem places_at {many : Nat} {x : Int} (h0 : 0 ≤ x) (h1 : x < 6 + many) : ∃ off : Nat, atI ([V.int 0, V.int 1, V.int 2, V.int 3, V.int 4, V.int 6] ++ rgV 7 (7 + (many : Int))) x = some (.int off) ∧ ((off = 0 ∨ off = 1 ∨ off = 2 ∨ off = 3 ∨ off = 4 ∨ off = 6) ∨ ∃ i, i < many ∧ off = 7 + i) := by
  by_cases h : x < 6
  · have : x = 0 ∨ x = 1 ∨ x = 2 ∨ x = 3 ∨ x = 4 ∨ x = 5 := by omega
    rcases this with rfl | rfl | rfl | rfl | rfl | rfl
    · exact ⟨0, atI_int (by decide) rfl, by simp⟩
    · exact ⟨1, atI_int (by decide) rfl, by simp⟩
    · exact ⟨2, atI_int (by decide) rfl, by simp⟩
    · exact ⟨3, atI_int (by decide) rfl, by simp⟩
    · exact ⟨4, atI_int (by decide) rfl, by simp⟩
    · exact ⟨6, atI_int (by decide) rfl, by simp⟩
  · refine ⟨7 + (x.toNat - 6), atI_int h0 ?_, .inr ⟨x.toNat - 6, by omega, rfl⟩⟩
    rw [List.getElem?_append_right (by simp; omega)]
    simp only [List.length_cons, List.length_nil]
    unfold rgV
    rw [List.getElem?_map, List.getElem?_range (by omega)]
    simp
theorem other_ne {w x : Int} (w0 : 0 ≤ w) (w1 : w ≤ 9972) (x0 : 0 ≤ x) (x1 : x < 9972) : 0 ≤ (w + 1 + x) % 9973 ∧ (w + 1 + x) % 9973 ≤ 9972 ∧ (w + 1 + x) % 9973 ≠ w := by omega
theorem slot_cell {cs : List (Option Int)} {s : Int} {row : List Int} {off : Nat} (hs : s = 0 ∨ s = 1) (h : slotO cs s (row.map some)) (ho : off < row.length) : cs[(slotB s).toNat + off]? = some (some (row.getD off 0)) ∧ atI (cs.map ov) (slotB s + off) = some (.int (row.getD off 0)) := by
  have hb := slotB_b hs
  have e : cs[(slotB s).toNat + off]? = some (some (row.getD off 0)) := by
    rw [h off (by rw [List.length_map]; exact ho), List.getElem?_map, List.getElem?_eq_getElem ho, List.getD_eq_getElem?_getD, List.getElem?_eq_getElem ho]; rfl
  refine ⟨e, atI_int (by omega) ?_⟩
  rw [List.getElem?_map, show (slotB s + (off : Int)).toNat = (slotB s).toNat + off by omega, e]; rfl
theorem set_back1 {cs : List (Option Int)} {i j : Nat} {a b : Int} {w : Option Int} (hi : cs[i]? = some (some a)) (hj : cs[j]? = some (some b)) : ((cs.set i w).set i (some a)).set j (some b) = cs := by
  obtain ⟨h1, e1⟩ := List.getElem?_eq_some_iff.mp hi
  obtain ⟨h2, e2⟩ := List.getElem?_eq_some_iff.mp hj
  rw [List.set_set, ← e1, List.set_getElem_self, ← e2, List.set_getElem_self]
theorem set_back2 {cs : List (Option Int)} {i j : Nat} {a b : Int} {w u : Option Int} (hij : i ≠ j) (hi : cs[i]? = some (some a)) (hj : cs[j]? = some (some b)) : (((cs.set i w).set j u).set i (some a)).set j (some b) = cs := by
  obtain ⟨h1, e1⟩ := List.getElem?_eq_some_iff.mp hi
  obtain ⟨h2, e2⟩ := List.getElem?_eq_some_iff.mp hj
  rw [List.set_comm _ _ hij.symm, List.set_set, List.set_set, ← e1, List.set_getElem_self, ← e2, List.set_getElem_self]
theorem machC_all {ks : List Int} {p : Pic} (gg : gk ks) (hp : gp ks p) : (machC ks p).length = 54 ∧ bnd (machC ks p) ∧ lowIs (machC ks p) p ∧ slotO (machC ks p) 0 ((slotRow ks p).map some) ∧ slotO (machC ks p) 1 ((slotRow ks p).map some) :=
  ⟨machC_len ks p, (machC_b gg hp).1, machC_low, slotO_of (mach_slot hp.2.2.2.1 (.inl rfl)), slotO_of (mach_slot hp.2.2.2.1 (.inr rfl))⟩
/-- one cell of a slot, spoilt or broken -/
theorem bad_one {cs : List (Option Int)} {ks : List Int} {p : Pic} (gg : gk ks) (hp : gp ks p) {s : Int} (hs : s = 0 ∨ s = 1) (hl : cs.length = 54) {off : Nat} (ho : (off = 0 ∨ off = 1 ∨ off = 2 ∨ off = 3 ∨ off = 4 ∨ off = 6) ∨ ∃ i, i < p.cells.length ∧ off = 7 + i) {cw : Option Int}
    (hcw : ∀ n, cw = some n → 0 ≤ n ∧ n ≤ 9972 ∧ n ≠ (slotRow ks p).getD off 0) (h : slotO cs s ((slotRow ks p).map some)) : whyF (cs.set ((slotB s).toNat + off) cw) ks s ≠ "" := by
  have hb := slotB_b hs
  have hrl := slotRow_len ks p
  have p4 := hp.2.2.2.1
  have hof : off < 7 + p.cells.length := by
    rcases ho with ho | ⟨i, hi, rfl⟩
    · omega
    · omega
  have h2 := slotO_set h (j := off) (by rw [List.length_map]; clear ho; omega) (by rw [List.length_map]; clear ho; omega) cw
  rcases ho with ho | ⟨i, hi, rfl⟩
  · exact bad_head gg hp ho hcw h2
  · rw [rowO_is, List.set_append_right _ _ (by simp)] at h2
    refine bad_parts hs (ys := (p.cells.map some).set i cw) (by simp) (one_bad hp.2.2.2.2.1 hi fun n e => ?_) (by rw [show 7 + i - _ = i by simp] at h2; exact h2)
    have hc := hcw n e
    have e2 : (slotRow ks p).getD (7 + i) 0 = p.cells.getD i 0 := by
      unfold slotRow
      rw [List.getD_eq_getElem?_getD, show 7 + i = (6 + i) + 1 by omega, List.getElem?_cons_succ, List.getElem?_append_right (by simp [headF, plainF]), show 6 + i - (headF ks p).length = i by simp [headF, plainF], List.getD_eq_getElem?_getD]
    rw [e2] at hc; exact hc
theorem bad_two {cs : List (Option Int)} {ks : List Int} {p : Pic} (hp : gp ks p) {s : Int} (hs : s = 0 ∨ s = 1) (hl : cs.length = 54) {i j : Nat} (hi : i < p.cells.length) (hj : j < p.cells.length) (hij : i ≠ j) {cw : Option Int}
    (hcw : ∀ n, cw = some n → 0 ≤ n ∧ n ≤ 9972 ∧ n ≠ (slotRow ks p).getD (7 + i) 0) (y : Int) (h : slotO cs s ((slotRow ks p).map some)) : whyF ((cs.set ((slotB s).toNat + (7 + i)) cw).set ((slotB s).toNat + (7 + j)) (some y)) ks s ≠ "" := by
  have hb := slotB_b hs
  have hrl := slotRow_len ks p
  have p4 := hp.2.2.2.1
  have h2 := slotO_set h (j := 7 + i) (by rw [List.length_map]; omega) (by rw [List.length_map]; omega) cw
  have h2 := slotO_set h2 (j := 7 + j) (by rw [List.length_set, List.length_set, List.length_map]; omega) (by rw [List.length_set, List.length_map]; omega) (some y)
  rw [rowO_is, List.set_append_right _ _ (by simp), List.set_append_right _ _ (by simp)] at h2
  refine bad_parts hs (ys := ((p.cells.map some).set i cw).set j (some y)) (by simp) (two_bad hp.2.2.2.2.1 p4 hi hj hij (fun n e => ?_) y) (by rw [show 7 + i - _ = i by simp, show 7 + j - _ = j by simp] at h2; exact h2)
  have hc := hcw n e
  have e2 : (slotRow ks p).getD (7 + i) 0 = p.cells.getD i 0 := by
    unfold slotRow
    rw [List.getD_eq_getElem?_getD, show 7 + i = (6 + i) + 1 by omega, List.getElem?_cons_succ, List.getElem?_append_right (by simp [headF, plainF]), show 6 + i - (headF ks p).length = i by simp [headF, plainF], List.getD_eq_getElem?_getD]
  rw [e2] at hc; exact hc
theorem slots_apart {s : Int} (hs : s = 0 ∨ s = 1) {off n : Nat} (h : off < 19) (hn : n ≤ 19) : (slotB s).toNat + off < (slotB (1 - s)).toNat ∨ (slotB (1 - s)).toNat + n ≤ (slotB s).toNat + off := by
  rcases hs with rfl | rfl
  · left; show 16 + off < 35; omega
  · right; show 16 + n ≤ 35 + off; omega

section
variable {K : PySem.W.Frag} {M : List Addr} {H : Hp} {Q : VK} {σ : L2.St} {ta tb : TE} {te : L2.St → Hp → (Int → Int → Hp → Prop) → Prop} {d : PyData} {v u : V}
theorem x_lstRg (q : te σ H fun a b H1 => RgOk a b ∧ NewO H1 (.lst (rgV a b)) Q) : tLstRg te σ H Q := q
def Rg2O (x y : V) (H : Hp) (Q : Int → Int → Hp → Prop) : Prop := ∃ i j, x = .int i ∧ y = .int j ∧ Q i j H
theorem x_rg2 {Q : Int → Int → Hp → Prop} (q : ta σ H fun x H1 => tb σ H1 fun y H2 => Rg2O x y H2 Q) : tRg2 ta tb σ H Q := q
theorem n_rg2 {Q : Int → Int → Hp → Prop} {i j : Int} (q : Q i j H) : Rg2O (.int i) (.int j) H Q := ⟨i, j, rfl, rfl, q⟩
end

section
variable {K : PySem.W.Frag} {M : List Addr} {H : Hp} {v : V} {w : Str} {n : Int}
theorem Dt.str1 (h : Dt K M H (.tuple [.str w]) v) : ∃ p, v = .ref p ∧ STA K M H p [.str w] := by
  simp only [Dt, DtL] at h
  obtain ⟨p, xs, rfl, st, _, _, rfl, rfl, rfl⟩ := h
  exact ⟨p, rfl, st⟩
theorem Dt.str2 (h : Dt K M H (.tuple [.str w, .int n]) v) : ∃ p, v = .ref p ∧ STA K M H p [.str w, .int n] := by
  simp only [Dt, DtL] at h
  obtain ⟨p, xs, rfl, st, _, _, rfl, rfl, _, _, rfl, rfl, rfl⟩ := h
  exact ⟨p, rfl, st⟩
theorem Dt.str3 {u : Str} (h : Dt K M H (.tuple [.str w, .str u]) v) : ∃ p, v = .ref p ∧ STA K M H p [.str w, .str u] := by
  simp only [Dt, DtL] at h
  obtain ⟨p, xs, rfl, st, _, _, rfl, rfl, _, _, rfl, rfl, rfl⟩ := h
  exact ⟨p, rfl, st⟩
end
theorem not_good {cs : List (Option Int)} {ks : List Int} {s : Int} : decide (V.str (whyF cs ks s) = V.str "good") = false := decide_eq_false fun z => why_ng cs ks s (V.str.inj z)

theorem shaped_good (n : Int) : SeqAt.shaped (.tuple [.str "good", .int n]) = true := by
  simp [SeqAt.shaped, PyData.canLay0, PyData.canLayAll0, PyData.depth, PyData.depthAll]
  decide +kernel
theorem shaped_str (s : Str) (h : PyData.strOk s = true) : SeqAt.shaped (.tuple [.str s]) = true := by
  simp [SeqAt.shaped, PyData.canLay0, PyData.canLayAll0, PyData.depth, PyData.depthAll]
  exact h
theorem nd_int {i j : Int} (h : i = j) : (!decide (V.int i = V.int j)) = false := by rw [h]; simp
theorem nd_int2 {i j : Int} (h : i ≠ j) : (!decide (V.int i = V.int j)) = true := by simp [h]

/-! ## promises: double, and what it calls -/
section
variable (C : Addr) (er : Er → Addr) (K : PySem.W.Frag)
def spPutX : Sp := fun vs H Q E => ∃ (m dx l : Addr) (μ : Mem) (i : Int) (row : List Int) (p : Addr), vs = [.ref m, .int i, .ref p] ∧ MemAt C H m dx l μ ∧ SqE K H p (row.map V.int) ∧ (p ∉ [m, l] ∨ ∀ H', SqE K H' p (row.map V.int)) ∧ 0 ≤ i ∧ i + row.length ≤ μ.cells.length ∧ μ.cells.length ≤ 400 ∧ (∀ n ∈ row, 0 ≤ n ∧ n ≤ 9972) ∧
  (μ.up = true → ranX C m dx l μ (putW μ.cells i.toNat row) H (Q (.int ((putW μ.cells i.toNat row).length : Int))) (E (.ref (er .stopped)) none)) ∧ (μ.up = false → row ≠ [] → E (.ref (er .stopped)) none H) ∧ (row = [] → Q (.int 0) H)
def spBooked : Sp := fun vs H Q _ => ∃ (M : List Addr) (m dx l : Addr) (μ : Mem), vs = [.ref m] ∧ (∀ a ∈ M, ∃ o, H a = some o) ∧ MemAt C H m dx l μ ∧ μ.up = true ∧ μ.cells.length = 54 ∧
  ∀ v H', Fr [] H H' → Dt K M H' (recD (bookedO μ.cells)) v → Q v H'
def spOpenX : Sp := fun vs H Q E => ∃ (m dx l : Addr) (μ : Mem) (s : Int), vs = [.ref m, .int s] ∧ MemAt C H m dx l μ ∧ μ.up = true ∧ μ.cells.length = 54 ∧ (s = 0 ∨ s = 1) ∧ ranX C m dx l μ (openW s μ.cells) H (Q .non) (E (.ref (er .stopped)) none)
def spCloseX : Sp := fun vs H Q E => ∃ (m dx l : Addr) (μ : Mem) (s : Int) (hd : List Int) (p : Addr), vs = [.ref m, .int s, .ref p] ∧ MemAt C H m dx l μ ∧ μ.up = true ∧ μ.cells.length = 54 ∧ (s = 0 ∨ s = 1) ∧ SqE K H p (hd.map V.int) ∧ (p ∉ [m, l] ∨ ∀ H', SqE K H' p (hd.map V.int)) ∧ hd.length = 6 ∧ (∀ n ∈ hd, 0 ≤ n ∧ n ≤ 9972) ∧
  ranX C m dx l μ (closeW s hd μ.cells) H (Q .non) (E (.ref (er .stopped)) none)
def spDoubleX : Sp := fun vs H Q E => ∃ (M : List Addr) (m dx l : Addr) (μ : Mem) (ks : List Int) (v : V), vs = [.ref m, v] ∧ (∀ a ∈ M, ∃ o, H a = some o) ∧ m ∈ M ∧ l ∈ M ∧ MemAt C H m dx l μ ∧ μ.up = true ∧ μ.cells.length = 54 ∧ bnd μ.cells ∧ bookOk μ.cells ∧ Dt K M H (keysD ks) v ∧ gk ks ∧
  ranX C m dx l μ (doubleW ks μ.cells) H (fun H1 => ∀ u H2, Fr [] H1 H2 → Dt K M H2 (doubleD ks μ.cells) u → Q u H2) (E (.ref (er .stopped)) none)
end
section
variable {C : Addr} {er : Er → Addr} {K : PySem.W.Frag} {M : List Addr} {H H' : Hp} {m dx l p : Addr} {μ : Mem} {row : List Int}
theorem Dt.rec (r : Rec) {v : V} (h : Dt K M H (recD r) v) : ∃ p, v = .ref p ∧ STA K M H p [.int r.1, .int r.2.1, .int r.2.2] := by
  simp only [recD, Dt, DtL] at h
  obtain ⟨p, xs, rfl, st, _, _, rfl, rfl, _, _, rfl, rfl, _, _, rfl, rfl, rfl⟩ := h
  exact ⟨p, rfl, st⟩
/-- a row that stays while a memory is written -/
theorem rowStays (h : p ∉ [m, l] ∨ ∀ H', SqE K H' p (row.map V.int)) (s : SqE K H p (row.map V.int)) (f : Fr [m, l] H H') : SqE K H' p (row.map V.int) := by
  rcases h with h | h
  · rcases s with s | s
    · exact .inl (f.sl h s)
    · exact .inr (f.st h s)
  · exact h H'
end

section
variable {C m dx l : Addr} {μ : Mem} {ws1 ws2 r : List Wr} {H H1 : Hp} {Q Q2 S : Hp → Prop}
theorem ranX_mid (k : ranX C m dx l μ (ws1 ++ (ws2 ++ r)) H Q S) (hok : (Mem.run ws1 μ).2 = true) (f : Fr [m, l] H H1) (next : ∀ H2, Fr [m, l] H1 H2 → MemAt C H2 m dx l (Mem.run (ws1 ++ ws2) μ).1 → (Mem.run (ws1 ++ ws2) μ).2 = true → Q2 H2) : ranX C m dx l (Mem.run ws1 μ).1 ws2 H1 Q2 S := by
  have k1 : ranX C m dx l (Mem.run ws1 μ).1 (ws2 ++ r) H1 Q S := fun H' g hM => by
    rw [← run_ok hok] at hM ⊢
    exact k H' (f.trans g) hM
  intro H2 g hM
  refine ⟨fun hw => next H2 g (by rw [run_ok hok]; exact hM) (by rw [run_ok hok]; exact hw), fun hw => ?_⟩
  have := k1 H2 g (by rw [run_no hw]; exact hM)
  exact this.2 (by rw [run_no hw]; exact hw)
end
theorem scal_ov (c : Option Int) (n : Int) : scal (ov c) (.int n) = true := by cases c <;> rfl
theorem ov_ne {c : Option Int} {n : Int} : (!decide (ov c = V.int n)) = !decide (c = some n) := by
  cases c with
  | none => simp [ov]
  | some x => simp [ov]
theorem ov_eqI {c : Option Int} {n : Int} : decide (ov c = V.int n) = decide (c = some n) := by
  cases c with
  | none => simp [ov]
  | some x => simp [ov]

theorem doubleNo {t st lf : Int} {cs : List (Option Int)} {ks : List Int} (h : st = 1 ∨ whyF cs ks t ≠ "") : doubleOk (t, st, lf) cs ks = false := by
  unfold doubleOk
  rcases h with h | h
  · simp [h]
  · simp [h]
theorem doubleYes {t st lf : Int} {cs : List (Option Int)} {ks : List Int} (h : st ≠ 1) (h2 : whyF cs ks t = "") : doubleOk (t, st, lf) cs ks = true := by
  unfold doubleOk
  simp [h, h2]
theorem judged_good {cs : List (Option Int)} {ks : List Int} {s : Int} (hs : s = 0 ∨ s = 1) (h : whyF cs ks s = "") : ∃ v, headL cs s = (some 1 :: some v :: (headL cs s).drop 2) ∧ judgedD cs ks s = .tuple [.str "good", .int v] := by
  obtain ⟨v, many, one, two, n, sl, e, -⟩ := good_inv h
  refine ⟨v, by rw [e]; rfl, ?_⟩
  unfold judgedD
  have e1 := head_get (cs := cs) hs 1 (by decide)
  rw [e] at e1
  rw [if_pos h, show slotB s + 1 = slotB s + ((1 : Nat) : Int) from rfl, e1]; rfl
theorem strOk_why (cs : List (Option Int)) (ks : List Int) (s : Int) : PyData.strOk (whyF cs ks s) = true := by
  unfold whyF
  split
  · unfold whyH
    repeat' split
    all_goals decide +kernel
  · decide +kernel
theorem judged_shaped (cs : List (Option Int)) (ks : List Int) {s : Int} (hs : s = 0 ∨ s = 1) : SeqAt.shaped (judgedD cs ks s) = true := by
  by_cases h : whyF cs ks s = ""
  · obtain ⟨v, -, e⟩ := judged_good hs h
    rw [e]; exact shaped_good v
  · rw [judged_bad h]; exact shaped_str _ (strOk_why _ _ _)
/-- the parts of a good picture are whole -/
theorem good_parts {cs : List (Option Int)} {ks : List Int} {s : Int} (hl : cs.length = 54) (hs : s = 0 ∨ s = 1) (h : whyF cs ks s = "") : ∃ (v many one two n sl : Int) (ns : List Int), headL cs s = [some 1, some v, some many, some one, some two, some n, some sl] ∧ 1 ≤ many ∧ many ≤ 12 ∧ partsL cs s many = ns.map some ∧ ns.length = many.toNat ∧ sumsF ns = (one, two) ∧ floorO cs 2 ≤ n ∧ n < ks.length ∧
    sealF (ks.getD n.toNat 0) [v, many, one, two, n] = sl ∧ floorO cs 0 ≤ v := by
  obtain ⟨v, many, one, two, n, sl, e, h1, h2, h3, h4, h5, h6, h7⟩ := good_inv h
  have hb := slotB_b hs
  cases ha : allI (partsL cs s many) with
  | none => rw [ha] at h3; cases h3
  | some ns =>
    rw [ha] at h3
    have hp := allI_inv ha
    refine ⟨v, many, one, two, n, sl, ns, e, h1, h2, hp, ?_, Option.some.inj h3, h4, h5, h6, h7⟩
    have : (partsL cs s many).length = many.toNat := by unfold partsL; rw [List.length_take, List.length_drop]; omega
    rw [hp, List.length_map] at this; exact this
theorem whole_map (ns : List Int) : wholeF (ns.map some) = ns := by unfold wholeF; rw [List.map_map]; exact List.map_id' ns
theorem headL_b {cs : List (Option Int)} (h : bnd cs) {s n : Int} (hn : some n ∈ headL cs s) : 0 ≤ n ∧ n ≤ 9972 := h n (List.mem_of_mem_drop (List.mem_of_mem_take hn))
theorem partsL_b {cs : List (Option Int)} (h : bnd cs) {s many n : Int} (hn : some n ∈ partsL cs s many) : 0 ≤ n ∧ n ≤ 9972 := h n (List.mem_of_mem_drop (List.mem_of_mem_take hn))

theorem atI_head {xs : List (Option Int)} {i : Nat} {n : Int} (h : xs[i]? = some (some n)) : atI (xs.map ov) (i : Int) = some (.int n) := atI_int (by omega) (by rw [List.getElem?_map, Int.toNat_natCast, h]; rfl)
section
variable {K : PySem.W.Frag} {M : List Addr} {H H' : Hp} {B : Bs} {L : List (Addr × HO)} {Ds : List (PyData × V)} {C m dx l : Addr} {μ : Mem}
/-- a memory that stands nowhere in L is written -/
theorem Sy.awayM {HB : Hp} (S : Sy K ⟨HB, [m, l]⟩ M H L Ds) (f : Fr [m, l] H H') (hM : MemAt C H' m dx l μ) (h1 : m ∈ M) (h2 : l ∈ M) (n1 : m ∉ L.map (·.1)) (n2 : l ∉ L.map (·.1)) : Sy K ⟨HB, [m, l]⟩ M H' L Ds := by
  refine S.away f (fun a ha => ?_) (fun a ha => ?_) (fun a ha => ?_) <;> simp only [List.mem_cons, List.not_mem_nil, or_false] at ha <;> rcases ha with rfl | rfl
  · exact ⟨h1, .inl (by simp)⟩
  · exact ⟨h2, .inl (by simp)⟩
  · exact n1
  · exact n2
  · exact ⟨_, hM.1⟩
  · exact ⟨_, hM.2.1⟩
end

theorem x_ifC {c : TT} {ts tu : TS} {D : Ends} {σ : L2.St} {H : Hp} (C : Bool → Hp → Prop) (h : ∀ Q' : Bool → Hp → Prop, (∀ b H', C b H' → Q' b H') → c σ H Q') (k : ∀ b H', C b H' → if b = true then ts D σ H' else tu D σ H') : tIfS c ts tu D σ H := h _ k
theorem partsL_out {ws : List Wr} {cs : List (Option Int)} {s n : Int} (hs : s = 0 ∨ s = 1) (h : ∀ p ∈ ws, p.1 < (slotB s).toNat + 7 ∨ (slotB s).toNat + 19 ≤ p.1) (hn : n ≤ 12) : partsL (applyW ws cs) s n = partsL cs s n := by
  have hb := slotB_b hs
  unfold partsL
  refine row_ext fun k h1 h2 => applyW_out fun p hp => ?_
  have := h p hp
  omega
theorem headL_out {ws : List Wr} {cs : List (Option Int)} {s : Int} (hs : s = 0 ∨ s = 1) (h : ∀ p ∈ ws, p.1 < (slotB s).toNat ∨ (slotB s).toNat + 7 ≤ p.1) : headL (applyW ws cs) s = headL cs s := by
  have hb := slotB_b hs
  unfold headL
  refine row_ext fun k h1 h2 => applyW_out fun p hp => ?_
  have := h p hp
  omega
theorem openW_at {s : Int} {cs : List (Option Int)} : ∀ p ∈ openW s cs, p.1 = (slotB s).toNat ∧ p.2 = 0 := by
  intro p hp
  unfold openW at hp
  split at hp
  · rw [List.mem_singleton.mp hp]; exact ⟨rfl, rfl⟩
  · cases hp
theorem other_slot {t : Int} (h : t = 0 ∨ t = 1) : (1 - t = 0 ∨ 1 - t = 1) ∧ ((slotB t).toNat = 16 ∧ (slotB (1 - t)).toNat = 35 ∨ (slotB t).toNat = 35 ∧ (slotB (1 - t)).toNat = 16) := by
  rcases h with rfl | rfl
  · exact ⟨.inr rfl, .inl ⟨rfl, rfl⟩⟩
  · exact ⟨.inl rfl, .inr ⟨rfl, rfl⟩⟩

/-! ## promises: the laws' own doubling -/
section
variable (K : PySem.W.Frag)
def spLPutS : Sp := fun vs H Q _ => ∃ (M : List Addr) (d c g : Addr) (cs : List (Option Int)) (ws0 : List Wr) (i w : Int), vs = [.ref d, .int i, .int w] ∧ (∀ a ∈ M, ∃ o, H a = some o) ∧ LogAt K M H d c g cs ws0 ∧ 0 ≤ i ∧ i < cs.length ∧ ws0.length ≤ 900 ∧ logX K M d c g cs ws0 [(i.toNat, w)] H (Q .non)
def spLLay : Sp := fun vs H Q _ => ∃ (M : List Addr) (d c g : Addr) (cs : List (Option Int)) (ws0 : List Wr) (i : Int) (row : List Int) (p : Addr), vs = [.ref d, .int i, .ref p] ∧ (∀ a ∈ M, ∃ o, H a = some o) ∧ LogAt K M H d c g cs ws0 ∧ SqE K H p (row.map V.int) ∧ (p ∉ [c, g] ∨ ∀ H', SqE K H' p (row.map V.int)) ∧ 0 ≤ i ∧ i + row.length ≤ cs.length ∧ row.length ≤ 100 ∧ ws0.length ≤ 700 ∧
  logX K M d c g cs ws0 (putW cs i.toNat row) H (Q (.int ((putW cs i.toNat row).length : Int)))
def spLOpen : Sp := fun vs H Q _ => ∃ (M : List Addr) (d c g : Addr) (cs : List (Option Int)) (ws0 : List Wr) (s : Int), vs = [.ref d, .int s] ∧ (∀ a ∈ M, ∃ o, H a = some o) ∧ LogAt K M H d c g cs ws0 ∧ cs.length = 54 ∧ (s = 0 ∨ s = 1) ∧ ws0.length ≤ 700 ∧ logX K M d c g cs ws0 (openW s cs) H (Q .non)
def spLClose : Sp := fun vs H Q _ => ∃ (M : List Addr) (d c g : Addr) (cs : List (Option Int)) (ws0 : List Wr) (s : Int) (hd : List Int) (p : Addr), vs = [.ref d, .int s, .ref p] ∧ (∀ a ∈ M, ∃ o, H a = some o) ∧ LogAt K M H d c g cs ws0 ∧ cs.length = 54 ∧ (s = 0 ∨ s = 1) ∧ SqE K H p (hd.map V.int) ∧ (p ∉ [c, g] ∨ ∀ H', SqE K H' p (hd.map V.int)) ∧ hd.length = 6 ∧ ws0.length ≤ 600 ∧
  logX K M d c g cs ws0 (closeW s hd cs) H (Q .non)
def spLRaiseS : Sp := fun vs H Q _ => ∃ (M : List Addr) (d c g : Addr) (cs : List (Option Int)) (ws0 : List Wr) (i n : Int), vs = [.ref d, .int i, .int n] ∧ (∀ a ∈ M, ∃ o, H a = some o) ∧ LogAt K M H d c g cs ws0 ∧ 0 ≤ i ∧ i + 2 ≤ cs.length ∧ cs.length ≤ 400 ∧ ws0.length ≤ 700 ∧
  logX K M d c g cs ws0 (raiseW cs i.toNat n) H (Q (.bl (needF (cs.getD i.toNat none) (cs.getD (i.toNat + 1) none) n)))
def spLBook : Sp := fun vs H Q _ => ∃ (M : List Addr) (p : Addr) (cs : List (Option Int)), vs = [.ref p] ∧ (∀ a ∈ M, ∃ o, H a = some o) ∧ SqL K H p (cs.map ov) ∧ cs.length = 54 ∧ bnd cs ∧ ∀ v H', Fr [] H H' → Dt K M H' (recD (bookedO cs)) v → Q v H'
def spLDouble : Sp := fun vs H Q _ => ∃ (M : List Addr) (d c g : Addr) (cs : List (Option Int)) (ws0 : List Wr) (ks : List Int) (v : V), vs = [.ref d, v] ∧ (∀ a ∈ M, ∃ o, H a = some o) ∧ LogAt K M H d c g cs ws0 ∧ cs.length = 54 ∧ bnd cs ∧ bookOk cs ∧ Dt K M H (keysD ks) v ∧ gk ks ∧ ws0.length ≤ 300 ∧
  logX K M d c g cs ws0 (doubleW ks cs) H (fun H1 => ∀ u H2, Fr [] H1 H2 → Dt K M H2 (doubleD ks cs) u → Q u H2)
end
section
variable {K : PySem.W.Frag} {M : List Addr} {H H' : Hp} {B : Bs} {L : List (Addr × HO)} {Ds : List (PyData × V)} {d c g p : Addr} {cs : List (Option Int)} {ws : List Wr} {row : List Int}
theorem LogAt.sy (h : LogAt K M H d c g cs ws) (hdom : ∀ a ∈ M, ∃ o, H a = some o) {vs : List V} (hg : H g = some (.lst vs)) : Sy K ⟨H, [c, g]⟩ M H [(d, .dK (kvT (sKV c g))), (c, .lst (cs.map ov)), (g, .lst vs)] [] := by
  refine Sy.start _ _ _ ?_ (by simp [h.dc, h.dg, h.cg]) (fun _ z => nomatch z) hdom ?_
  · intro x hx
    simp only [List.mem_cons, List.not_mem_nil, or_false] at hx
    rcases hx with rfl | rfl | rfl
    · exact h.hd
    · exact h.hc
    · exact hg
  · intro b hb
    simp only [List.mem_cons, List.not_mem_nil, or_false] at hb
    rcases hb with rfl | rfl
    · exact ⟨_, h.hc⟩
    · exact ⟨_, hg⟩
theorem Sy.awayL {HB : Hp} (S : Sy K ⟨HB, [c, g]⟩ M H L Ds) (f : Fr [c, g] H H') (hL : LogAt K M H' d c g cs ws) (n1 : c ∉ L.map (·.1)) (n2 : g ∉ L.map (·.1)) : Sy K ⟨HB, [c, g]⟩ M H' L Ds := by
  obtain ⟨vs, hg, -⟩ := hL.hg
  refine S.away f (fun a ha => ?_) (fun a ha => ?_) (fun a ha => ?_) <;> simp only [List.mem_cons, List.not_mem_nil, or_false] at ha <;> rcases ha with rfl | rfl
  · exact ⟨hL.cm, .inl (by simp)⟩
  · exact ⟨hL.gm, .inl (by simp)⟩
  · exact n1
  · exact n2
  · exact ⟨_, hL.hc⟩
  · exact ⟨_, hg⟩
theorem LogAt.dom (h : LogAt K M H d c g cs ws) (hdom : ∀ a ∈ M, ∃ o, H a = some o) (f : Fr [c, g] H H') (h' : LogAt K M H' d c g cs ws) : ∀ a ∈ M, ∃ o, H' a = some o := fun a ha => by
  obtain ⟨o, e⟩ := hdom a ha
  by_cases z : a ∈ [c, g]
  · simp only [List.mem_cons, List.not_mem_nil, or_false] at z
    rcases z with rfl | rfl
    · exact ⟨_, h'.hc⟩
    · obtain ⟨vs, hg, -⟩ := h'.hg; exact ⟨_, hg⟩
  · exact ⟨o, f a o z e⟩
theorem domL {cs' : List (Option Int)} {ws' : List Wr} (hdom : ∀ a ∈ M, ∃ o, H a = some o) (f : Fr [c, g] H H') (h' : LogAt K M H' d c g cs' ws') : ∀ a ∈ M, ∃ o, H' a = some o := fun a ha => by
  obtain ⟨o, e⟩ := hdom a ha
  by_cases z : a ∈ [c, g]
  · simp only [List.mem_cons, List.not_mem_nil, or_false] at z
    rcases z with rfl | rfl
    · exact ⟨_, h'.hc⟩
    · obtain ⟨vs, hg, -⟩ := h'.hg; exact ⟨_, hg⟩
  · exact ⟨o, f a o z e⟩
theorem LogAt.ne (h : LogAt K M H d c g cs ws) (hp : H p = none) : p ≠ c ∧ p ≠ g ∧ p ≠ d := by
  obtain ⟨vs, hg, -⟩ := h.hg
  exact ⟨fun z => (by rw [z, h.hc] at hp; cases hp), fun z => (by rw [z, hg] at hp; cases hp), fun z => by rw [z, h.hd] at hp; cases hp⟩
end

theorem doubleL_len {cs : List (Option Int)} {ks : List Int} {t : Int} {nsp : List Int} (hcp : copyW cs t = nsp) (hn : nsp.length ≤ 12) : (doubleL ks t cs).length ≤ 30 := by
  unfold doubleL
  split
  · have h1 : (openW (1 - t) cs).length ≤ 1 := by unfold openW; split <;> simp
    have h2 := putW_len (applyW (openW (1 - t) cs) cs) ((slotB (1 - t)).toNat + 7) (copyW cs t)
    have h3 := putW_len (applyW (putW (applyW (openW (1 - t) cs) cs) ((slotB (1 - t)).toNat + 7) (copyW cs t)) (applyW (openW (1 - t) cs) cs)) ((slotB (1 - t)).toNat + 1) (wholeF ((headL cs t).drop 1))
    have h4 : (wholeF ((headL cs t).drop 1)).length ≤ 6 := by
      unfold wholeF headL
      rw [List.length_map, List.length_drop, List.length_take]; omega
    unfold thenW closeW thenW
    simp only [List.length_append, List.length_cons, List.length_nil]
    rw [hcp] at h2 h3 ⊢
    omega
  · simp

/-! ## machines -/
def macF (kb : V) (t : Int) (ru : V) (m : Addr) : List (Str × V) := [("bunch", kb), ("tries", .int t), ("running", ru), ("memory", .ref m)]
abbrev macO (C dx : Addr) (kb : V) (t : Int) (ru : V) (m : Addr) : HO := .ins C dx (macF kb t ru m)
section
variable {kb ru : V} {t : Int} {m : Addr}
theorem macF_bunch : (macF kb t ru m).lookup ("bunch" : Str) = some kb := lk_here
theorem macF_tries : (macF kb t ru m).lookup ("tries" : Str) = some (.int t) := (lk_past (by decide +kernel)).trans lk_here
theorem macF_running : (macF kb t ru m).lookup ("running" : Str) = some ru := (lk_past (by decide +kernel)).trans ((lk_past (by decide +kernel)).trans lk_here)
theorem macF_memory : (macF kb t ru m).lookup ("memory" : Str) = some (.ref m) := (lk_past (by decide +kernel)).trans ((lk_past (by decide +kernel)).trans ((lk_past (by decide +kernel)).trans lk_here))
theorem macF_no {f : Str} (h : (f == "bunch" || f == "tries" || f == "running" || f == "memory") = false) : (macF kb t ru m).lookup f = none := by
  simp only [Bool.or_eq_false_iff] at h
  obtain ⟨⟨⟨h1, h2⟩, h3⟩, h4⟩ := h
  unfold macF
  rw [lk_past h1, lk_past h2, lk_past h3, lk_past h4]; rfl
theorem macF_prun (v : V) : putF ("running" : Str) v (macF kb t ru m) = macF kb t v m := (put_past (by decide +kernel)).trans (congrArg _ ((put_past (by decide +kernel)).trans (congrArg _ put_here)))
theorem macF_new : putF ("memory" : Str) (.ref m) (putF ("running" : Str) .non (putF ("tries" : Str) (.int t) (putF ("bunch" : Str) kb []))) = macF kb t .non m := by
  repeat (first | rw [put_nil] | rw [put_past (by decide +kernel)])
  rfl
end
section
variable {K : PySem.W.Frag} {H : Hp} {Q : VK} {σ : L2.St} {f mm : Str} {a C dx m : Addr} {kb ru : V} {t : Int} {sp : Sp} {dvs : List V} {E : XK} {tt : TA}
theorem n_xbunch (h : H a = some (macO C dx kb t ru m)) (c : Cls K C) (n : NoAttr K C "bunch") (q : Q kb H) : FldO K "bunch" (.ref a) H Q := ⟨a, C, dx, _, _, rfl, h, c, n, macF_bunch, q⟩
theorem n_xtries (h : H a = some (macO C dx kb t ru m)) (c : Cls K C) (n : NoAttr K C "tries") (q : Q (.int t) H) : FldO K "tries" (.ref a) H Q := ⟨a, C, dx, _, _, rfl, h, c, n, macF_tries, q⟩
theorem n_xrunning (h : H a = some (macO C dx kb t ru m)) (c : Cls K C) (n : NoAttr K C "running") (q : Q ru H) : FldO K "running" (.ref a) H Q := ⟨a, C, dx, _, _, rfl, h, c, n, macF_running, q⟩
theorem n_xmemory (h : H a = some (macO C dx kb t ru m)) (c : Cls K C) (n : NoAttr K C "memory") (q : Q (.ref m) H) : FldO K "memory" (.ref a) H Q := ⟨a, C, dx, _, _, rfl, h, c, n, macF_memory, q⟩
theorem n_xmeth (h : H a = some (macO C dx kb t ru m)) (hm : (macF kb t ru m).lookup mm = none) (q : tt σ H fun vs H2 => sp (.ref a :: (vs ++ dvs)) H2 Q E) : MethO C mm sp dvs E tt σ (.ref a) H Q := ⟨a, dx, _, rfl, h, hm, q⟩
end

theorem layW_get {b : Nat} {row : List Int} {cs : List (Option Int)} : ∀ {j : Nat}, b + j ≤ cs.length → ∀ i, (layW b row j cs)[i]? = if b ≤ i ∧ i < b + j then some (some (row.getD (i - b) 0)) else cs[i]?
  | 0, _, i => by rw [layW_zero, if_neg (by omega)]
  | j + 1, hl, i => by
    rw [layW_more]
    by_cases e : i = b + j
    · subst e
      rw [List.getElem?_set_self (by rw [layW_len]; omega), if_pos (by omega), show b + j - b = j by omega]
    · rw [List.getElem?_set_ne (by omega), layW_get (by omega) i]
      by_cases h : b ≤ i ∧ i < b + j
      · rw [if_pos h, if_pos (by omega)]
      · rw [if_neg h, if_neg (by omega)]
theorem layB_get {row : List Int} {cs : List (Option Int)} (hl : cs.length = 54) : ∀ {j : Nat}, j ≤ 19 → ∀ i, (layB row j cs)[i]? = if 16 ≤ i ∧ i < 16 + j then some (some (row.getD (i - 16) 0)) else if 35 ≤ i ∧ i < 35 + j then some (some (row.getD (i - 35) 0)) else cs[i]?
  | 0, _, i => by rw [layB_zero, if_neg (by omega), if_neg (by omega)]
  | j + 1, hj, i => by
    rw [layB_more]
    by_cases e : i = 35 + j
    · subst e
      rw [List.getElem?_set_self (by rw [List.length_set, layB_len]; omega), if_neg (by omega), if_pos (by omega), show 35 + j - 35 = j by omega]
    · rw [List.getElem?_set_ne (by omega)]
      by_cases e2 : i = 16 + j
      · subst e2
        rw [List.getElem?_set_self (by rw [layB_len]; omega), if_pos (by omega), show 16 + j - 16 = j by omega]
      · rw [List.getElem?_set_ne (by omega), layB_get hl (by omega) i]
        by_cases h : 16 ≤ i ∧ i < 16 + j
        · rw [if_pos h, if_pos (by omega)]
        · rw [if_neg h, if_neg (show ¬ (16 ≤ i ∧ i < 16 + (j + 1)) by omega)]
          by_cases h2 : 35 ≤ i ∧ i < 35 + j
          · rw [if_pos h2, if_pos (show 35 ≤ i ∧ i < 35 + (j + 1) by omega)]
          · rw [if_neg h2, if_neg (show ¬ (35 ≤ i ∧ i < 35 + (j + 1)) by omega)]
theorem next_machB (p : Pic) : nextO (machB p) 4 = (0, 1) := by
  have h1 : pageO (machB p) 4 = none := page_zero (.inr rfl)
  have h2 : pageO (machB p) (4 + 6) = none := page_zero (.inr rfl)
  unfold nextO newestO
  rw [h1, h2]
/-- the cells as the factory lays them -/
def facC (ks : List Int) (p : Pic) : List (Option Int) :=
  ((layW 4 (rowF 1 (0, 0, 0)) 6 (layW 35 (slotRow ks p) (slotRow ks p).length (layW 16 (slotRow ks p) (slotRow ks p).length (List.replicate 54 (some 0))))).set 0 (some p.v)).set 2 (some p.n)
theorem fac_is {ks : List Int} {p : Pic} (h : p.cells.length ≤ 12) : facC ks p = machC ks p := by
  have hr := slotRow_len ks p
  have hN : machN p = ((((((((machB p).set 4 (some 0)).set 5 (some ((rowF 1 (0, 0, 0)).getD 1 0))).set 6 (some ((rowF 1 (0, 0, 0)).getD 2 0))).set 7 (some ((rowF 1 (0, 0, 0)).getD 3 0))).set 8 (some ((rowF 1 (0, 0, 0)).getD 4 0))).set 9 (some ((rowF 1 (0, 0, 0)).getD 5 0))).set 4 (some 1)) := by
    unfold machN noteW
    rw [next_machB]; rfl
  unfold facC machC
  generalize slotRow ks p = row at hr
  apply List.ext_getElem?
  intro i
  rw [layB_get (machN_len p) (by omega)]
  have a1 := layW_get (b := 16) (row := row) (cs := List.replicate 54 (some (0 : Int))) (j := row.length) (by rw [List.length_replicate]; omega) i
  have l1 : (layW 16 row row.length (List.replicate 54 (some (0 : Int)))).length = 54 := by rw [layW_len, List.length_replicate]
  generalize layW 16 row row.length (List.replicate 54 (some (0 : Int))) = C1 at a1 l1 ⊢
  have a2 := layW_get (b := 35) (row := row) (cs := C1) (j := row.length) (by omega) i
  have l2 : (layW 35 row row.length C1).length = 54 := by rw [layW_len, l1]
  generalize layW 35 row row.length C1 = C2 at a2 l2 ⊢
  have a3 := layW_get (b := 4) (row := rowF 1 (0, 0, 0)) (cs := C2) (j := 6) (by omega) i
  have l3 : (layW 4 (rowF 1 (0, 0, 0)) 6 C2).length = 54 := by rw [layW_len, l2]
  generalize layW 4 (rowF 1 (0, 0, 0)) 6 C2 = C3 at a3 l3 ⊢
  by_cases hi : i < 16
  · rw [if_neg (by omega), if_neg (by omega), hN]
    rw [if_neg (show ¬ (16 ≤ i ∧ i < 16 + row.length) by omega)] at a1
    rw [if_neg (show ¬ (35 ≤ i ∧ i < 35 + row.length) by omega), a1] at a2
    rw [a2] at a3
    have : i = 0 ∨ i = 1 ∨ i = 2 ∨ i = 3 ∨ i = 4 ∨ i = 5 ∨ i = 6 ∨ i = 7 ∨ i = 8 ∨ i = 9 ∨ i = 10 ∨ i = 11 ∨ i = 12 ∨ i = 13 ∨ i = 14 ∨ i = 15 := by omega
    rcases this with rfl | rfl | rfl | rfl | rfl | rfl | rfl | rfl | rfl | rfl | rfl | rfl | rfl | rfl | rfl | rfl
    · rw [List.getElem?_set_ne (by decide), List.getElem?_set_self (by omega)]; rfl
    · rw [List.getElem?_set_ne (by decide), List.getElem?_set_ne (by decide), a3]; rfl
    · rw [List.getElem?_set_self (by rw [List.length_set]; omega)]; rfl
    all_goals (rw [List.getElem?_set_ne (by decide), List.getElem?_set_ne (by decide), a3]; rfl)
  · rw [if_neg (show ¬ (4 ≤ i ∧ i < 4 + 6) by omega)] at a3
    rw [List.getElem?_set_ne (by omega), List.getElem?_set_ne (by omega), a3, a2, a1, hN]
    rw [List.getElem?_set_ne (by omega), List.getElem?_set_ne (by omega), List.getElem?_set_ne (by omega), List.getElem?_set_ne (by omega), List.getElem?_set_ne (by omega), List.getElem?_set_ne (by omega), List.getElem?_set_ne (by omega)]
    unfold machB
    rw [List.getElem?_set_ne (by omega), List.getElem?_set_ne (by omega)]
    by_cases h1 : 35 ≤ i ∧ i < 35 + row.length
    · rw [if_pos h1, if_neg (show ¬ (16 ≤ i ∧ i < 16 + row.length) by omega), if_pos h1]
    · rw [if_neg h1, if_neg h1]

/-! ## stores; what is promised of a machine -/
abbrev Row := (Int × Int × Int) × List Int
def rowD (r : Row) : PyData := .tuple [tripD r.1, .tuple (r.2.map .int)]
def storeD (st : List Row) : PyData := .list (st.map rowD)
def storesD (ss : List (List Row)) : PyData := .list (ss.map storeD)
def gStore (st : List Row) : Prop := st.length ≤ 40 ∧ ∀ r ∈ st, 1 ≤ r.2.length ∧ r.2.length ≤ 3 ∧ ∀ n ∈ r.2, 0 ≤ n ∧ n ≤ 9972
def gStores (ss : List (List Row)) : Prop := 1 ≤ ss.length ∧ ss.length ≤ 4 ∧ ∀ st ∈ ss, gStore st
def runD : Option (Int × Str) → PyData
  | none => .none
  | some r => .tuple [.int r.1, .str r.2]
section
variable (CM C : Addr) (K : PySem.W.Frag)
def spLaidAt : Sp := fun vs H Q _ => ∃ (M : List Addr) (m dx l : Addr) (μ : Mem) (s : Int) (ks : List Int) (p : Pic) (v u : V), vs = [.ref m, .int s, v, u] ∧ (∀ a ∈ M, ∃ o, H a = some o) ∧ MemAt C H m dx l μ ∧ m ∈ M ∧ l ∈ M ∧ μ.cells.length = 54 ∧ (s = 0 ∨ s = 1) ∧ Dt K M H (keysD ks) v ∧ Dt K M H (picD p) u ∧ gk ks ∧ gp ks p ∧
  ∀ H', Fr [m, l] H H' → MemAt C H' m dx l { μ with cells := layW (slotB s).toNat (slotRow ks p) (slotRow ks p).length μ.cells } → Q .non H'
def spMInit : Sp := fun vs H Q _ => ∃ (M : List Addr) (x dx : Addr) (ks : List Int) (t : Int) (p : Pic) (v u : V), vs = [.ref x, v, .int t, u] ∧ (∀ a ∈ M, ∃ o, H a = some o) ∧ x ∈ M ∧ H x = some (.ins CM dx []) ∧ Dt K M H (keysD ks) v ∧ Dt K M H (picD p) u ∧ gk ks ∧ gp ks p ∧ 1 ≤ t ∧ t ≤ 3 ∧
  ∀ m dm l H', Fr [x] H H' → H m = none → H l = none → H' x = some (macO CM dx v t .non m) → MemAt C H' m dm l (Mem.of (machC ks p)) → Q .non H'
/-- what is asked of a machine that is down -/
def spMDown : Sp := fun vs H Q _ => ∃ (x dx : Addr) (kb : V) (t : Int) (m : Addr), vs = [.ref x] ∧ H x = some (macO CM dx kb t .non m) ∧ ∀ p H', Fr [] H H' → H p = none → H' p = some (.tup [.str "down"]) → Q (.ref p) H'
def spMDownU : Sp := fun vs H Q _ => ∃ (M : List Addr) (x dx : Addr) (kb : V) (t : Int) (m : Addr) (mn : Man) (ss : List (List Row)) (v u : V), vs = [.ref x, v, u] ∧ (∀ a ∈ M, ∃ o, H a = some o) ∧ H x = some (macO CM dx kb t .non m) ∧ Dt K M H (manD mn) v ∧ gman mn ∧ Dt K M H (storesD ss) u ∧ gStores ss ∧ ∀ p H', Fr [] H H' → H p = none → H' p = some (.tup [.str "down"]) → Q (.ref p) H'
def spMRuns : Sp := fun vs H Q _ => ∃ (x dx : Addr) (kb : V) (t : Int) (ru : V) (m : Addr), vs = [.ref x] ∧ H x = some (macO CM dx kb t ru m) ∧ Q ru H
def spMBook : Sp := fun vs H Q _ => ∃ (M : List Addr) (x dx : Addr) (kb : V) (t : Int) (ru : V) (m dm l : Addr) (μ : Mem), vs = [.ref x] ∧ (∀ a ∈ M, ∃ o, H a = some o) ∧ H x = some (macO CM dx kb t ru m) ∧ MemAt C H m dm l μ ∧ μ.up = true ∧ μ.cells.length = 54 ∧ ∀ v H', Fr [] H H' → Dt K M H' (recD (bookedO μ.cells)) v → Q v H'
def floorsD (cs : List (Option Int)) : PyData := .tuple [od (countF (cs.getD 0 none) (cs.getD 1 none)), od (countF (cs.getD 2 none) (cs.getD 3 none))]
def spMFloors : Sp := fun vs H Q _ => ∃ (M : List Addr) (x dx : Addr) (kb : V) (t : Int) (ru : V) (m dm l : Addr) (μ : Mem), vs = [.ref x] ∧ (∀ a ∈ M, ∃ o, H a = some o) ∧ H x = some (macO CM dx kb t ru m) ∧ MemAt C H m dm l μ ∧ μ.up = true ∧ μ.cells.length = 54 ∧ ∀ v H', Fr [] H H' → Dt K M H' (floorsD μ.cells) v → Q v H'
def spMSlots : Sp := fun vs H Q _ => ∃ (M : List Addr) (x dx : Addr) (kb : V) (t : Int) (ru : V) (m dm l : Addr) (μ : Mem) (ks : List Int), vs = [.ref x] ∧ (∀ a ∈ M, ∃ o, H a = some o) ∧ H x = some (macO CM dx kb t ru m) ∧ MemAt C H m dm l μ ∧ μ.up = true ∧ μ.cells.length = 54 ∧ bnd μ.cells ∧ Dt K M H (keysD ks) kb ∧ gk ks ∧
  ∀ p u0 u1 H', Fr [] H H' → H p = none → H' p = some (.lst [u0, u1]) → Dt K (p :: M) H' (judgedD μ.cells ks 0) u0 → Dt K (p :: M) H' (judgedD μ.cells ks 1) u1 → Q (.ref p) H'
def spMCells : Sp := fun vs H Q _ => ∃ (x dx : Addr) (kb : V) (t : Int) (ru : V) (m dm l : Addr) (μ : Mem), vs = [.ref x] ∧ H x = some (macO CM dx kb t ru m) ∧ MemAt C H m dm l μ ∧ ∀ p H', Fr [] H H' → H p = none → H' p = some (.lst (μ.cells.map ov)) → Q (.ref p) H'
def spMWrites : Sp := fun vs H Q _ => ∃ (x dx : Addr) (kb : V) (t : Int) (ru : V) (m dm l : Addr) (μ : Mem), vs = [.ref x] ∧ H x = some (macO CM dx kb t ru m) ∧ MemAt C H m dm l μ ∧ Q (.int μ.many) H
end

def facS (row : List Int) : Nat → List (Option Int)
  | 0 => List.replicate 54 (some 0)
  | j + 1 => layW (if j = 0 then 16 else 35) row row.length (facS row j)
theorem facS_len (row : List Int) : ∀ j, (facS row j).length = 54
  | 0 => List.length_replicate
  | j + 1 => by show (layW _ row row.length (facS row j)).length = 54; rw [layW_len]; exact facS_len row j
theorem facS_two (row : List Int) : facS row 2 = layW 35 row row.length (layW 16 row row.length (List.replicate 54 (some 0))) := rfl
theorem slotB_nat {j : Nat} (h : j < 2) : (slotB (0 + (j : Int))).toNat = if j = 0 then 16 else 35 := by
  have : j = 0 ∨ j = 1 := by omega
  rcases this with rfl | rfl <;> rfl

theorem use_minit {K : PySem.W.Frag} {M : List Addr} {H : Hp} {H0 : Bs} {L : List (Addr × HO)} {Ds : List (PyData × V)} {Q : VK} {E : XK} {CM C : Addr} {ks : List Int} {t : Int} {p : Pic} {v u : V} (S : Sy K H0 M H L Ds) (i j : Nat) (hi : Ds[i]? = some (keysD ks, v)) (hj : Ds[j]? = some (picD p, u)) (gg : gk ks) (hp : gp ks p) (t1 : 1 ≤ t) (t2 : t ≤ 3)
    (q : ∀ x dx m dm l H', Sy K H0 (l :: m :: x :: M) H' ((((L ++ [(x, macO CM dx v t .non m)]) ++ [(m, memO C dm l (Mem.of (machC ks p)))])) ++ [(l, cellsO (Mem.of (machC ks p)))]) Ds → H0 x = none → H0 m = none → H0 l = none → m ≠ l → x ≠ m → x ≠ l → Q (.ref x) H') : MakeO CM (spMInit CM C K) [v, .int t, u] E H Q := by
  intro x dx hx hdx hne
  have S1 := S.ex (Fr.new (o := .own x) hdx)
  have hx1 : (upd H dx (.own x)) x = none := by rw [upd_ne hne.symm]; exact hx
  have S2 := S1.newM (o := .ins CM dx []) hx1
  refine ⟨x :: M, x, dx, ks, t, p, v, u, rfl, S2.dom, by simp, upd_same, S2.d i hi, S2.d j hj, gg, hp, t1, t2, fun m dm l H' f hm hl ex hM => ⟨rfl, ?_⟩⟩
  have mx : m ≠ x := fun z => by rw [z, upd_same] at hm; cases hm
  have lx : l ≠ x := fun z => by rw [z, upd_same] at hl; cases hl
  have S3 := S2.put (H' := fun b => if b = x then H' x else (upd (upd H dx (.own x)) x (.ins CM dx [])) b) (a := x) (o := .ins CM dx []) (o' := macO CM dx v t .non m) L.length (by simp) ⟨List.mem_cons_self .., .inr (S.free hx)⟩ (fun b u n e => by
    show (if b = x then _ else _) = _
    rw [if_neg (by simpa using n)]; exact e) (by
    show (if x = x then _ else _) = _
    rw [if_pos rfl]; exact ex)
  rw [show (L ++ [(x, HO.ins CM dx [])]).set L.length (x, macO CM dx v t .non m) = L ++ [(x, macO CM dx v t .non m)] by simp] at S3
  have hm3 : (fun b => if b = x then H' x else (upd (upd H dx (.own x)) x (.ins CM dx [])) b) m = none := by
    show (if m = x then _ else _) = _
    rw [if_neg mx]; exact hm
  have hl3 : (fun b => if b = x then H' x else (upd (upd H dx (.own x)) x (.ins CM dx [])) b) l = none := by
    show (if l = x then _ else _) = _
    rw [if_neg lx]; exact hl
  have S4 := S3.exMem (H' := H') (C := C) (m := m) (dx := dm) (l := l) (μ := Mem.of (machC ks p)) (fun b u _ e => by
    have e : (if b = x then H' x else (upd (upd H dx (.own x)) x (.ins CM dx [])) b) = some u := e
    by_cases hb : b = x
    · rw [if_pos hb] at e; rw [hb]; exact e
    · rw [if_neg hb] at e; exact f b u (by simpa using hb) e) hm3 hl3 hM
  exact q x dx m dm l H' S4 (S.free hx) (S3.free hm3) (S3.free hl3) hM.2.2 mx.symm lx.symm

theorem Sy.exN2 {K : PySem.W.Frag} {M : List Addr} {H H' : Hp} {H0 : Bs} {L : List (Addr × HO)} {Ds : List (PyData × V)} {d c : Addr} {o o2 : HO} (S : Sy K H0 M H L Ds) (f : Fr [] H H') (hd : H d = none) (hc : H c = none) (hdc : d ≠ c) (ed : H' d = some o) (ec : H' c = some o2) : Sy K H0 M H' ((L ++ [(d, o)]) ++ [(c, o2)]) Ds :=
  (S.new (o := o) hd).exN (fun b u _ e => by
    by_cases hb : b = d
    · subst hb; rw [upd_same] at e; rw [ed]; exact e
    · rw [upd_ne hb] at e; exact f b u (fun z => nomatch z) e) (by rw [upd_ne hdc.symm]; exact hc) ec
theorem gStores_nil : gStores [[]] := ⟨by decide, by decide, fun st h => by rw [List.mem_singleton.mp h]; exact ⟨by decide, fun r h => nomatch h⟩⟩
def downsD : PyData := .list [.tuple [.str "down"], .tuple [.str "down"], .tuple [.str "down"]]

theorem mach_newest {ks : List Int} {p : Pic} : ∃ x, newestO (machC ks p) 4 = some x ∧ x.2.2 = (0, 0, 0) := by
  have hN : newestO (machN p) 4 = some ((nextO (machB p) 4).1, (nextO (machB p) 4).2, ((0 : Int), (0 : Int), (0 : Int))) := note_whole (by rw [machB_len]; decide) (by rw [next_machB]; decide)
  have e : newestO (machC ks p) 4 = newestO (machN p) 4 := by
    unfold newestO
    rw [page_same (cs := machN p) (cs' := machC ks p) (j := 4) fun k h1 h2 => layB_low (by omega) _, page_same (cs := machN p) (cs' := machC ks p) (j := 4 + 6) fun k h1 h2 => layB_low (by omega) _]
  exact ⟨_, e.trans hN, rfl⟩
theorem mach_book {ks : List Int} {p : Pic} : bookedO (machC ks p) = (0, 0, 0) := by
  have hN : newestO (machN p) 4 = some ((nextO (machB p) 4).1, (nextO (machB p) 4).2, ((0 : Int), (0 : Int), (0 : Int))) := note_whole (by rw [machB_len]; decide) (by rw [next_machB]; decide)
  have e : newestO (machC ks p) 4 = newestO (machN p) 4 := by
    unfold newestO
    rw [page_same (cs := machN p) (cs' := machC ks p) (j := 4) fun k h1 h2 => layB_low (by omega) _, page_same (cs := machN p) (cs' := machC ks p) (j := 4 + 6) fun k h1 h2 => layB_low (by omega) _]
  unfold bookedO recordO
  rw [e, hN]; rfl
theorem mach_floors {ks : List Int} {p : Pic} (h0 : 0 ≤ p.v) (h1 : 0 ≤ p.n) : floorsD (machC ks p) = .tuple [.int p.v, .int p.n] := by
  obtain ⟨l0, l1, l2, l3⟩ := machC_low (ks := ks) (p := p)
  unfold floorsD
  rw [getD_of l0, getD_of l1, getD_of l2, getD_of l3]
  simp only [countF, od]
  rw [show max p.v 0 = p.v by omega, show max p.n 0 = p.n by omega]
theorem mach_judged {ks : List Int} {p : Pic} (gg : gk ks) (hp : gp ks p) {s : Int} (hs : s = 0 ∨ s = 1) : judgedD (machC ks p) ks s = .tuple [.str "good", .int p.v] := by
  obtain ⟨_, _, hlow, h0, h1⟩ := machC_all gg hp
  rcases hs with rfl | rfl
  · exact (slot_good gg hp (.inl rfl) hlow h0).2
  · exact (slot_good gg hp (.inr rfl) hlow h1).2
theorem dtl_od {K : PySem.W.Frag} {M : List Addr} {H : Hp} : ∀ cs : List (Option Int), DtL K M H (cs.map od) (cs.map ov)
  | [] => DtL.nil'
  | c :: cs => DtL.cons' (dt_od c) (dtl_od cs)
def facD (cs : List (Option Int)) (v n : Int) : PyData := .list [.list (cs.map od), .int 0, .tuple [.int 0, .int 0, .int 0], .tuple [.int v, .int n], .list [.tuple [.str "good", .int v], .tuple [.str "good", .int v]]]
theorem ok_od : ∀ cs : List (Option Int), okD.okDL (cs.map od) = true
  | [] => rfl
  | c :: cs => by
    have := ok_od cs
    cases c <;> simp [okD.okDL, okD, od, this]
theorem facD_dep (cs : List (Option Int)) (v n : Int) : (facD cs v n).depth ≤ 4 := by
  have := dep_od cs
  simp [facD, PyData.depth, PyData.depthAll, this]
theorem facD_ok {cs : List (Option Int)} (h : cs.length ≤ 100000) (v n : Int) : okD (facD cs v n) = true := by
  have := ok_od cs
  simp [facD, okD, okD.okDL, this, h]

section
variable {K : PySem.W.Frag} {M : List Addr} {H H' : Hp} {H0 : Bs} {L : List (Addr × HO)} {Ds : List (PyData × V)} {Q : VK} {σ : L2.St} {te : TE} {j : Nat}
theorem lcW_zipM {J : It} {n : Nat} {G : Hp → Prop} {y : Nat → V → Prop} (w : Walk J n G (fun i H x H' => H' = H ∧ y i x)) (S : Sy K H0 M H L Ds) (hG : ∀ (D : Addr) (H' : Hp), H D = none → Fr [] H H' → G H') (hn : n ≤ 100000) (g : Nat → PyData)
    (hte : ∀ (i : Nat) (x : V) (D : Addr) (acc : List V) (Ds' : List (PyData × V)) (H' : Hp) (Q' : VK), i < n → y i x → H D = none → Sy K (b0 H) (D :: M) H' (L ++ [(D, .lst acc)]) (Ds ++ Ds') →
      (∀ (u : V) (H'' : Hp), Sy K (b0 H) (D :: M) H'' (L ++ [(D, .lst acc)]) (Ds ++ Ds') → Dt K (D :: M) H'' (g i) u → Q' u H'') → te ((σ.set j none).set j (some x)) H' Q')
    (k : ∀ D H' vs, H D = none → vs.length = n → Sy K H0 (D :: M) H' (L ++ [(D, .lst vs)]) (Ds ++ ((List.range n).map g).zip vs) → Q (.ref D) H') : LcO (gName j) tYes te [j] σ Q J H := by
  intro D hD
  have DF := hD
  have S1 : Sy K (b0 H) M H L Ds := S.rebase
  refine lc_it w (fun i H' => i ≤ n ∧ ∃ vs : List V, vs.length = i ∧ Sy K (b0 H) (D :: M) H' (L ++ [(D, .lst vs)]) (Ds ++ ((List.range i).map g).zip vs)) ⟨Nat.zero_le _, [], rfl, by rw [List.range_zero, List.map_nil, List.zip_nil_left, List.append_nil]; exact S1.newM hD⟩ (fun i H' _ S' => by
    obtain ⟨_, vs, _, T⟩ := S'
    exact hG D H' hD T.fr) ?_ ?_
  · rintro i x H2 H' hi ⟨_, vs, hl, T⟩ ⟨rfl, hy⟩
    refine ⟨wipe_one _, ?_⟩
    refine hte i x D vs _ H' _ hi hy hD T fun u H'' T2 hu => ?_
    have gD : (L ++ [(D, HO.lst vs)])[L.length]? = some (D, .lst vs) := by simp
    refine ⟨vs, T2.get L.length gD, szl (by omega), by omega, vs ++ [u], by simp [hl], ?_⟩
    have T3 := (T2.addD hu).set (o' := .lst (vs ++ [u])) L.length gD ⟨List.mem_cons_self .., .inr DF⟩
    rw [show (L ++ [(D, HO.lst vs)]).set L.length (D, .lst (vs ++ [u])) = L ++ [(D, .lst (vs ++ [u]))] by simp] at T3
    rw [List.range_succ, List.map_append, List.map_singleton, zip_more (by simp [hl]), ← List.append_assoc]
    exact T3
  · rintro H' ⟨_, vs, hl, T⟩
    exact k D H' vs hD hl (S.over T)
end
theorem n_clear {K : PySem.W.Frag} {M : List Addr} {H : Hp} {H0 : Bs} {L : List (Addr × HO)} {Ds : List (PyData × V)} {Q : VK} {p : Addr} {xs : List V} (S : Sy K H0 M H L Ds) (i : Nat) (h : L[i]? = some (p, .lst xs)) (m : p ∈ M ∧ H0.may p) (q : ∀ H', Sy K H0 M H' (L.set i (p, .lst [])) Ds → Q .non H') : rClear (.ref p) [] H Q := ⟨p, xs, rfl, rfl, S.get i h, q _ (S.set i h m)⟩

theorem x_bm0 {K : PySem.W.Frag} {T : String} {r : V → List V → Hp → VK → Prop} {te : TE} {σ : L2.St} {H : Hp} {Q : VK} (q : te σ H fun x H1 => tyV K T x H1 ∧ r x [] H1 Q) : tBM0 K T r te σ H Q := q

/-! ## defs with lambdas: the code object, its table -/
structure FunC (K : PySem.W.Frag) (x qual : Str) (st : Stmt) (f : Addr) (fd : FuncData) (c : Addr) : Prop where
  ex : ∃ (oc : Value) (od : Option Addr) (kV doc pm : Value) (an : Option Addr) (ct : Value) (osl : Array (Option Value)),
    fd = PySem.W.fnOf x qual (defArgs st) (defBody st) (defScope st) .none kV doc pm an (.ref c) ct ∧ K.lookup f = some ⟨oc, od, .func fd, osl⟩ ∧ PySem.W.codeIn K (.ref c) qual = true
section
variable {P : Program} {w : World} {K : PySem.W.Frag} {mg : Str → Option Value} {base : Heap}
theorem FunC.ok {x qual : Str} {st : Stmt} {f c : Addr} {fd : FuncData} {N ps : List Str} {k : Nat} {sp : Sp} (F : FunC K x qual st f fd c) (S : FnScope N ps (defScope st)) (len : ∀ vs H Q E, sp vs H Q E → vs.length = ps.length)
    (hbody : ∀ (A : Around) (outer : List Env) (s : Shared) (H : Hp) (vs : List V) (Q : VK) (E : XK), Room k (A.deeper (PyProof.Rows.envOfC qual (defScope st) s.heap.objs.size f (.ref c))) → sp vs H Q E →
      ∃ t, PSs (cxOf CX0 P w K mg base N qual (defScope st) f (.ref c) A outer s H E).nox (defBody st) t ∧ t { nx := fun _ H' => Q .non H', rt := Q } (start N vs) H) : FnOk P w K mg base CX0 (k + 1) f fd ps sp := by
  obtain ⟨oc, od, kV, doc, pm, an, ct, osl, rfl, lk, hcd⟩ := F.ex
  refine fn_of lk hcd S len fun A outer s H vs Q E hr hsp => ?_
  obtain ⟨t, h, q⟩ := hbody A outer s H vs Q E hr hsp
  exact ⟨t, h.nox, q⟩
theorem FunC.okX {x qual : Str} {st : Stmt} {f c : Addr} {fd : FuncData} {N ps : List Str} {k : Nat} {sp : Sp} (F : FunC K x qual st f fd c) (S : FnScope N ps (defScope st)) (len : ∀ vs H Q E, sp vs H Q E → vs.length = ps.length)
    (hbody : ∀ (A : Around) (outer : List Env) (s : Shared) (H : Hp) (vs : List V) (Q : VK) (E : XK), Room k (A.deeper (PyProof.Rows.envOfC qual (defScope st) s.heap.objs.size f (.ref c))) → sp vs H Q E →
      ∃ t, PSs (cxOf (L2.CX P w) P w K mg base N qual (defScope st) f (.ref c) A outer s H E) (defBody st) t ∧ t { nx := fun _ H' => Q .non H', rt := Q } (start N vs) H) : FnOk P w K mg base (L2.CX P w) (k + 1) f fd ps sp := by
  obtain ⟨oc, od, kV, doc, pm, an, ct, osl, rfl, lk, hcd⟩ := F.ex
  exact fn_of lk hcd S len fun A outer s H vs Q E hr hsp => hbody A outer s H vs Q E hr hsp
end
def tabOf (K : PySem.W.Frag) (c : Addr) : Option Addr := match K.lookup c with
  | some o => match o.data with
    | .fields vs => match vs[11]? with
      | some (Value.ref P) => some P
      | _ => none
    | _ => none
  | none => none
theorem tabOf_inv {K : PySem.W.Frag} {c P : Addr} (h : tabOf K c = some P) : ∃ (e : Value) (dd : Option Addr) (vs : Array Value) (sl : Array (Option Value)), K.lookup c = some ⟨e, dd, .fields vs, sl⟩ ∧ vs[11]? = some (.ref P) := by
  unfold tabOf at h
  split at h
  · rename_i o hk
    obtain ⟨e, dd, da, sl⟩ := o
    dsimp only at h
    split at h
    · rename_i vs
      split at h
      · rename_i hv
        cases h
        exact ⟨e, dd, vs, sl, hk, hv⟩
      · cases h
    · cases h
  · cases h
/-- try: return a() / except x: return (ret,) -/
def TTstop (K : PySem.W.Frag) (CS : Addr) (ret : Str) : (XK → Hp → VK → Prop) → Hp → VK → Prop := fun tl H Q =>
  tl (fun cls _ H' => ∃ b, PySem.W.exmOne K cls (.ref CS) = some b ∧ (b = true → ∀ p, H' p = none → Q (.ref p) (upd H' p (.tup [.str ret]))) ∧ (b = false → False)) H Q
open LamX in
theorem stop_gives {X : Cx} {Ng : List Str} {x a e q ret : Str} {sg : Scope} {g CS : Addr} {cdg : Value} {j i : Nat} {p1 p2 p3 p4 p5 p6 p7 p8 p9 : Pos} (hge : sg.names.lookup e = some .globalImplicit) (hme : X.mg e = some (.ref CS)) (hde : (e == ("__debug__" : Str)) = false) (h0 : ∀ f : Addr, (L2.start Ng [V.ref f])[0]? = some (some (V.ref f))) :
    GivesTo X Ng x sg g cdg [.Try [.Return (some (.Call (.Name a p1) [] [] p2)) p3] [.ExceptHandler (some (.Name e p4)) none [.Return (some (.Tuple [.Constant (.str ret) j p5] i p9)) p6] p7] [] [] p8] a q (TTstop X.K CS ret) := by
  intro f c' s H Q tl act hc h
  have hgl : Gl (cxOf L2.CX0 X.prog X.w X.K X.mg X.base Ng x sg g cdg X.A X.stack s H L2.E0).nox e := hge
  refine ⟨_, pss_one (ps_try_only (X := (cxOf L2.CX0 X.prog X.w X.K X.mg X.base Ng x sg g cdg X.A X.stack s H L2.E0).nox) (c := .ref CS)
      (tb := fun W D σ H => ∃ Ech : XK, (∀ cls d σ' H', Ech cls d H' → W cls d σ' H') ∧ σ[0]? = some (some (.ref f)) ∧ H c' = some (CodeO c' q) ∧ tl Ech H D.rt)
      rfl rfl ⟨hgl, hde, .inl hme⟩ LamX.takes0 (fun W pn xe tk _ => ?_) (fun a oe cls d pn _ _ => pss_one (ps_ret (pe_tup (pa_cons pe_str pa_nil))))), ?_⟩
  · refine ⟨fun pins s' σ H' D I h' => ?_⟩
    obtain ⟨Ech, hW, h1, h2, h3⟩ := h'
    have hp := act W pn xe Ech p1 p2 tk hW
    have hq := pss_one (ps_ret (pos := p3) hp)
    exact hq.run pins s' σ H' D I ⟨h1, h2, h3⟩
  · exact ⟨fun cls _ H' => ∃ b, PySem.W.exmOne X.K cls (.ref CS) = some b ∧ (b = true → ∀ p, H' p = none → Q (.ref p) (upd H' p (.tup [.str ret]))) ∧ (b = false → False), fun cls d σ' H' ⟨b, e1, e2, e3⟩ => ⟨b, e1, fun hb a _ => ⟨sz 1, e2 hb⟩, fun hb => e3 hb⟩, h0 f, hc, h⟩

/-! ## cells of a machine, whatever lies in the slots -/
/-- a record stands in the book -/
def bkd (cs : List (Option Int)) : Prop := ∃ x, newestO cs 4 = some x
def bndB (cs : List (Option Int)) : Prop := bnd cs ∧ bookOk cs ∧ pgn 9 cs ∧ bkd cs
theorem newest_set {cs : List (Option Int)} {i : Nat} {w : Option Int} (h : i < 4 ∨ 16 ≤ i) : newestO (cs.set i w) 4 = newestO cs 4 := by
  unfold newestO
  rw [page_same (cs := cs) (cs' := cs.set i w) (j := 4) fun k h1 h2 => List.getElem?_set_ne (by omega), page_same (cs := cs) (cs' := cs.set i w) (j := 4 + 6) fun k h1 h2 => List.getElem?_set_ne (by omega)]
theorem bookOk_set {cs : List (Option Int)} {i : Nat} {w : Option Int} (hb : bookOk cs) (h : i < 4 ∨ 16 ≤ i) : bookOk (cs.set i w) := by
  unfold bookOk bookedO recordO at *
  rw [newest_set h]; exact hb
theorem bndB_set {cs : List (Option Int)} (h : bndB cs) {i : Nat} (hi : i < 4 ∨ 16 ≤ i) {w : Option Int} (hw : ∀ n, w = some n → 0 ≤ n ∧ n ≤ 9972) : bndB (cs.set i w) := ⟨bnd_set h.1 hw, bookOk_set h.2.1 hi, pgn_set h.2.2.1 (by omega) (by omega), h.2.2.2.imp fun x e => by rw [newest_set hi]; exact e⟩
theorem note_bndB {cs : List (Option Int)} {r : Rec} {j : Int} (h : bndB cs) (g : pgn j cs) (h0 : 0 ≤ j) (h1 : j ≤ 8) (hr : okRec r) (hr1 : r.1 = 0 ∨ r.1 = 1) (hl : cs.length = 54) : bndB (applyW (noteW cs 4 r) cs) := by
  refine ⟨note_bnd h.1 g h0 (by omega) hr, ?_, pgn_mono (note_pgn g h0 hl) (by omega), _, note_whole (by omega) (by have := next_nn h.1 4; omega)⟩
  unfold bookOk bookedO recordO
  rw [note_whole (by omega) (by have := next_nn h.1 4; omega)]
  exact hr1
def spLStateB (K : PySem.W.Frag) : Sp := fun vs H Q _ => ∃ (M : List Addr) (r a : Addr) (q : Rho) (ns ks : List Int) (pic : Pic) (v u : V), vs = [.ref r, v, u] ∧ H r = some (rowO a q) ∧ q.ok ∧ SLA K M H a (ns.map V.int) ∧ ns.length ≤ 63 ∧ r ∈ M ∧ (∀ b ∈ M, ∃ o, H b = some o) ∧
  Dt K M H (keysD ks) v ∧ Dt K M H (picD pic) u ∧ gk ks ∧ gp ks pic ∧
  ∀ q' c cs H', q'.ok → Fr [r] H H' → H c = none → H' r = some (rowO a q') → H' c = some (.lst (cs.map ov)) → cs.length = 54 → bndB cs → Q (.ref c) H'

theorem good_mk {cs : List (Option Int)} {ks : List Int} {s v many one two n sl : Int} (h : headL cs s = [some 1, some v, some many, some one, some two, some n, some sl]) (h1 : 1 ≤ many) (h2 : many ≤ 12) (h3 : (allI (partsL cs s many)).map sumsF = some (one, two)) (h4 : floorO cs 2 ≤ n) (h5 : n < ks.length)
    (h6 : sealF (ks.getD n.toNat 0) [v, many, one, two, n] = sl) (h7 : floorO cs 0 ≤ v) : whyF cs ks s = "" := by
  rw [why_some h]
  unfold whyH
  rw [if_neg (by simp), if_neg (fun z => z ⟨h1, h2⟩), if_neg (fun z => z h3), if_neg (fun z => z ⟨h4, h5⟩), if_neg (fun z => z h6), if_neg (by omega)]
theorem closeW_at {s : Int} {hd : List Int} {cs : List (Option Int)} (h6 : hd.length = 6) : ∀ p ∈ closeW s hd cs, (slotB s).toNat ≤ p.1 ∧ p.1 < (slotB s).toNat + 7 := by
  intro p hp
  unfold closeW thenW at hp
  rcases List.mem_append.mp hp with h | h
  · have := putU_mem (j := hd.length) h
    omega
  · rw [List.mem_singleton.mp h]; exact ⟨by simp, by simp⟩
theorem doubleL_at {cs : List (Option Int)} {ks : List Int} {t : Int} {nsp : List Int} (hcp : copyW cs t = nsp) (hn : nsp.length ≤ 12) (h6 : (wholeF ((headL cs t).drop 1)).length = 6) : ∀ p ∈ doubleL ks t cs, (slotB (1 - t)).toNat ≤ p.1 ∧ p.1 < (slotB (1 - t)).toNat + 19 := by
  intro p hp
  unfold doubleL at hp
  split at hp
  · unfold thenW at hp
    rcases List.mem_append.mp hp with h | h
    · have := openW_at p h; omega
    · rcases List.mem_append.mp h with h | h
      · have := putU_mem (j := (copyW cs t).length) h
        rw [hcp] at this
        omega
      · have := closeW_at h6 p h; omega
  · cases hp
theorem raiseW_at {cs : List (Option Int)} {i : Nat} {n : Int} : ∀ p ∈ raiseW cs i n, i ≤ p.1 ∧ p.1 < i + 2 := by
  intro p hp
  unfold raiseW at hp
  split at hp
  · rw [List.mem_singleton.mp hp]
    have : posF (cs.getD i none) (cs.getD (i + 1) none) ≤ 1 := by unfold posF; split <;> omega
    dsimp only; omega
  · cases hp
theorem floor_raise {cs : List (Option Int)} {i : Nat} {n : Int} (hl : i + 2 ≤ cs.length) (h0 : 0 ≤ n) (h : floorO cs i ≤ n) : floorO (applyW (raiseW cs i n) cs) i ≤ n := by
  unfold raiseW
  split
  · rename_i hn
    show floorO (cs.set (i + posF (cs.getD i none) (cs.getD (i + 1) none)) (some n)) i ≤ n
    unfold floorO at h ⊢
    generalize ha : cs.getD i none = a at *
    generalize hb : cs.getD (i + 1) none = b at *
    have hp : posF a b = 0 ∨ posF a b = 1 := by unfold posF; split <;> omega
    rcases hp with hp | hp
    · rw [hp, Nat.add_zero, getD_setS (by omega), getD_setN (by omega), hb]
      cases b with
      | none => simp [countF]
      | some y =>
        cases a with
        | none => simp [countF] at h ⊢; omega
        | some x => simp [countF] at h ⊢; omega
    · rw [hp, getD_setN (by omega), getD_setS (by omega), ha]
      cases a with
      | none => simp [countF]
      | some x =>
        cases b with
        | none => simp [countF] at h ⊢; omega
        | some y => simp [countF] at h ⊢; omega
  · exact h
theorem floor_out {cs : List (Option Int)} {ws : List Wr} {i : Nat} (h : ∀ p ∈ ws, p.1 ≠ i ∧ p.1 ≠ i + 1) : floorO (applyW ws cs) i = floorO cs i := by
  unfold floorO
  rw [applyW_outD fun p hp => (h p hp).1, applyW_outD fun p hp => (h p hp).2]
theorem booked_out {cs : List (Option Int)} {ws : List Wr} (h : ∀ p ∈ ws, p.1 < 4 ∨ 16 ≤ p.1) : bookedO (applyW ws cs) = bookedO cs := by
  have e : newestO (applyW ws cs) 4 = newestO cs 4 := by
    unfold newestO
    rw [page_same (cs := cs) (cs' := applyW ws cs) (j := 4) fun k h1 h2 => applyW_out fun p hp => by have := h p hp; omega, page_same (cs := cs) (cs' := applyW ws cs) (j := 4 + 6) fun k h1 h2 => applyW_out fun p hp => by have := h p hp; omega]
  unfold bookedO recordO
  rw [e]
/-- what lies in the other slot behind the laying -/
theorem laid_there {cs : List (Option Int)} {t v many one two n sl : Int} {nsp : List Int} (hl : cs.length = 54) (ht : t = 0 ∨ t = 1) (m1 : 1 ≤ many) (m2 : many ≤ 12) (hpl : nsp.length = many.toNat) {ws : List Wr} (hws : ws = thenW (openW (1 - t)) (thenW (fun c => putW c ((slotB (1 - t)).toNat + 7) nsp) (closeW (1 - t) [v, many, one, two, n, sl])) cs) :
    headL (applyW ws cs) (1 - t) = [some 1, some v, some many, some one, some two, some n, some sl] ∧ partsL (applyW ws cs) (1 - t) many = nsp.map some := by
  subst hws
  have hb := slotB_b (other_slot ht).1
  have e : applyW (thenW (openW (1 - t)) (thenW (fun c => putW c ((slotB (1 - t)).toNat + 7) nsp) (closeW (1 - t) [v, many, one, two, n, sl])) cs) cs = (applyW (putW (applyW (putW (applyW (openW (1 - t) cs) cs) ((slotB (1 - t)).toNat + 7) nsp) (applyW (openW (1 - t) cs) cs)) ((slotB (1 - t)).toNat + 1) [v, many, one, two, n, sl]) (applyW (putW (applyW (openW (1 - t) cs) cs) ((slotB (1 - t)).toNat + 7) nsp) (applyW (openW (1 - t) cs) cs))).set (slotB (1 - t)).toNat (some 1) := by
    show applyW (thenW _ _ cs) cs = _
    unfold thenW
    rw [applyW_app, applyW_app]
    unfold closeW thenW
    rw [applyW_app]; rfl
  rw [e]
  have l1 : (applyW (openW (1 - t) cs) cs).length = 54 := by rw [applyW_len]; exact hl
  generalize applyW (openW (1 - t) cs) cs = c1 at l1
  have l2 : (applyW (putW c1 ((slotB (1 - t)).toNat + 7) nsp) c1).length = 54 := by rw [applyW_len]; exact l1
  have p2 : ∀ k, k < nsp.length → (applyW (putW c1 ((slotB (1 - t)).toNat + 7) nsp) c1).getD ((slotB (1 - t)).toNat + 7 + k) none = some (nsp.getD k 0) := fun k hk => putW_at (by omega) hk
  generalize applyW (putW c1 ((slotB (1 - t)).toNat + 7) nsp) c1 = c2 at l2 p2
  have l3 : (applyW (putW c2 ((slotB (1 - t)).toNat + 1) [v, many, one, two, n, sl]) c2).length = 54 := by rw [applyW_len]; exact l2
  have p3 : ∀ k, k < 6 → (applyW (putW c2 ((slotB (1 - t)).toNat + 1) [v, many, one, two, n, sl]) c2).getD ((slotB (1 - t)).toNat + 1 + k) none = some ([v, many, one, two, n, sl].getD k 0) := fun k hk => putW_at (by simp only [List.length_cons, List.length_nil]; omega) (by simpa using hk)
  have p4 : ∀ k, k < nsp.length → (applyW (putW c2 ((slotB (1 - t)).toNat + 1) [v, many, one, two, n, sl]) c2).getD ((slotB (1 - t)).toNat + 7 + k) none = some (nsp.getD k 0) := fun k hk => by
    rw [putW_out (.inr (by simp only [List.length_cons, List.length_nil]; omega))]; exact p2 k hk
  generalize applyW (putW c2 ((slotB (1 - t)).toNat + 1) [v, many, one, two, n, sl]) c2 = c3 at l3 p3 p4
  have back : ∀ {i : Nat} {x : Int}, c3.getD i none = some x → c3[i]? = some (some x) := fun {i x} h => by
    rw [List.getD_eq_getElem?_getD] at h
    cases z : c3[i]? with
    | none => rw [z] at h; cases h
    | some y => rw [z] at h; rw [show y = some x from h]
  constructor
  · unfold headL
    refine row_is rfl fun k hk => ?_
    match k, hk with
    | 0, _ => rw [Nat.add_zero, List.getElem?_set_self (by omega)]; rfl
    | k + 1, hk =>
      rw [List.getElem?_set_ne (by omega), show (slotB (1 - t)).toNat + (k + 1) = (slotB (1 - t)).toNat + 1 + k by omega, back (p3 k (by omega))]
      have : k = 0 ∨ k = 1 ∨ k = 2 ∨ k = 3 ∨ k = 4 ∨ k = 5 := by omega
      rcases this with rfl | rfl | rfl | rfl | rfl | rfl <;> rfl
  · unfold partsL
    refine row_is (by rw [List.length_map]; exact hpl) fun k hk => ?_
    have hk' : k < nsp.length := by omega
    rw [List.getElem?_set_ne (by omega), show (slotB (1 - t) + 7).toNat + k = (slotB (1 - t)).toNat + 7 + k by omega, back (p4 k hk'), List.getElem?_map, List.getElem?_eq_getElem hk', List.getD_eq_getElem?_getD, List.getElem?_eq_getElem hk']; rfl
theorem eqv_good {v : Int} {d : PyData} (h : PyData.eqv d (.tuple [.str "good", .int v]) = true) {s : Str} : d ≠ .tuple [.str s] := by
  rintro rfl
  simp [PyData.eqv, PyData.eqvAll] at h
theorem double_again {cs : List (Option Int)} {ks : List Int} (hl : cs.length = 54) (hb : bookOk cs) (hbd : bnd cs) (ok : doubleOk (bookedO cs) cs ks = true) : doubleD ks (applyW (doubleW ks cs) cs) = .tuple [.str "doubled", .int 0] := by
  unfold bookOk at hb
  unfold doubleD doubleW
  have ok2 := ok
  unfold doubleOk at ok2
  simp only [Bool.and_eq_true, decide_eq_true_eq] at ok2
  obtain ⟨hst, hw⟩ := ok2
  generalize hbk : bookedO cs = b at hb hst hw ok ⊢
  obtain ⟨t, st, lf⟩ := b
  dsimp only at hb hst hw
  obtain ⟨v, many, one, two, n, sl, nsp, hh, m1, m2, hpt, hpl, hsum, hf2, hn, hseal, hf0⟩ := good_parts hl hb hw
  have hv := headL_b hbd (s := t) (n := v) (by rw [hh]; simp)
  have hnn := headL_b hbd (s := t) (n := n) (by rw [hh]; simp)
  have hsa := other_slot hb
  have hb1 := slotB_b hb
  have hb2 := slotB_b hsa.1
  have hcp : copyW cs t = nsp := by
    unfold copyW
    rw [hh]
    show wholeF (partsL cs t many) = nsp
    rw [hpt, whole_map]
  have hhd : wholeF ((headL cs t).drop 1) = [v, many, one, two, n, sl] := by rw [hh]; rfl
  have hD := doubleL_at (ks := ks) hcp (by omega) (by rw [hhd]; rfl)
  have hc1 : ∃ c1, c1 = applyW (doubleL ks t cs) cs := ⟨_, rfl⟩
  obtain ⟨c1, hc1⟩ := hc1
  have l1 : c1.length = 54 := by rw [hc1, applyW_len]; exact hl
  have hd1 : headL c1 t = headL cs t := by rw [hc1]; exact headL_out hb fun p hp => by have := hD p hp; omega
  have hp1 : partsL c1 t many = partsL cs t many := by rw [hc1]; exact partsL_out hb (fun p hp => by have := hD p hp; omega) m2
  have hf01 : floorO c1 0 = floorO cs 0 := by rw [hc1]; exact floor_out fun p hp => by have := hD p hp; omega
  have hf21 : floorO c1 2 = floorO cs 2 := by rw [hc1]; exact floor_out fun p hp => by have := hD p hp; omega
  -- the other slot
  have hoth : headL c1 (1 - t) = headL cs t ∧ (allI (partsL c1 (1 - t) many)).map sumsF = some (one, two) := by
    by_cases hneed : needsL cs ks t = true
    · have e : doubleL ks t cs = thenW (openW (1 - t)) (thenW (fun c => putW c ((slotB (1 - t)).toNat + 7) nsp) (closeW (1 - t) [v, many, one, two, n, sl])) cs := by
        unfold doubleL; rw [if_pos hneed, hcp, hhd]
      have := laid_there (v := v) (one := one) (two := two) (n := n) (sl := sl) (cs := cs) hl hb m1 m2 hpl e
      rw [← hc1] at this
      rw [this.1, this.2, allI_some, hh]
      exact ⟨rfl, by rw [Option.map_some, hsum]⟩
    · have e : doubleL ks t cs = [] := by unfold doubleL; rw [if_neg hneed]
      have ec : c1 = cs := by rw [hc1, e]; rfl
      unfold needsL at hneed
      simp only [Bool.or_eq_true, decide_eq_true_eq, Bool.not_eq_true', not_or, ne_eq, Decidable.not_not, Bool.not_eq_false] at hneed
      obtain ⟨h1, h2⟩ := hneed
      rw [ec]
      refine ⟨h1, ?_⟩
      obtain ⟨v', e', hj⟩ := judged_good hb hw
      rw [hj] at h2
      have hw2 : whyF cs ks (1 - t) = "" := by
        by_cases z : whyF cs ks (1 - t) = ""
        · exact z
        · exact absurd (judged_bad z) (eqv_good h2)
      obtain ⟨v2, many2, one2, two2, n2, sl2, nsp2, hh2, _, _, hpt2, _, hsum2, _⟩ := good_parts hl hsa.1 hw2
      rw [h1, hh] at hh2
      simp only [List.cons.injEq, Option.some.injEq, and_true, true_and] at hh2
      obtain ⟨rfl, rfl, rfl, rfl, rfl, rfl⟩ := hh2
      rw [hpt2, allI_some, Option.map_some, hsum2]
  -- the floors
  have hW : doubleWb (t, st, lf) ks cs = doubleL ks t cs ++ (raiseW c1 0 v ++ raiseW (applyW (raiseW c1 0 v) c1) 2 n) := by
    unfold doubleWb
    rw [if_pos ok, hh]
    show doubleL ks t cs ++ _ = _
    rw [← hc1]; rfl
  have hc3 : ∃ c3, c3 = applyW (doubleWb (t, st, lf) ks cs) cs := ⟨_, rfl⟩
  obtain ⟨c3, hc3⟩ := hc3
  have e3 : c3 = applyW (raiseW (applyW (raiseW c1 0 v) c1) 2 n) (applyW (raiseW c1 0 v) c1) := by rw [hc3, hW, applyW_app, applyW_app, ← hc1]
  have l2 : (applyW (raiseW c1 0 v) c1).length = 54 := by rw [applyW_len]; exact l1
  have r1 := raiseW_at (cs := c1) (i := 0) (n := v)
  have r2 := raiseW_at (cs := applyW (raiseW c1 0 v) c1) (i := 2) (n := n)
  have f0 : floorO c3 0 ≤ v := by
    rw [e3, floor_out fun p hp => by have := r2 p hp; omega]
    exact floor_raise (by omega) hv.1 (by rw [hf01]; exact hf0)
  have f2 : floorO c3 2 ≤ n := by
    rw [e3]
    refine floor_raise (by omega) hnn.1 ?_
    rw [floor_out fun p hp => by have := r1 p hp; omega, hf21]; exact hf2
  have same : ∀ s, s = 0 ∨ s = 1 → headL c3 s = headL c1 s ∧ partsL c3 s many = partsL c1 s many := fun s hs => by
    have := slotB_b hs
    rw [e3]
    exact ⟨by rw [headL_out hs fun p hp => (by have := r2 p hp; omega), headL_out hs fun p hp => by have := r1 p hp; omega], by rw [partsL_out hs (fun p hp => by have := r2 p hp; omega) m2, partsL_out hs (fun p hp => by have := r1 p hp; omega) m2]⟩
  have ht3 := same t hb
  have ho3 := same (1 - t) hsa.1
  have w1 : whyF c3 ks t = "" := good_mk (by rw [ht3.1, hd1, hh]) m1 m2 (by rw [ht3.2, hp1, hpt, allI_some, Option.map_some, hsum]) f2 hn hseal f0
  have w2 : whyF c3 ks (1 - t) = "" := good_mk (by rw [ho3.1, hoth.1, hh]) m1 m2 (by rw [ho3.2]; exact hoth.2) f2 hn hseal f0
  have hbk3 : bookedO c3 = (t, st, lf) := by
    rw [hc3, booked_out fun p hp => ?_, hbk]
    rw [hW] at hp
    rcases List.mem_append.mp hp with h | h
    · have := hD p h; omega
    · rcases List.mem_append.mp h with h | h
      · have := r1 p h; omega
      · have := r2 p h; omega
  rw [← hc3, hbk3]
  unfold doubleDb
  rw [doubleYes hst w1, if_pos rfl]
  have hnd : needsL c3 ks t = false := by
    unfold needsL
    rw [ho3.1, hoth.1, ht3.1, hd1]
    obtain ⟨v1, e1, j1⟩ := judged_good hb w1
    obtain ⟨v2, e2, j2⟩ := judged_good hsa.1 w2
    rw [ht3.1, hd1, hh] at e1
    rw [ho3.1, hoth.1, hh] at e2
    obtain rfl : v = v1 := by simpa using (List.cons.inj (List.cons.inj e1).2).1
    obtain rfl : v = v2 := by simpa using (List.cons.inj (List.cons.inj e2).2).1
    rw [j1, j2]
    simp [PyData.eqv, PyData.eqvAll]
  unfold laidN
  rw [hnd, if_neg Bool.false_ne_true]

/-! ## lambdas, step by step -/
def plainO (o : HO) : Prop := (∀ ps, o ≠ .tbl ps) ∧ ∀ c q, o ≠ LamX.CodeO c q
theorem plain_lst {xs : List V} : plainO (.lst xs) := ⟨fun _ z => (by cases z), fun _ _ z => (by unfold LamX.CodeO at z; cases z)⟩
theorem plain_ins {C dx : Addr} {fs : List (Str × V)} : plainO (.ins C dx fs) := ⟨fun _ z => (by cases z), fun _ _ z => (by unfold LamX.CodeO at z; cases z)⟩
theorem plain_tup {xs : List V} : plainO (.tup xs) := ⟨fun _ z => (by cases z), fun _ _ z => (by unfold LamX.CodeO at z; cases z)⟩
theorem plain_dK {kvs : List (Key × V)} : plainO (.dK kvs) := ⟨fun _ z => (by cases z), fun _ _ z => (by unfold LamX.CodeO at z; cases z)⟩
theorem tabs_fr {T : List (Addr × Str)} {n : List Addr} {H H' : Hp} (t : LamX.Tabs T H) (f : Fr n H H') (hn : ∀ a ∈ n, ∃ o, H a = some o ∧ plainO o) : LamX.Tabs T H' := by
  intro p hp
  obtain ⟨ps, h1, h2, h3⟩ := t p hp
  refine ⟨ps, f _ _ (fun z => ?_) h1, h2, fun pos cv hc => ?_⟩
  · obtain ⟨o, e, g1, g2⟩ := hn _ z
    rw [h1] at e
    exact g1 _ (Option.some.inj e).symm
  · obtain ⟨c, rfl, hc2⟩ := h3 pos cv hc
    refine ⟨c, rfl, f _ _ (fun z => ?_) hc2⟩
    obtain ⟨o, e, g1, g2⟩ := hn _ z
    rw [hc2] at e
    exact g2 _ _ (Option.some.inj e).symm
theorem use_lam {K : PySem.W.Frag} {T : List (Addr × Str)} {TT : (XK → Hp → VK → Prop) → Hp → VK → Prop} {t : XK → TE} {σ : L2.St} {Hb H : Hp} {n : List Addr} {M : List Addr} {L : List (Addr × HO)} {Ds : List (PyData × V)} {Q : VK} (n' : List Addr) (S : Sy K ⟨Hb, n⟩ M H L Ds) (hT : LamX.Tabs T Hb) (hn : ∀ a ∈ n, ∃ o, Hb a = some o ∧ plainO o)
    (hL : ∀ x ∈ L, plainO x.2) (hM : ∀ a ∈ M, a ∈ L.map (·.1)) (hn2 : ∀ a ∈ n', a ∈ L.map (·.1)) (k : ∀ H1, Sy K ⟨H1, n'⟩ M H1 L Ds → LamX.Tabs T H1 → (∀ a ∈ n', ∃ o, H1 a = some o ∧ plainO o) → TT (fun E H' Q' => t E σ H' Q') H1 Q) : LamX.tLam T TT t σ H Q := by
  refine ⟨tabs_fr hT S.fr hn, fun H1 e hT1 => ?_⟩
  have ent : ∀ x ∈ L, H1 x.1 = some x.2 := fun x hx => e _ _ (S.ent x hx) (hL x hx).1
  have at_ : ∀ a, a ∈ L.map (·.1) → ∃ o, H1 a = some o ∧ plainO o := fun a ha => by
    obtain ⟨x, hx, rfl⟩ := List.mem_map.mp ha
    exact ⟨_, ent x hx, hL x hx⟩
  have rd : ∀ {a : Addr} {u : HO}, (∀ ps, u ≠ .tbl ps) → Rd H a u → Rd H1 a u := fun {a u} hu h => by
    rcases h with h | ⟨o, h⟩
    · exact .inl (e _ _ h hu)
    · exact .inr ⟨o, e _ _ h (fun ps z => by cases z)⟩
  refine k H1 ⟨Fr.refl _ _, ent, S.nd, fun x hx => (S.dat x hx).mapM (fun a xs h => ?_) (fun a xs h => ?_), fun a ha => ?_, fun a ha => ?_⟩ hT1 fun a ha => at_ a (hn2 a ha)
  · obtain ⟨h1, h2⟩ := h
    refine ⟨?_, h2⟩
    rcases h1 with h1 | h1
    · exact .inl (rd (fun _ z => by cases z) h1)
    · exact .inr h1
  · obtain ⟨h1, h2⟩ := h
    refine ⟨?_, h2⟩
    rcases h1 with h1 | h1
    · exact .inl (rd (fun _ z => by cases z) h1)
    · exact .inr h1
  · obtain ⟨o, e, _⟩ := at_ a (hM a ha); exact ⟨o, e⟩
  · obtain ⟨o, e, _⟩ := at_ a (hn2 a ha); exact ⟨o, e⟩

theorem doubleW_ok {cs : List (Option Int)} {ks : List Int} (hl : cs.length = 54) (hb : bookOk cs) (hbd : bnd cs) : ∀ p ∈ doubleW ks cs, (p.1 < 4 ∨ 16 ≤ p.1) ∧ p.1 < 54 ∧ 0 ≤ p.2 ∧ p.2 ≤ 9972 := by
  intro p hp
  unfold doubleW doubleWb at hp
  unfold bookOk at hb
  split at hp
  · rename_i ok
    unfold doubleOk at ok
    simp only [Bool.and_eq_true, decide_eq_true_eq] at ok
    obtain ⟨hst, hw⟩ := ok
    generalize bookedO cs = b at hb hst hw hp
    obtain ⟨t, st, lf⟩ := b
    dsimp only at hb hst hw hp
    obtain ⟨v, many, one, two, n, sl, nsp, hh, m1, m2, hpt, hpl, hsum, hf2, hn, hseal, hf0⟩ := good_parts hl hb hw
    have hv := headL_b hbd (s := t) (n := v) (by rw [hh]; simp)
    have hnn := headL_b hbd (s := t) (n := n) (by rw [hh]; simp)
    have hsa := other_slot hb
    have hb2 := slotB_b hsa.1
    have hcp : copyW cs t = nsp := by
      unfold copyW
      rw [hh]
      show wholeF (partsL cs t many) = nsp
      rw [hpt, whole_map]
    have hhd : wholeF ((headL cs t).drop 1) = [v, many, one, two, n, sl] := by rw [hh]; rfl
    have hnb : ∀ x ∈ nsp, 0 ≤ x ∧ x ≤ 9972 := fun x hx => partsL_b hbd (s := t) (many := many) (by rw [hpt]; exact List.mem_map_of_mem (f := some) hx)
    have hhb : ∀ x ∈ [v, many, one, two, n, sl], 0 ≤ x ∧ x ≤ 9972 := fun x hx => headL_b hbd (s := t) (by rw [hh]; simp only [List.mem_cons, List.not_mem_nil, or_false] at hx ⊢; rcases hx with rfl | rfl | rfl | rfl | rfl | rfl <;> simp)
    rw [hh] at hp
    have raise : ∀ {c : List (Option Int)} {i : Nat} {w : Int}, p ∈ raiseW c i w → i ≤ 2 → 0 ≤ w → w ≤ 9972 → (p.1 < 4 ∨ 16 ≤ p.1) ∧ p.1 < 54 ∧ 0 ≤ p.2 ∧ p.2 ≤ 9972 := fun {c i w} h hi w0 w1 => by
      have := raiseW_at p h
      unfold raiseW at h
      split at h
      · rw [List.mem_singleton.mp h] at this ⊢
        exact ⟨.inl (by omega), by omega, w0, w1⟩
      · cases h
    unfold thenW at hp
    rcases List.mem_append.mp hp with h | h
    · have hD := doubleL_at (ks := ks) hcp (by omega) (by rw [hhd]; rfl) p h
      refine ⟨.inr (by omega), by omega, ?_⟩
      unfold doubleL at h
      split at h
      · unfold thenW at h
        rcases List.mem_append.mp h with h | h
        · rw [(openW_at p h).2]; decide
        · rcases List.mem_append.mp h with h | h
          · rw [hcp] at h
            exact (putW_ok hnb p h).2.2
          · unfold closeW thenW at h
            rw [hhd] at h
            rcases List.mem_append.mp h with h | h
            · exact (putW_ok hhb p h).2.2
            · rw [List.mem_singleton.mp h]; exact ⟨by show (0 : Int) ≤ 1; decide, by show (1 : Int) ≤ 9972; decide⟩
      · cases h
    · rcases List.mem_append.mp h with h | h
      · exact raise h (by decide) hv.1 hv.2
      · exact raise h (by decide) hnn.1 hnn.2
  · cases hp
theorem doubleD_dep (ks : List Int) (cs : List (Option Int)) : (doubleD ks cs).depth ≤ 4 := by
  unfold doubleD doubleDb
  split <;> simp [PyData.depth, PyData.depthAll]
theorem doubleD_ok (ks : List Int) (cs : List (Option Int)) : okD (doubleD ks cs) = true := by
  unfold doubleD doubleDb
  split <;> simp [okD, okD.okDL]
theorem depL_wr : ∀ ws : List Wr, PyData.depthAll (ws.map wrD) ≤ 1
  | [] => by simp [PyData.depthAll]
  | w :: ws => by
    have := depL_wr ws
    simp [PyData.depthAll, PyData.depth, wrD]
    omega
theorem layL_wr : ∀ ws : List Wr, PyData.canLayAll0 (ws.map wrD) = true
  | [] => rfl
  | w :: ws => by
    have := layL_wr ws
    simp [PyData.canLayAll0, PyData.canLay0, wrD, this]
theorem sh_log (ws : List Wr) : SeqAt.shaped (logD ws) = true := by
  have h1 := depL_wr ws
  have h2 := layL_wr ws
  unfold logD
  simp [SeqAt.shaped, PyData.canLay0, PyData.depth, h2]
  omega
theorem eqv_log (ws : List Wr) : PyData.eqv (logD ws) (.list []) = decide (ws = []) := by
  unfold logD
  cases ws <;> simp [PyData.eqv, PyData.eqvAll]
theorem run_many {ws : List Wr} {μ : Mem} {n : Nat} (h : μ.left = some (n : Int)) (hn : n < ws.length) : (Mem.run ws μ).1.many = μ.many + n := by
  have h2 : (Mem.run ws μ).2 = false := by rw [run_left h]; exact decide_eq_false (by omega)
  obtain ⟨k, p, e1, e2, _, e4⟩ := run_torn (fun m e => by rw [h] at e; cases e; omega) h2
  rw [h] at e2
  have : k = n := by simp only [Option.some.injEq] at e2; omega
  rw [e4, this]
theorem spare_stop : PyData.strOk "stopped" = true := by decide +kernel

theorem doubleW_len {cs : List (Option Int)} {ks : List Int} (hl : cs.length = 54) (hb : bookOk cs) : (doubleW ks cs).length ≤ 40 := by
  unfold doubleW doubleWb
  unfold bookOk at hb
  split
  · rename_i ok
    unfold doubleOk at ok
    simp only [Bool.and_eq_true, decide_eq_true_eq] at ok
    obtain ⟨hst, hw⟩ := ok
    generalize bookedO cs = b at hb hst hw ⊢
    obtain ⟨t, st, lf⟩ := b
    dsimp only at hb hst hw ⊢
    obtain ⟨v, many, one, two, n, sl, nsp, hh, m1, m2, hpt, hpl, -⟩ := good_parts hl hb hw
    have hcp : copyW cs t = nsp := by
      unfold copyW
      rw [hh]
      show wholeF (partsL cs t many) = nsp
      rw [hpt, whole_map]
    have h1 := doubleL_len (ks := ks) hcp (by omega)
    unfold thenW
    have r : ∀ (c : List (Option Int)) (i : Nat) (w : Int), (raiseW c i w).length ≤ 1 := fun c i w => by unfold raiseW; split <;> simp
    simp only [List.length_append]
    have h2 := r (applyW (doubleL ks t cs) cs) 0 (((headL cs t).getD 1 none).getD 0)
    have h3 := r (applyW (raiseW (applyW (doubleL ks t cs) cs) 0 (((headL cs t).getD 1 none).getD 0)) (applyW (doubleL ks t cs) cs)) 2 (((headL cs t).getD 5 none).getD 0)
    omega
  · simp

/-! ## dicts with tuples as keys, made of a list of pairs; reversed(a list or a tuple) -/
section
variable {X : Cx} {pins : List (Addr × Obj)} {σ : L2.St} {H : Hp} {s : Shared} {a b : Addr} {v : V} {A : Around} {E : Value → Shared → Prop}
def mergeD (kvs more : List (List Key × V)) : List (List Key × V) := more.foldl (fun acc kv => putK acc kv.1 kv.2) kvs
theorem length_mergeD : ∀ (more kvs : List (List Key × V)), (mergeD kvs more).length ≤ kvs.length + more.length
  | [], kvs => by simp [mergeD]
  | p :: more, kvs => by
    have h1 := length_mergeD more (putK kvs p.1 p.2)
    have h2 := length_putK kvs p.1 p.2
    show (mergeD (putK kvs p.1 p.2) more).length ≤ _
    rw [List.length_cons]
    omega
theorem KT_merge : ∀ {more : List (List Key × V)} {rs : List (List Key × Addr × Value)} {kvs : List (List Key × V)} {xs : List (List Key × Addr × Value)}, KT H more rs → KT H kvs xs → KT H (mergeD kvs more) (PySem.storedAllH xs rs)
  | _, _, _, _, .nil, h => h
  | _, _, _, _, .cons (a := p) (b := q) hp t, h => by
    obtain ⟨e1, e2, e3⟩ := hp
    have := KT_merge t (h.put p.1 e2 e3)
    rw [e1] at this
    show KT H (mergeD (putK _ p.1 p.2) _) _
    rw [e1]
    exact this
/-- the tuple at b, known or told by the frame, is the key ks -/
theorem keyS_of {ks : List Key} (I : Inv X pins σ H s) (h : SqT X.K H b (ks.map kV)) : (tupleKind (mixKind X.prog X.w)).is s.heap ks b := by
  obtain ⟨its, r, ⟨o, h1, h2, n, h3⟩, _⟩ := I.tuple h
  exact ⟨o, its.toArray, n, h1, h2, h3, by simpa using items_are r⟩
theorem pairsT_of (I : Inv X pins σ H s) : ∀ {ps : List Addr} {kvs : List (List Key × V)}, Paired (fun p kv => ∃ b, SqT X.K H p [.ref b, kv.2] ∧ H b = some (.tup (kv.1.map kV))) ps kvs →
    ∃ prs : List (List Key × Addr × Value), KT H kvs prs ∧ prs.length = ps.length ∧ ∀ (j : Nat) (q : List Key × Addr × Value), prs[j]? = some q → ∃ p : Addr, ps[j]? = some p ∧ PyProof.Rows.IsTup s.heap p #[.ref q.2.1, q.2.2]
  | _, _, .nil => ⟨[], .nil, rfl, fun j q e => by simp at e⟩
  | _, _, .cons (a := p) (b := kv) h t => by
    obtain ⟨prs, r, hl, hp⟩ := pairsT_of I t
    obtain ⟨b, h1, h2⟩ := h
    obtain ⟨its, rv, ht, _⟩ := I.tuple h1
    obtain ⟨u, y, ei, ru, ry⟩ := vals2 rv
    subst ei
    cases ru
    refine ⟨(kv.1, b, y) :: prs, .cons ⟨rfl, h2, ry⟩ r, by rw [List.length_cons, List.length_cons, hl], fun j q e => ?_⟩
    cases j with
    | zero =>
      have e' : (kv.1, b, y) = q := Option.some.inj e
      subst e'
      exact ⟨p, rfl, ht⟩
    | succ j =>
      obtain ⟨c, e1, e2⟩ := hp j q (by simpa using e)
      exact ⟨c, by simpa using e1, e2⟩
theorem KT_keys (I : Inv X pins σ H s) : ∀ {kvs : List (List Key × V)} {prs : List (List Key × Addr × Value)}, KT H kvs prs → ∀ x ∈ prs, (tupleKind (mixKind X.prog X.w)).is s.heap x.1 x.2.1
  | _, _, .nil => fun x hx => nomatch hx
  | _, _, .cons hq t => fun x hx => by
    rcases List.mem_cons.mp hx with e | hx
    · subst e; exact key_of I.hok (by rw [← hq.1]; exact hq.2.1)
    · exact KT_keys I t x hx
/-- dict(xs) of a list of pairs (key, value), the keys tuples -/
theorem call_dictPT (hcalm : X.calm = true) (hu : X.A.units + 2 < cLine) : CallR X (.type "dict") (fun xs H Q => ∃ (a : Addr) (ps : List Addr) (kvs : List (List Key × V)), xs = [.ref a] ∧ SqL X.K H a (ps.map V.ref) ∧
    Paired (fun p kv => ∃ b, SqT X.K H p [.ref b, kv.2] ∧ H b = some (.tup (kv.1.map kV))) ps kvs ∧ ∀ p, H p = none → Q (.ref p) (upd H p (.dT (mergeD [] kvs)))) := by
  intro pins s σ H xs us Q I r q
  obtain ⟨a, ps, kvs, ex, hq, hp, q⟩ := q
  subst ex
  obtain ⟨u, eu, rx⟩ := vals1 r
  subst eu
  cases rx
  obtain ⟨its, rv, pl, hz⟩ := I.list hq
  have ei := refs_at rv
  subst ei
  rw [List.length_map] at hz
  obtain ⟨prs, rel, hl, hpr⟩ := pairsT_of I hp
  obtain ⟨o, n, ho, hc, hd, hdat⟩ := pl
  have hkeys := KT_keys I rel
  refine PySem.call_dict_pairsH (knd := tupleKind (mixKind X.prog X.w)) (ps := prs) (PySem.PairArg.list a (ps.map Value.ref).toArray (fun j => ps.getD j 0) (prs.map fun q => (Value.ref q.2.1, q.2.2))) (I.ok.hd hcalm) ?_ ⟨⟨o, n, ho, hc, hd, hdat⟩, ?_, ?_⟩ ?_ ?_ ?_ fun h' tk hd' k => ?_
  · show X.A.in1.in1.units < cLine
    have e : X.A.in1.in1.units = X.A.units + 2 := rfl
    rw [e]; exact hu
  · simp [hl]
  · intro j k v e
    rw [List.getElem?_map] at e
    obtain ⟨q', e1, e2⟩ := Option.map_eq_some_iff.mp e
    cases e2
    obtain ⟨p, h1, h2⟩ := hpr j q' e1
    refine ⟨by simp [h1], .inl ?_⟩
    have : ps.getD j 0 = p := by rw [List.getD_eq_getElem?_getD, h1]; rfl
    dsimp only
    rw [this]
    exact h2
  · refine ⟨by simp, fun i key v e => ?_⟩
    have e : (prs.map fun q => (Value.ref q.2.1, q.2.2))[i]? = some (key, v) := e
    rw [List.getElem?_map] at e
    obtain ⟨q', e1, e2⟩ := Option.map_eq_some_iff.mp e
    cases e2
    exact ⟨q'.1, q'.2.1, e1, rfl⟩
  · intro h' hk x hx
    obtain ⟨o, its, n, h1, r⟩ := hkeys x hx
    exact ⟨o, its, n, hk _ _ (Nat.ne_of_lt (Heap.lt_size h1)) (by simp) h1, r⟩
  · rw [List.length_map, hl]; exact hz
  · have hm : (s.heap.objs.size == sysModules) = false := beq_eq_false_iff_ne.mpr (Nat.ne_of_gt I.big)
    have hlen : (mergeD [] kvs).length ≤ sizeLine := by
      refine Nat.le_trans (length_mergeD kvs []) ?_
      rw [List.length_nil, Nat.zero_add, rel.length, hl]
      exact hz
    have hf := I.hok.fresh (Nat.le_refl s.heap.objs.size)
    obtain ⟨o2, es, ep, h1, h2, h3, h4, h5, h6⟩ := hd'
    refine ⟨.ref s.heap.objs.size, upd H s.heap.objs.size (.dT (mergeD [] kvs)), I.laid (t' := tk) (fun b o e => k b o (by simp) e) (Nat.le_refl _) (show ObjOk X.prog X.w _ _ _ (.dT (mergeD [] kvs)) from ⟨hlen, hm, PySem.storedAllH [] prs, KT.keeps (KT_merge rel .nil) (fun b ys e => ?_), o2, es, ep, h1, h2, h3, h4, h6⟩), rfl, q _ hf⟩
    have hb : b ≠ s.heap.objs.size := fun z => by rw [z, hf] at e; cases e
    exact (upd_ne hb).trans e
def rInDT (K : PySem.W.Frag) : R2 := fun y x H Q => ∃ (a b : Addr) (kvs : List (List Key × V)) (k : List Key), y = .ref b ∧ x = .ref a ∧ H a = some (.dT kvs) ∧ SqT K H b (k.map kV) ∧ Q (.bl (valV kvs k).isSome) H
theorem op_inDT (hu : X.A.units + 1 < cLine) : OpR X (compareOp .In) (rInDT X.K) := by
  intro pins s σ H y x u v Q I ry rx h
  obtain ⟨a, b, kvs, k, rfl, rfl, e, eb, q⟩ := h
  cases ry
  cases rx
  obtain ⟨z, hd, xs, rel, dd⟩ := dt_of I.hok e
  refine wpAny_in_heap (tupleKind_room_in1 hu) (keyS_of I eb) hd dd ?_
  have q2 := (rel.val k).isSome_eq
  rw [Option.isSome_map] at q2
  rw [← q2]
  exact ⟨.bl _, H, I.tok _, rfl, q⟩
def rIxDT (K : PySem.W.Frag) : R2 := fun x y H Q => ∃ (a b : Addr) (kvs : List (List Key × V)) (k : List Key) (v : V), x = .ref a ∧ y = .ref b ∧ H a = some (.dT kvs) ∧ SqT K H b (k.map kV) ∧ valV kvs k = some v ∧ Q v H
theorem ix_dT (hu : X.A.units + 1 < cLine) : IxR X (rIxDT X.K) := by
  intro value slice pins s σ H x y v u Q I rx ry h hs
  obtain ⟨a, b, kvs, k, w, rfl, rfl, e, eb, hv, q⟩ := h
  cases rx
  cases ry
  obtain ⟨z, hd, xs, rel, dd⟩ := dt_of I.hok e
  obtain ⟨w', hw, rw'⟩ := RelO.some_of (v := w) (o := (atKey xs k).map (·.2)) (by rw [← hv]; exact rel.val k)
  obtain ⟨p, hp, hp2⟩ := Option.map_eq_some_iff.mp hw
  have hT : s.TypeIs (.ref a) "dict" := by
    obtain ⟨o, es, ep, ho, hx, _⟩ := _root_.id dd
    exact ⟨o, ho, hx.1⟩
  exact PyProof.Rows.tail_any hT PySem.F.slot_dict_getitem.lookup (wpAny_getItem_heap (tupleKind_room_in1 hu) (keyS_of I eb) dd hp ⟨w, H, I.tok _, by rw [hp2]; exact rw', q⟩) hs
end
theorem hu2_of {A : Around} {k : Nat} (hr : Room k A) : A.units + 2 < cLine := by have := hr.un; omega
section
variable {X : Cx} {K : PySem.W.Frag} {H : Hp} {a b : Addr} {kvs : List (List Key × V)} {k : List Key} {Q : VK} {v : V}
theorem b_inDT (hu : X.A.units + 1 < cLine) (e : X.K = K := by rfl) : OpR X (compareOp .In) (rInDT K) := by subst e; exact op_inDT hu
theorem b_ixDT (hu : X.A.units + 1 < cLine) (e : X.K = K := by rfl) : IxR X (rIxDT K) := by subst e; exact ix_dT hu
def rDictPT (K : PySem.W.Frag) : List V → Hp → VK → Prop := fun xs H Q => ∃ (a : Addr) (ps : List Addr) (kvs : List (List Key × V)), xs = [.ref a] ∧ SqL K H a (ps.map V.ref) ∧
    Paired (fun p kv => ∃ b, SqT K H p [.ref b, kv.2] ∧ H b = some (.tup (kv.1.map kV))) ps kvs ∧ ∀ p, H p = none → Q (.ref p) (upd H p (.dT (mergeD [] kvs)))
theorem b_dictPT (hc : X.calm = true) (hu : X.A.units + 2 < cLine) (e : X.K = K := by rfl) : CallR X (.type "dict") (rDictPT K) := by subst e; exact call_dictPT hc hu
theorem n_inDT (h : H a = some (.dT kvs)) (hb : SqT K H b (k.map kV)) (q : Q (.bl (valV kvs k).isSome) H) : rInDT K (.ref b) (.ref a) H Q := ⟨a, b, kvs, k, rfl, rfl, h, hb, q⟩
theorem n_ixDT (h : H a = some (.dT kvs)) (hb : SqT K H b (k.map kV)) (hv : valV kvs k = some v) (q : Q v H) : rIxDT K (.ref a) (.ref b) H Q := ⟨a, b, kvs, k, v, rfl, rfl, h, hb, hv, q⟩
/-- a title as a key -/
def trK (t : Int × Int × Int) : List Key := [.inl t.1, .inl t.2.1, .inl t.2.2]
theorem trK_inj {t u : Int × Int × Int} (h : trK t = trK u) : t = u := by
  obtain ⟨a, b, c⟩ := t
  obtain ⟨d, e, f⟩ := u
  simpa [trK] using h
theorem tr_sqT {M : List Addr} {t : Int × Int × Int} (h : Dt K M H (tripD t) (.ref b)) : SqT K H b ((trK t).map kV) := by
  obtain ⟨zs, s, r⟩ := h.tup
  simp only [DtL, Dt] at r
  obtain ⟨_, _, rfl, rfl, _, _, rfl, rfl, _, _, rfl, rfl, rfl⟩ := r
  exact s.1
end
section
variable {K : PySem.W.Frag} {σ : L2.St} {H : Hp} {a p : Addr} {xs : List V}
theorem b_revA {X : Cx} {tg e : Expr} {te : TE} {p pos : Pos} (hg : Gl X "reversed") (hm : X.mg "reversed" = none) (he : PE X e te) (eK : X.K = K := by rfl) (hs : starEach [e] X.env = (false, eval e X.env) :: starEach [] X.env := by rfl) : PI X tg (.Call (.Name "reversed" p) [e] [] pos) (RT.iRevA K te) := by subst eK; exact RT.pi_revA hg hm he hs
theorem x_iRevA {te : TE} {R : It → Hp → Prop} (q : te σ H fun v H1 => ∃ (a : Addr) (xs : List V), v = .ref a ∧ ((SqL K H1 a xs ∧ R (Itv K a xs.length) H1) ∨ (SqT K H1 a xs ∧ R (RT.ItvT K a xs.length) H1))) : RT.iRevA K te σ H R := q
theorem for_revE {g : TG} {tb : TS} {D : Ends} (h : SqE K H a xs) (Pv : Nat → L2.St → Hp → Prop) (h0 : Pv 0 σ H) (hq : ∀ i σ H', Pv i σ H' → H' = H)
    (hs : ∀ (i : Nat) (x : V) (σ : L2.St) (H : Hp), i < xs.length → xs[xs.length - 1 - i]? = some x → Pv i σ H → g x σ H fun σ2 H2 => tb { D with nx := Pv (i + 1), ct := Pv (i + 1), bk := D.nx } σ2 H2) (hd : ∀ σ H, Pv xs.length σ H → D.nx σ H) :
    ∃ (b : Addr) (ys : List V), V.ref a = .ref b ∧ ((SqL K H b ys ∧ ∃ W : Nat → Nat → L2.St → Hp → Prop, (∃ m, W 0 m σ H) ∧ ∀ i m σ H, W i m σ H →
      ((Itv K b ys.length).stop i H ∧ D.nx σ H) ∨ ((Itv K b ys.length).go i H ∧ ∃ N : L2.St → Hp → Prop, (∀ σ' H', N σ' H' → ∃ m', m' < m ∧ W (i + 1) m' σ' H') ∧ ∀ v H', (Itv K b ys.length).yld i H v H' → g v σ H' fun σ2 H2 => tb { D with nx := N, ct := N, bk := D.nx } σ2 H2)) ∨
      (SqT K H b ys ∧ ∃ W : Nat → Nat → L2.St → Hp → Prop, (∃ m, W 0 m σ H) ∧ ∀ i m σ H, W i m σ H →
      ((RT.ItvT K b ys.length).stop i H ∧ D.nx σ H) ∨ ((RT.ItvT K b ys.length).go i H ∧ ∃ N : L2.St → Hp → Prop, (∀ σ' H', N σ' H' → ∃ m', m' < m ∧ W (i + 1) m' σ' H') ∧ ∀ v H', (RT.ItvT K b ys.length).yld i H v H' → g v σ H' fun σ2 H2 => tb { D with nx := N, ct := N, bk := D.nx } σ2 H2))) := by
  rcases h with h | h
  · exact ⟨a, xs, rfl, .inl ⟨h, RT.for_Itv Pv h0 (fun i σ H' z => by rw [hq _ _ _ z]; exact h) hs hd⟩⟩
  · exact ⟨a, xs, rfl, .inr ⟨h, RT.for_ItvT Pv h0 (fun i σ H' z => by rw [hq _ _ _ z]; exact h) hs hd⟩⟩
def spLSealE (K : PySem.W.Frag) : Sp := fun vs H Q _ => ∃ (key : Int) (p : Addr) (ns : List Int), vs = [.int key, .ref p] ∧ 0 ≤ key ∧ key < 9973 ∧ SqE K H p (ns.map V.int) ∧ ns.length ≤ 1000 ∧ (∀ n ∈ ns, 0 ≤ n ∧ n < 9973) ∧ Q (.int (sealF key ns)) H
theorem use_lsealE {Q : VK} {E : XK} {key : Int} {ns : List Int} (h : SqE K H p (ns.map V.int)) (k0 : 0 ≤ key) (k1 : key < 9973) (hz : ns.length ≤ 1000) (hb : ∀ n ∈ ns, 0 ≤ n ∧ n < 9973) (k : Q (.int (sealF key ns)) H) : spLSealE K [.int key, .ref p] H Q E :=
  ⟨key, p, ns, rfl, k0, k1, h, hz, hb, k⟩
end
section
variable {K : PySem.W.Frag} {M N : List Addr} {H H' : Hp} {H0 : Bs} {p q a b d : Addr} {L : List (Addr × HO)} {Ds : List (PyData × V)} {cs : List (List Int)} {ps : List Addr} {kvs : List (List Key × V)} {σ : L2.St} {te : TE} {Q : VK} {j : Nat}
def tupsAt (H : Hp) (ps : List Addr) (kvs : List (List Key × V)) : Prop := Paired (fun (p : Addr) (kv : List Key × V) => ∃ b : Addr, H p = some (.tup [.ref b, kv.2]) ∧ H b = some (.tup (kv.1.map kV))) ps kvs
/-- pairs (title, piece), one for each piece of cs -/
def TPairs (K : PySem.W.Frag) (M : List Addr) (H : Hp) (cs : List (List Int)) (ps : List Addr) (kvs : List (List Key × V)) : Prop :=
  tupsAt H ps kvs ∧ kvs.length = cs.length ∧ ∀ (j : Nat) (c : List Int), cs[j]? = some c → ∃ a : Addr, kvs[j]? = some (trK (titleF c), .ref a) ∧ Dt K M H (.tuple (c.map .int)) (.ref a)
theorem tupsAt.mono (f : Fr N H H') (hn : ∀ d ∈ N, ∀ xs, H d ≠ some (.tup xs)) : ∀ {ps : List Addr} {kvs : List (List Key × V)}, tupsAt H ps kvs → tupsAt H' ps kvs
  | _, _, .nil => .nil
  | _, _, .cons ⟨b, h1, h2⟩ t => .cons ⟨b, f _ _ (fun z => hn _ z _ h1) h1, f _ _ (fun z => hn _ z _ h2) h2⟩ (tupsAt.mono f hn t)
theorem TPairs.mono (h : TPairs K M H cs ps kvs) (f : Fr N H H') (hN : ∀ d ∈ N, d ∈ M) (hn : ∀ d ∈ N, ∀ xs, H d ≠ some (.tup xs)) : TPairs K M H' cs ps kvs :=
  ⟨h.1.mono f hn, h.2.1, fun j c e => by
    obtain ⟨a, e1, e2⟩ := h.2.2 j c e
    exact ⟨a, e1, e2.mono (f.wk hN)⟩⟩
theorem TPairs.wk (h : TPairs K M H cs ps kvs) (f : ∀ a, a ∈ N → a ∈ M) : TPairs K N H cs ps kvs :=
  ⟨h.1, h.2.1, fun j c e => by
    obtain ⟨a, e1, e2⟩ := h.2.2 j c e
    exact ⟨a, e1, e2.wk f⟩⟩
theorem tupsAt.add : ∀ {ps : List Addr} {kvs : List (List Key × V)} {p b : Addr} {k : List Key} {v : V}, tupsAt H ps kvs → H p = some (.tup [.ref b, v]) → H b = some (.tup (k.map kV)) → tupsAt H (ps ++ [p]) (kvs ++ [(k, v)])
  | _, _, _, b, _, _, .nil, h1, h2 => .cons ⟨b, h1, h2⟩ .nil
  | _, _, _, _, _, _, .cons h t, h1, h2 => .cons h (tupsAt.add t h1 h2)
theorem TPairs.add {c : List Int} (h : TPairs K M H cs ps kvs) (h1 : H p = some (.tup [.ref b, .ref a])) (h2 : H b = some (.tup ((trK (titleF c)).map kV))) (h3 : Dt K M H (.tuple (c.map .int)) (.ref a)) : TPairs K M H (cs ++ [c]) (ps ++ [p]) (kvs ++ [(trK (titleF c), .ref a)]) := by
  obtain ⟨g1, g2, g3⟩ := h
  refine ⟨g1.add h1 h2, by simp [g2], fun j c' e => ?_⟩
  by_cases hj : j < cs.length
  · rw [List.getElem?_append_left hj] at e
    obtain ⟨a', e1, e2⟩ := g3 j c' e
    exact ⟨a', by rw [List.getElem?_append_left (by omega)]; exact e1, e2⟩
  · rw [List.getElem?_append_right (by omega)] at e
    have hj0 : j - cs.length = 0 := by
      rcases Nat.eq_zero_or_pos (j - cs.length) with z | z
      · exact z
      · rw [List.getElem?_eq_none (by simp; omega)] at e; cases e
    rw [hj0] at e
    cases e
    exact ⟨a, by rw [List.getElem?_append_right (by omega), g2, hj0]; rfl, h3⟩
theorem TPairs.nil : TPairs K M H [] [] [] := ⟨.nil, rfl, fun j c e => by simp at e⟩
theorem TPairs.lenP : tupsAt H ps kvs → ps.length = kvs.length := fun h => h.length
/-- [(name(c), c) for c in ..] -/
theorem lcW_pairs (S : Sy K H0 M H L Ds) (h : Dt K M H (.list (cs.map fun (c : List Int) => PyData.tuple (c.map .int))) (.ref q)) (hn : cs.length ≤ 1000)
    (hte : ∀ (i : Nat) (c : List Int) (a D : Addr) (acc : List V) (H' : Hp) (Q' : VK), cs[i]? = some c → Sy K (b0 H) (D :: M) H' (L ++ [(D, .lst acc)]) (Ds ++ [(.tuple (c.map .int), .ref a)]) →
      (∀ (b p : Addr) (H'' : Hp), Sy K (b0 H) (D :: M) H'' ((L ++ [(D, .lst acc)]) ++ [(b, .tup ((trK (titleF c)).map kV)), (p, .tup [.ref b, .ref a])]) (Ds ++ [(.tuple (c.map .int), .ref a)]) → Fr [] H' H'' → Q' (.ref p) H'') → te ((σ.set j none).set j (some (.ref a))) H' Q')
    (k : ∀ (D : Addr) (H' : Hp) (ps : List Addr) (kvs : List (List Key × V)), H D = none → TPairs K M H' cs ps kvs → Sy K H0 M H' (L ++ [(D, .lst (ps.map V.ref))]) Ds → Q (.ref D) H') : LcO (gName j) tYes te [j] σ Q (Itl K q) H := by
  obtain ⟨xs, s, r⟩ := h.lst
  have hl := r.len
  rw [List.length_map] at hl
  intro D hD
  have DF := hD
  refine lc_it (walk_list (xs := xs)) (fun i H' => i ≤ cs.length ∧ ∃ (ps : List Addr) (kvs : List (List Key × V)), ps.length = i ∧ TPairs K (D :: M) H' (cs.take i) ps kvs ∧ Sy K (b0 H) (D :: M) H' (L ++ [(D, .lst (ps.map V.ref))]) Ds) ⟨Nat.zero_le _, [], [], rfl, .nil, S.rebase.newM hD⟩ (fun i H' _ S' => by
    obtain ⟨_, ps, kvs, _, _, T⟩ := S'
    exact s.still D H' hD (Fr.wk0 T.fr)) ?_ ?_
  · rintro i x H2 H' hi ⟨_, ps, kvs, hp, hT, T⟩ ⟨rfl, hy⟩
    refine ⟨wipe_one _, ?_⟩
    have hi2 : i < cs.length := by omega
    have hc : cs[i]? = some cs[i] := List.getElem?_eq_getElem hi2
    obtain ⟨x', hx', hd⟩ := r.at (i := i) (d := .tuple (cs[i].map .int)) (by rw [List.getElem?_map, hc]; rfl)
    obtain rfl : x = x' := by rw [hy] at hx'; exact Option.some.inj hx'
    obtain ⟨a, rfl⟩ := hd.refT
    have hd2 := (hd.cons hD).mono (Fr.wk0 T.fr)
    have gD : ∀ vs : List V, (L ++ [(D, HO.lst vs)])[L.length]? = some (D, .lst vs) := fun vs => by simp
    refine hte i cs[i] a D _ H' _ hc (T.addD hd2) fun b p H'' T2 f => ?_
    have e1 : H'' p = some (.tup [.ref b, .ref a]) := T2.ent (p, _) (List.mem_append_right _ (List.mem_cons_of_mem _ (List.mem_singleton.mpr rfl)))
    have e2 : H'' b = some (.tup ((trK (titleF cs[i])).map kV)) := T2.ent (b, _) (List.mem_append_right _ (List.mem_cons_self ..))
    have eD : H'' D = some (.lst (ps.map V.ref)) := T2.ent (D, _) (List.mem_append_left _ (List.mem_append_right _ (List.mem_singleton.mpr rfl)))
    have hd3 := hd2.mono (Fr.wk0 f)
    have hA := (hT.mono f (fun d z => nomatch z) (fun d z => nomatch z)).add e1 e2 hd3
    refine ⟨_, eD, szl (by rw [List.length_map]; omega), by omega, ps ++ [p], kvs ++ [(trK (titleF cs[i]), .ref a)], by simp [hp], ?_, ?_⟩
    · rw [take_more hc]
      exact hA.mono (N := [D]) (Fr.set (List.mem_singleton.mpr rfl)) (fun d z => by rw [List.mem_singleton.mp z]; exact List.mem_cons_self ..) (fun d z xs e => by rw [List.mem_singleton.mp z, eD] at e; cases e)
    · have T3 := ((T2.sub (List.sublist_append_left _ _)).subD (Ds' := Ds) (fun x hx => List.mem_append_left _ hx)).set (o' := .lst (ps.map V.ref ++ [.ref p])) L.length (gD _) ⟨List.mem_cons_self .., .inr DF⟩
      rw [show (L ++ [(D, HO.lst (ps.map V.ref))]).set L.length (D, .lst (ps.map V.ref ++ [.ref p])) = L ++ [(D, .lst (ps.map V.ref ++ [.ref p]))] by simp] at T3
      rw [List.map_append]
      exact T3
  · rintro H' ⟨_, ps, kvs, hp, hT, T⟩
    rw [hl, List.take_length] at hT
    exact k D H' ps kvs hD (hT.wk fun _ z => List.mem_cons_of_mem _ z) (S.over T).dropM
/-- the last piece of this title -/
def knownF (cs : List (List Int)) (t : Int × Int × Int) : Option (List Int) := cs.foldl (fun acc c => if titleF c = t then some c else acc) none
theorem knownF_more (cs : List (List Int)) (c : List Int) (t : Int × Int × Int) : knownF (cs ++ [c]) t = if titleF c = t then some c else knownF cs t := by
  unfold knownF; rw [List.foldl_append]; rfl
theorem mergeD_more (kvs : List (List Key × V)) (k : List Key) (v : V) : mergeD [] (kvs ++ [(k, v)]) = putK (mergeD [] kvs) k v := by
  unfold mergeD; rw [List.foldl_append]; rfl
/-- what the dict of these pairs holds at a title -/
theorem TPairs.val (t : Int × Int × Int) : ∀ {cs : List (List Int)} {kvs : List (List Key × V)}, kvs.length = cs.length → (∀ (j : Nat) (c : List Int), cs[j]? = some c → ∃ a : Addr, kvs[j]? = some (trK (titleF c), .ref a) ∧ Dt K M H (.tuple (c.map .int)) (.ref a)) →
    (knownF cs t = none ∧ valV (mergeD [] kvs) (trK t) = none) ∨ ∃ (c : List Int) (a : Addr), knownF cs t = some c ∧ valV (mergeD [] kvs) (trK t) = some (.ref a) ∧ Dt K M H (.tuple (c.map .int)) (.ref a) := by
  suffices hh : ∀ (n : Nat) {cs : List (List Int)} {kvs : List (List Key × V)}, cs.length = n → kvs.length = cs.length → (∀ (j : Nat) (c : List Int), cs[j]? = some c → ∃ a : Addr, kvs[j]? = some (trK (titleF c), .ref a) ∧ Dt K M H (.tuple (c.map .int)) (.ref a)) →
    (knownF cs t = none ∧ valV (mergeD [] kvs) (trK t) = none) ∨ ∃ (c : List Int) (a : Addr), knownF cs t = some c ∧ valV (mergeD [] kvs) (trK t) = some (.ref a) ∧ Dt K M H (.tuple (c.map .int)) (.ref a) from fun {cs kvs} => hh cs.length rfl
  intro n
  induction n with
  | zero =>
    intro cs kvs hn hl _
    rw [hn] at hl
    rw [List.length_eq_zero_iff.mp hl, List.length_eq_zero_iff.mp hn]
    exact .inl ⟨rfl, rfl⟩
  | succ n ih =>
    intro cs0 kvs hn hl h
    obtain ⟨cs, c, rfl⟩ : ∃ cs c, cs0 = cs ++ [c] := by
      rcases List.eq_nil_or_concat cs0 with z | ⟨l, c, z⟩
      · rw [z] at hn; cases hn
      · exact ⟨l, c, by rw [z, List.concat_eq_append]⟩
    rw [List.length_append, List.length_singleton] at hl hn
    obtain ⟨a, e1, e2⟩ := h cs.length c (by rw [List.getElem?_append_right (Nat.le_refl _), Nat.sub_self]; rfl)
    have hk : kvs = kvs.take cs.length ++ [(trK (titleF c), .ref a)] := by
      rw [← take_more e1, ← hl, List.take_length]
    have ih' := ih (cs := cs) (kvs := kvs.take cs.length) (by omega) (by rw [List.length_take]; omega) (fun j c' e => by
      have hj := (List.getElem?_eq_some_iff.mp e).1
      obtain ⟨a', q1, q2⟩ := h j c' (by rw [List.getElem?_append_left hj]; exact e)
      exact ⟨a', by rw [List.getElem?_take, if_pos hj]; exact q1, q2⟩)
    rw [hk, mergeD_more, valV_put, knownF_more]
    by_cases ht : titleF c = t
    · rw [if_pos ht, if_pos (by rw [ht])]
      exact .inr ⟨c, a, rfl, rfl, e2⟩
    · rw [if_neg ht, if_neg (fun z => ht (trK_inj z).symm)]
      exact ih'
/-- at p a dict: the pieces by their titles -/
def DTAt (K : PySem.W.Frag) (M : List Addr) (H : Hp) (p : Addr) (cs : List (List Int)) : Prop := ∃ kvs : List (List Key × V), H p = some (.dT (mergeD [] kvs)) ∧ kvs.length = cs.length ∧ ∀ (j : Nat) (c : List Int), cs[j]? = some c → ∃ a : Addr, kvs[j]? = some (trK (titleF c), .ref a) ∧ Dt K M H (.tuple (c.map .int)) (.ref a)
theorem DTAt.ex (h : DTAt K M H p cs) (f : Fr [] H H') : DTAt K M H' p cs := by
  obtain ⟨kvs, e, hl, g⟩ := h
  exact ⟨kvs, f _ _ (fun z => nomatch z) e, hl, fun j c ec => by
    obtain ⟨a, e1, e2⟩ := g j c ec
    exact ⟨a, e1, e2.mono f.wk0⟩⟩
theorem DTAt.val (h : DTAt K M H p cs) (t : Int × Int × Int) : ∃ kvs : List (List Key × V), H p = some (.dT kvs) ∧ ((knownF cs t = none ∧ valV kvs (trK t) = none) ∨ ∃ (c : List Int) (a : Addr), knownF cs t = some c ∧ valV kvs (trK t) = some (.ref a) ∧ Dt K M H (.tuple (c.map .int)) (.ref a)) := by
  obtain ⟨kvs, e, hl, g⟩ := h
  exact ⟨_, e, TPairs.val t hl g⟩
/-- dict of these pairs -/
theorem n_dictPT (S : Sy K H0 M H L Ds) (h : SqL K H q (ps.map V.ref)) (hT : TPairs K M H cs ps kvs) (k : ∀ p H', H p = none → H0.h p = none → Sy K H0 M H' L Ds → DTAt K M H' p cs → Q (.ref p) H') : rDictPT K [.ref q] H Q := by
  have hp : ∀ {ps : List Addr} {kvs : List (List Key × V)}, tupsAt H ps kvs → Paired (fun p kv => ∃ b, SqT K H p [.ref b, kv.2] ∧ H b = some (.tup (kv.1.map kV))) ps kvs := by
    intro ps kvs z
    induction z with
    | nil => exact .nil
    | cons hh t ih =>
      obtain ⟨b, h1, h2⟩ := hh
      exact .cons ⟨b, .inl (.inl h1), h2⟩ ih
  refine ⟨q, ps, kvs, rfl, h, hp hT.1, fun p hn => ?_⟩
  have f := Fr.new (M := []) (o := .dT (mergeD [] kvs)) hn
  exact k p _ hn (S.free hn) (S.ex f) ⟨kvs, upd_same, hT.2.1, fun j c ec => by
    obtain ⟨a, e1, e2⟩ := hT.2.2 j c ec
    exact ⟨a, e1, e2.mono f.wk0⟩⟩
end
section
open PyProof.Rows
variable {X : Cx}
/-- x, y, z = a, b, c: three plain local names -/
def tPar3 (i j l : Nat) (ta : TA) : TS := fun D σ H => ta σ H fun vs H1 => ∃ v w u, vs = [v, w, u] ∧ D.nx (((σ.set i (some v)).set j (some w)).set l (some u)) H1
theorem ps_par3 {i j l : Nat} {x y z : Str} {a b c : Expr} {ta : TA} {px py pz pt pos : Pos} {kt k2 pt2} (hc : X.calm = true) (hN : X.N.Nodup) (hi : X.N[i]? = some x) (hj : X.N[j]? = some y) (hl : X.N[l]? = some z) (hij : i ≠ j) (hil : i ≠ l) (hjl : j ≠ l)
    (hx : X.env.scope.names.lookup x = some .local) (hy : X.env.scope.names.lookup y = some .local) (hz : X.env.scope.names.lookup z = some .local) (ha : PA X [a, b, c] ta)
    (hw : swappedStores [.Tuple [.Name x px, .Name y py, .Name z pz] kt pt] (.Tuple [a, b, c] k2 pt2) X.env = pure (some [x, y, z]))
    (hs : swapsWithSole [.Tuple [.Name x px, .Name y py, .Name z pz] kt pt] (.Tuple [a, b, c] k2 pt2) pos.line X.env = pure false := by rfl) :
    PS X (.Assign [.Tuple [.Name x px, .Name y py, .Name z pz] kt pt] (.Tuple [a, b, c] k2 pt2) pos) (tPar3 i j l ta) := by
  refine ⟨fun pins s σ H D I h => ?_⟩
  rw [exec_Assign_arm]
  refine wpAny_bind (wpAny_standAt ?_)
  rw [hs]
  refine wpAny_bind (wpAny_pure ?_)
  rw [if_neg (by decide)]
  refine wpAny_bind (Tuple_ (thn (ha.run _ pins s σ H _ I h) fun us s1 ⟨vs, H1, I1, r1, q1⟩ => ?_))
  obtain ⟨v, w, u, e1, q1⟩ := q1
  subst e1
  obtain ⟨u1, u2, u3, rfl, rv, rw', ru⟩ : ∃ u1 u2 u3, us = [u1, u2, u3] ∧ RelV v u1 ∧ RelV w u2 ∧ RelV u u3 := by
    cases r1 with
    | cons p q =>
      cases q with
      | cons p' q' =>
        cases q' with
        | cons p2 q2 =>
          cases q2
          exact ⟨_, _, _, rfl, p, p', p2⟩
  refine wpAny_newObj_type ?_ (by show 3 ≤ sizeLine; decide)
  have I2 : Inv X pins σ H1 { s1 with heap := s1.heap.push { cls := .type "tuple", data := .seq [u1, u2, u3].toArray } } := I1.kept (t' := s1.toks) fun b o e => Heap.get?_push_of_some _ e
  rw [hw]
  refine wpAny_bind (wpAny_pure ?_)
  show wpAny (model X.prog X.w) X.A (do rule "assign.swapped-stores"; let items ← unpackItems (.ref s1.heap.objs.size) 3 none; assignInOrder [fun v => bindName X.env z v, fun v => bindName X.env y v, fun v => bindName X.env x v] items.reverse; pure Flow.next) _ _ _
  refine wpAny_bind (wpAny_rule (wpAny_bind (unpackItems_tuple (items := #[u1, u2, u3]) (I.ok.hd hc) (IsTup.new s1.heap _) fun h' hx' => ?_)))
  have I3 := I2.kept (h' := h') (t' := s1.toks) fun b o e => hx' b o (Nat.ne_of_lt (Heap.lt_size e)) e
  show wpAny _ _ (assignInOrder [fun v => bindName X.env z v, fun v => bindName X.env y v, fun v => bindName X.env x v] [u3, u2, u1] >>= fun _ => pure Flow.next) _ _ _
  refine wpAny_bind (assignInOrder_cons (wpAny_bindName (store_ok I3 hN hl (.inl hz) ru (fun s2 I4 => ?_) (.inr hz))))
  refine assignInOrder_cons (wpAny_bindName (store_ok I4 hN hj (.inl hy) rw' (fun s3 I5 => ?_) (.inr hy)))
  refine assignInOrder_cons (wpAny_bindName (store_ok I5 hN hi (.inl hx) rv (fun s4 I6 => assignInOrder_nil (wpAny_pure ?_)) (.inr hx)))
  rw [List.set_comm _ _ (Ne.symm hij), List.set_comm _ _ (Ne.symm hil), List.set_comm _ _ (Ne.symm hjl)] at I6
  exact ⟨_, H1, I6, q1⟩
theorem x_par2 {i j : Nat} {ta : TA} {D : Ends} {σ : L2.St} {H : Hp} (q : ta σ H fun vs H1 => ∃ v w, vs = [v, w] ∧ D.nx ((σ.set i (some v)).set j (some w)) H1) : tPar i j ta D σ H := q
theorem x_par3 {i j l : Nat} {ta : TA} {D : Ends} {σ : L2.St} {H : Hp} (q : ta σ H fun vs H1 => ∃ v w u, vs = [v, w, u] ∧ D.nx (((σ.set i (some v)).set j (some w)).set l (some u)) H1) : tPar3 i j l ta D σ H := q
end
/-! ## what stores hand out -/
def askR (t : Int × Int × Int) : List Row → Nat → Option (List Int) × Nat
  | [], n => (none, n)
  | r :: rs, n => if r.1 = t then (if titleF r.2 = t then (some r.2, n + 1) else askR t rs (n + 1)) else askR t rs n
def askF (ss : List (List Row)) (t : Int × Int × Int) : Option (List Int) × Nat := askR t ss.flatten 0
def askD (x : Option (List Int) × Nat) : PyData := .tuple [match x.1 with
  | none => .none
  | some ns => .tuple (ns.map .int), .int x.2]
theorem askR_other {t : Int × Int × Int} {r : Row} {rs : List Row} {n : Nat} (h : r.1 ≠ t) : askR t (r :: rs) n = askR t rs n := by rw [askR, if_neg h]
theorem askR_bad {t : Int × Int × Int} {r : Row} {rs : List Row} {n : Nat} (h : r.1 = t) (h2 : titleF r.2 ≠ t) : askR t (r :: rs) n = askR t rs (n + 1) := by rw [askR, if_pos h, if_neg h2]
theorem askR_good {t : Int × Int × Int} {r : Row} {rs : List Row} {n : Nat} (h : r.1 = t) (h2 : titleF r.2 = t) : askR t (r :: rs) n = (some r.2, n + 1) := by rw [askR, if_pos h, if_pos h2]
theorem trip_eq {a b : Int × Int × Int} : decide (([a.1, a.2.1, a.2.2] : List Int) = [b.1, b.2.1, b.2.2]) = decide (a = b) := by
  obtain ⟨a1, a2, a3⟩ := a
  obtain ⟨b1, b2, b3⟩ := b
  simp
theorem d_eqTr {K : PySem.W.Frag} {M : List Addr} {H : Hp} {Q : VK} {v u : V} {a b : Int × Int × Int} (h1 : Dt K M H (tripD a) v) (h2 : Dt K M H (tripD b) u) (q : Q (.bl (decide (a = b))) H) : rEqD K v u H Q :=
  d_eqTT (ns := [a.1, a.2.1, a.2.2]) (ms := [b.1, b.2.1, b.2.2]) h1 h2 (by rw [trip_eq]; exact q)
theorem d_neTr {K : PySem.W.Frag} {M : List Addr} {H : Hp} {Q : VK} {v u : V} {a b : Int × Int × Int} (h1 : Dt K M H (tripD a) v) (h2 : Dt K M H (tripD b) u) (q : Q (.bl (!decide (a = b))) H) : rNeD K v u H Q :=
  d_neTT (ns := [a.1, a.2.1, a.2.2]) (ms := [b.1, b.2.1, b.2.2]) h1 h2 (by rw [trip_eq]; exact q)
def spLNote (K : PySem.W.Frag) : Sp := fun vs H Q _ => ∃ (M : List Addr) (d c g : Addr) (cs : List (Option Int)) (ws0 : List Wr) (r : Rec) (v : V), vs = [.ref d, v] ∧ (∀ a ∈ M, ∃ o, H a = some o) ∧ LogAt K M H d c g cs ws0 ∧ cs.length = 54 ∧ bnd cs ∧ Dt K M H (recD r) v ∧ ws0.length ≤ 700 ∧
  logX K M d c g cs ws0 (noteW cs 4 r) H (Q .non)
theorem n_slT {K : PySem.W.Frag} {H : Hp} {Q : VK} {p : Addr} {xs : List V} {lo hi : Option Int} (h : SqT K H p xs) (hw : ¬ (HT.sIx xs.length 0 lo = 0 ∧ HT.sIx xs.length xs.length hi = xs.length)) (q : NewO H (.tup (cutV xs lo hi)) Q) : rSlT K (.ref p) lo hi H Q := ⟨p, xs, rfl, h, hw, q⟩
theorem cut7_46 (x0 x1 x2 x3 x4 x5 x6 : V) : cutV [x0, x1, x2, x3, x4, x5, x6] (some 4) (some 6) = [x4, x5] := rfl
theorem cut7_5 (x0 x1 x2 x3 x4 x5 x6 : V) : cutV [x0, x1, x2, x3, x4, x5, x6] none (some 5) = [x0, x1, x2, x3, x4] := rfl
theorem cut7_6 (x0 x1 x2 x3 x4 x5 x6 : V) : cutV [x0, x1, x2, x3, x4, x5, x6] none (some 6) = [x0, x1, x2, x3, x4, x5] := rfl
/-! ## why a manifest isn't let in -/
def topV (cs : List (Option Int)) (t : Int) : Int := ((headL cs t).getD 1 none).getD 0
def refB (t : Int) (cs : List (Option Int)) (ks : List Int) (m : Man) : Str :=
  if whyF cs ks t ≠ "" then "hurt" else if ¬ (floorO cs 2 ≤ m.n ∧ m.n < ks.length) then "key" else if sealF (ks.getD m.n.toNat 0) [m.v, m.many, m.one, m.two, m.n] ≠ m.s then "seal" else if m.v < floorO cs 0 ∨ m.v ≤ topV cs t then "old" else ""
def refF (cs : List (Option Int)) (ks : List Int) (m : Man) : Str := refB (bookedO cs).1 cs ks m
def spWhyRef (C : Addr) (K : PySem.W.Frag) : Sp := fun vs H Q _ => ∃ (M : List Addr) (m dx l : Addr) (μ : Mem) (ks : List Int) (v : V) (mn : Man) (u : V), vs = [.ref m, v, u] ∧ (∀ a ∈ M, ∃ o, H a = some o) ∧ MemAt C H m dx l μ ∧ μ.up = true ∧ μ.cells.length = 54 ∧ bnd μ.cells ∧ bookOk μ.cells ∧ Dt K M H (keysD ks) v ∧ gk ks ∧ Dt K M H (manD mn) u ∧ gman mn ∧
  ∀ H', Fr [] H H' → Q (.str (refF μ.cells ks mn)) H'
def spLRef (K : PySem.W.Frag) : Sp := fun vs H Q _ => ∃ (M : List Addr) (p : Addr) (cs : List (Option Int)) (ks : List Int) (v : V) (mn : Man) (u : V), vs = [.ref p, v, u] ∧ (∀ a ∈ M, ∃ o, H a = some o) ∧ SqL K H p (cs.map ov) ∧ cs.length = 54 ∧ bnd cs ∧ bookOk cs ∧ Dt K M H (keysD ks) v ∧ gk ks ∧ Dt K M H (manD mn) u ∧ gman mn ∧
  ∀ H', Fr [] H H' → Q (.str (refF cs ks mn)) H'
theorem askR_filter {t : Int × Int × Int} : ∀ (rs : List Row) (n : Nat), askR t rs n = askR t (rs.filter fun r => decide (r.1 = t)) n
  | [], _ => rfl
  | r :: rs, n => by
    by_cases h : r.1 = t
    · rw [List.filter_cons_of_pos (by simpa using h)]
      by_cases h2 : titleF r.2 = t
      · rw [askR_good h h2, askR_good h h2]
      · rw [askR_bad h h2, askR_bad h h2, askR_filter rs]
    · rw [List.filter_cons_of_neg (by simpa using h), askR_other h, askR_filter rs]
theorem askR_at {t : Int × Int × Int} {F : List Row} {k n : Nat} {r : Row} (hF : ∀ r ∈ F, r.1 = t) (h : F[k]? = some r) : askR t (F.drop k) n = if titleF r.2 = t then (some r.2, n + 1) else askR t (F.drop (k + 1)) (n + 1) := by
  obtain ⟨h1, h2⟩ := List.getElem?_eq_some_iff.mp h
  rw [List.drop_eq_getElem_cons h1, h2]
  have := hF r (List.mem_of_getElem? h)
  split
  · rename_i z; rw [askR_good this z]
  · rename_i z; rw [askR_bad this z]
theorem joinF_b (ts : List (Int × Int × Int)) : 0 ≤ (joinF ts).1 ∧ (joinF ts).1 ≤ 9972 ∧ 0 ≤ (joinF ts).2 ∧ (joinF ts).2 ≤ 9972 := by
  rcases List.eq_nil_or_concat ts with rfl | ⟨l, t, rfl⟩
  · decide
  · rw [List.concat_eq_append, joinF_more]; unfold jstep; dsimp only; omega
/-! ## the pieces that are trusted -/
/-- the whole row of a good slot -/
def rowOf (cs : List (Option Int)) (t : Int) : List Int := (allI (partsL cs t (((headL cs t).getD 2 none).getD 0))).getD []
def spTrusted (C : Addr) (K : PySem.W.Frag) : Sp := fun vs H Q _ => ∃ (M : List Addr) (m dx l : Addr) (μ : Mem) (ks : List Int), vs = [.ref m] ∧ (∀ a ∈ M, ∃ o, H a = some o) ∧ MemAt C H m dx l μ ∧ μ.up = true ∧ μ.cells.length = 54 ∧ bookOk μ.cells ∧ whyF μ.cells ks (bookedO μ.cells).1 = "" ∧
  ∀ p H', Fr [] H H' → H p = none → DTAt K M H' p (piecesF (rowOf μ.cells (bookedO μ.cells).1)) → Q (.ref p) H'
def spTitleN (K : PySem.W.Frag) : Sp := fun vs H Q _ => ∃ (p : Addr) (xs : List (Option Int)), vs = [.ref p] ∧ SqE K H p (xs.map ov) ∧ xs.length ≤ 10000 ∧ (allI xs = none → ∀ H', Fr [] H H' → Q .non H') ∧
  (∀ ns t H', allI xs = some ns → Fr [] H H' → H t = none → H' t = some (.tup [.int (titleF ns).1, .int (titleF ns).2.1, .int (titleF ns).2.2]) → Q (.ref t) H')
section
variable {K : PySem.W.Frag} {M : List Addr} {H : Hp} {H0 : Bs} {p : Addr} {L : List (Addr × HO)} {Ds : List (PyData × V)} {Q : VK} {E : XK}
theorem du_title {ns : List Int} (S : Sy K H0 M H L Ds) (h : Dt K M H (.list (ns.map .int)) (.ref p) ∨ Dt K M H (.tuple (ns.map .int)) (.ref p)) (hz : ns.length ≤ 10000)
    (k : ∀ t H', Sy K H0 M H' L (Ds ++ [(tripD (titleF ns), .ref t)]) → Q (.ref t) H') : spTitleN K [.ref p] H Q E := by
  refine ⟨p, ns.map some, rfl, by rw [← ints_ov]; exact Dt.sq h, by rw [List.length_map]; omega, fun z => ?_, fun ms t H' hm f ht e => ?_⟩
  · rw [allI_some] at z; cases z
  · rw [allI_some] at hm; cases hm
    refine k t H' ((S.ex f).addD ?_)
    exact Dt.tupI ⟨.inl (.inl e), .inl (S.notM ht)⟩ (DtL.cons' Dt.int' (DtL.cons' Dt.int' (DtL.cons' Dt.int' DtL.nil')))
end

/-! ## an update, as a plain function -/
def cutO (cs : List (Option Int)) (pl n : Int) : List (Option Int) := (cs.drop pl.toNat).take n.toNat
/-- which way a piece is come by, and what is to be put; none: it lacks -/
def stepL (ss : List (List Row)) (kn : List (List Int)) (cs : List (Option Int)) (pl : Int) (t : Int × Int × Int) : Option (Nat × List Int) :=
  if titleO (cutO cs pl t.2.2) = some t then some (0, [])
  else match knownF kn t with
    | some pc => some (1, pc)
    | none => (askF ss t).1.map fun pc => (2, pc)
def bumpL (ct : List Int) (w : Nat) : List Int := ct.set w (ct.getD w 0 + 1)
def layF (ss : List (List Row)) (kn : List (List Int)) : List (Int × Int × Int) → Int → List (Option Int) → List Int → List Wr × List Int × Bool
  | [], _, _, ct => ([], ct, false)
  | t :: ts, pl, cs, ct => match stepL ss kn cs pl t with
    | none => ([], ct, true)
    | some wp => (putW cs pl.toNat wp.2 ++ (layF ss kn ts (pl + t.2.2) (applyW (putW cs pl.toNat wp.2) cs) (bumpL ct wp.1)).1, (layF ss kn ts (pl + t.2.2) (applyW (putW cs pl.toNat wp.2) cs) (bumpL ct wp.1)).2)
def layD (r : List Int × Bool) : PyData := .tuple (r.1.map .int ++ [if r.2 = true then .int r.1.sum else .none])
/-- each piece has its place -/
def fitsL : List (Int × Int × Int) → Int → Prop
  | [], _ => True
  | t :: ts, pl => 0 ≤ pl ∧ 0 ≤ t.2.2 ∧ t.2.2 ≤ 3 ∧ pl + t.2.2 ≤ 54 ∧ fitsL ts (pl + t.2.2)
theorem bumpL_ok {ct : List Int} {w : Nat} (h : ct.length = 3) (hw : w < 3) : (bumpL ct w).length = 3 ∧ (bumpL ct w).sum = ct.sum + 1 := by
  obtain ⟨a, b, c, rfl⟩ : ∃ a b c, ct = [a, b, c] := by
    match ct, h with
    | [a, b, c], _ => exact ⟨a, b, c, rfl⟩
  have : w = 0 ∨ w = 1 ∨ w = 2 := by omega
  rcases this with rfl | rfl | rfl <;> simp [bumpL] <;> omega
theorem knownF_some : ∀ {cs : List (List Int)} {t : Int × Int × Int} {c : List Int}, knownF cs t = some c → titleF c = t ∧ c ∈ cs := by
  intro cs
  suffices hh : ∀ (n : Nat) {cs : List (List Int)} {t : Int × Int × Int} {c : List Int}, cs.length = n → knownF cs t = some c → titleF c = t ∧ c ∈ cs from fun {t c} => hh cs.length rfl
  intro n
  induction n with
  | zero => intro cs t c hn h; rw [List.length_eq_zero_iff.mp hn] at h; cases h
  | succ n ih =>
    intro cs0 t c hn h
    obtain ⟨cs, d, rfl⟩ : ∃ cs c, cs0 = cs ++ [c] := by
      rcases List.eq_nil_or_concat cs0 with z | ⟨l, c, z⟩
      · rw [z] at hn; cases hn
      · exact ⟨l, c, by rw [z, List.concat_eq_append]⟩
    rw [List.length_append, List.length_singleton] at hn
    rw [knownF_more] at h
    by_cases ht : titleF d = t
    · rw [if_pos ht] at h
      cases h
      exact ⟨ht, by simp⟩
    · rw [if_neg ht] at h
      have := ih (by omega) h
      exact ⟨this.1, List.mem_append_left _ this.2⟩
theorem askR_some {t : Int × Int × Int} {pc : List Int} : ∀ {rs : List Row} {n : Nat}, (askR t rs n).1 = some pc → titleF pc = t ∧ (t, pc) ∈ rs
  | [], _, h => nomatch h
  | r :: rs, n, h => by
    by_cases h1 : r.1 = t
    · by_cases h2 : titleF r.2 = t
      · rw [askR_good h1 h2] at h
        cases h
        refine ⟨h2, ?_⟩
        rw [← h1]; exact List.mem_cons_self ..
      · rw [askR_bad h1 h2] at h
        have := askR_some h
        exact ⟨this.1, List.mem_cons_of_mem _ this.2⟩
    · rw [askR_other h1] at h
      have := askR_some h
      exact ⟨this.1, List.mem_cons_of_mem _ this.2⟩
theorem askF_some {ss : List (List Row)} {t : Int × Int × Int} {pc : List Int} (g : gStores ss) (h : (askF ss t).1 = some pc) : titleF pc = t ∧ ∀ n ∈ pc, 0 ≤ n ∧ n ≤ 9972 := by
  obtain ⟨h1, h2⟩ := askR_some h
  obtain ⟨st, h3, h4⟩ := List.mem_flatten.mp h2
  exact ⟨h1, ((g.2.2 st h3).2 _ h4).2.2⟩
theorem title_len {pc : List Int} {t : Int × Int × Int} (h : titleF pc = t) : (pc.length : Int) = t.2.2 := by rw [← h]; rfl
/-- what is put fits -/
theorem stepL_ok {ss : List (List Row)} {kn : List (List Int)} {cs : List (Option Int)} {pl : Int} {t : Int × Int × Int} {w : Nat} {pc : List Int} (g : gStores ss) (hk : ∀ c ∈ kn, ∀ n ∈ c, 0 ≤ n ∧ n ≤ 9972) (ht : 0 ≤ t.2.2) (h : stepL ss kn cs pl t = some (w, pc)) : w < 3 ∧ (pc.length : Int) ≤ t.2.2 ∧ ∀ n ∈ pc, 0 ≤ n ∧ n ≤ 9972 := by
  unfold stepL at h
  split at h
  · cases h; exact ⟨by decide, by simpa using ht, by simp⟩
  · cases hn : knownF kn t with
    | some c =>
      rw [hn] at h
      cases h
      obtain ⟨h1, h2⟩ := knownF_some hn
      exact ⟨by decide, by rw [title_len h1]; exact Int.le_refl _, hk _ h2⟩
    | none =>
      rw [hn] at h
      dsimp only at h
      cases ha : (askF ss t).1 with
      | none => rw [ha] at h; cases h
      | some c =>
        rw [ha] at h
        cases h
        obtain ⟨h1, h2⟩ := askF_some g ha
        exact ⟨by decide, by rw [title_len h1]; exact Int.le_refl _, h2⟩
theorem piecesF_mem {ns c : List Int} (h : c ∈ piecesF ns) : ∀ n ∈ c, n ∈ ns := by
  unfold piecesF at h
  obtain ⟨k, -, rfl⟩ := List.mem_map.mp h
  intro n hn
  exact List.mem_of_mem_drop (List.mem_of_mem_take hn)
theorem layF_at {ss : List (List Row)} {kn : List (List Int)} (g : gStores ss) (hk : ∀ c ∈ kn, ∀ n ∈ c, 0 ≤ n ∧ n ≤ 9972) : ∀ {ts : List (Int × Int × Int)} {pl : Int} {cs : List (Option Int)} {ct : List Int}, fitsL ts pl → ∀ p ∈ (layF ss kn ts pl cs ct).1, (pl.toNat ≤ p.1 ∧ p.1 < pl.toNat + (ts.map fun t => t.2.2.toNat).sum) ∧ 0 ≤ p.2 ∧ p.2 ≤ 9972
  | [], _, _, _, _, p, hp => by cases hp
  | t :: ts, pl, cs, ct, h, p, hp => by
    obtain ⟨h1, h2, h3, h4, h5⟩ := h
    unfold layF at hp
    cases e : stepL ss kn cs pl t with
    | none => rw [e] at hp; cases hp
    | some wp =>
      obtain ⟨w, pc⟩ := wp
      rw [e] at hp
      obtain ⟨k1, k2, k3⟩ := stepL_ok g hk h2 e
      rw [List.map_cons, List.sum_cons]
      rcases List.mem_append.mp hp with hp | hp
      · have := putW_ok k3 p hp
        omega
      · have := layF_at g hk h5 p hp
        omega
/-- how many are laid at most -/
theorem layF_len {ss : List (List Row)} {kn : List (List Int)} (g : gStores ss) (hk : ∀ c ∈ kn, ∀ n ∈ c, 0 ≤ n ∧ n ≤ 9972) : ∀ {ts : List (Int × Int × Int)} {pl : Int} {cs : List (Option Int)} {ct : List Int}, fitsL ts pl → (layF ss kn ts pl cs ct).1.length ≤ 3 * ts.length
  | [], _, _, _, _ => by simp [layF]
  | t :: ts, pl, cs, ct, h => by
    obtain ⟨h1, h2, h3, h4, h5⟩ := h
    unfold layF
    cases e : stepL ss kn cs pl t with
    | none => simp
    | some wp =>
      obtain ⟨w, pc⟩ := wp
      obtain ⟨k1, k2, k3⟩ := stepL_ok g hk h2 e
      dsimp only
      rw [List.length_append, List.length_cons]
      have := putW_len cs pl.toNat pc
      have := layF_len g hk (cs := applyW (putW cs pl.toNat pc) cs) (ct := bumpL ct w) h5
      omega
theorem layF_ct {ss : List (List Row)} {kn : List (List Int)} (g : gStores ss) (hk : ∀ c ∈ kn, ∀ n ∈ c, 0 ≤ n ∧ n ≤ 9972) : ∀ {ts : List (Int × Int × Int)} {pl : Int} {cs : List (Option Int)} {ct : List Int}, fitsL ts pl → ct.length = 3 → (layF ss kn ts pl cs ct).2.1.length = 3
  | [], _, _, _, _, h => h
  | t :: ts, pl, cs, ct, h, h3 => by
    obtain ⟨h1, h2, _, h4, h5⟩ := h
    unfold layF
    cases e : stepL ss kn cs pl t with
    | none => exact h3
    | some wp => exact layF_ct g hk h5 (bumpL_ok h3 (stepL_ok g hk h2 e).1).1
theorem fits_sum : ∀ {ts : List (Int × Int × Int)} {pl : Int}, 0 ≤ pl → (∀ t ∈ ts, 0 ≤ t.2.2 ∧ t.2.2 ≤ 3) → pl + (ts.map fun t => t.2.2).sum ≤ 54 → fitsL ts pl
  | [], _, _, _, _ => trivial
  | t :: ts, pl, h0, h, hs => by
    rw [List.map_cons, List.sum_cons] at hs
    have ht := h t (List.mem_cons_self ..)
    have hn : 0 ≤ (ts.map fun t => t.2.2).sum := by
      have : ∀ xs : List Int, (∀ x ∈ xs, 0 ≤ x) → 0 ≤ xs.sum := fun xs => by
        induction xs with
        | nil => intro _; simp
        | cons x xs ih => intro h; have := h x (List.mem_cons_self ..); have := ih fun y hy => h y (List.mem_cons_of_mem _ hy); rw [List.sum_cons]; omega
      exact this _ fun x hx => by obtain ⟨t, h1, rfl⟩ := List.mem_map.mp hx; exact (h t (List.mem_cons_of_mem _ h1)).1
    exact ⟨h0, ht.1, ht.2, by omega, fits_sum (by omega) (fun u hu => h u (List.mem_cons_of_mem _ hu)) (by omega)⟩
theorem sizesF_sum {n : Int} (h1 : 1 ≤ n) (h2 : n ≤ 12) : (sizesF n).sum = n := by
  have : n = 1 ∨ n = 2 ∨ n = 3 ∨ n = 4 ∨ n = 5 ∨ n = 6 ∨ n = 7 ∨ n = 8 ∨ n = 9 ∨ n = 10 ∨ n = 11 ∨ n = 12 := by omega
  rcases this with rfl | rfl | rfl | rfl | rfl | rfl | rfl | rfl | rfl | rfl | rfl | rfl <;> decide
theorem gman.fits {m : Man} (g : gman m) {s : Int} (hs : s = 0 ∨ s = 1) : fitsL m.ts (slotB s + 7) := by
  have hb := slotB_b hs
  refine fits_sum (by omega) (fun t ht => g.three ht) ?_
  rw [g.sizes, sizesF_sum g.many.1 g.many.2]
  have := g.many
  rcases hs with rfl | rfl <;> simp [slotB] <;> omega
theorem gman.span {m : Man} (g : gman m) : (m.ts.map fun t => t.2.2.toNat).sum = m.many.toNat := by
  have h : ∀ ts : List (Int × Int × Int), (∀ t ∈ ts, 0 ≤ t.2.2) → (((ts.map fun t => t.2.2.toNat).sum : Nat) : Int) = (ts.map fun t => t.2.2).sum := by
    intro ts
    induction ts with
    | nil => intro _; rfl
    | cons t ts ih =>
      intro h
      have := h t (List.mem_cons_self ..)
      have := ih fun u hu => h u (List.mem_cons_of_mem _ hu)
      rw [List.map_cons, List.sum_cons, List.map_cons, List.sum_cons]
      omega
  have := h m.ts fun t ht => (g.three ht).1
  rw [g.sizes, sizesF_sum g.many.1 g.many.2] at this
  omega
/-! ### the whole update -/
def updN (b : Rec) (cs : List (Option Int)) : List Wr := if b.2.1 = 1 then noteW cs 4 (b.1, 0, 0) else []
def updC (b : Rec) (cs : List (Option Int)) : List (Option Int) := applyW (openW (1 - b.1) (applyW (updN b cs) cs)) (applyW (updN b cs) cs)
def updR (b : Rec) (mn : Man) (ss : List (List Row)) (cs : List (Option Int)) : List Wr × List Int × Bool := layF ss (piecesF (rowOf cs b.1)) mn.ts (slotB (1 - b.1) + 7) (updC b cs) [0, 0, 0]
def updE (b : Rec) (tries : Int) (mn : Man) : List (Option Int) → List Wr := thenW (closeW (1 - b.1) mn.h) fun c => noteW c 4 (b.1, 1, tries)
def updWb (b : Rec) (ks : List Int) (tries : Int) (mn : Man) (ss : List (List Row)) (cs : List (Option Int)) : List Wr :=
  if refB b.1 cs ks mn ≠ "" then [] else updN b cs ++ (openW (1 - b.1) (applyW (updN b cs) cs) ++ ((updR b mn ss cs).1 ++ (if (updR b mn ss cs).2.2 = true then [] else updE b tries mn (applyW (updR b mn ss cs).1 (updC b cs)))))
def updDb (b : Rec) (ks : List Int) (mn : Man) (ss : List (List Row)) (cs : List (Option Int)) : PyData :=
  if refB b.1 cs ks mn ≠ "" then .tuple [.str (refB b.1 cs ks mn)] else if (updR b mn ss cs).2.2 = true then .tuple [.str "lacks", .int (updR b mn ss cs).2.1.sum] else .tuple (.str "laid" :: (updR b mn ss cs).2.1.map .int)
def updW (ks : List Int) (tries : Int) (mn : Man) (ss : List (List Row)) (cs : List (Option Int)) : List Wr := updWb (bookedO cs) ks tries mn ss cs
def updD (ks : List Int) (mn : Man) (ss : List (List Row)) (cs : List (Option Int)) : PyData := updDb (bookedO cs) ks mn ss cs
theorem refB_good {t : Int} {cs : List (Option Int)} {ks : List Int} {m : Man} (h : refB t cs ks m = "") : whyF cs ks t = "" := by
  unfold refB at h
  split at h
  · exact absurd h (by decide +kernel)
  · rename_i z; exact Decidable.of_not_not z
/-- writes that leave a slot and the floors -/
def farW (t : Int) (ws : List Wr) : Prop := ∀ p ∈ ws, 4 ≤ p.1 ∧ (p.1 < 16 ∨ ((slotB (1 - t)).toNat ≤ p.1 ∧ p.1 < (slotB (1 - t)).toNat + 19))
theorem farW_app {t : Int} {a b : List Wr} (h1 : farW t a) (h2 : farW t b) : farW t (a ++ b) := fun p hp => (List.mem_append.mp hp).elim (h1 p) (h2 p)
theorem far_head {t : Int} {ws : List Wr} {cs : List (Option Int)} (ht : t = 0 ∨ t = 1) (h : farW t ws) : headL (applyW ws cs) t = headL cs t := by
  refine headL_out ht fun p hp => ?_
  have := h p hp
  rcases ht with rfl | rfl <;> simp [slotB] at this ⊢ <;> omega
theorem far_parts {t n : Int} {ws : List Wr} {cs : List (Option Int)} (ht : t = 0 ∨ t = 1) (h : farW t ws) (hn : n ≤ 12) : partsL (applyW ws cs) t n = partsL cs t n := by
  refine partsL_out ht (fun p hp => ?_) hn
  have := h p hp
  rcases ht with rfl | rfl <;> simp [slotB] at this ⊢ <;> omega
theorem far_floor {t : Int} {ws : List Wr} {cs : List (Option Int)} (h : farW t ws) {i : Nat} (hi : i < 3) : floorO (applyW ws cs) i = floorO cs i := floor_out fun p hp => by have := h p hp; omega
theorem far_good {t : Int} {ws : List Wr} {cs : List (Option Int)} {ks : List Int} (ht : t = 0 ∨ t = 1) (h : farW t ws) (hw : whyF cs ks t = "") : whyF (applyW ws cs) ks t = "" := by
  obtain ⟨v, many, one, two, n, sl, e, h1, h2, h3, h4, h5, h6, h7⟩ := good_inv hw
  exact good_mk (by rw [far_head ht h]; exact e) h1 h2 (by rw [far_parts ht h h2]; exact h3) (by rw [far_floor h (by decide)]; exact h4) h5 h6 (by rw [far_floor h (by decide)]; exact h7)
theorem far_row {t : Int} {ws : List Wr} {cs : List (Option Int)} {ks : List Int} (ht : t = 0 ∨ t = 1) (h : farW t ws) (hw : whyF cs ks t = "") : rowOf (applyW ws cs) t = rowOf cs t := by
  obtain ⟨v, many, one, two, n, sl, e, h1, h2, -⟩ := good_inv hw
  unfold rowOf
  rw [far_head ht h, e]
  show (allI (partsL (applyW ws cs) t many)).getD [] = (allI (partsL cs t many)).getD []
  rw [far_parts ht h h2]
theorem noteW_far {t : Int} {cs : List (Option Int)} {r : Rec} : farW t (noteW cs 4 r) := fun p hp => by
  have h1 := noteW_at _ _ _ p hp
  have h2 := pages_in cs 4
  omega
theorem openW_far {t : Int} {cs : List (Option Int)} (ht : t = 0 ∨ t = 1) : farW t (openW (1 - t) cs) := fun p hp => by
  have := openW_at p hp
  rcases ht with rfl | rfl <;> simp [slotB] at this ⊢ <;> omega
theorem closeW_far {t : Int} {hd : List Int} {cs : List (Option Int)} (ht : t = 0 ∨ t = 1) (h6 : hd.length = 6) : farW t (closeW (1 - t) hd cs) := fun p hp => by
  have := closeW_at h6 p hp
  rcases ht with rfl | rfl <;> simp [slotB] at this ⊢ <;> omega
theorem updN_far {b : Rec} {cs : List (Option Int)} : farW b.1 (updN b cs) := by
  unfold updN
  split
  · exact noteW_far
  · exact fun p hp => by cases hp
theorem row_b {cs : List (Option Int)} (h : bnd cs) (t : Int) : ∀ n ∈ rowOf cs t, 0 ≤ n ∧ n ≤ 9972 := by
  intro n hn
  unfold rowOf at hn
  cases e : allI (partsL cs t (((headL cs t).getD 2 none).getD 0)) with
  | none => rw [e] at hn; cases hn
  | some ns =>
    rw [e] at hn
    have := allI_inv e
    exact partsL_b h (s := t) (many := ((headL cs t).getD 2 none).getD 0) (by rw [this]; exact List.mem_map_of_mem hn)
theorem known_b {cs : List (Option Int)} (h : bnd cs) (t : Int) : ∀ c ∈ piecesF (rowOf cs t), ∀ n ∈ c, 0 ≤ n ∧ n ≤ 9972 := fun c hc n hn => row_b h t n (piecesF_mem hc n hn)
theorem layF_far {ss : List (List Row)} {mn : Man} {cs cs' : List (Option Int)} {ct : List Int} {t : Int} (g : gStores ss) (gm : gman mn) (hb : bnd cs) (ht : t = 0 ∨ t = 1) : farW t (layF ss (piecesF (rowOf cs t)) mn.ts (slotB (1 - t) + 7) cs' ct).1 := fun p hp => by
  have h := (layF_at g (known_b hb t) (gm.fits (other_slot ht).1) p hp).1
  rw [gm.span] at h
  have := gm.many
  rcases ht with rfl | rfl <;> simp [slotB] at h ⊢ <;> omega
theorem updN_booked {b : Rec} {cs : List (Option Int)} (hl : cs.length = 54) (hbd : bnd cs) (hb : bookedO cs = b) : bookedO (applyW (updN b cs) cs) = if b.2.1 = 1 then (b.1, 0, 0) else b := by
  unfold updN
  split
  · unfold bookedO recordO
    rw [note_whole (by omega) (by have := next_nn hbd 4; omega)]; rfl
  · exact hb
section
variable (C : Addr) (er : Er → Addr) (K : PySem.W.Frag)
def spLayX : Sp := fun vs H Q E => ∃ (M : List Addr) (m dx l : Addr) (μ : Mem) (ks : List Int) (s : Int) (ts : List (Int × Int × Int)) (ss : List (List Row)) (v u : V), vs = [.ref m, .int s, v, u] ∧ (∀ a ∈ M, ∃ o, H a = some o) ∧ m ∈ M ∧ l ∈ M ∧ MemAt C H m dx l μ ∧ μ.up = true ∧ μ.cells.length = 54 ∧ bnd μ.cells ∧ bookOk μ.cells ∧ whyF μ.cells ks (bookedO μ.cells).1 = "" ∧ s = 1 - (bookedO μ.cells).1 ∧ Dt K M H (.tuple (ts.map tripD)) v ∧ ts.length ≤ 12 ∧ fitsL ts (slotB s + 7) ∧ Dt K M H (storesD ss) u ∧ gStores ss ∧
  ranX C m dx l μ (layF ss (piecesF (rowOf μ.cells (bookedO μ.cells).1)) ts (slotB s + 7) μ.cells [0, 0, 0]).1 H (fun H1 => ∀ u H2, Fr [] H1 H2 → Dt K M H2 (layD (layF ss (piecesF (rowOf μ.cells (bookedO μ.cells).1)) ts (slotB s + 7) μ.cells [0, 0, 0]).2) u → Q u H2) (E (.ref (er .stopped)) none)
def spUpdX : Sp := fun vs H Q E => ∃ (M : List Addr) (m dx l : Addr) (μ : Mem) (ks : List Int) (tries j : Int) (mn : Man) (ss : List (List Row)) (v u w : V), vs = [.ref m, v, .int tries, u, w] ∧ (∀ a ∈ M, ∃ o, H a = some o) ∧ m ∈ M ∧ l ∈ M ∧ MemAt C H m dx l μ ∧ μ.up = true ∧ μ.cells.length = 54 ∧ bnd μ.cells ∧ bookOk μ.cells ∧ pgn j μ.cells ∧ 0 ≤ j ∧ j ≤ 9000 ∧ Dt K M H (keysD ks) v ∧ gk ks ∧ 1 ≤ tries ∧ tries ≤ 3 ∧ Dt K M H (manD mn) u ∧ gman mn ∧ Dt K M H (storesD ss) w ∧ gStores ss ∧
  ranX C m dx l μ (updW ks tries mn ss μ.cells) H (fun H1 => ∀ u H2, Fr [] H1 H2 → Dt K M H2 (updD ks mn ss μ.cells) u → Q u H2) (E (.ref (er .stopped)) none)
def spLUpd : Sp := fun vs H Q _ => ∃ (M : List Addr) (d c g : Addr) (cs : List (Option Int)) (ws0 : List Wr) (ks : List Int) (tries j : Int) (mn : Man) (ss : List (List Row)) (v u w : V), vs = [.ref d, v, .int tries, u, w] ∧ (∀ a ∈ M, ∃ o, H a = some o) ∧ LogAt K M H d c g cs ws0 ∧ cs.length = 54 ∧ bnd cs ∧ bookOk cs ∧ pgn j cs ∧ 0 ≤ j ∧ j ≤ 9000 ∧ Dt K M H (keysD ks) v ∧ gk ks ∧ 1 ≤ tries ∧ tries ≤ 3 ∧ Dt K M H (manD mn) u ∧ gman mn ∧ Dt K M H (storesD ss) w ∧ gStores ss ∧ ws0.length ≤ 300 ∧
  logX K M d c g cs ws0 (updW ks tries mn ss cs) H (fun H1 => ∀ u H2, Fr [] H1 H2 → Dt K M H2 (updD ks mn ss cs) u → Q u H2)
end
section
variable {K : PySem.W.Frag} {M N : List Addr} {H H' : Hp} {p q : Addr} {cs : List (List Int)}
theorem DTAt.mono (h : DTAt K M H p cs) (f : Fr N H H') (hN : ∀ d ∈ N, d ∈ M) (hp : p ∉ N) : DTAt K M H' p cs := by
  obtain ⟨kvs, e, hl, g⟩ := h
  exact ⟨kvs, f _ _ hp e, hl, fun j c ec => by
    obtain ⟨a, e1, e2⟩ := g j c ec
    exact ⟨a, e1, e2.mono (f.wk hN)⟩⟩
/-- a piece, put while a memory is written -/
theorem Dt.put {ns : List Int} {m l : Addr} (h : Dt K M H (.tuple (ns.map .int)) (.ref p)) (hm : m ∈ M) (hl : l ∈ M) : SqE K H p (ns.map V.int) ∧ (p ∉ [m, l] ∨ ∀ H', SqE K H' p (ns.map V.int)) := by
  obtain ⟨xs, s, r⟩ := h.tup
  refine ⟨Dt.sq (.inr h), ?_⟩
  have hx : xs = ns.map V.int := DtL.ints.mp r
  rcases s.2 with z | z
  · refine .inl fun y => ?_
    simp only [List.mem_cons, List.not_mem_nil, or_false] at y
    rcases y with rfl | rfl
    · exact z hm
    · exact z hl
  · refine .inr fun H' => .inr ?_
    rw [← hx]; exact z H'
end
section
variable {K : PySem.W.Frag} {M N : List Addr} {H H' H1 Hc : Hp} {H0 : Bs} {p q m dx l C : Addr} {μ : Mem} {ws ws2 : List Wr} {L : List (Addr × HO)} {Ds : List (PyData × V)} {Q : VK} {E : XK} {Q1 Q2 S : Hp → Prop} {xs : List (Option Int)} {cs : List (List Int)}
/-- the first writes; then the others, told of at the heap ahead of all -/
theorem ranX_appB (k : ranX C m dx l μ (ws ++ ws2) H Q2 S) (f : Fr [m, l] H Hc) (next : ∀ H1 μ1, Fr [m, l] Hc H1 → MemAt C H1 m dx l μ1 → μ1.cells = applyW ws μ.cells → μ1.up = μ.up → ranX C m dx l μ1 ws2 H Q2 S → Q1 H1) : ranX C m dx l μ ws Hc Q1 S := by
  intro H1 f1 hM
  refine ⟨fun hw => ?_, fun hw => ?_⟩
  · refine next H1 _ f1 hM (run_cells hw) (run_upT hw) fun H2 g hM2 => ?_
    rw [← run_ok hw] at hM2 ⊢
    exact k H2 g hM2
  · have := k H1 (f.trans f1) (by rw [run_no hw]; exact hM)
    exact this.2 (by rw [run_no hw]; exact hw)
theorem logX_appB {d c g : Addr} {os : List (Option Int)} {ws0 : List Wr} (k : logX K M d c g os ws0 (ws ++ ws2) H Q2) (f : Fr [c, g] H Hc) (next : ∀ H1, Fr [c, g] Hc H1 → LogAt K N H1 d c g (applyW ws os) (ws0 ++ ws) → logX K M d c g (applyW ws os) (ws0 ++ ws) ws2 H Q2 → Q1 H1) : logX K N d c g os ws0 ws Hc Q1 := by
  intro H1 f1 hL
  refine next H1 f1 hL fun H2 g2 hL2 => ?_
  rw [← applyW_app, List.append_assoc] at hL2
  exact k H2 g2 hL2
theorem DTAt.cons (h : DTAt K M H p cs) (n : H q = none) : DTAt K (q :: M) H p cs := by
  obtain ⟨kvs, e, hl, g⟩ := h
  exact ⟨kvs, e, hl, fun j c ec => by
    obtain ⟨a, e1, e2⟩ := g j c ec
    exact ⟨a, e1, e2.cons n⟩⟩
theorem sh_title (x : Option (Int × Int × Int)) : SeqAt.shaped (titleD x) = true := by
  cases x with
  | none => rfl
  | some t => exact sh_intsT [t.1, t.2.1, t.2.2]
theorem d_neO {v u : V} {x : Option (Int × Int × Int)} {t : Int × Int × Int} (h1 : Dt K M H (titleD x) v) (h2 : Dt K M H (tripD t) u) (q : Q (.bl (!decide (x = some t))) H) : rNeD K v u H Q := by
  cases x with
  | none =>
    refine n_neD h1.dp h2.dp (sh_title none) (sh_title (some t)) ?_
    rw [show PyData.eqv (titleD none) (tripD t) = decide (none = some t) by simp [titleD, tripD, PyData.eqv]]
    exact q
  | some s => exact d_neTr (a := s) (b := t) h1 h2 (by simpa using q)
theorem use_titleO (S : Sy K H0 M H L Ds) (h : SqE K H p (xs.map ov)) (hz : xs.length ≤ 10000) (k : ∀ u H', Fr [] H H' → Sy K H0 M H' L (Ds ++ [(titleD (titleO xs), u)]) → Q u H') : spTitleN K [.ref p] H Q E := by
  refine ⟨p, xs, rfl, h, hz, fun z H' f => k _ H' f ((S.ex f).addD ?_), fun ns t H' hn f ht e => k _ H' f ((S.ex f).addD ?_)⟩
  · unfold titleO; rw [z]; exact Dt.non'
  · unfold titleO; rw [hn]
    exact Dt.tupI ⟨.inl (.inl e), .inl (S.notM ht)⟩ (DtL.cons' Dt.int' (DtL.cons' Dt.int' (DtL.cons' Dt.int' DtL.nil')))
theorem use_nameO (S : Sy K H0 M H L Ds) (h : SqE K H p (xs.map ov)) (hz : xs.length ≤ 10000) (k : ∀ u H', Fr [] H H' → Sy K H0 M H' L (Ds ++ [(titleD (titleO xs), u)]) → Q u H') : spName K [.ref p] H Q E := by
  obtain ⟨p', xs', e, h1, h2, h3, h4⟩ := use_titleO (E := E) S h hz k
  exact ⟨p', xs', e, h1, by omega, h3, h4⟩
end
section
variable {K : PySem.W.Frag} {M N : List Addr} {H HB : Hp} {L : List (Addr × HO)} {Ds : List (PyData × V)}
/-- more may be changed -/
theorem Sy.nmore (S : Sy K ⟨HB, []⟩ M H L Ds) (N : List Addr) (hn : ∀ a ∈ N, ∃ o, HB a = some o) : Sy K ⟨HB, N⟩ M H L Ds :=
  ⟨fun b o n e => S.fr b o (fun z => nomatch z) e, S.ent, S.nd, S.dat, S.dom, fun a ha => by
    obtain ⟨o, e⟩ := hn a ha
    exact ⟨o, S.fr a o (fun z => nomatch z) e⟩⟩
end
theorem layF_some {ss : List (List Row)} {kn : List (List Int)} {t : Int × Int × Int} {ts : List (Int × Int × Int)} {pl : Int} {cs : List (Option Int)} {ct : List Int} {w : Nat} {pc : List Int} (e : stepL ss kn cs pl t = some (w, pc)) :
    layF ss kn (t :: ts) pl cs ct = (putW cs pl.toNat pc ++ (layF ss kn ts (pl + t.2.2) (applyW (putW cs pl.toNat pc) cs) (bumpL ct w)).1, (layF ss kn ts (pl + t.2.2) (applyW (putW cs pl.toNat pc) cs) (bumpL ct w)).2) := by rw [layF, e]
theorem layF_none {ss : List (List Row)} {kn : List (List Int)} {t : Int × Int × Int} {ts : List (Int × Int × Int)} {pl : Int} {cs : List (Option Int)} {ct : List Int} (e : stepL ss kn cs pl t = none) : layF ss kn (t :: ts) pl cs ct = ([], ct, true) := by rw [layF, e]
theorem stepL_kept {ss : List (List Row)} {kn : List (List Int)} {t : Int × Int × Int} {pl : Int} {cs : List (Option Int)} (h : titleO (cutO cs pl t.2.2) = some t) : stepL ss kn cs pl t = some (0, []) := by unfold stepL; rw [if_pos h]
theorem stepL_known {ss : List (List Row)} {kn : List (List Int)} {t : Int × Int × Int} {pl : Int} {cs : List (Option Int)} {pc : List Int} (h : titleO (cutO cs pl t.2.2) ≠ some t) (e : knownF kn t = some pc) : stepL ss kn cs pl t = some (1, pc) := by unfold stepL; rw [if_neg h, e]
theorem stepL_asked {ss : List (List Row)} {kn : List (List Int)} {t : Int × Int × Int} {pl : Int} {cs : List (Option Int)} (h : titleO (cutO cs pl t.2.2) ≠ some t) (e : knownF kn t = none) : stepL ss kn cs pl t = (askF ss t).1.map fun pc => (2, pc) := by unfold stepL; rw [if_neg h, e]
theorem x_setF {K : PySem.W.Frag} {H : Hp} {H0 : Bs} {M : List Addr} {L : List (Addr × HO)} {Ds : List (PyData × V)} {p : Addr} {xs : List V} {k : Int} {j : Nat} {v : V} {Q : Hp → Prop} (S : Sy K H0 M H L Ds) (i : Nat) (h : L[i]? = some (p, .lst xs)) (m : p ∈ M ∧ H0.may p) (e : ixN xs.length k = some j) (q : ∀ H', Fr [p] H H' → Sy K H0 M H' (L.set i (p, .lst (xs.set j v))) Ds → Q H') : rSetL (.ref p) (.int k) v H Q :=
  x_setL (S.get i h) e (q _ (Fr.set (List.mem_singleton.mpr rfl)) (S.set i h m))
theorem MemAt.mono {C m dx l : Addr} {μ : Mem} {N : List Addr} {H H' : Hp} (h : MemAt C H m dx l μ) (f : Fr N H H') (h1 : m ∉ N) (h2 : l ∉ N) : MemAt C H' m dx l μ := ⟨f _ _ h1 h.1, f _ _ h2 h.2.1, h.2.2⟩
theorem pgn_out {j : Int} {cs : List (Option Int)} {ws : List Wr} (h : pgn j cs) (hw : ∀ p ∈ ws, 16 ≤ p.1) : pgn j (applyW ws cs) := by
  unfold pgn
  rw [applyW_outD (k := 4) fun p hp => by have := hw p hp; omega, applyW_outD (k := 10) fun p hp => by have := hw p hp; omega]
  exact h
theorem gman.head_b {m : Man} (g : gman m) : ∀ n ∈ m.h, 0 ≤ n ∧ n ≤ 9972 := by
  have gv := g.v; have gmm := g.many; have gn := g.n; have gs := g.s
  have g1 : 0 ≤ m.one ∧ m.one ≤ 9972 ∧ 0 ≤ m.two ∧ m.two ≤ 9972 := by
    have := g.sums
    have h := joinF_b m.ts
    rw [this] at h
    exact h
  intro n hn
  simp only [Man.h, List.mem_cons, List.not_mem_nil, or_false] at hn
  omega
theorem updN_ok {b : Rec} {cs : List (Option Int)} {j : Int} (hbd : bnd cs) (hb : b.1 = 0 ∨ b.1 = 1) (hpg : pgn j cs) (j0 : 0 ≤ j) (j1 : j ≤ 9000) : ∀ p ∈ updN b cs, 0 ≤ p.2 ∧ p.2 ≤ 9972 := by
  unfold updN
  split
  · have h1 := next_nn hbd 4
    have h2 := next_pgn hpg j0
    exact noteW_ok ⟨h1, by omega⟩ ⟨by dsimp only; omega, by dsimp only; omega, by dsimp only; omega⟩
  · exact fun p hp => by cases hp
theorem openW_ok {s : Int} {cs : List (Option Int)} : ∀ p ∈ openW s cs, 0 ≤ p.2 ∧ p.2 ≤ 9972 := fun p hp => by have := openW_at p hp; omega
theorem openW_16 {s : Int} {cs : List (Option Int)} (hs : s = 0 ∨ s = 1) : ∀ p ∈ openW s cs, 16 ≤ p.1 := fun p hp => by have := openW_at p hp; have := slotB_b hs; omega
theorem updN_pgn {b : Rec} {cs : List (Option Int)} {j : Int} (hl : cs.length = 54) (hpg : pgn j cs) (j0 : 0 ≤ j) : pgn (j + 1) (applyW (updN b cs) cs) := by
  unfold updN
  split
  · exact note_pgn hpg j0 hl
  · exact pgn_mono hpg (by omega)
/-- the cells behind the note and the open slot -/
theorem upd_mid {b : Rec} {cs : List (Option Int)} {ks : List Int} {j : Int} (hl : cs.length = 54) (hbd : bnd cs) (hb : bookedO cs = b) (hbo : b.1 = 0 ∨ b.1 = 1) (hpg : pgn j cs) (j0 : 0 ≤ j) (j1 : j ≤ 9000) (hw : whyF cs ks b.1 = "") :
    (updC b cs).length = 54 ∧ bnd (updC b cs) ∧ (bookedO (updC b cs)).1 = b.1 ∧ whyF (updC b cs) ks b.1 = "" ∧ rowOf (updC b cs) b.1 = rowOf cs b.1 ∧ pgn (j + 1) (updC b cs) := by
  have f1 : farW b.1 (updN b cs) := updN_far
  have f2 : farW b.1 (openW (1 - b.1) (applyW (updN b cs) cs)) := openW_far hbo
  have o16 := openW_16 (cs := applyW (updN b cs) cs) (other_slot hbo).1
  refine ⟨by unfold updC; rw [applyW_len, applyW_len, hl], bnd_applyW (bnd_applyW hbd (updN_ok hbd hbo hpg j0 j1)) openW_ok, ?_, far_good hbo f2 (far_good hbo f1 hw), ?_, pgn_out (updN_pgn hl hpg j0) o16⟩
  · unfold updC
    rw [booked_out fun p hp => .inr (o16 p hp), updN_booked hl hbd hb]
    split <;> rfl
  · unfold updC
    rw [far_row (ks := ks) hbo f2 (far_good hbo f1 hw), far_row (ks := ks) hbo f1 hw]
theorem layF_16 {ss : List (List Row)} {kn : List (List Int)} (g : gStores ss) (hk : ∀ c ∈ kn, ∀ n ∈ c, 0 ≤ n ∧ n ≤ 9972) {mn : Man} (gm : gman mn) {s : Int} (hs : s = 0 ∨ s = 1) {cs : List (Option Int)} {ct : List Int} : ∀ p ∈ (layF ss kn mn.ts (slotB s + 7) cs ct).1, 16 ≤ p.1 ∧ 0 ≤ p.2 ∧ p.2 ≤ 9972 := fun p hp => by
  have := layF_at g hk (gm.fits hs) p hp
  have := slotB_b hs
  omega
theorem closeW_ok {s : Int} {hd : List Int} {cs : List (Option Int)} (hs : s = 0 ∨ s = 1) (hb : ∀ n ∈ hd, 0 ≤ n ∧ n ≤ 9972) : ∀ p ∈ closeW s hd cs, 16 ≤ p.1 ∧ 0 ≤ p.2 ∧ p.2 ≤ 9972 := by
  intro p hp
  have hsb := slotB_b hs
  unfold closeW thenW at hp
  rcases List.mem_append.mp hp with h | h
  · have := putW_ok hb p h
    omega
  · rw [List.mem_singleton.mp h]; dsimp only; omega
/-- the cells ahead of the last note -/
theorem upd_end {b : Rec} {cs : List (Option Int)} {ks : List Int} {j : Int} {mn : Man} {ss : List (List Row)} (hl : cs.length = 54) (hbd : bnd cs) (hb : bookedO cs = b) (hbo : b.1 = 0 ∨ b.1 = 1) (hpg : pgn j cs) (j0 : 0 ≤ j) (j1 : j ≤ 9000) (hw : whyF cs ks b.1 = "") (gm : gman mn) (gs : gStores ss) :
    (applyW (updR b mn ss cs).1 (updC b cs)).length = 54 ∧ bnd (applyW (closeW (1 - b.1) mn.h (applyW (updR b mn ss cs).1 (updC b cs))) (applyW (updR b mn ss cs).1 (updC b cs))) ∧ pgn (j + 1) (applyW (closeW (1 - b.1) mn.h (applyW (updR b mn ss cs).1 (updC b cs))) (applyW (updR b mn ss cs).1 (updC b cs))) := by
  obtain ⟨a1, a2, a3, a4, a5, a6⟩ := upd_mid (ks := ks) hl hbd hb hbo hpg j0 j1 hw
  have h16 := layF_16 gs (known_b hbd b.1) gm (other_slot hbo).1 (cs := updC b cs) (ct := [0, 0, 0])
  have hco := closeW_ok (cs := applyW (updR b mn ss cs).1 (updC b cs)) (other_slot hbo).1 gm.head_b
  refine ⟨by rw [applyW_len]; exact a1, bnd_applyW (bnd_applyW a2 fun p hp => (h16 p hp).2) fun p hp => (hco p hp).2, pgn_out (pgn_out a6 fun p hp => (h16 p hp).1) fun p hp => (hco p hp).1⟩
section
variable {K : PySem.W.Frag} {M : List Addr} {H : Hp} {d c g q : Addr} {cs : List (Option Int)} {ws : List Wr}
theorem LogAt.cons (h : LogAt K M H d c g cs ws) (n : H q = none) : LogAt K (q :: M) H d c g cs ws := by
  obtain ⟨h1, h2, ⟨vs, e, hv⟩, h4, h5, h6, h7, h8, h9⟩ := h
  exact ⟨h1, h2, ⟨vs, e, hv.consM n⟩, h4, h5, h6, List.mem_cons_of_mem _ h7, List.mem_cons_of_mem _ h8, List.mem_cons_of_mem _ h9⟩
theorem LogAt.less (h : LogAt K (q :: M) H d c g cs ws) (h1 : d ∈ M) (h2 : c ∈ M) (h3 : g ∈ M) : LogAt K M H d c g cs ws := by
  obtain ⟨e1, e2, ⟨vs, e, hv⟩, h4, h5, h6, -, -, -⟩ := h
  exact ⟨e1, e2, ⟨vs, e, hv.wk fun _ z => List.mem_cons_of_mem _ z⟩, h4, h5, h6, h1, h2, h3⟩
end
theorem closeW_len {s : Int} {hd : List Int} {cs : List (Option Int)} (h6 : hd.length = 6) : (closeW s hd cs).length ≤ 7 := by
  show (putW cs ((slotB s).toNat + 1) hd ++ [((slotB s).toNat, 1)]).length ≤ 7
  rw [List.length_append, List.length_singleton]
  have := putW_len cs ((slotB s).toNat + 1) hd
  omega
theorem piece_pos {ns c : List Int} (h : c ∈ piecesF ns) : 1 ≤ c.length := by
  unfold piecesF at h
  obtain ⟨k, hk, rfl⟩ := List.mem_map.mp h
  rw [List.mem_range] at hk
  unfold pieceN at hk
  rw [List.length_take, List.length_drop]
  omega
theorem mem_ins {α : Type} {xs : List α} {i : Nat} {y z : α} : z ∈ xs.take i ++ [y] ++ xs.drop i ↔ z = y ∨ z ∈ xs := by
  have h : z ∈ xs ↔ z ∈ xs.take i ∨ z ∈ xs.drop i := by
    conv => lhs; rw [← List.take_append_drop i xs]
    exact List.mem_append
  rw [List.mem_append, List.mem_append, List.mem_singleton, h]
  exact ⟨fun q => q.elim (fun q => q.elim (fun q => .inr (.inl q)) .inl) fun q => .inr (.inr q), fun q => q.elim (fun q => .inl (.inr q)) fun q => q.elim (fun q => .inl (.inl q)) .inr⟩
section
variable {K : PySem.W.Frag} {H : Hp} {H0 : Bs} {M : List Addr} {a r : Addr} {q : Rho} {L : List (Addr × HO)} {Ds : List (PyData × V)} {Q : VK} {σ : L2.St} {te : TE} {j n : Nat} {C : PyData → Prop}
/-- [a drawn datum for k in range(n)] -/
theorem lc_drawT (S : Sy K H0 M H ((r, rowO a q) :: L) Ds) (hM : r ∈ M ∧ H0.may r) (hq : q.ok) (hn : n ≤ 10000)
    (hte : ∀ (v : V) (M' : List Addr) (H' : Hp) (q' : Rho) (L' : List (Addr × HO)) (E : List (PyData × V)) (Q' : VK), r ∈ M' ∧ H0.may r → q'.ok → Sy K H0 M' H' ((r, rowO a q') :: L') (Ds ++ E) →
      (∀ (d : PyData) (x : V) (q'' : Rho) (H'' : Hp), C d → q''.ok → Sy K H0 M' H'' ((r, rowO a q'') :: L') ((Ds ++ E) ++ [(d, x)]) → Q' x H'') → te ((σ.set j none).set j (some v)) H' Q')
    (k : ∀ (D : Addr) (ds : List PyData) (vs : List V) (q' : Rho) (H' : Hp), H D = none → H0.h D = none → ds.length = n → (∀ d ∈ ds, C d) → q'.ok → DtL K (D :: M) H' ds vs → Sy K H0 (D :: M) H' ((r, rowO a q') :: (L ++ [(D, .lst vs)])) Ds → Q (.ref D) H') :
    LcO (gName j) tYes te [j] σ Q (Itr 0 n) H := by
  intro D hD
  have DF := S.free hD
  have DN := S.notM hD
  refine lc_range (lo := 0) (n := n) (fun i H' => i ≤ n ∧ ∃ (ds : List PyData) (vs : List V) (q' : Rho), ds.length = i ∧ vs.length = i ∧ (∀ x ∈ ds, C x) ∧ q'.ok ∧ Sy K H0 (D :: M) H' ((r, rowO a q') :: (L ++ [(D, .lst vs)])) (Ds ++ ds.zip vs)) ?_ ?_ ?_
  · exact ⟨Nat.zero_le _, [], [], q, rfl, rfl, (fun _ h => nomatch h), hq, by simpa using S.newM hD⟩
  · rintro i H' hi ⟨_, ds, vs, q', hx, hv, hC, ok, S'⟩
    have e1 : wipe ((wipe σ [j]).set j (some (V.int (0 + (i : Int))))) [j] = wipe σ [j] := by
      show ((((σ.set j none).set j _)).set j none) = σ.set j none
      rw [List.set_set, List.set_set]
    refine ⟨e1, ?_⟩
    refine hte (.int (0 + (i : Int))) (D :: M) H' q' _ _ _ ⟨List.mem_cons_of_mem _ hM.1, hM.2⟩ ok S' fun d x q'' H'' c ok' S'' => ?_
    have gD : ((r, rowO a q'') :: (L ++ [(D, HO.lst vs)]))[L.length + 1]? = some (D, .lst vs) := by simp
    refine ⟨vs, S''.get (L.length + 1) gD, ?_, ?_⟩
    · rw [hv]; exact szl (by omega)
    · refine ⟨by omega, ds ++ [d], vs ++ [x], q'', by simp [hx], by simp [hv], ?_, ok', ?_⟩
      · intro y hy
        rcases List.mem_append.mp hy with hy | hy
        · exact hC y hy
        · rw [List.mem_singleton.mp hy]; exact c
      · have T := S''.set (o' := .lst (vs ++ [x])) (L.length + 1) gD ⟨List.mem_cons_self .., .inr DF⟩
        rw [show (((r, rowO a q'') :: (L ++ [(D, HO.lst vs)])).set (L.length + 1) (D, .lst (vs ++ [x]))) = ((r, rowO a q'') :: (L ++ [(D, .lst (vs ++ [x]))])) by
          simp, List.append_assoc] at T
        rw [List.zip_append (by omega)]
        exact T
  · rintro H' ⟨_, ds, vs, q', hx, hv, hC, ok, S'⟩
    have hr : DtL K (D :: M) H' ds vs := DtL.of_zip (by omega) fun x hx => S'.dat x (List.mem_append_right _ hx)
    exact k D ds vs q' H' hD DF hx hC ok hr (S'.subD (Ds' := Ds) (fun x hx => List.mem_append_left _ hx))
end
theorem DtL.set {K : PySem.W.Frag} {M : List Addr} {H : Hp} {ds : List PyData} {vs : List V} {d : PyData} {v : V} {i : Nat} (h : DtL K M H ds vs) (hi : i < vs.length) (hd : Dt K M H d v) : DtL K M H (ds.set i d) (vs.set i v) := by
  have hl := h.len
  rw [List.set_eq_take_append_cons_drop, if_pos (by omega), List.set_eq_take_append_cons_drop, if_pos hi]
  exact DtL.append (DtL.take _ h) (DtL.cons' hd (DtL.drop _ h))
theorem cutG_to {xs : List PyData} {b : Int} (h : 0 ≤ b) : cutG xs none (some b) = xs.take b.toNat := by
  unfold cutG
  have e1 : HT.sIx xs.length 0 none = 0 := rfl
  have e2 : HT.sIx xs.length xs.length (some b) = min b.toNat xs.length := by simp only [HT.sIx]; split <;> omega
  rw [e1, e2, List.drop_zero, Nat.sub_zero, ← List.take_eq_take_min]
theorem d_slET {K : PySem.W.Frag} {M : List Addr} {H : Hp} {H0 : Bs} {L : List (Addr × HO)} {Ds : List (PyData × V)} {Q : VK} {ds : List PyData} {p : Addr} {lo hi : Option Int} (S : Sy K H0 M H L Ds) (h : Dt K M H (.tuple ds) (.ref p)) (q : ∀ u H', Sy K H0 M H' L (Ds ++ [(.tuple (cutG ds lo hi), .ref u)]) → Q (.ref u) H') : rSlE K (.ref p) lo hi H Q := by
  obtain ⟨xs, s, r⟩ := h.tup
  refine .inr ⟨p, xs, rfl, s.1, ?_⟩
  have hz := r.len
  refine ⟨fun z => ?_, fun _ => d_newT S (r.cut (lo := lo) (hi := hi)) q⟩
  have e : cutG ds lo hi = ds := by
    unfold cutG
    rw [← hz, z.1, z.2, Nat.sub_zero, List.drop_zero, hz, List.take_length]
  exact q _ H (S.addD (by rw [e]; exact h))
theorem depL_map {α : Type} {f : α → PyData} {n : Nat} (h : ∀ x, (f x).depth ≤ n) : ∀ xs : List α, PyData.depthAll (xs.map f) ≤ n
  | [] => by simp [PyData.depthAll]
  | x :: xs => by
    have h1 := h x
    have h2 := depL_map h xs
    simp only [List.map_cons, PyData.depthAll]
    omega
theorem layL_map {α : Type} {f : α → PyData} (h : ∀ x, (f x).canLay0 = true) : ∀ xs : List α, PyData.canLayAll0 (xs.map f) = true
  | [] => by simp [PyData.canLayAll0]
  | x :: xs => by
    have h1 := h x
    have h2 := layL_map h xs
    simp [PyData.canLayAll0, h1, h2]
theorem int_dep (n : Int) : (PyData.int n).depth ≤ 0 := by simp [PyData.depth]
theorem int_lay (n : Int) : (PyData.int n).canLay0 = true := by simp [PyData.canLay0]
theorem row_dep (r : Row) : (rowD r).depth ≤ 2 := by
  have h := depL_map int_dep r.2
  simp only [rowD, tripD, PyData.depth, PyData.depthAll]
  omega
theorem row_lay (r : Row) : (rowD r).canLay0 = true := by
  have h := layL_map int_lay r.2
  simp [rowD, tripD, PyData.canLay0, PyData.canLayAll0, h]
theorem store_dep (st : List Row) : (storeD st).depth ≤ 3 := by
  have h := depL_map row_dep st
  simp only [storeD, PyData.depth]
  omega
theorem store_lay (st : List Row) : (storeD st).canLay0 = true := by
  have h := layL_map row_lay st
  simp [storeD, PyData.canLay0, h]
theorem sh_stores (ss : List (List Row)) : SeqAt.shaped (storesD ss) = true := by
  have h1 := depL_map store_dep ss
  have h2 := layL_map store_lay ss
  unfold storesD
  simp [SeqAt.shaped, PyData.canLay0, PyData.depth, h2]
  omega
theorem updD_dep (ks : List Int) (mn : Man) (ss : List (List Row)) (cs : List (Option Int)) : (updD ks mn ss cs).depth ≤ 4 := by
  unfold updD updDb
  split
  · simp [PyData.depth, PyData.depthAll]
  · split
    · simp [PyData.depth, PyData.depthAll]
    · have h := depL_map int_dep (updR (bookedO cs) mn ss cs).2.1
      simp only [PyData.depth, PyData.depthAll]
      omega
theorem updD_ok {ks : List Int} {mn : Man} {ss : List (List Row)} {cs : List (Option Int)} (h : (updR (bookedO cs) mn ss cs).2.1.length ≤ 3) : okD (updD ks mn ss cs) = true := by
  unfold updD updDb
  split
  · simp [okD, okD.okDL]
  · split
    · simp [okD, okD.okDL]
    · have := okDL_ints (updR (bookedO cs) mn ss cs).2.1
      simp [okD, okD.okDL, this]
      omega
theorem updW_at {ks : List Int} {tries j : Int} {mn : Man} {ss : List (List Row)} {cs : List (Option Int)} (hl : cs.length = 54) (hbd : bnd cs) (hbo : bookOk cs) (hpg : pgn j cs) (j0 : 0 ≤ j) (j1 : j ≤ 9000) (gm : gman mn) (gs : gStores ss) (t1 : 1 ≤ tries) (t3 : tries ≤ 3) :
    farW (bookedO cs).1 (updW ks tries mn ss cs) ∧ ∀ p ∈ updW ks tries mn ss cs, p.1 < 54 ∧ 0 ≤ p.2 ∧ p.2 ≤ 9972 := by
  obtain ⟨b, hb⟩ : ∃ b, b = bookedO cs := ⟨_, rfl⟩
  unfold bookOk at hbo
  unfold updW
  rw [← hb] at hbo ⊢
  unfold updWb
  split
  · exact ⟨fun p hp => (by cases hp), fun p hp => (by cases hp)⟩
  · rename_i hr
    have hw := refB_good (Decidable.of_not_not hr)
    have hso := (other_slot hbo).1
    have hsb := slotB_b hso
    obtain ⟨e1, e2, e3⟩ := upd_end (ks := ks) (mn := mn) hl hbd hb.symm hbo hpg j0 j1 hw gm gs
    have f3 : farW b.1 (updR b mn ss cs).1 := layF_far gs gm hbd hbo
    have hlt : ∀ {ws : List Wr}, farW b.1 ws → ∀ p ∈ ws, p.1 < 54 := fun h p hp => by
      have := h p hp
      rcases hbo with z | z <;> rw [z] at this <;> simp [slotB] at this <;> omega
    have f5 : farW b.1 (if (updR b mn ss cs).2.2 = true then [] else updE b tries mn (applyW (updR b mn ss cs).1 (updC b cs))) := by
      split
      · exact fun p hp => by cases hp
      · exact farW_app (closeW_far hbo rfl) noteW_far
    have o5 : ∀ p ∈ (if (updR b mn ss cs).2.2 = true then [] else updE b tries mn (applyW (updR b mn ss cs).1 (updC b cs))), 0 ≤ p.2 ∧ p.2 ≤ 9972 := by
      split
      · exact fun p hp => by cases hp
      · intro p hp
        rcases List.mem_append.mp hp with h | h
        · exact (closeW_ok hso gm.head_b p h).2
        · have n1 := next_nn e2 4
          have n2 := next_pgn e3 (by omega)
          exact noteW_ok ⟨n1, by omega⟩ ⟨by dsimp only; omega, by dsimp only; omega, by dsimp only; omega⟩ p h
    have fa := farW_app (updN_far (cs := cs)) (farW_app (openW_far (cs := applyW (updN b cs) cs) hbo) (farW_app f3 f5))
    refine ⟨fa, fun p hp => ⟨hlt fa p hp, ?_⟩⟩
    rcases List.mem_append.mp hp with h | h
    · exact updN_ok hbd hbo hpg j0 j1 p h
    · rcases List.mem_append.mp h with h | h
      · exact openW_ok p h
      · rcases List.mem_append.mp h with h | h
        · exact (layF_16 gs (known_b hbd b.1) gm hso p h).2
        · exact o5 p h
theorem updW_len {ks : List Int} {tries : Int} {mn : Man} {ss : List (List Row)} {cs : List (Option Int)} (hbd : bnd cs) (hbo : bookOk cs) (gm : gman mn) (gs : gStores ss) : (updW ks tries mn ss cs).length ≤ 40 := by
  obtain ⟨b, hb⟩ : ∃ b, b = bookedO cs := ⟨_, rfl⟩
  unfold bookOk at hbo
  unfold updW
  rw [← hb] at hbo ⊢
  unfold updWb
  split
  · simp
  · have h1 : (updN b cs).length ≤ 7 := by unfold updN; split <;> simp [noteW]
    have h2 : (openW (1 - b.1) (applyW (updN b cs) cs)).length ≤ 1 := by unfold openW; split <;> simp
    have h3 := layF_len gs (known_b hbd b.1) (gm.fits (other_slot hbo).1) (cs := updC b cs) (ct := [0, 0, 0])
    have h4 := gm.many'
    have h5 : (if (updR b mn ss cs).2.2 = true then [] else updE b tries mn (applyW (updR b mn ss cs).1 (updC b cs))).length ≤ 14 := by
      split
      · simp
      · have := closeW_len (s := 1 - b.1) (hd := mn.h) (cs := applyW (updR b mn ss cs).1 (updC b cs)) rfl
        show (closeW _ _ _ ++ noteW _ 4 _).length ≤ 14
        rw [List.length_append]
        have : ∀ c : List (Option Int), (noteW c 4 (b.1, 1, tries)).length = 7 := fun _ => rfl
        rw [this]; omega
    rw [List.length_append, List.length_append, List.length_append]
    have h3 : (updR b mn ss cs).1.length ≤ 3 * mn.ts.length := h3
    omega
theorem updR_ct {mn : Man} {ss : List (List Row)} {cs : List (Option Int)} (hbd : bnd cs) (hbo : bookOk cs) (gm : gman mn) (gs : gStores ss) : (updR (bookedO cs) mn ss cs).2.1.length = 3 :=
  layF_ct gs (known_b hbd _) (gm.fits (other_slot hbo).1) rfl
theorem cut7_4 (x0 x1 x2 x3 x4 x5 x6 : V) : cutV [x0, x1, x2, x3, x4, x5, x6] none (some 4) = [x0, x1, x2, x3] := rfl

/-! ## deeds that are stopped -/
theorem dueF_app {t : Str} {n : Nat} {a b : List Wr} {cs : List (Option Int)} : dueF t n (a ++ b) cs = if n < a.length then dueF t n a cs else dueF t (n - a.length) b (applyW a cs) := by
  unfold dueF
  by_cases h : n < a.length
  · rw [if_pos h, if_pos h, if_pos (by rw [List.length_append]; omega), List.take_append_of_le_length (by omega)]
    congr 1
    rw [List.getD_eq_getElem?_getD, List.getD_eq_getElem?_getD, List.getElem?_append_left h]
  · rw [if_neg h]
    by_cases h2 : n - a.length < b.length
    · rw [if_pos (by rw [List.length_append]; omega), if_pos h2, List.take_append, List.take_of_length_le (by omega), applyW_app]
      congr 1
      rw [List.getD_eq_getElem?_getD, List.getD_eq_getElem?_getD, List.getElem?_append_right (by omega)]
    · rw [if_neg (by rw [List.length_append]; omega), if_neg h2, applyW_app]
theorem dueF_out {t : Str} {n k : Nat} {ws : List Wr} {cs : List (Option Int)} (h : ∀ p ∈ ws, p.1 ≠ k) : (dueF t n ws cs)[k]? = cs[k]? := by
  unfold dueF
  split
  · rename_i hn
    rw [tornW_out, applyW_out fun p hp => h p (List.mem_of_mem_take hp)]
    refine h _ ?_
    rw [List.getD_eq_getElem?_getD, List.getElem?_eq_getElem hn]; exact List.getElem_mem hn
  · exact applyW_out h
/-- all that is kept of a row of writes is kept of its parts -/
theorem due_all {P : List (Option Int) → Prop} {t : Str} {a b : List Wr} {cs : List (Option Int)} (h1 : ∀ n, P (dueF t n a cs)) (h2 : ∀ n, P (dueF t n b (applyW a cs))) (n : Nat) : P (dueF t n (a ++ b) cs) := by
  rw [dueF_app]
  split
  · exact h1 n
  · exact h2 _
theorem due_nil {P : List (Option Int) → Prop} {t : Str} {cs : List (Option Int)} (h : P cs) (n : Nat) : P (dueF t n [] cs) := by
  unfold dueF; rw [if_neg (by simp)]; exact h
theorem due_last {P : List (Option Int) → Prop} {t : Str} {a : List Wr} {cs : List (Option Int)} (h1 : ∀ n, P (dueF t n a cs)) : P (applyW a cs) := by
  have := h1 a.length
  unfold dueF at this
  rw [if_neg (Nat.lt_irrefl _)] at this
  exact this
/-- the book tells of this slot -/
def tells (t : Int) (cs : List (Option Int)) : Prop := ∃ x, newestO cs 4 = some x ∧ x.2.2.1 = t
theorem tells_due {t : Int} {tn : Str} {cs : List (Option Int)} {ws : List Wr} (h : tells t cs) (hw : ∀ p ∈ ws, p.1 < 4 ∨ 16 ≤ p.1) (n : Nat) : tells t (dueF tn n ws cs) := by
  obtain ⟨x, e, ex⟩ := h
  refine ⟨x, ?_, ex⟩
  rw [← e]
  unfold newestO
  rw [page_same (cs := cs) (cs' := dueF tn n ws cs) (j := 4) fun k h1 h2 => dueF_out fun p hp => by have := hw p hp; omega, page_same (cs := cs) (cs' := dueF tn n ws cs) (j := 4 + 6) fun k h1 h2 => dueF_out fun p hp => by have := hw p hp; omega]
theorem tells_note {t : Int} {tn : Str} {cs : List (Option Int)} {a b : Int} (h : tells t cs) (hl : cs.length = 54) (hb : bnd cs) (n : Nat) : tells t (dueF tn n (noteW cs 4 (t, a, b)) cs) := by
  obtain ⟨x, e, ex⟩ := h
  rcases note_due (cs := cs) (i := 4) (n := n) (r := (t, a, b)) (t := tn) (by omega) (by have := next_nn hb 4; omega) with ⟨h1, _⟩ | h1
  · exact ⟨x, h1.trans e, ex⟩
  · exact ⟨_, h1, rfl⟩
theorem tells_booked {t : Int} {cs : List (Option Int)} (h : tells t cs) : (bookedO cs).1 = t := by
  obtain ⟨x, e, ex⟩ := h
  unfold bookedO recordO
  rw [e]; exact ex
theorem bkd_tells {cs : List (Option Int)} (h : bkd cs) : tells (bookedO cs).1 cs := by
  obtain ⟨x, e⟩ := h
  exact ⟨x, e, by unfold bookedO recordO; rw [e]; rfl⟩
theorem pgn_due {j : Int} {tn : Str} {cs : List (Option Int)} {ws : List Wr} (h : pgn j cs) (hw : ∀ p ∈ ws, (p.1 = 4 ∨ p.1 = 10) → p.2 ≤ j) (n : Nat) : pgn j (dueF tn n ws cs) := by
  have one : ∀ {cs : List (Option Int)} {p : Wr}, pgn j cs → ((p.1 = 4 ∨ p.1 = 10) → p.2 ≤ j) → pgn j (cs.set p.1 (some p.2)) := by
    intro cs p h hp
    have h4 : ∀ k, (k = 4 ∨ k = 10) → ∀ n, (cs.set p.1 (some p.2)).getD k none = some n → (cs.getD k none = some n ∨ (p.1 = k ∧ n = p.2)) := by
      intro k _ n e
      by_cases hk : p.1 = k
      · by_cases hl : k < cs.length
        · rw [hk, getD_setS hl] at e
          cases e; exact .inr ⟨hk, rfl⟩
        · rw [List.getD_eq_getElem?_getD, List.getElem?_eq_none (by rw [List.length_set]; omega)] at e; cases e
      · rw [getD_setN hk] at e; exact .inl e
    refine ⟨fun n e => ?_, fun n e => ?_⟩
    · rcases h4 4 (.inl rfl) n e with e1 | ⟨e1, rfl⟩
      · exact h.1 n e1
      · exact hp (.inl e1)
    · rcases h4 10 (.inr rfl) n e with e1 | ⟨e1, rfl⟩
      · exact h.2 n e1
      · exact hp (.inr e1)
  have non : ∀ {cs : List (Option Int)} {k : Nat}, pgn j cs → pgn j (cs.set k none) := by
    intro cs k h
    have h4 : ∀ i n, (cs.set k none).getD i none = some n → cs.getD i none = some n := by
      intro i n e
      by_cases hk : k = i
      · by_cases hl : i < cs.length
        · rw [hk, getD_setS hl] at e; cases e
        · rw [List.getD_eq_getElem?_getD, List.getElem?_eq_none (by rw [List.length_set]; omega)] at e; cases e
      · rw [getD_setN hk] at e; exact e
    exact ⟨fun n e => h.1 n (h4 _ _ e), fun n e => h.2 n (h4 _ _ e)⟩
  have all : ∀ {ws : List Wr} {cs : List (Option Int)}, pgn j cs → (∀ p ∈ ws, (p.1 = 4 ∨ p.1 = 10) → p.2 ≤ j) → pgn j (applyW ws cs) := by
    intro ws
    induction ws with
    | nil => intro cs h _; exact h
    | cons p ws ih => intro cs h hw; exact ih (one h (hw p (List.mem_cons_self ..))) fun q hq => hw q (List.mem_cons_of_mem _ hq)
  unfold dueF
  split
  · rename_i hn
    have hm : ws.getD n (0, 0) ∈ ws := by rw [List.getD_eq_getElem?_getD, List.getElem?_eq_getElem hn]; exact List.getElem_mem hn
    have h1 := all h (ws := ws.take n) fun p hp => hw p (List.mem_of_mem_take hp)
    unfold tornW
    split
    · exact non h1
    · split
      · exact one h1 (hw _ hm)
      · exact h1
  · exact all h hw
theorem noteW_pgn {j : Int} {cs : List (Option Int)} {r : Rec} (h : pgn j cs) (j0 : 0 ≤ j) : ∀ p ∈ noteW cs 4 r, (p.1 = 4 ∨ p.1 = 10) → p.2 ≤ j + 1 := by
  have hn := next_pgn h j0
  intro p hp hk
  have hw := next_w cs 4
  unfold noteW at hp
  simp only [List.mem_cons, List.not_mem_nil, or_false] at hp
  rcases hp with rfl | rfl | rfl | rfl | rfl | rfl | rfl <;> dsimp only at hk ⊢ <;> omega
theorem doubleW_far {cs : List (Option Int)} {ks : List Int} (hl : cs.length = 54) (hb : bookOk cs) : ∀ p ∈ doubleW ks cs, p.1 < 4 ∨ ((slotB (1 - (bookedO cs).1)).toNat ≤ p.1 ∧ p.1 < (slotB (1 - (bookedO cs).1)).toNat + 19) := by
  intro p hp
  unfold doubleW doubleWb at hp
  unfold bookOk at hb
  split at hp
  · rename_i ok
    unfold doubleOk at ok
    simp only [Bool.and_eq_true, decide_eq_true_eq] at ok
    obtain ⟨hst, hw⟩ := ok
    generalize bookedO cs = b at hb hst hw hp ⊢
    obtain ⟨t, st, lf⟩ := b
    dsimp only at hb hst hw hp ⊢
    obtain ⟨v, many, one, two, n, sl, nsp, hh, m1, m2, hpt, hpl, -⟩ := good_parts hl hb hw
    have hcp : copyW cs t = nsp := by
      unfold copyW
      rw [hh]
      show wholeF (partsL cs t many) = nsp
      rw [hpt, whole_map]
    have hhd : (wholeF ((headL cs t).drop 1)).length = 6 := by rw [hh]; rfl
    unfold thenW at hp
    rcases List.mem_append.mp hp with h | h
    · exact .inr (doubleL_at hcp (by omega) hhd p h)
    · rcases List.mem_append.mp h with h | h
      · have := raiseW_at p h; exact .inl (by omega)
      · have := raiseW_at p h; exact .inl (by omega)
  · cases hp
/-- the trusted slot's cells -/
def slotL (cs : List (Option Int)) (t : Int) : List (Option Int) := (cs.drop (slotB t).toNat).take 19
/-- what a stopped deed leaves -/
structure Left (t j : Int) (cs' : List (Option Int)) : Prop where
  len : cs'.length = 54
  bnd : Z.bnd cs'
  tells : Z.tells t cs'
  pgn : Z.pgn j cs'
theorem Left.book {t j : Int} {cs : List (Option Int)} (h : Left t j cs) (ht : t = 0 ∨ t = 1) : bookOk cs := by
  unfold bookOk; rw [tells_booked h.tells]; exact ht
theorem slotL_due {t : Int} {tn : Str} {n : Nat} {ws : List Wr} {cs : List (Option Int)} (ht : t = 0 ∨ t = 1) (h : ∀ p ∈ ws, p.1 < 16 ∨ ((slotB (1 - t)).toNat ≤ p.1 ∧ p.1 < (slotB (1 - t)).toNat + 19)) : slotL (dueF tn n ws cs) t = slotL cs t := by
  unfold slotL
  refine row_ext fun k h1 h2 => dueF_out fun p hp => ?_
  have := h p hp
  rcases ht with rfl | rfl <;> simp [slotB] at this h1 h2 <;> omega
theorem upd_due {ks : List Int} {tries j t : Int} {mn : Man} {ss : List (List Row)} {cs : List (Option Int)} {tn : Str} (ht : t = 0 ∨ t = 1) (h : Left t j cs) (j0 : 0 ≤ j) (j1 : j ≤ 9000) (gm : gman mn) (gs : gStores ss) (t1 : 1 ≤ tries) (t3 : tries ≤ 3) (n : Nat) :
    Left t (j + 2) (dueF tn n (updW ks tries mn ss cs) cs) ∧ slotL (dueF tn n (updW ks tries mn ss cs) cs) t = slotL cs t ∧ (dueF tn n (updW ks tries mn ss cs) cs).take 4 = cs.take 4 := by
  obtain ⟨hl, hbd, hte, hpg⟩ := h
  have hbt := tells_booked hte
  have hbo : bookOk cs := by unfold bookOk; rw [hbt]; exact ht
  obtain ⟨hfar, hok⟩ := updW_at (ks := ks) (tries := tries) hl hbd hbo hpg j0 j1 gm gs t1 t3
  rw [hbt] at hfar
  have core : tells t (dueF tn n (updW ks tries mn ss cs) cs) ∧ ∀ p ∈ updW ks tries mn ss cs, (p.1 = 4 ∨ p.1 = 10) → p.2 ≤ j + 2 := by
    obtain ⟨b, hb⟩ : ∃ b, b = bookedO cs := ⟨_, rfl⟩
    unfold updW
    rw [← hb] at hbt ⊢
    have hb0 : b.1 = 0 ∨ b.1 = 1 := by rw [hbt]; exact ht
    unfold updWb
    split
    · exact ⟨due_nil hte n, fun p hp => by cases hp⟩
    · rename_i hr
      have hw := refB_good (Decidable.of_not_not hr)
      have hso := (other_slot hb0).1
      obtain ⟨e1, e2, e3⟩ := upd_end (ks := ks) (mn := mn) hl hbd hb.symm hb0 hpg j0 j1 hw gm gs
      have a1 : ∀ n, tells t (dueF tn n (updN b cs) cs) := fun n => by
        unfold updN
        split
        · rw [hbt]; exact tells_note hte hl hbd n
        · exact due_nil hte n
      have b1 := due_last a1
      have o16 := openW_16 (cs := applyW (updN b cs) cs) hso
      have a2 : ∀ n, tells t (dueF tn n (openW (1 - b.1) (applyW (updN b cs) cs)) (applyW (updN b cs) cs)) := tells_due b1 fun p hp => .inr (o16 p hp)
      have b2 : tells t (updC b cs) := due_last a2
      have r16 := layF_16 gs (known_b hbd b.1) gm hso (cs := updC b cs) (ct := [0, 0, 0])
      have a3 : ∀ n, tells t (dueF tn n (updR b mn ss cs).1 (updC b cs)) := tells_due b2 fun p hp => .inr (r16 p hp).1
      have b3 := due_last a3
      have c16 := closeW_ok (cs := applyW (updR b mn ss cs).1 (updC b cs)) hso gm.head_b
      have a4 : ∀ n, tells t (dueF tn n (if (updR b mn ss cs).2.2 = true then [] else updE b tries mn (applyW (updR b mn ss cs).1 (updC b cs))) (applyW (updR b mn ss cs).1 (updC b cs))) := fun n => by
        split
        · exact due_nil b3 n
        · have a5 : ∀ n, tells t (dueF tn n (closeW (1 - b.1) mn.h (applyW (updR b mn ss cs).1 (updC b cs))) (applyW (updR b mn ss cs).1 (updC b cs))) := tells_due b3 fun p hp => .inr (c16 p hp).1
          refine due_all a5 (fun n => ?_) n
          dsimp only
          rw [hbt]
          rw [hbt] at e2
          exact tells_note (by have := due_last a5; rw [hbt] at this; exact this) (by rw [applyW_len, e1]) e2 n
      refine ⟨due_all a1 (fun n => due_all a2 (fun n => due_all a3 a4 n) n) n, fun p hp hk => ?_⟩
      rcases List.mem_append.mp hp with h | h
      · unfold updN at h
        split at h
        · have := noteW_pgn hpg j0 p h hk; omega
        · cases h
      · rcases List.mem_append.mp h with h | h
        · have := o16 p h; omega
        · rcases List.mem_append.mp h with h | h
          · have := r16 p h; omega
          · split at h
            · cases h
            · rcases List.mem_append.mp h with h | h
              · have := c16 p h; omega
              · have := noteW_pgn e3 (by omega) p h hk; omega
  refine ⟨⟨by rw [dueF_len, hl], bnd_dueF hbd fun p hp => (hok p hp).2, core.1, pgn_due (pgn_mono hpg (by omega)) core.2 n⟩, slotL_due ht fun p hp => ?_, ?_⟩
  · have := hfar p hp; omega
  · refine row_ext (j := 0) fun k h1 h2 => dueF_out fun p hp => ?_
    have := hfar p hp; omega
theorem dbl_due {ks : List Int} {j t : Int} {cs : List (Option Int)} {tn : Str} (ht : t = 0 ∨ t = 1) (h : Left t j cs) (n : Nat) :
    Left t (j + 2) (dueF tn n (doubleW ks cs) cs) ∧ slotL (dueF tn n (doubleW ks cs) cs) t = slotL cs t := by
  obtain ⟨hl, hbd, hte, hpg⟩ := h
  have hbt := tells_booked hte
  have hbo : bookOk cs := by unfold bookOk; rw [hbt]; exact ht
  have hok := doubleW_ok (ks := ks) hl hbo hbd
  have hfar := doubleW_far (ks := ks) hl hbo
  rw [hbt] at hfar
  refine ⟨⟨by rw [dueF_len, hl], bnd_dueF hbd fun p hp => (hok p hp).2.2, tells_due hte (fun p hp => (hok p hp).1) n, pgn_due (pgn_mono hpg (by omega)) (fun p hp hk => by have := (hok p hp).1; omega) n⟩, slotL_due ht fun p hp => ?_⟩
  have := hfar p hp
  omega
theorem Sy.perm {K : PySem.W.Frag} {M : List Addr} {H : Hp} {B : Bs} {L L' : List (Addr × HO)} {Ds : List (PyData × V)} (S : Sy K B M H L Ds) (p : L.Perm L') : Sy K B M H L' Ds :=
  ⟨S.fr, fun x hx => S.ent x (p.mem_iff.mpr hx), (p.map (·.1)).nodup S.nd, S.dat, S.dom, S.nom⟩
/-! ## an update that comes to its end -/
/-- how many pieces are right in their places, from the first on -/
def rightF (cs : List (Option Int)) : List (Int × Int × Int) → Int → Nat
  | [], _ => 0
  | t :: ts, pl => if titleO (cutO cs pl t.2.2) = some t then 1 + rightF cs ts (pl + t.2.2) else 0
def okT (cs : List (Option Int)) : List (Int × Int × Int) → Int → Prop
  | [], _ => True
  | t :: ts, pl => titleO (cutO cs pl t.2.2) = some t ∧ okT cs ts (pl + t.2.2)
def hasAll (ss : List (List Row)) (ts : List (Int × Int × Int)) : Prop := ∀ t ∈ ts, (askF ss t).1 ≠ none
theorem askR_has {t : Int × Int × Int} {c : List Int} (ht : titleF c = t) : ∀ {rs : List Row} {n : Nat}, (t, c) ∈ rs → (askR t rs n).1 ≠ none
  | [], _, h => by cases h
  | r :: rs, n, h => by
    by_cases h1 : r.1 = t
    · by_cases h2 : titleF r.2 = t
      · rw [askR_good h1 h2]; exact fun z => nomatch z
      · rw [askR_bad h1 h2]
        refine askR_has ht ?_
        rcases List.mem_cons.mp h with rfl | h
        · exact absurd ht h2
        · exact h
    · rw [askR_other h1]
      refine askR_has ht ?_
      rcases List.mem_cons.mp h with rfl | h
      · exact absurd rfl h1
      · exact h
theorem hasAll_of {ss : List (List Row)} {ns : List Int} (h : ∃ st ∈ ss, ∀ c ∈ piecesF ns, (titleF c, c) ∈ st) : hasAll ss ((piecesF ns).map titleF) := by
  obtain ⟨st, hst, hall⟩ := h
  intro t ht
  obtain ⟨c, hc, rfl⟩ := List.mem_map.mp ht
  exact askR_has rfl (List.mem_flatten.mpr ⟨st, hst, hall c hc⟩)
theorem cutO_out {cs cs' : List (Option Int)} {pl n : Int} (h : ∀ k, pl.toNat ≤ k → k < pl.toNat + n.toNat → cs'[k]? = cs[k]?) : cutO cs' pl n = cutO cs pl n := row_ext h

theorem rightF_out {cs cs' : List (Option Int)} : ∀ {ts : List (Int × Int × Int)} {pl : Int}, fitsL ts pl → (∀ k, pl.toNat ≤ k → k < pl.toNat + (ts.map fun t => t.2.2.toNat).sum → cs'[k]? = cs[k]?) → rightF cs' ts pl = rightF cs ts pl
  | [], _, _, _ => rfl
  | t :: ts, pl, hf, h => by
    obtain ⟨h1, h2, h3, h4, h5⟩ := hf
    rw [List.map_cons, List.sum_cons] at h
    have e := cutO_out (cs := cs) (cs' := cs') (pl := pl) (n := t.2.2) fun k k1 k2 => h k k1 (by omega)
    have ih := rightF_out (cs := cs) (cs' := cs') h5 fun k k1 k2 => h k (by omega) (by omega)
    unfold rightF
    rw [e, ih]
theorem okT_out {cs cs' : List (Option Int)} : ∀ {ts : List (Int × Int × Int)} {pl : Int}, fitsL ts pl → (∀ k, pl.toNat ≤ k → k < pl.toNat + (ts.map fun t => t.2.2.toNat).sum → cs'[k]? = cs[k]?) → okT cs ts pl → okT cs' ts pl
  | [], _, _, _, _ => trivial
  | t :: ts, pl, hf, h, ho => by
    obtain ⟨h1, h2, h3, h4, h5⟩ := hf
    rw [List.map_cons, List.sum_cons] at h
    have e := cutO_out (cs := cs) (cs' := cs') (pl := pl) (n := t.2.2) fun k k1 k2 => h k k1 (by omega)
    exact ⟨by rw [e]; exact ho.1, okT_out h5 (fun k k1 k2 => h k (by omega) (by omega)) ho.2⟩
/-- a piece that was put is there -/
theorem put_there {cs : List (Option Int)} {pl : Int} {t : Int × Int × Int} {pc : List Int} (h0 : 0 ≤ pl) (hl : pl + t.2.2 ≤ cs.length) (ht : titleF pc = t) : titleO (cutO (applyW (putW cs pl.toNat pc) cs) pl t.2.2) = some t := by
  have hn := title_len ht
  have : cutO (applyW (putW cs pl.toNat pc) cs) pl t.2.2 = pc.map some := by
    unfold cutO
    refine row_is (by rw [List.length_map]; omega) fun k hk => ?_
    have hk : k < pc.length := by omega
    have h1 := putW_at (cs := cs) (i := pl.toNat) (row := pc) (by omega) hk
    have h2 : pl.toNat + k < (applyW (putW cs pl.toNat pc) cs).length := by rw [applyW_len]; omega
    rw [List.getD_eq_getElem?_getD, List.getElem?_eq_getElem h2] at h1
    rw [List.getElem?_eq_getElem h2, List.getElem?_map, List.getElem?_eq_getElem hk]
    rw [List.getD_eq_getElem?_getD, List.getElem?_eq_getElem hk] at h1
    simpa using h1
  rw [this]
  unfold titleO
  rw [allI_some, Option.map_some, ht]
theorem stepL_title {ss : List (List Row)} {kn : List (List Int)} {cs : List (Option Int)} {pl : Int} {t : Int × Int × Int} {w : Nat} {pc : List Int} (g : gStores ss) (h : stepL ss kn cs pl t = some (w, pc)) : (titleO (cutO cs pl t.2.2) = some t ∧ w = 0 ∧ pc = []) ∨ (titleO (cutO cs pl t.2.2) ≠ some t ∧ 1 ≤ w ∧ titleF pc = t) := by
  unfold stepL at h
  split at h
  · rename_i z; cases h; exact .inl ⟨z, rfl, rfl⟩
  · rename_i z
    cases hn : knownF kn t with
    | some c => rw [hn] at h; cases h; exact .inr ⟨z, Nat.le_refl _, (knownF_some hn).1⟩
    | none =>
      rw [hn] at h
      dsimp only at h
      cases ha : (askF ss t).1 with
      | none => rw [ha] at h; cases h
      | some c => rw [ha] at h; cases h; exact .inr ⟨z, by decide, (askF_some g ha).1⟩
theorem bump0 {ct : List Int} {w : Nat} (h3 : ct.length = 3) : (bumpL ct w).getD 0 0 = if w = 0 then ct.getD 0 0 + 1 else ct.getD 0 0 := by
  obtain ⟨a, b, c, rfl⟩ : ∃ a b c, ct = [a, b, c] := by
    match ct, h3 with
    | [a, b, c], _ => exact ⟨a, b, c, rfl⟩
  match w with
  | 0 => simp [bumpL]
  | 1 => simp [bumpL]
  | 2 => simp [bumpL]
  | n + 3 => simp [bumpL]
theorem layF_all {ss : List (List Row)} {kn : List (List Int)} (g : gStores ss) (hk : ∀ c ∈ kn, ∀ n ∈ c, 0 ≤ n ∧ n ≤ 9972) : ∀ {ts : List (Int × Int × Int)} {pl : Int} {cs : List (Option Int)} {ct : List Int}, fitsL ts pl → cs.length = 54 → ct.length = 3 → hasAll ss ts →
    (layF ss kn ts pl cs ct).2.2 = false ∧ (layF ss kn ts pl cs ct).2.1.sum = ct.sum + ts.length ∧ ct.getD 0 0 + (rightF cs ts pl : Int) ≤ (layF ss kn ts pl cs ct).2.1.getD 0 0 ∧ okT (applyW (layF ss kn ts pl cs ct).1 cs) ts pl
  | [], pl, cs, ct, _, _, _, _ => by simp [layF, rightF, okT]
  | t :: ts, pl, cs, ct, hf, hl, h3, ha => by
    obtain ⟨h1, h2, _, h4, h5⟩ := hf
    obtain ⟨w, pc, e⟩ : ∃ w pc, stepL ss kn cs pl t = some (w, pc) := by
      by_cases hti : titleO (cutO cs pl t.2.2) = some t
      · exact ⟨_, _, stepL_kept hti⟩
      · cases hn : knownF kn t with
        | some c => exact ⟨_, _, stepL_known hti hn⟩
        | none =>
          rw [stepL_asked hti hn]
          cases hq : (askF ss t).1 with
          | none => exact absurd hq (ha t (List.mem_cons_self ..))
          | some c => exact ⟨2, c, rfl⟩
    obtain ⟨k1, k2, k3⟩ := stepL_ok g hk h2 e
    obtain ⟨b1, b2⟩ := bumpL_ok h3 k1
    have hl1 : (applyW (putW cs pl.toNat pc) cs).length = 54 := by rw [applyW_len, hl]
    obtain ⟨i1, i2, i3, i4⟩ := layF_all g hk (ct := bumpL ct w) h5 hl1 b1 fun u hu => ha u (List.mem_cons_of_mem _ hu)
    rw [layF_some e]
    dsimp only
    refine ⟨i1, by rw [i2, b2, List.length_cons]; push_cast; omega, ?_, ?_⟩
    · rw [bump0 h3] at i3
      unfold rightF
      rcases stepL_title g e with ⟨z, rfl, rfl⟩ | ⟨z, hw, _⟩
      · rw [if_pos rfl] at i3
        rw [if_pos z]
        have e2 : applyW (putW cs pl.toNat []) cs = cs := rfl
        rw [e2] at i3 ⊢
        push_cast
        omega
      · rw [if_neg (by omega)] at i3
        rw [if_neg z]
        have : (0 : Int) ≤ (rightF (applyW (putW cs pl.toNat pc) cs) ts (pl + t.2.2) : Int) := Int.natCast_nonneg _
        omega
    · rw [applyW_app]
      refine ⟨?_, i4⟩
      have hrest := layF_at g hk (cs := applyW (putW cs pl.toNat pc) cs) (ct := bumpL ct w) h5
      rw [cutO_out (cs := applyW (putW cs pl.toNat pc) cs) fun k q1 q2 => applyW_out fun p hp => by have := (hrest p hp).1; omega]
      rcases stepL_title g e with ⟨z, _, rfl⟩ | ⟨_, _, hp⟩
      · exact z
      · exact put_there h1 (by omega) hp
theorem right_due {ss : List (List Row)} {kn : List (List Int)} {tn : Str} (g : gStores ss) (hk : ∀ c ∈ kn, ∀ n ∈ c, 0 ≤ n ∧ n ≤ 9972) : ∀ {ts : List (Int × Int × Int)} {pl : Int} {cs : List (Option Int)} {ct : List Int} (n : Nat), fitsL ts pl → rightF cs ts pl ≤ rightF (dueF tn n (layF ss kn ts pl cs ct).1 cs) ts pl
  | [], _, _, _, _, _ => Nat.le_refl _
  | t :: ts, pl, cs, ct, n, hf => by
    obtain ⟨h1, h2, h3, h4, h5⟩ := hf
    by_cases z : titleO (cutO cs pl t.2.2) = some t
    · rw [layF_some (stepL_kept z)]
      dsimp only
      rw [show putW cs pl.toNat [] = [] from rfl, List.nil_append, show applyW [] cs = cs from rfl]
      have hrest := layF_at g hk (cs := cs) (ct := bumpL ct 0) h5
      have e : cutO (dueF tn n (layF ss kn ts (pl + t.2.2) cs (bumpL ct 0)).1 cs) pl t.2.2 = cutO cs pl t.2.2 := cutO_out fun k q1 q2 => dueF_out fun p hp => by have := (hrest p hp).1; omega
      have ih := right_due (tn := tn) g hk (cs := cs) (ct := bumpL ct 0) n h5
      unfold rightF
      rw [e, if_pos z, if_pos z]
      omega
    · have : rightF cs (t :: ts) pl = 0 := by unfold rightF; rw [if_neg z]
      rw [this]; exact Nat.zero_le _
theorem titleO_some {xs : List (Option Int)} {t : Int × Int × Int} (h : titleO xs = some t) : ∃ c : List Int, xs = c.map some ∧ titleF c = t := by
  unfold titleO at h
  cases e : allI xs with
  | none => rw [e] at h; cases h
  | some c => rw [e] at h; exact ⟨c, allI_inv e, Option.some.inj h⟩
/-- what lies there is the picture, by the names of its pieces -/
theorem okT_sum {cs : List (Option Int)} (hl : cs.length = 54) : ∀ {ts : List (Int × Int × Int)} {pl : Int}, fitsL ts pl → okT cs ts pl → ∃ cls : List (List Int), cls.map titleF = ts ∧ (cs.drop pl.toNat).take (ts.map fun t => t.2.2.toNat).sum = cls.flatten.map some
  | [], _, _, _ => ⟨[], rfl, by simp⟩
  | t :: ts, pl, hf, ho => by
    obtain ⟨h1, h2, h3, h4, h5⟩ := hf
    obtain ⟨c, hc, ht⟩ := titleO_some ho.1
    obtain ⟨cls, e1, e2⟩ := okT_sum hl h5 ho.2
    refine ⟨c :: cls, by rw [List.map_cons, ht, e1], ?_⟩
    rw [List.map_cons, List.sum_cons, List.flatten_cons, List.map_append, ← hc, ← e2]
    unfold cutO
    rw [List.take_add, List.drop_drop, show (pl + t.2.2).toNat = pl.toNat + t.2.2.toNat by omega]
theorem refB_in {t : Int} {cs : List (Option Int)} {ks : List Int} {m : Man} (h : refB t cs ks m = "") : (floorO cs 2 ≤ m.n ∧ m.n < ks.length) ∧ sealF (ks.getD m.n.toNat 0) [m.v, m.many, m.one, m.two, m.n] = m.s ∧ floorO cs 0 ≤ m.v ∧ topV cs t < m.v := by
  unfold refB at h
  split at h
  · exact absurd h (by decide +kernel)
  · split at h
    · exact absurd h (by decide +kernel)
    · split at h
      · exact absurd h (by decide +kernel)
      · split at h
        · exact absurd h (by decide +kernel)
        · rename_i q1 q2 q3 q4
          exact ⟨Decidable.of_not_not q2, Decidable.of_not_not q3, by omega, by omega⟩
theorem refB_mk {t : Int} {cs : List (Option Int)} {ks : List Int} {m : Man} (h1 : whyF cs ks t = "") (h2 : floorO cs 2 ≤ m.n ∧ m.n < ks.length) (h3 : sealF (ks.getD m.n.toNat 0) [m.v, m.many, m.one, m.two, m.n] = m.s) (h4 : floorO cs 0 ≤ m.v) (h5 : topV cs t < m.v) : refB t cs ks m = "" := by
  unfold refB
  rw [if_neg (fun z => z h1), if_neg (fun z => z h2), if_neg (fun z => z h3), if_neg (by omega)]
theorem farW_take {t : Int} {ws : List Wr} (h : farW t ws) (n : Nat) : farW t (ws.take n) := fun p hp => h p (List.mem_of_mem_take hp)
theorem floor_due {t : Int} {tn : Str} {n : Nat} {ws : List Wr} {cs : List (Option Int)} (h : farW t ws) {i : Nat} (hi : i < 3) : floorO (dueF tn n ws cs) i = floorO cs i := by
  unfold floorO
  rw [List.getD_eq_getElem?_getD, List.getD_eq_getElem?_getD, dueF_out fun p hp => by have := h p hp; omega, dueF_out fun p hp => by have := h p hp; omega, ← List.getD_eq_getElem?_getD, ← List.getD_eq_getElem?_getD]
theorem head_due {t : Int} {tn : Str} {n : Nat} {ws : List Wr} {cs : List (Option Int)} (ht : t = 0 ∨ t = 1) (h : farW t ws) : headL (dueF tn n ws cs) t = headL cs t := by
  unfold headL
  refine row_ext fun k h1 h2 => dueF_out fun p hp => ?_
  have := h p hp
  rcases ht with rfl | rfl <;> simp [slotB] at this h1 h2 <;> omega
theorem parts_due {t m : Int} {tn : Str} {n : Nat} {ws : List Wr} {cs : List (Option Int)} (ht : t = 0 ∨ t = 1) (h : farW t ws) (hm : m ≤ 12) : partsL (dueF tn n ws cs) t m = partsL cs t m := by
  unfold partsL
  refine row_ext fun k h1 h2 => dueF_out fun p hp => ?_
  have := h p hp
  rcases ht with rfl | rfl <;> simp [slotB] at this h1 h2 <;> omega
theorem good_due {t : Int} {tn : Str} {n : Nat} {ws : List Wr} {cs : List (Option Int)} {ks : List Int} (ht : t = 0 ∨ t = 1) (h : farW t ws) (hw : whyF cs ks t = "") : whyF (dueF tn n ws cs) ks t = "" := by
  obtain ⟨v, many, one, two, n, sl, e, h1, h2, h3, h4, h5, h6, h7⟩ := good_inv hw
  exact good_mk (by rw [head_due ht h]; exact e) h1 h2 (by rw [parts_due ht h h2]; exact h3) (by rw [floor_due h (by decide)]; exact h4) h5 h6 (by rw [floor_due h (by decide)]; exact h7)
/-- a manifest that is let in still is behind a stopped update -/
theorem ref_due {t : Int} {tn : Str} {n : Nat} {ws : List Wr} {cs : List (Option Int)} {ks : List Int} {m : Man} (ht : t = 0 ∨ t = 1) (h : farW t ws) (hr : refB t cs ks m = "") : refB t (dueF tn n ws cs) ks m = "" := by
  obtain ⟨h1, h2, h3, h4⟩ := refB_in hr
  refine refB_mk (good_due ht h (refB_good hr)) (by rw [floor_due h (by decide)]; exact h1) h2 (by rw [floor_due h (by decide)]; exact h3) ?_
  unfold topV
  rw [head_due ht h]; exact h4
/-- an update that isn't stopped, of pieces that all are there -/
theorem upd_whole {ks : List Int} {tries j t : Int} {mn : Man} {ss : List (List Row)} {cs : List (Option Int)} (ht : t = 0 ∨ t = 1) (h : Left t j cs) (j0 : 0 ≤ j) (j1 : j ≤ 9000) (gm : gman mn) (gs : gStores ss) (t1 : 1 ≤ tries) (t3 : tries ≤ 3) (hr : refB t cs ks mn = "") (ha : hasAll ss mn.ts) :
    (∃ a b c : Int, updD ks mn ss cs = .tuple [.str "laid", .int a, .int b, .int c] ∧ a + b + c = mn.ts.length ∧ (rightF cs mn.ts (slotB (1 - t) + 7) : Int) ≤ a) ∧
    okT (applyW (updW ks tries mn ss cs) cs) mn.ts (slotB (1 - t) + 7) ∧ bookedO (applyW (updW ks tries mn ss cs) cs) = (t, 1, tries) ∧
    headL (applyW (updW ks tries mn ss cs) cs) (1 - t) = [some 1, some mn.v, some mn.many, some mn.one, some mn.two, some mn.n, some mn.s] ∧ whyF (applyW (updW ks tries mn ss cs) cs) ks (1 - t) = "" := by
  obtain ⟨hl, hbd, hte, hpg⟩ := h
  have hbt := tells_booked hte
  have hbo : bookOk cs := by unfold bookOk; rw [hbt]; exact ht
  have hfar := (updW_at (ks := ks) (tries := tries) hl hbd hbo hpg j0 j1 gm gs t1 t3).1
  rw [hbt] at hfar
  have hso := (other_slot ht).1
  have hsb := slotB_b hso
  have hfit := gm.fits hso
  have hmany := gm.many
  obtain ⟨a1, a2, a3, a4, a5, a6⟩ := upd_mid (b := bookedO cs) (ks := ks) hl hbd rfl (by rw [hbt]; exact ht) hpg j0 j1 (by rw [hbt]; exact refB_good hr)
  obtain ⟨e1, e2, e3⟩ := upd_end (b := bookedO cs) (ks := ks) (mn := mn) hl hbd rfl (by rw [hbt]; exact ht) hpg j0 j1 (by rw [hbt]; exact refB_good hr) gm gs
  have hall := layF_all (ct := [0, 0, 0]) gs (known_b hbd (bookedO cs).1) (gm.fits hso) a1 rfl ha
  have hct := layF_ct gs (known_b hbd (bookedO cs).1) (gm.fits hso) (cs := updC (bookedO cs) cs) (ct := [0, 0, 0]) rfl
  have hRe : layF ss (piecesF (rowOf cs (bookedO cs).1)) mn.ts (slotB (1 - t) + 7) (updC (bookedO cs) cs) [0, 0, 0] = updR (bookedO cs) mn ss cs := by unfold updR; rw [hbt]
  rw [hRe] at hall hct
  obtain ⟨r1, r2, r3, r4⟩ := hall
  have hW : updW ks tries mn ss cs = updN (bookedO cs) cs ++ (openW (1 - (bookedO cs).1) (applyW (updN (bookedO cs) cs) cs) ++ ((updR (bookedO cs) mn ss cs).1 ++ updE (bookedO cs) tries mn (applyW (updR (bookedO cs) mn ss cs).1 (updC (bookedO cs) cs)))) := by
    unfold updW updWb
    rw [hbt, if_neg (fun z => z hr), r1]; rfl
  have hD : updD ks mn ss cs = .tuple (.str "laid" :: (updR (bookedO cs) mn ss cs).2.1.map .int) := by
    unfold updD updDb
    rw [hbt, if_neg (fun z => z hr), r1]; rfl
  have hright : rightF (updC (bookedO cs) cs) mn.ts (slotB (1 - t) + 7) = rightF cs mn.ts (slotB (1 - t) + 7) := by
    refine rightF_out hfit fun k k1 k2 => ?_
    rw [gm.span] at k2
    unfold updC
    rw [applyW_out fun p hp => by have := openW_at p hp; rw [hbt] at this; omega, applyW_out fun p hp => by
      have h0 : farW (bookedO cs).1 (updN (bookedO cs) cs) := updN_far
      unfold updN at hp
      split at hp
      · have h1 := noteW_at _ _ _ p hp
        have h2 := pages_in cs 4
        omega
      · cases hp]
  obtain ⟨w1, w2, w3, hw3⟩ : ∃ a b c, (updR (bookedO cs) mn ss cs).2.1 = [a, b, c] := by
    match (updR (bookedO cs) mn ss cs).2.1, hct with
    | [a, b, c], _ => exact ⟨a, b, c, rfl⟩
  rw [hw3] at r2 r3 hD
  rw [hright] at r3
  have hcs : applyW (updW ks tries mn ss cs) cs = applyW (noteW (applyW (closeW (1 - t) mn.h (applyW (updR (bookedO cs) mn ss cs).1 (updC (bookedO cs) cs))) (applyW (updR (bookedO cs) mn ss cs).1 (updC (bookedO cs) cs))) 4 (t, 1, tries)) (applyW (closeW (1 - t) mn.h (applyW (updR (bookedO cs) mn ss cs).1 (updC (bookedO cs) cs))) (applyW (updR (bookedO cs) mn ss cs).1 (updC (bookedO cs) cs))) := by
    rw [hW, applyW_app, applyW_app, applyW_app, show applyW (openW (1 - (bookedO cs).1) (applyW (updN (bookedO cs) cs) cs)) (applyW (updN (bookedO cs) cs) cs) = updC (bookedO cs) cs from rfl]
    unfold updE thenW
    rw [applyW_app]
    dsimp only
    rw [hbt]
  rw [hbt] at e2 e3
  generalize hc3 : applyW (updR (bookedO cs) mn ss cs).1 (updC (bookedO cs) cs) = c3 at r4 e1 e2 e3 hcs
  have hnote : ∀ {c : List (Option Int)} {r : Rec} {k : Nat}, 16 ≤ k → (applyW (noteW c 4 r) c)[k]? = c[k]? := fun {c r k} hk => applyW_out fun p hp => by
    have h1 := noteW_at _ _ _ p hp
    have h2 := pages_in c 4
    omega
  have hparts : ∀ k, (slotB (1 - t) + 7).toNat ≤ k → k < (slotB (1 - t) + 7).toNat + (mn.ts.map fun t => t.2.2.toNat).sum → (applyW (updW ks tries mn ss cs) cs)[k]? = c3[k]? := fun k k1 k2 => by
    rw [hcs, hnote (by omega)]
    exact applyW_out fun p hp => by have := closeW_at (by rfl) p hp; omega
  have hok := okT_out hfit hparts r4
  have hh : headL (applyW (updW ks tries mn ss cs) cs) (1 - t) = [some 1, some mn.v, some mn.many, some mn.one, some mn.two, some mn.n, some mn.s] := by
    unfold headL
    have hin : ∀ i, i < 6 → (applyW (closeW (1 - t) mn.h c3) c3)[(slotB (1 - t)).toNat + (i + 1)]? = some (some (mn.h.getD i 0)) := fun i hi => by
      show (applyW (putW c3 ((slotB (1 - t)).toNat + 1) mn.h ++ [((slotB (1 - t)).toNat, 1)]) c3)[_]? = _
      rw [applyW_app]
      show ((applyW (putW c3 ((slotB (1 - t)).toNat + 1) mn.h) c3).set (slotB (1 - t)).toNat (some 1))[_]? = _
      rw [List.getElem?_set_ne (by omega)]
      have h1 := putW_at (cs := c3) (i := (slotB (1 - t)).toNat + 1) (row := mn.h) (by show _ + 6 ≤ _; omega) (k := i) hi
      have h2 : (slotB (1 - t)).toNat + (i + 1) < (applyW (putW c3 ((slotB (1 - t)).toNat + 1) mn.h) c3).length := by rw [applyW_len]; omega
      rw [show (slotB (1 - t)).toNat + 1 + i = (slotB (1 - t)).toNat + (i + 1) by omega, List.getD_eq_getElem?_getD, List.getElem?_eq_getElem h2] at h1
      rw [List.getElem?_eq_getElem h2]
      exact congrArg some h1
    refine row_is rfl fun k hk => ?_
    rw [hcs, hnote (by omega)]
    match k, hk with
    | 0, _ =>
      show (applyW (putW c3 ((slotB (1 - t)).toNat + 1) mn.h ++ [((slotB (1 - t)).toNat, 1)]) c3)[_]? = _
      rw [applyW_app]
      show ((applyW (putW c3 ((slotB (1 - t)).toNat + 1) mn.h) c3).set (slotB (1 - t)).toNat (some 1))[(slotB (1 - t)).toNat]? = _
      rw [List.getElem?_set_self (by rw [applyW_len]; omega)]; rfl
    | 1, _ => exact hin 0 (by decide)
    | 2, _ => exact hin 1 (by decide)
    | 3, _ => exact hin 2 (by decide)
    | 4, _ => exact hin 3 (by decide)
    | 5, _ => exact hin 4 (by decide)
    | 6, _ => exact hin 5 (by decide)
  have hlen : (applyW (updW ks tries mn ss cs) cs).length = 54 := by rw [applyW_len, hl]
  refine ⟨⟨w1, w2, w3, hD, ?_, by simpa using r3⟩, hok, ?_, hh, ?_⟩
  · simp at r2; omega
  · rw [hcs]
    unfold bookedO recordO
    rw [note_whole (by rw [applyW_len]; omega) (by have := next_nn e2 4; omega)]; rfl
  · obtain ⟨q1, q2, q3, q4⟩ := refB_in hr
    obtain ⟨cls, c1, c2⟩ := okT_sum hlen hfit hok
    refine good_mk hh gm.many.1 gm.many.2 ?_ (by rw [far_floor hfar (by decide)]; exact q1.1) q1.2 q2 (by rw [far_floor hfar (by decide)]; exact q3)
    rw [gm.span] at c2
    unfold partsL
    rw [c2, allI_some, Option.map_some, ← join_titles, c1, gm.sums]
/-! ## sum of a tuple -/
section
open PyProof.Rows
theorem sum_tupG {prog : Program} {w : World} {A : Around} {E : Value → Shared → Prop} {s : Shared} {l : Addr} {xs : Array (Int × Tok)} {Q : Value → Shared → Prop} (hh : A.handled = none) (hl : s.heap.IsTuple l (intItems xs))
    (h : ∀ h' tk t', (∀ b o, s.heap.get? b = some o → h'.get? b = some o) → Q (.int (preSum (numAt xs) xs.size) t') { s with heap := h', toks := tk }) : wpAny (model prog w) A (call (.builtin "sum") [.ref l]) Q E s := by
  have hlt : l < s.heap.objs.size := by obtain ⟨_, e, _⟩ := hl; exact Heap.lt_size e
  refine call_sum_walkG (wpAny_pyIter_tuple hl ?_)
  refine ⟨_, _, _, _, _, _, numAt xs, rfl, Walks.tuple (A := A.in1) hh _ l (Nat.ne_of_lt hlt) (intItems xs), ⟨⟨_, Heap.get?_push_size _ rfl, rfl, rfl⟩, hl.push _⟩, fun b hb => ?_, (fun _ _ => intItems_at), fun h' tk t' hk => ?_⟩
  · show b < (s.heap.push _).objs.size
    rw [Heap.size_push]
    rcases List.mem_cons.mp hb with rfl | hb
    · exact Nat.lt_succ_self _
    · rcases List.mem_cons.mp hb with rfl | hb
      · exact Nat.lt_succ_of_lt hlt
      · cases hb
  · have := h h' tk t' fun b o e => by
      refine hk b o (fun hm => ?_) (Heap.get?_push_of_some _ e)
      rcases List.mem_cons.mp hm with e1 | hm
      · exact absurd (e1 ▸ Heap.lt_size e) (Nat.lt_irrefl _)
      · cases hm
    simpa [intItems] using this
/-- sum(t) of a tuple of ints -/
def rSumT (K : PySem.W.Frag) : List V → Hp → VK → Prop := fun vs H Q => ∃ (a : Addr) (ns : List Int), vs = [V.ref a] ∧ SqT K H a (ns.map V.int) ∧ Q (.int ns.sum) H
theorem cr_sumT {X : Cx} (hc : X.calm = true) : CallR X (.builtin "sum") (rSumT X.K) := by
  intro pins s σ H vs us Q I r h
  obtain ⟨a, ns, rfl, hs, q⟩ := h
  obtain ⟨its, rv, hl, _⟩ := I.tuple hs
  rw [Vals.ref1 r]
  have hi := rv.ints
  obtain ⟨xs, e⟩ := hi.allInts.items
  have hn : numsOf (intItems xs).toList = ns := by rw [← e]; exact hi.numsOf
  rw [nums_intItems] at hn
  rw [e] at hl
  refine sum_tupG (I.ok.hd hc) hl fun h' tk t' hk => ?_
  rw [preSum_eq, List.take_of_length_le (by simp), hn]
  exact ⟨.int _, H, I.kept hk, ⟨_, rfl⟩, q⟩
theorem b_sumT {X : Cx} {K : PySem.W.Frag} (hc : X.calm = true) (e : X.K = K := by rfl) : CallR X (.builtin "sum") (rSumT K) := by subst e; exact cr_sumT hc
theorem n_sumT {K : PySem.W.Frag} {H : Hp} {p : Addr} {Q : VK} {ns : List Int} (h : SqT K H p (ns.map V.int)) (q : Q (.int ns.sum) H) : rSumT K [.ref p] H Q := ⟨p, ns, rfl, h, q⟩
end
/-- never fewer pieces are right behind a stopped update -/
theorem upd_right {ks : List Int} {tries j t : Int} {mn : Man} {ss : List (List Row)} {cs : List (Option Int)} {tn : Str} (ht : t = 0 ∨ t = 1) (h : Left t j cs) (gm : gman mn) (gs : gStores ss) (n : Nat) :
    rightF cs mn.ts (slotB (1 - t) + 7) ≤ rightF (dueF tn n (updW ks tries mn ss cs) cs) mn.ts (slotB (1 - t) + 7) := by
  obtain ⟨hl, hbd, hte, hpg⟩ := h
  have hbt := tells_booked hte
  have hso := (other_slot ht).1
  have hsb := slotB_b hso
  have hfit := gm.fits hso
  have hmany := gm.many
  have far : ∀ {ws : List Wr} {c : List (Option Int)} (n : Nat), (∀ p ∈ ws, p.1 < (slotB (1 - t)).toNat + 7 ∨ (slotB (1 - t)).toNat + 19 ≤ p.1) → rightF (dueF tn n ws c) mn.ts (slotB (1 - t) + 7) = rightF c mn.ts (slotB (1 - t) + 7) := fun {ws c} n hw => rightF_out hfit fun k k1 k2 => dueF_out fun p hp => by
    rw [gm.span] at k2
    have := hw p hp
    omega
  have nfar : ∀ {c : List (Option Int)} {r : Rec}, ∀ p ∈ noteW c 4 r, p.1 < (slotB (1 - t)).toNat + 7 ∨ (slotB (1 - t)).toNat + 19 ≤ p.1 := fun {c r} p hp => by
    have h1 := noteW_at _ _ _ p hp
    have h2 := pages_in c 4
    omega
  obtain ⟨b, hb⟩ : ∃ b, b = bookedO cs := ⟨_, rfl⟩
  unfold updW
  rw [← hb] at hbt ⊢
  subst hbt
  unfold updWb
  split
  · rw [far n fun p hp => by cases hp]; exact Nat.le_refl _
  · obtain ⟨r0, hr0⟩ : ∃ r0, r0 = rightF cs mn.ts (slotB (1 - b.1) + 7) := ⟨_, rfl⟩
    rw [← hr0]
    have step : ∀ {ws : List Wr} {c : List (Option Int)}, r0 ≤ rightF c mn.ts (slotB (1 - b.1) + 7) → (∀ p ∈ ws, p.1 < (slotB (1 - b.1)).toNat + 7 ∨ (slotB (1 - b.1)).toNat + 19 ≤ p.1) → ∀ n, (fun c => r0 ≤ rightF c mn.ts (slotB (1 - b.1) + 7)) (dueF tn n ws c) := fun h0 hw n => by
      show r0 ≤ rightF _ _ _
      rw [far n hw]; exact h0
    have a1 := step (ws := updN b cs) (Nat.le_of_eq hr0) fun p hp => by
      unfold updN at hp
      split at hp
      · exact nfar p hp
      · cases hp
    have b1 := due_last (P := fun c => r0 ≤ rightF c mn.ts (slotB (1 - b.1) + 7)) a1
    have a2 := step (ws := openW (1 - b.1) (applyW (updN b cs) cs)) b1 fun p hp => by have := openW_at p hp; omega
    have b2 : (fun c => r0 ≤ rightF c mn.ts (slotB (1 - b.1) + 7)) (updC b cs) := due_last (P := fun c => r0 ≤ rightF c mn.ts (slotB (1 - b.1) + 7)) a2
    have a3 : ∀ n, (fun c => r0 ≤ rightF c mn.ts (slotB (1 - b.1) + 7)) (dueF tn n (updR b mn ss cs).1 (updC b cs)) := fun n => Nat.le_trans b2 (right_due gs (known_b hbd b.1) n hfit)
    have b3 := due_last (P := fun c => r0 ≤ rightF c mn.ts (slotB (1 - b.1) + 7)) a3
    have a4 := step (ws := if (updR b mn ss cs).2.2 = true then [] else updE b tries mn (applyW (updR b mn ss cs).1 (updC b cs))) b3 fun p hp => by
      split at hp
      · cases hp
      · rcases List.mem_append.mp hp with h | h
        · have := closeW_at (by rfl) p h; omega
        · exact nfar p h
    exact due_all (P := fun c => r0 ≤ rightF c mn.ts (slotB (1 - b.1) + 7)) a1 (fun n => due_all (P := fun c => r0 ≤ rightF c mn.ts (slotB (1 - b.1) + 7)) a2 (fun n => due_all (P := fun c => r0 ≤ rightF c mn.ts (slotB (1 - b.1) + 7)) a3 a4 n) n) n
theorem judged_is {cs : List (Option Int)} {ks : List Int} {s v : Int} {rest : List (Option Int)} (hs : s = 0 ∨ s = 1) (hw : whyF cs ks s = "") (hh : headL cs s = some 1 :: some v :: rest) : judgedD cs ks s = .tuple [.str "good", .int v] := by
  unfold judgedD
  have e := head_get (cs := cs) hs 1 (by decide)
  rw [hh] at e
  rw [if_pos hw, show slotB s + 1 = slotB s + ((1 : Nat) : Int) from rfl, e]; rfl
theorem piecesF_cons {ns : List Int} (h : 0 < ns.length) : piecesF ns = ns.take 3 :: piecesF (ns.drop 3) := by
  have h2 : pieceN ns.length = pieceN (ns.drop 3).length + 1 := by
    unfold pieceN
    rw [List.length_drop]; omega
  unfold piecesF
  rw [h2, List.range_succ_eq_map, List.map_cons, List.map_map]
  congr 1
  apply List.map_congr_left
  intro i _
  show (ns.drop (3 * (i + 1))).take 3 = _
  rw [List.drop_drop]
  congr 2
  omega
/-- pieces of the same lengths are the pieces -/
theorem pieces_same : ∀ {cls : List (List Int)} {ns : List Int}, cls.map (·.length) = (piecesF ns).map (·.length) → piecesF cls.flatten = cls := by
  intro cls
  induction cls with
  | nil => intro ns _; rfl
  | cons c cls ih =>
    intro ns h
    have hpos : 0 < ns.length := by
      rcases Nat.eq_zero_or_pos ns.length with z | z
      · rw [List.eq_nil_of_length_eq_zero z] at h; cases h
      · exact z
    rw [piecesF_cons hpos, List.map_cons, List.map_cons, List.cons.injEq, List.length_take] at h
    obtain ⟨h1, h2⟩ := h
    have ih := ih h2
    rw [List.flatten_cons]
    rw [piecesF_cons (by rw [List.length_append]; omega)]
    by_cases h3 : c.length = 3
    · rw [← h3, List.take_left, List.drop_left]
      rw [ih]
    · have hd : (ns.drop 3) = [] := List.eq_nil_of_length_eq_zero (by rw [List.length_drop]; omega)
      rw [hd] at h2
      have hc : cls = [] := by
        cases cls with
        | nil => rfl
        | cons a b => cases h2
      subst hc
      rw [List.flatten_nil, List.append_nil, List.take_of_length_le (by omega), List.drop_eq_nil_of_le (by omega)]; rfl
/-- what lies in a slot behind an update: the picture, by the names of its pieces -/
theorem okT_pieces {cs : List (Option Int)} {pic : Pic} {ks : List Int} {pl : Int} (hl : cs.length = 54) (hf : fitsL (manOf ks pic).ts pl) (g : gman (manOf ks pic)) (h : okT cs (manOf ks pic).ts pl) : ∃ ns : List Int, (cs.drop pl.toNat).take pic.cells.length = ns.map some ∧ (piecesF ns).map titleF = (manOf ks pic).ts ∧ ns.length ≤ 12 := by
  obtain ⟨cls, e1, e2⟩ := okT_sum hl hf h
  rw [g.span] at e2
  have hm : ((manOf ks pic).many).toNat = pic.cells.length := Int.toNat_natCast _
  rw [hm] at e2
  have hlen : cls.map (·.length) = (piecesF pic.cells).map (·.length) := by
    have : (cls.map titleF).map (fun t => t.2.2) = ((piecesF pic.cells).map titleF).map fun t => t.2.2 := by rw [e1]; rfl
    rw [List.map_map, List.map_map] at this
    have h2 : ∀ xs : List (List Int), xs.map ((fun t : Int × Int × Int => t.2.2) ∘ titleF) = (xs.map (·.length)).map (fun n : Nat => (n : Int)) := fun xs => by rw [List.map_map]; rfl
    rw [h2, h2] at this
    exact (List.map_inj_right (fun a b z => Int.ofNat.inj z)).mp this
  refine ⟨cls.flatten, e2, by rw [pieces_same hlen]; exact e1, ?_⟩
  have := congrArg List.length e2
  rw [List.length_take, List.length_map] at this
  have h12 := g.many.2
  have : (manOf ks pic).many = pic.cells.length := rfl
  omega
/-- cells from the factory, the other slot as it may be -/
structure FacC (ks : List Int) (pic : Pic) (cs : List (Option Int)) : Prop where
  left : Left 0 9 cs
  good : whyF cs ks 0 = ""
  f0 : floorO cs 0 = pic.v
  f2 : floorO cs 2 = pic.n
  top : topV cs 0 = pic.v
theorem FacC.mach {ks : List Int} {p : Pic} (gg : gk ks) (hp : gp ks p) : FacC ks p (machC ks p) := by
  have hb := machC_b gg hp
  have hin := mach_slot (ks := ks) hp.2.2.2.1 (.inl rfl : (0 : Int) = 0 ∨ (0 : Int) = 1)
  have hh := head_of_slot (.inl rfl) (machC_len ks p) hin (by rw [slotRow_len]; omega)
  obtain ⟨l0, l1, l2, l3⟩ := machC_low (ks := ks) (p := p)
  obtain ⟨p1, p2, p3, p4, p5, p6, p7⟩ := _root_.id hp
  refine ⟨⟨machC_len ks p, hb.1, ?_, pgn_mono hb.2 (by decide)⟩, mach_good gg hp (.inl rfl), ?_, ?_, ?_⟩
  · obtain ⟨x, e, ex⟩ := mach_newest (ks := ks) (p := p)
    exact ⟨x, e, by rw [ex]⟩
  · unfold floorO
    rw [getD_of l0, getD_of l1]
    simp [countF]; omega
  · unfold floorO
    rw [getD_of l2, getD_of l3]
    simp [countF]; omega
  · unfold topV
    rw [hh]; rfl
theorem FacC.set {ks : List Int} {p : Pic} {cs : List (Option Int)} (h : FacC ks p cs) {i : Nat} (hi : 35 ≤ i) {w : Option Int} (hw : ∀ n, w = some n → 0 ≤ n ∧ n ≤ 9972) : FacC ks p (cs.set i w) := by
  obtain ⟨⟨hl, hb, ⟨x, e, ex⟩, hpg⟩, h2, h3, h4, h5⟩ := h
  have hhd : headL (cs.set i w) 0 = headL cs 0 := by
    unfold headL
    exact row_ext fun k k1 k2 => List.getElem?_set_ne (by simp [slotB] at k2; omega)
  have hpt : ∀ m : Int, m ≤ 12 → partsL (cs.set i w) 0 m = partsL cs 0 m := fun m hm => by
    unfold partsL
    exact row_ext fun k k1 k2 => List.getElem?_set_ne (by simp [slotB] at k2; omega)
  have hfl : ∀ k : Nat, k < 3 → floorO (cs.set i w) k = floorO cs k := fun k hk => by
    unfold floorO
    rw [getD_setN (by omega), getD_setN (by omega)]
  refine ⟨⟨by rw [List.length_set]; exact hl, bnd_set hb hw, ⟨x, by rw [newest_set (.inr (by omega))]; exact e, ex⟩, pgn_set hpg (by omega) (by omega)⟩, ?_, by rw [hfl 0 (by decide)]; exact h3, by rw [hfl 2 (by decide)]; exact h4, by unfold topV; rw [hhd]; exact h5⟩
  obtain ⟨v, many, one, two, n, sl, e, q1, q2, q3, q4, q5, q6, q7⟩ := good_inv h2
  exact good_mk (by rw [hhd]; exact e) q1 q2 (by rw [hpt many q2]; exact q3) (by rw [hfl 2 (by decide)]; exact q4) q5 q6 (by rw [hfl 0 (by decide)]; exact q7)
/-- a newer picture's manifest is let in -/
theorem FacC.ref {ks : List Int} {p p2 : Pic} {cs : List (Option Int)} (h : FacC ks p cs) (gg : gk ks) (hp2 : gp ks p2) (hn : p.n ≤ p2.n) (hv : p.v < p2.v) : refB 0 cs ks (manOf ks p2) = "" := by
  have hk := keyOf_ok gg hp2
  refine refB_mk h.good ⟨by rw [h.f2]; exact hn, hp2.2.2.2.2.2.2⟩ ?_ (by rw [h.f0]; exact Int.le_of_lt hv) (by rw [h.top]; exact hv)
  show sealF (ks.getD p2.n.toNat 0) (plainF p2) = sealF (keyOf ks p2) (plainF p2)
  rw [getD_of hk.1]
theorem x_mid {Q : VK} {P : VK → Prop} (C : V → Hp → Prop) (h : ∀ Q' : VK, (∀ v H', C v H' → Q' v H') → P Q') (k : ∀ v H', C v H' → Q v H') : P Q := h Q k
theorem trip_dep (t : Int × Int × Int) : (tripD t).depth ≤ 1 := by simp [tripD, PyData.depth, PyData.depthAll]
theorem trip_lay (t : Int × Int × Int) : (tripD t).canLay0 = true := by simp [tripD, PyData.canLay0, PyData.canLayAll0]
theorem sh_names (ts : List (Int × Int × Int)) : SeqAt.shaped (.tuple (ts.map tripD)) = true := by
  have h1 := depL_map trip_dep ts
  have h2 := layL_map trip_lay ts
  simp [SeqAt.shaped, PyData.canLay0, PyData.depth, h2]
  omega
theorem cut4_1 (x0 x1 x2 x3 : V) : cutV [x0, x1, x2, x3] (some 1) none = [x1, x2, x3] := rfl
end Z

namespace ZL
open PySem L2 Z
/-! ### the text -/
def topS (i : Nat) : Stmt := PySem.Challenge.pw_twoimages_k26_whole_asked_again_it_goes.main.body.getD i (.Pass ⟨0, 0, 0, 0⟩)
abbrev s__law_taken : Stmt := topS 58
abbrev s__law_keys : Stmt := topS 70
abbrev s__law_worth : Stmt := topS 59
abbrev s__law_picture : Stmt := topS 71
abbrev s__law_sums : Stmt := topS 60
abbrev s__law_newest : Stmt := topS 66
abbrev s__law_noted : Stmt := topS 67
abbrev s__law_seal : Stmt := topS 61
abbrev s__law_head : Stmt := topS 64
abbrev s__law_machine : Stmt := topS 69
abbrev s__law_newer : Stmt := topS 72
abbrev s__law_pieces : Stmt := topS 63
abbrev s__law_title : Stmt := topS 62
abbrev s__law_manifest : Stmt := topS 65
abbrev s__law_store : Stmt := topS 73
abbrev s__law_stores : Stmt := topS 74
abbrev s_Memory___init__ : Stmt := inClass (topS 12) 0
abbrev s_Memory_need_place : Stmt := inClass (topS 12) 1
abbrev s_Memory_need_cell : Stmt := inClass (topS 12) 5
abbrev s_Memory_spoil : Stmt := inClass (topS 12) 10
abbrev s__law_memory : Stmt := topS 75
abbrev s_Memory_cut : Stmt := inClass (topS 12) 8
abbrev s__law_stop : Stmt := topS 76
abbrev s_Memory_need_power : Stmt := inClass (topS 12) 2
abbrev s_Memory_read : Stmt := inClass (topS 12) 3
abbrev s_Memory_row : Stmt := inClass (topS 12) 4
abbrev s_sums : Stmt := topS 15
abbrev s_page : Stmt := topS 21
abbrev s_newest : Stmt := topS 22
abbrev s_record : Stmt := topS 23
abbrev s_booked : Stmt := topS 50
abbrev s_head_of : Stmt := topS 37
abbrev s_parts_of : Stmt := topS 38
abbrev s_count : Stmt := topS 28
abbrev s_floor_of : Stmt := topS 39
abbrev s_seal : Stmt := topS 17
abbrev s_why_not : Stmt := topS 40
abbrev s_judged : Stmt := topS 41
abbrev s_why_refused : Stmt := topS 51
abbrev s_page_row : Stmt := topS 24
abbrev s_Memory_go_down : Stmt := inClass (topS 12) 7
abbrev s_Memory_write : Stmt := inClass (topS 12) 6
abbrev s_note : Stmt := topS 25
abbrev s_open_slot : Stmt := topS 53
abbrev s_pieces : Stmt := topS 44
abbrev s_name : Stmt := topS 16
abbrev s_trusted_pieces : Stmt := topS 52
abbrev s_asked : Stmt := topS 45
abbrev s_Memory_put : Stmt := inClass (topS 12) 13
abbrev s_lay_pieces : Stmt := topS 55
abbrev s_close_slot : Stmt := topS 54
abbrev s_update : Stmt := topS 56
abbrev s_Memory_up : Stmt := inClass (topS 12) 9
abbrev s_Memory_cells : Stmt := inClass (topS 12) 11
abbrev s__law_right : Stmt := topS 77
abbrev s__law_book : Stmt := topS 68
abbrev s_law : Stmt := topS 78
theorem sc__law_taken : FnScope ["_law_row", "_law_many", "_law_found", "_law_cell"] ["_law_row", "_law_many"] (defScope s__law_taken) := ⟨rfl, rfl, rfl, by decide +kernel, rfl, by decide +kernel, by decide +kernel⟩
theorem sc__law_keys : FnScope ["_law_row", "_law_k"] ["_law_row"] (defScope s__law_keys) := ⟨rfl, rfl, rfl, by decide +kernel, rfl, by decide +kernel, by decide +kernel⟩
theorem sc__law_worth : FnScope ["_law_row"] ["_law_row"] (defScope s__law_worth) := ⟨rfl, rfl, rfl, by decide +kernel, rfl, by decide +kernel, by decide +kernel⟩
theorem sc__law_picture : FnScope ["_law_row", "_law_keys_here", "_law_most", "_law_cells", "_law_k"] ["_law_row", "_law_keys_here", "_law_most"] (defScope s__law_picture) := ⟨rfl, rfl, rfl, by decide +kernel, rfl, by decide +kernel, by decide +kernel⟩
theorem sc__law_sums : FnScope ["_law_some", "_law_one", "_law_two", "_law_number", "_law_k"] ["_law_some"] (defScope s__law_sums) := ⟨rfl, rfl, rfl, by decide +kernel, rfl, by decide +kernel, by decide +kernel⟩
theorem sc__law_newest : FnScope ["_law_cells", "_law_place", "_law_found", "_law_which", "_law_row"] ["_law_cells", "_law_place"] (defScope s__law_newest) := ⟨rfl, rfl, rfl, by decide +kernel, rfl, by decide +kernel, by decide +kernel⟩
theorem sc__law_noted : FnScope ["_law_cells", "_law_place", "_law_three", "_law_here", "_law_begin", "_law_number", "_law_told", "_law_k"] ["_law_cells", "_law_place", "_law_three"] (defScope s__law_noted) := ⟨rfl, rfl, rfl, by decide +kernel, rfl, by decide +kernel, by decide +kernel⟩
theorem sc__law_seal : FnScope ["_law_key", "_law_some", "_law_found", "_law_power", "_law_number"] ["_law_key", "_law_some"] (defScope s__law_seal) := ⟨rfl, rfl, rfl, by decide +kernel, rfl, by decide +kernel, by decide +kernel⟩
theorem sc__law_head : FnScope ["_law_keys_here", "_law_picture_here", "_law_version", "_law_cells", "_law_number", "_law_plain"] ["_law_keys_here", "_law_picture_here"] (defScope s__law_head) := ⟨rfl, rfl, rfl, by decide +kernel, rfl, by decide +kernel, by decide +kernel⟩
theorem sc__law_machine : FnScope ["_law_keys_here", "_law_tries", "_law_picture_here", "_law_cells", "_law_place", "_law_worth_here", "_law_some", "_law_k", "_law_m"] ["_law_keys_here", "_law_tries", "_law_picture_here"] (defScope s__law_machine) := ⟨rfl, rfl, rfl, by decide +kernel, rfl, by decide +kernel, by decide +kernel⟩
theorem sc__law_newer : FnScope ["_law_row", "_law_keys_here", "_law_picture_here", "_law_more", "_law_version", "_law_cells", "_law_number", "_law_some", "_law_turn", "_law_way", "_law_late", "_law_k"] ["_law_row", "_law_keys_here", "_law_picture_here", "_law_more"] (defScope s__law_newer) := ⟨rfl, rfl, rfl, by decide +kernel, rfl, by decide +kernel, by decide +kernel⟩
theorem sc__law_pieces : FnScope ["_law_some", "_law_k"] ["_law_some"] (defScope s__law_pieces) := ⟨rfl, rfl, rfl, by decide +kernel, rfl, by decide +kernel, by decide +kernel⟩
theorem sc__law_title : FnScope ["_law_piece", "_law_both"] ["_law_piece"] (defScope s__law_title) := ⟨rfl, rfl, rfl, by decide +kernel, rfl, by decide +kernel, by decide +kernel⟩
theorem sc__law_manifest : FnScope ["_law_keys_here", "_law_picture_here", "_law_piece"] ["_law_keys_here", "_law_picture_here"] (defScope s__law_manifest) := ⟨rfl, rfl, rfl, by decide +kernel, rfl, by decide +kernel, by decide +kernel⟩
theorem sc__law_store : FnScope ["_law_row", "_law_picture_here", "_law_often", "_law_found", "_law_piece", "_law_title_here", "_law_turn", "_law_some"] ["_law_row", "_law_picture_here", "_law_often"] (defScope s__law_store) := ⟨rfl, rfl, rfl, by decide +kernel, rfl, by decide +kernel, by decide +kernel⟩
theorem sc__law_stores : FnScope ["_law_row", "_law_picture_here", "_law_sure", "_law_found", "_law_k"] ["_law_row", "_law_picture_here", "_law_sure"] (defScope s__law_stores) := ⟨rfl, rfl, rfl, by decide +kernel, rfl, by decide +kernel, by decide +kernel⟩
theorem sc_Memory___init__ : FnScope ["self", "size"] ["self", "size"] (defScope s_Memory___init__) := ⟨rfl, rfl, rfl, by decide +kernel, rfl, by decide +kernel, by decide +kernel⟩
theorem sc_Memory_need_place : FnScope ["self", "place"] ["self", "place"] (defScope s_Memory_need_place) := ⟨rfl, rfl, rfl, by decide +kernel, rfl, by decide +kernel, by decide +kernel⟩
theorem sc_Memory_need_cell : FnScope ["self", "place", "worth"] ["self", "place", "worth"] (defScope s_Memory_need_cell) := ⟨rfl, rfl, rfl, by decide +kernel, rfl, by decide +kernel, by decide +kernel⟩
theorem sc_Memory_spoil : FnScope ["self", "place", "worth"] ["self", "place", "worth"] (defScope s_Memory_spoil) := ⟨rfl, rfl, rfl, by decide +kernel, rfl, by decide +kernel, by decide +kernel⟩
theorem sc__law_memory : FnScope ["_law_cells", "_law_memory_here", "_law_place"] ["_law_cells"] (defScope s__law_memory) := ⟨rfl, rfl, rfl, by decide +kernel, rfl, by decide +kernel, by decide +kernel⟩
theorem sc_Memory_cut : FnScope ["self", "many", "torn"] ["self", "many", "torn"] (defScope s_Memory_cut) := ⟨rfl, rfl, rfl, by decide +kernel, rfl, by decide +kernel, by decide +kernel⟩
theorem sc__law_stop : FnScope ["_law_work"] ["_law_work"] (defScope s__law_stop) := ⟨rfl, rfl, rfl, by decide +kernel, rfl, by decide +kernel, by decide +kernel⟩
theorem sc_Memory_need_power : FnScope ["self"] ["self"] (defScope s_Memory_need_power) := ⟨rfl, rfl, rfl, by decide +kernel, rfl, by decide +kernel, by decide +kernel⟩
theorem sc_Memory_read : FnScope ["self", "place"] ["self", "place"] (defScope s_Memory_read) := ⟨rfl, rfl, rfl, by decide +kernel, rfl, by decide +kernel, by decide +kernel⟩
theorem sc_Memory_row : FnScope ["self", "place", "many", "k"] ["self", "place", "many"] (defScope s_Memory_row) := ⟨rfl, rfl, rfl, by decide +kernel, rfl, by decide +kernel, by decide +kernel⟩
theorem sc_sums : FnScope ["row", "one", "two", "number"] ["row"] (defScope s_sums) := ⟨rfl, rfl, rfl, by decide +kernel, rfl, by decide +kernel, by decide +kernel⟩
theorem sc_page : FnScope ["memory", "place", "row"] ["memory", "place"] (defScope s_page) := ⟨rfl, rfl, rfl, by decide +kernel, rfl, by decide +kernel, by decide +kernel⟩
theorem sc_newest : FnScope ["memory", "place", "found", "which", "one"] ["memory", "place"] (defScope s_newest) := ⟨rfl, rfl, rfl, by decide +kernel, rfl, by decide +kernel, by decide +kernel⟩
theorem sc_record : FnScope ["memory", "place", "found"] ["memory", "place"] (defScope s_record) := ⟨rfl, rfl, rfl, by decide +kernel, rfl, by decide +kernel, by decide +kernel⟩
theorem sc_booked : FnScope ["memory", "found"] ["memory"] (defScope s_booked) := ⟨rfl, rfl, rfl, by decide +kernel, rfl, by decide +kernel, by decide +kernel⟩
theorem sc_head_of : FnScope ["memory", "slot"] ["memory", "slot"] (defScope s_head_of) := ⟨rfl, rfl, rfl, by decide +kernel, rfl, by decide +kernel, by decide +kernel⟩
theorem sc_parts_of : FnScope ["memory", "slot", "many"] ["memory", "slot", "many"] (defScope s_parts_of) := ⟨rfl, rfl, rfl, by decide +kernel, rfl, by decide +kernel, by decide +kernel⟩
theorem sc_count : FnScope ["memory", "place", "some", "number"] ["memory", "place"] (defScope s_count) := ⟨rfl, rfl, rfl, by decide +kernel, rfl, by decide +kernel, by decide +kernel⟩
theorem sc_floor_of : FnScope ["memory", "place", "found"] ["memory", "place"] (defScope s_floor_of) := ⟨rfl, rfl, rfl, by decide +kernel, rfl, by decide +kernel, by decide +kernel⟩
theorem sc_seal : FnScope ["key", "head", "found", "number"] ["key", "head"] (defScope s_seal) := ⟨rfl, rfl, rfl, by decide +kernel, rfl, by decide +kernel, by decide +kernel⟩
theorem sc_why_not : FnScope ["memory", "keys", "slot", "head", "version", "many", "one", "two", "number", "sealed"] ["memory", "keys", "slot"] (defScope s_why_not) := ⟨rfl, rfl, rfl, by decide +kernel, rfl, by decide +kernel, by decide +kernel⟩
theorem sc_judged : FnScope ["memory", "keys", "slot", "word"] ["memory", "keys", "slot"] (defScope s_judged) := ⟨rfl, rfl, rfl, by decide +kernel, rfl, by decide +kernel, by decide +kernel⟩
theorem sc_why_refused : FnScope ["memory", "keys", "manifest", "number", "sealed", "here"] ["memory", "keys", "manifest"] (defScope s_why_refused) := ⟨rfl, rfl, rfl, by decide +kernel, rfl, by decide +kernel, by decide +kernel⟩
theorem sc_page_row : FnScope ["number", "row"] ["number", "row"] (defScope s_page_row) := ⟨rfl, rfl, rfl, by decide +kernel, rfl, by decide +kernel, by decide +kernel⟩
theorem sc_Memory_go_down : FnScope ["self", "place", "worth"] ["self", "place", "worth"] (defScope s_Memory_go_down) := ⟨rfl, rfl, rfl, by decide +kernel, rfl, by decide +kernel, by decide +kernel⟩
theorem sc_Memory_write : FnScope ["self", "place", "worth"] ["self", "place", "worth"] (defScope s_Memory_write) := ⟨rfl, rfl, rfl, by decide +kernel, rfl, by decide +kernel, by decide +kernel⟩
theorem sc_note : FnScope ["memory", "place", "row", "here", "which", "number", "begin", "told", "k"] ["memory", "place", "row"] (defScope s_note) := ⟨rfl, rfl, rfl, by decide +kernel, rfl, by decide +kernel, by decide +kernel⟩
theorem sc_open_slot : FnScope ["memory", "slot"] ["memory", "slot"] (defScope s_open_slot) := ⟨rfl, rfl, rfl, by decide +kernel, rfl, by decide +kernel, by decide +kernel⟩
theorem sc_pieces : FnScope ["row", "begin"] ["row"] (defScope s_pieces) := ⟨rfl, rfl, rfl, by decide +kernel, rfl, by decide +kernel, by decide +kernel⟩
theorem sc_name : FnScope ["piece", "both"] ["piece"] (defScope s_name) := ⟨rfl, rfl, rfl, by decide +kernel, rfl, by decide +kernel, by decide +kernel⟩
theorem sc_trusted_pieces : FnScope ["memory", "slot", "row", "piece"] ["memory"] (defScope s_trusted_pieces) := ⟨rfl, rfl, rfl, by decide +kernel, rfl, by decide +kernel, by decide +kernel⟩
theorem sc_asked : FnScope ["stores", "title", "looks", "store", "known", "piece"] ["stores", "title"] (defScope s_asked) := ⟨rfl, rfl, rfl, by decide +kernel, rfl, by decide +kernel, by decide +kernel⟩
theorem sc_Memory_put : FnScope ["self", "place", "row", "k", "found"] ["self", "place", "row"] (defScope s_Memory_put) := ⟨rfl, rfl, rfl, by decide +kernel, rfl, by decide +kernel, by decide +kernel⟩
theorem sc_lay_pieces : FnScope ["memory", "slot", "names", "stores", "known", "counts", "place", "number", "title", "which", "piece"] ["memory", "slot", "names", "stores"] (defScope s_lay_pieces) := ⟨rfl, rfl, rfl, by decide +kernel, rfl, by decide +kernel, by decide +kernel⟩
theorem sc_close_slot : FnScope ["memory", "slot", "head"] ["memory", "slot", "head"] (defScope s_close_slot) := ⟨rfl, rfl, rfl, by decide +kernel, rfl, by decide +kernel, by decide +kernel⟩
theorem sc_update : FnScope ["memory", "keys", "tries", "manifest", "stores", "word", "trusted", "state", "left", "slot", "kept", "copied", "got", "lacking"] ["memory", "keys", "tries", "manifest", "stores"] (defScope s_update) := ⟨rfl, rfl, rfl, by decide +kernel, rfl, by decide +kernel, by decide +kernel⟩
theorem sc_Memory_up : FnScope ["self"] ["self"] (defScope s_Memory_up) := ⟨rfl, rfl, rfl, by decide +kernel, rfl, by decide +kernel, by decide +kernel⟩
theorem sc_Memory_cells : FnScope ["self"] ["self"] (defScope s_Memory_cells) := ⟨rfl, rfl, rfl, by decide +kernel, rfl, by decide +kernel, by decide +kernel⟩
theorem sc__law_right : FnScope ["_law_cells", "_law_slot", "_law_titles", "_law_place", "_law_found", "_law_title_here"] ["_law_cells", "_law_slot", "_law_titles"] (defScope s__law_right) := ⟨rfl, rfl, rfl, by decide +kernel, rfl, by decide +kernel, by decide +kernel⟩
theorem sc__law_book : FnScope ["_law_cells", "_law_here"] ["_law_cells"] (defScope s__law_book) := ⟨rfl, rfl, rfl, by decide +kernel, rfl, by decide +kernel, by decide +kernel⟩
theorem sc_law : FnScope ["_law_script", "_law_row", "_law_turn", "_law_picture_here", "_law_cells", "_law_k", "_law_newer_here", "_law_here", "_law_stop_here", "_law_told", "_law_now", "_law_there", "_law_keys_here", "_law_manifest_here", "_law_memory_here", "_law_stores_here", "_law_piece"] ["_law_script"] (defScope s_law) := ⟨rfl, rfl, rfl, by decide +kernel, rfl, by decide +kernel, by decide +kernel⟩
/-! ### what the top has made -/
structure Ad where
  a__law_taken : Addr
  d__law_taken : FuncData
  a__law_keys : Addr
  d__law_keys : FuncData
  a__law_worth : Addr
  d__law_worth : FuncData
  a__law_picture : Addr
  d__law_picture : FuncData
  a__law_sums : Addr
  d__law_sums : FuncData
  a__law_newest : Addr
  d__law_newest : FuncData
  a__law_noted : Addr
  d__law_noted : FuncData
  a__law_seal : Addr
  d__law_seal : FuncData
  a__law_head : Addr
  d__law_head : FuncData
  a__law_machine : Addr
  d__law_machine : FuncData
  a__law_newer : Addr
  d__law_newer : FuncData
  a__law_pieces : Addr
  d__law_pieces : FuncData
  a__law_title : Addr
  d__law_title : FuncData
  a__law_manifest : Addr
  d__law_manifest : FuncData
  a__law_store : Addr
  d__law_store : FuncData
  a__law_stores : Addr
  d__law_stores : FuncData
  a_Memory___init__ : Addr
  d_Memory___init__ : FuncData
  a_Memory_need_place : Addr
  d_Memory_need_place : FuncData
  a_Memory_need_cell : Addr
  d_Memory_need_cell : FuncData
  a_Memory_spoil : Addr
  d_Memory_spoil : FuncData
  a__law_memory : Addr
  d__law_memory : FuncData
  a_Memory_cut : Addr
  d_Memory_cut : FuncData
  a__law_stop : Addr
  d__law_stop : FuncData
  a_Memory_need_power : Addr
  d_Memory_need_power : FuncData
  a_Memory_read : Addr
  d_Memory_read : FuncData
  a_Memory_row : Addr
  d_Memory_row : FuncData
  a_sums : Addr
  d_sums : FuncData
  a_page : Addr
  d_page : FuncData
  a_newest : Addr
  d_newest : FuncData
  a_record : Addr
  d_record : FuncData
  a_booked : Addr
  d_booked : FuncData
  a_head_of : Addr
  d_head_of : FuncData
  a_parts_of : Addr
  d_parts_of : FuncData
  a_count : Addr
  d_count : FuncData
  a_floor_of : Addr
  d_floor_of : FuncData
  a_seal : Addr
  d_seal : FuncData
  a_why_not : Addr
  d_why_not : FuncData
  a_judged : Addr
  d_judged : FuncData
  a_why_refused : Addr
  d_why_refused : FuncData
  a_page_row : Addr
  d_page_row : FuncData
  a_Memory_go_down : Addr
  d_Memory_go_down : FuncData
  a_Memory_write : Addr
  d_Memory_write : FuncData
  a_note : Addr
  d_note : FuncData
  a_open_slot : Addr
  d_open_slot : FuncData
  a_pieces : Addr
  d_pieces : FuncData
  a_name : Addr
  d_name : FuncData
  a_trusted_pieces : Addr
  d_trusted_pieces : FuncData
  a_asked : Addr
  d_asked : FuncData
  a_Memory_put : Addr
  d_Memory_put : FuncData
  a_lay_pieces : Addr
  d_lay_pieces : FuncData
  a_close_slot : Addr
  d_close_slot : FuncData
  a_update : Addr
  d_update : FuncData
  a_Memory_up : Addr
  d_Memory_up : FuncData
  a_Memory_cells : Addr
  d_Memory_cells : FuncData
  a__law_right : Addr
  d__law_right : FuncData
  a__law_book : Addr
  d__law_book : FuncData
  a_law : Addr
  d_law : FuncData
  c_BadCut : Addr
  c_BadPlace : Addr
  c_BadSize : Addr
  c_BadWorth : Addr
  c_FRESH : Addr
  c_Memory : Addr
  c_SLOTS : Addr
  c_Stopped : Addr
  c_TORNS : Addr
  cd_law : Addr
  tb_law : Addr
abbrev lamq_law : Str := (PyProof.Rows.envOfC "law" (defScope s_law) 0 0 .none).qual ++ "<lambda>"
abbrev erF (A : Ad) : Z.Er → Addr
  | .size => A.c_BadSize
  | .place => A.c_BadPlace
  | .worth => A.c_BadWorth
  | .cut => A.c_BadCut
  | .stopped => A.c_Stopped
structure Txt (K : PySem.W.Frag) (mg : Str → Option Value) (base : Heap) (A : Ad) : Prop where
  F__law_taken : Fun K "_law_taken" "_law_taken" s__law_taken A.a__law_taken A.d__law_taken
  b__law_taken : Binds K A.d__law_taken ["_law_row", "_law_many"] []
  g__law_taken : mg "_law_taken" = some (.ref A.a__law_taken)
  F__law_keys : Fun K "_law_keys" "_law_keys" s__law_keys A.a__law_keys A.d__law_keys
  b__law_keys : Binds K A.d__law_keys ["_law_row"] []
  g__law_keys : mg "_law_keys" = some (.ref A.a__law_keys)
  F__law_worth : Fun K "_law_worth" "_law_worth" s__law_worth A.a__law_worth A.d__law_worth
  b__law_worth : Binds K A.d__law_worth ["_law_row"] []
  g__law_worth : mg "_law_worth" = some (.ref A.a__law_worth)
  F__law_picture : Fun K "_law_picture" "_law_picture" s__law_picture A.a__law_picture A.d__law_picture
  b__law_picture : Binds K A.d__law_picture ["_law_row", "_law_keys_here", "_law_most"] []
  g__law_picture : mg "_law_picture" = some (.ref A.a__law_picture)
  F__law_sums : Fun K "_law_sums" "_law_sums" s__law_sums A.a__law_sums A.d__law_sums
  b__law_sums : Binds K A.d__law_sums ["_law_some"] []
  g__law_sums : mg "_law_sums" = some (.ref A.a__law_sums)
  F__law_newest : Fun K "_law_newest" "_law_newest" s__law_newest A.a__law_newest A.d__law_newest
  b__law_newest : Binds K A.d__law_newest ["_law_cells", "_law_place"] []
  g__law_newest : mg "_law_newest" = some (.ref A.a__law_newest)
  F__law_noted : Fun K "_law_noted" "_law_noted" s__law_noted A.a__law_noted A.d__law_noted
  b__law_noted : Binds K A.d__law_noted ["_law_cells", "_law_place", "_law_three"] []
  g__law_noted : mg "_law_noted" = some (.ref A.a__law_noted)
  F__law_seal : Fun K "_law_seal" "_law_seal" s__law_seal A.a__law_seal A.d__law_seal
  b__law_seal : Binds K A.d__law_seal ["_law_key", "_law_some"] []
  g__law_seal : mg "_law_seal" = some (.ref A.a__law_seal)
  F__law_head : Fun K "_law_head" "_law_head" s__law_head A.a__law_head A.d__law_head
  b__law_head : Binds K A.d__law_head ["_law_keys_here", "_law_picture_here"] []
  g__law_head : mg "_law_head" = some (.ref A.a__law_head)
  F__law_machine : Fun K "_law_machine" "_law_machine" s__law_machine A.a__law_machine A.d__law_machine
  b__law_machine : Binds K A.d__law_machine ["_law_keys_here", "_law_tries", "_law_picture_here"] []
  g__law_machine : mg "_law_machine" = some (.ref A.a__law_machine)
  F__law_newer : Fun K "_law_newer" "_law_newer" s__law_newer A.a__law_newer A.d__law_newer
  b__law_newer : Binds K A.d__law_newer ["_law_row", "_law_keys_here", "_law_picture_here", "_law_more"] []
  g__law_newer : mg "_law_newer" = some (.ref A.a__law_newer)
  F__law_pieces : Fun K "_law_pieces" "_law_pieces" s__law_pieces A.a__law_pieces A.d__law_pieces
  b__law_pieces : Binds K A.d__law_pieces ["_law_some"] []
  g__law_pieces : mg "_law_pieces" = some (.ref A.a__law_pieces)
  F__law_title : Fun K "_law_title" "_law_title" s__law_title A.a__law_title A.d__law_title
  b__law_title : Binds K A.d__law_title ["_law_piece"] []
  g__law_title : mg "_law_title" = some (.ref A.a__law_title)
  F__law_manifest : Fun K "_law_manifest" "_law_manifest" s__law_manifest A.a__law_manifest A.d__law_manifest
  b__law_manifest : Binds K A.d__law_manifest ["_law_keys_here", "_law_picture_here"] []
  g__law_manifest : mg "_law_manifest" = some (.ref A.a__law_manifest)
  F__law_store : Fun K "_law_store" "_law_store" s__law_store A.a__law_store A.d__law_store
  b__law_store : Binds K A.d__law_store ["_law_row", "_law_picture_here", "_law_often"] []
  g__law_store : mg "_law_store" = some (.ref A.a__law_store)
  F__law_stores : Fun K "_law_stores" "_law_stores" s__law_stores A.a__law_stores A.d__law_stores
  b__law_stores : Binds K A.d__law_stores ["_law_row", "_law_picture_here", "_law_sure"] []
  g__law_stores : mg "_law_stores" = some (.ref A.a__law_stores)
  F_Memory___init__ : Fun K "__init__" "Memory.__init__" s_Memory___init__ A.a_Memory___init__ A.d_Memory___init__
  b_Memory___init__ : Binds K A.d_Memory___init__ ["self", "size"] []
  m_Memory___init__ : Meth K A.c_Memory "__init__" A.a_Memory___init__
  F_Memory_need_place : Fun K "need_place" "Memory.need_place" s_Memory_need_place A.a_Memory_need_place A.d_Memory_need_place
  b_Memory_need_place : Binds K A.d_Memory_need_place ["self", "place"] []
  m_Memory_need_place : Meth K A.c_Memory "need_place" A.a_Memory_need_place
  F_Memory_need_cell : Fun K "need_cell" "Memory.need_cell" s_Memory_need_cell A.a_Memory_need_cell A.d_Memory_need_cell
  b_Memory_need_cell : Binds K A.d_Memory_need_cell ["self", "place", "worth"] []
  m_Memory_need_cell : Meth K A.c_Memory "need_cell" A.a_Memory_need_cell
  F_Memory_spoil : Fun K "spoil" "Memory.spoil" s_Memory_spoil A.a_Memory_spoil A.d_Memory_spoil
  b_Memory_spoil : Binds K A.d_Memory_spoil ["self", "place", "worth"] []
  m_Memory_spoil : Meth K A.c_Memory "spoil" A.a_Memory_spoil
  F__law_memory : Fun K "_law_memory" "_law_memory" s__law_memory A.a__law_memory A.d__law_memory
  b__law_memory : Binds K A.d__law_memory ["_law_cells"] []
  g__law_memory : mg "_law_memory" = some (.ref A.a__law_memory)
  F_Memory_cut : Fun K "cut" "Memory.cut" s_Memory_cut A.a_Memory_cut A.d_Memory_cut
  b_Memory_cut : Binds K A.d_Memory_cut ["self", "many", "torn"] []
  m_Memory_cut : Meth K A.c_Memory "cut" A.a_Memory_cut
  F__law_stop : Fun K "_law_stop" "_law_stop" s__law_stop A.a__law_stop A.d__law_stop
  b__law_stop : Binds K A.d__law_stop ["_law_work"] []
  g__law_stop : mg "_law_stop" = some (.ref A.a__law_stop)
  F_Memory_need_power : Fun K "need_power" "Memory.need_power" s_Memory_need_power A.a_Memory_need_power A.d_Memory_need_power
  b_Memory_need_power : Binds K A.d_Memory_need_power ["self"] []
  m_Memory_need_power : Meth K A.c_Memory "need_power" A.a_Memory_need_power
  F_Memory_read : Fun K "read" "Memory.read" s_Memory_read A.a_Memory_read A.d_Memory_read
  b_Memory_read : Binds K A.d_Memory_read ["self", "place"] []
  m_Memory_read : Meth K A.c_Memory "read" A.a_Memory_read
  F_Memory_row : Fun K "row" "Memory.row" s_Memory_row A.a_Memory_row A.d_Memory_row
  b_Memory_row : Binds K A.d_Memory_row ["self", "place", "many"] []
  m_Memory_row : Meth K A.c_Memory "row" A.a_Memory_row
  F_sums : Fun K "sums" "sums" s_sums A.a_sums A.d_sums
  b_sums : Binds K A.d_sums ["row"] []
  g_sums : mg "sums" = some (.ref A.a_sums)
  F_page : Fun K "page" "page" s_page A.a_page A.d_page
  b_page : Binds K A.d_page ["memory", "place"] []
  g_page : mg "page" = some (.ref A.a_page)
  F_newest : Fun K "newest" "newest" s_newest A.a_newest A.d_newest
  b_newest : Binds K A.d_newest ["memory", "place"] []
  g_newest : mg "newest" = some (.ref A.a_newest)
  F_record : Fun K "record" "record" s_record A.a_record A.d_record
  b_record : Binds K A.d_record ["memory", "place"] []
  g_record : mg "record" = some (.ref A.a_record)
  F_booked : Fun K "booked" "booked" s_booked A.a_booked A.d_booked
  b_booked : Binds K A.d_booked ["memory"] []
  g_booked : mg "booked" = some (.ref A.a_booked)
  F_head_of : Fun K "head_of" "head_of" s_head_of A.a_head_of A.d_head_of
  b_head_of : Binds K A.d_head_of ["memory", "slot"] []
  g_head_of : mg "head_of" = some (.ref A.a_head_of)
  F_parts_of : Fun K "parts_of" "parts_of" s_parts_of A.a_parts_of A.d_parts_of
  b_parts_of : Binds K A.d_parts_of ["memory", "slot", "many"] []
  g_parts_of : mg "parts_of" = some (.ref A.a_parts_of)
  F_count : Fun K "count" "count" s_count A.a_count A.d_count
  b_count : Binds K A.d_count ["memory", "place"] []
  g_count : mg "count" = some (.ref A.a_count)
  F_floor_of : Fun K "floor_of" "floor_of" s_floor_of A.a_floor_of A.d_floor_of
  b_floor_of : Binds K A.d_floor_of ["memory", "place"] []
  g_floor_of : mg "floor_of" = some (.ref A.a_floor_of)
  F_seal : Fun K "seal" "seal" s_seal A.a_seal A.d_seal
  b_seal : Binds K A.d_seal ["key", "head"] []
  g_seal : mg "seal" = some (.ref A.a_seal)
  F_why_not : Fun K "why_not" "why_not" s_why_not A.a_why_not A.d_why_not
  b_why_not : Binds K A.d_why_not ["memory", "keys", "slot"] []
  g_why_not : mg "why_not" = some (.ref A.a_why_not)
  F_judged : Fun K "judged" "judged" s_judged A.a_judged A.d_judged
  b_judged : Binds K A.d_judged ["memory", "keys", "slot"] []
  g_judged : mg "judged" = some (.ref A.a_judged)
  F_why_refused : Fun K "why_refused" "why_refused" s_why_refused A.a_why_refused A.d_why_refused
  b_why_refused : Binds K A.d_why_refused ["memory", "keys", "manifest"] []
  g_why_refused : mg "why_refused" = some (.ref A.a_why_refused)
  F_page_row : Fun K "page_row" "page_row" s_page_row A.a_page_row A.d_page_row
  b_page_row : Binds K A.d_page_row ["number", "row"] []
  g_page_row : mg "page_row" = some (.ref A.a_page_row)
  F_Memory_go_down : Fun K "go_down" "Memory.go_down" s_Memory_go_down A.a_Memory_go_down A.d_Memory_go_down
  b_Memory_go_down : Binds K A.d_Memory_go_down ["self", "place", "worth"] []
  m_Memory_go_down : Meth K A.c_Memory "go_down" A.a_Memory_go_down
  F_Memory_write : Fun K "write" "Memory.write" s_Memory_write A.a_Memory_write A.d_Memory_write
  b_Memory_write : Binds K A.d_Memory_write ["self", "place", "worth"] []
  m_Memory_write : Meth K A.c_Memory "write" A.a_Memory_write
  F_note : Fun K "note" "note" s_note A.a_note A.d_note
  b_note : Binds K A.d_note ["memory", "place", "row"] []
  g_note : mg "note" = some (.ref A.a_note)
  F_open_slot : Fun K "open_slot" "open_slot" s_open_slot A.a_open_slot A.d_open_slot
  b_open_slot : Binds K A.d_open_slot ["memory", "slot"] []
  g_open_slot : mg "open_slot" = some (.ref A.a_open_slot)
  F_pieces : Fun K "pieces" "pieces" s_pieces A.a_pieces A.d_pieces
  b_pieces : Binds K A.d_pieces ["row"] []
  g_pieces : mg "pieces" = some (.ref A.a_pieces)
  F_name : Fun K "name" "name" s_name A.a_name A.d_name
  b_name : Binds K A.d_name ["piece"] []
  g_name : mg "name" = some (.ref A.a_name)
  F_trusted_pieces : Fun K "trusted_pieces" "trusted_pieces" s_trusted_pieces A.a_trusted_pieces A.d_trusted_pieces
  b_trusted_pieces : Binds K A.d_trusted_pieces ["memory"] []
  g_trusted_pieces : mg "trusted_pieces" = some (.ref A.a_trusted_pieces)
  F_asked : Fun K "asked" "asked" s_asked A.a_asked A.d_asked
  b_asked : Binds K A.d_asked ["stores", "title"] []
  g_asked : mg "asked" = some (.ref A.a_asked)
  F_Memory_put : Fun K "put" "Memory.put" s_Memory_put A.a_Memory_put A.d_Memory_put
  b_Memory_put : Binds K A.d_Memory_put ["self", "place", "row"] []
  m_Memory_put : Meth K A.c_Memory "put" A.a_Memory_put
  F_lay_pieces : Fun K "lay_pieces" "lay_pieces" s_lay_pieces A.a_lay_pieces A.d_lay_pieces
  b_lay_pieces : Binds K A.d_lay_pieces ["memory", "slot", "names", "stores"] []
  g_lay_pieces : mg "lay_pieces" = some (.ref A.a_lay_pieces)
  F_close_slot : Fun K "close_slot" "close_slot" s_close_slot A.a_close_slot A.d_close_slot
  b_close_slot : Binds K A.d_close_slot ["memory", "slot", "head"] []
  g_close_slot : mg "close_slot" = some (.ref A.a_close_slot)
  F_update : Fun K "update" "update" s_update A.a_update A.d_update
  b_update : Binds K A.d_update ["memory", "keys", "tries", "manifest", "stores"] []
  g_update : mg "update" = some (.ref A.a_update)
  F_Memory_up : Fun K "up" "Memory.up" s_Memory_up A.a_Memory_up A.d_Memory_up
  b_Memory_up : Binds K A.d_Memory_up ["self"] []
  m_Memory_up : Meth K A.c_Memory "up" A.a_Memory_up
  F_Memory_cells : Fun K "cells" "Memory.cells" s_Memory_cells A.a_Memory_cells A.d_Memory_cells
  b_Memory_cells : Binds K A.d_Memory_cells ["self"] []
  m_Memory_cells : Meth K A.c_Memory "cells" A.a_Memory_cells
  F__law_right : Fun K "_law_right" "_law_right" s__law_right A.a__law_right A.d__law_right
  b__law_right : Binds K A.d__law_right ["_law_cells", "_law_slot", "_law_titles"] []
  g__law_right : mg "_law_right" = some (.ref A.a__law_right)
  F__law_book : Fun K "_law_book" "_law_book" s__law_book A.a__law_book A.d__law_book
  b__law_book : Binds K A.d__law_book ["_law_cells"] []
  g__law_book : mg "_law_book" = some (.ref A.a__law_book)
  FC_law : Z.FunC K "law" "law" s_law A.a_law A.d_law A.cd_law
  TB_law : LamX.TabB base mg A.cd_law A.tb_law
  F_law : Fun K "law" "law" s_law A.a_law A.d_law
  b_law : Binds K A.d_law ["_law_script"] []
  g_law : mg "law" = some (.ref A.a_law)
  g_Memory : mg "Memory" = some (.ref A.c_Memory)
  cl_Memory : Cls K A.c_Memory
  mk_Memory : Mk K A.c_Memory A.a_Memory___init__
  g_BadCut : mg "BadCut" = some (.ref A.c_BadCut)
  g_BadPlace : mg "BadPlace" = some (.ref A.c_BadPlace)
  g_BadSize : mg "BadSize" = some (.ref A.c_BadSize)
  g_BadWorth : mg "BadWorth" = some (.ref A.c_BadWorth)
  g_FRESH : mg "FRESH" = some (.ref A.c_FRESH)
  g_SLOTS : mg "SLOTS" = some (.ref A.c_SLOTS)
  g_Stopped : mg "Stopped" = some (.ref A.c_Stopped)
  g_TORNS : mg "TORNS" = some (.ref A.c_TORNS)
  x_BadCut : PySem.W.excIn K A.c_BadCut [.type "ValueError", .type "Exception", .type "BaseException", .type "object"] "ValueError.__new__" = true
  k_BadCut : PySem.W.keepIn K (.ref A.c_BadCut) = true
  b_BadCut : PySem.W.subIn K (.ref A.c_BadCut) (.type "BaseException") = some true
  t_BadCut : PySem.W.typeIn K (.ref A.c_BadCut) = some (.type "type")
  x_BadPlace : PySem.W.excIn K A.c_BadPlace [.type "ValueError", .type "Exception", .type "BaseException", .type "object"] "ValueError.__new__" = true
  k_BadPlace : PySem.W.keepIn K (.ref A.c_BadPlace) = true
  b_BadPlace : PySem.W.subIn K (.ref A.c_BadPlace) (.type "BaseException") = some true
  t_BadPlace : PySem.W.typeIn K (.ref A.c_BadPlace) = some (.type "type")
  x_BadSize : PySem.W.excIn K A.c_BadSize [.type "ValueError", .type "Exception", .type "BaseException", .type "object"] "ValueError.__new__" = true
  k_BadSize : PySem.W.keepIn K (.ref A.c_BadSize) = true
  b_BadSize : PySem.W.subIn K (.ref A.c_BadSize) (.type "BaseException") = some true
  t_BadSize : PySem.W.typeIn K (.ref A.c_BadSize) = some (.type "type")
  x_BadWorth : PySem.W.excIn K A.c_BadWorth [.type "ValueError", .type "Exception", .type "BaseException", .type "object"] "ValueError.__new__" = true
  k_BadWorth : PySem.W.keepIn K (.ref A.c_BadWorth) = true
  b_BadWorth : PySem.W.subIn K (.ref A.c_BadWorth) (.type "BaseException") = some true
  t_BadWorth : PySem.W.typeIn K (.ref A.c_BadWorth) = some (.type "type")
  x_Stopped : PySem.W.excIn K A.c_Stopped [.type "ValueError", .type "Exception", .type "BaseException", .type "object"] "ValueError.__new__" = true
  k_Stopped : PySem.W.keepIn K (.ref A.c_Stopped) = true
  b_Stopped : PySem.W.subIn K (.ref A.c_Stopped) (.type "BaseException") = some true
  t_Stopped : PySem.W.typeIn K (.ref A.c_Stopped) = some (.type "type")
  l_FRESH : TupK K A.c_FRESH [.int 0, .int 0, .int 0]
  l_SLOTS : TupK K A.c_SLOTS [.int 16, .int 35]
  l_TORNS : TupK K A.c_TORNS [.str "old", .str "broken", .str "new"]
  e_Stopped_Stopped : PySem.W.exmOne K (.ref A.c_Stopped) (.ref A.c_Stopped) = some true
  n_Memory_is_up : NoAttr K A.c_Memory "is_up"
  n_Memory_left : NoAttr K A.c_Memory "left"
  n_Memory_many : NoAttr K A.c_Memory "many"
  n_Memory_torn : NoAttr K A.c_Memory "torn"
  n_Memory_worths : NoAttr K A.c_Memory "worths"
  z_dict : mg "dict" = none
  z_int : mg "int" = none
  z_len : mg "len" = none
  z_list : mg "list" = none
  z_max : mg "max" = none
  z_min : mg "min" = none
  z_range : mg "range" = none
  z_reversed : mg "reversed" = none
  z_sum : mg "sum" = none
  z_tuple : mg "tuple" = none
  c_BOOK : ∃ t, mg "BOOK" = some (.int 4 t)
  c_CELLS : ∃ t, mg "CELLS" = some (.int 2 t)
  c_FLOOR : ∃ t, mg "FLOOR" = some (.int 0 t)
  c_HEAD : ∃ t, mg "HEAD" = some (.int 7 t)
  c_KEY_FLOOR : ∃ t, mg "KEY_FLOOR" = some (.int 2 t)
  c_LAID : ∃ t, mg "LAID" = some (.int 1 t)
  c_MOST_CELLS : ∃ t, mg "MOST_CELLS" = some (.int 400 t)
  c_MOST_MANY : ∃ t, mg "MOST_MANY" = some (.int 100000 t)
  c_MOST_PARTS : ∃ t, mg "MOST_PARTS" = some (.int 12 t)
  c_MOST_WORTH : ∃ t, mg "MOST_WORTH" = some (.int 9972 t)
  c_PAGE : ∃ t, mg "PAGE" = some (.int 6 t)
  c_PIECE : ∃ t, mg "PIECE" = some (.int 3 t)
  c_PRIME : ∃ t, mg "PRIME" = some (.int 9973 t)
  c_RECORD : ∃ t, mg "RECORD" = some (.int 3 t)
  c_STEADY : ∃ t, mg "STEADY" = some (.int 0 t)
  c_TRIAL : ∃ t, mg "TRIAL" = some (.int 1 t)
abbrev sp__law_head := spLHead
abbrev sp__law_machine := spLMachine
abbrev sp__law_keys := spDrawD (fun (_ : Unit) => []) (fun _ => True) (fun _ d => ∃ ks, d = keysD ks ∧ gk ks)
abbrev sp__law_picture := spDrawD (fun (x : List Int × Int) => [keysD x.1, .int x.2]) (fun x => gk x.1 ∧ 1 ≤ x.2 ∧ x.2 ≤ 999) (fun x d => ∃ pic, d = picD pic ∧ gp x.1 pic ∧ pic.v ≤ x.2)
abbrev sp__law_newer := spDrawD (fun (x : List Int × Pic × Int) => [keysD x.1, picD x.2.1, .int x.2.2]) (fun x => gk x.1 ∧ gp x.1 x.2.1 ∧ -1000 ≤ x.2.2 ∧ x.2.2 ≤ 1000) (fun x d => ∃ pic, d = picD pic ∧ gp x.1 pic ∧ x.2.1.n ≤ pic.n ∧ (1 ≤ x.2.1.v + x.2.2 → x.2.1.v + x.2.2 ≤ 999 → pic.v = x.2.1.v + x.2.2))
abbrev sp__law_memory (A : Ad) (K : PySem.W.Frag) : Sp := spLMemory A.c_Memory K
def sp_law (tb : Addr) (K : PySem.W.Frag) : Sp := fun vs H Q _ => ∃ (a : Addr) (ns : List Int), vs = [.ref a] ∧ SqL K H a (ns.map V.int) ∧ ns.length ≤ 63 ∧ H tb = some (.tbl #[]) ∧ ∀ H', Q (.bl true) H'
abbrev sp_Memory___init__ (A : Ad) (_ : PySem.W.Frag) : Sp := Z.spInitX A.c_Memory (erF A)
abbrev sp_Memory_need_place (A : Ad) (_ : PySem.W.Frag) : Sp := Z.spPlaceX A.c_Memory (erF A)
abbrev sp_Memory_need_power (A : Ad) (_ : PySem.W.Frag) : Sp := Z.spPowerX A.c_Memory (erF A)
abbrev sp_Memory_read (A : Ad) (_ : PySem.W.Frag) : Sp := Z.spReadX A.c_Memory (erF A)
abbrev sp_Memory_row (A : Ad) (_ : PySem.W.Frag) : Sp := Z.spMRow A.c_Memory
abbrev sp_Memory_need_cell (A : Ad) (_ : PySem.W.Frag) : Sp := Z.spCellX A.c_Memory (erF A)
abbrev sp_Memory_write (A : Ad) (_ : PySem.W.Frag) : Sp := Z.spWriteX A.c_Memory (erF A)
abbrev sp_Memory_go_down (A : Ad) (_ : PySem.W.Frag) : Sp := Z.spDownX A.c_Memory (erF A)
abbrev sp_Memory_cut (A : Ad) (_ : PySem.W.Frag) : Sp := Z.spCutX A.c_Memory (erF A)
abbrev sp_Memory_up (A : Ad) (_ : PySem.W.Frag) : Sp := Z.spUpX A.c_Memory
abbrev sp_Memory_spoil (A : Ad) (_ : PySem.W.Frag) : Sp := Z.spSpoilX A.c_Memory (erF A)
abbrev sp_Memory_cells (A : Ad) (_ : PySem.W.Frag) : Sp := Z.spCells A.c_Memory
abbrev sp_Memory_writes (A : Ad) (_ : PySem.W.Frag) : Sp := Z.spWrites A.c_Memory
abbrev sp__law_taken := spTaken
abbrev sp__law_worth := spDraw (fun x => 0 ≤ x ∧ x < 9973)
abbrev sp_booked (A : Ad) (K : PySem.W.Frag) : Sp := Z.spBooked A.c_Memory K
abbrev sp_Memory_put (A : Ad) (K : PySem.W.Frag) : Sp := Z.spPutX A.c_Memory (erF A) K
abbrev sp_open_slot (A : Ad) (_ : PySem.W.Frag) : Sp := Z.spOpenX A.c_Memory (erF A)
abbrev sp_close_slot (A : Ad) (K : PySem.W.Frag) : Sp := Z.spCloseX A.c_Memory (erF A) K
abbrev sp_double (A : Ad) (K : PySem.W.Frag) : Sp := Z.spDoubleX A.c_Memory (erF A) K
abbrev sp__law_put := spLPutS
abbrev sp__law_lay := spLLay
abbrev sp__law_open := spLOpen
abbrev sp__law_close := spLClose
abbrev sp__law_raise := spLRaiseS
abbrev sp__law_book := spLBook
abbrev sp__law_double := spLDouble
abbrev sp_name := spName
abbrev sp_joined := spJoined
abbrev sp_pieces := spE (fun ns => ns.length ≤ 10000) (fun ns => .list ((piecesF ns).map fun c => .tuple (c.map .int)))
abbrev sp_need_keys := spD (fun (x : List Int × Int) => [keysD x.1, .int x.2]) (fun x => gk x.1 ∧ 1 ≤ x.2 ∧ x.2 ≤ 3) (fun _ => .none)
abbrev sp_need_picture := spD (fun (x : List Int × Pic) => [keysD x.1, picD x.2]) (fun x => gk x.1 ∧ gp x.1 x.2) (fun _ => .none)
abbrev sp_sealed_head := spD (fun (x : List Int × Pic) => [keysD x.1, picD x.2]) (fun x => gk x.1 ∧ gp x.1 x.2) (fun x => .tuple ((headF x.1 x.2).map .int))
abbrev sp_manifest_of := spD (fun (x : List Int × Pic) => [keysD x.1, picD x.2]) (fun x => gk x.1 ∧ gp x.1 x.2) (fun x => maniD x.1 x.2)
abbrev sp_is_worth := spWorth
abbrev sp_sizes := spD (fun (n : Int) => [.int n]) (fun n => 1 ≤ n ∧ n ≤ 12) (fun n => .list ((sizesF n).map .int))
abbrev sp_why_none := spD (fun (m : Man) => [manD m]) gman (fun _ => .str "")
abbrev sp_need_manifest := spD (fun (m : Man) => [manD m]) gman (fun _ => .none)
abbrev sp_is_store := spD (fun (st : List Row) => [storeD st]) gStore (fun _ => .bool true)
abbrev sp_need_stores := spD (fun (ss : List (List Row)) => [storesD ss]) gStores (fun _ => .none)
abbrev sp_why_refused (A : Ad) (K : PySem.W.Frag) : Sp := spWhyRef A.c_Memory K
abbrev sp_trusted_pieces (A : Ad) (K : PySem.W.Frag) : Sp := spTrusted A.c_Memory K
abbrev sp__law_refused := spLRef
abbrev sp__law_asked := spD (fun (x : List (List Row) × (Int × Int × Int)) => [storesD x.1, tripD x.2]) (fun x => gStores x.1) (fun x => askD (askF x.1 x.2))
abbrev sp__law_title := spTitleN
abbrev sp__law_pieces := spE (fun ns => ns.length ≤ 10000) (fun ns => .list ((piecesF ns).map fun c => .tuple (c.map .int)))
abbrev sp__law_manifest := spD (fun (x : List Int × Pic) => [keysD x.1, picD x.2]) (fun x => gk x.1 ∧ gp x.1 x.2) (fun x => maniD x.1 x.2)
abbrev sp_asked := spD (fun (x : List (List Row) × (Int × Int × Int)) => [storesD x.1, tripD x.2]) (fun x => gStores x.1) (fun x => askD (askF x.1 x.2))
abbrev sp__law_note := spLNote
abbrev sp__law_store := spDrawD (fun (x : Pic × Int) => [picD x.1, .int x.2]) (fun x => (∃ ks, gp ks x.1) ∧ 1 ≤ x.2 ∧ x.2 ≤ 10) (fun x d => ∃ st, d = storeD st ∧ gStore st ∧ (x.2 = 1 → ∀ c ∈ piecesF x.1.cells, (titleF c, c) ∈ st))
abbrev sp__law_stores := spDrawD (fun (x : Pic × Bool) => [picD x.1, .bool x.2]) (fun x => ∃ ks, gp ks x.1) (fun x d => ∃ ss, d = storesD ss ∧ gStores ss ∧ (x.2 = true → ∃ st ∈ ss, ∀ c ∈ piecesF x.1.cells, (titleF c, c) ∈ st))
abbrev sp__law_twins := spDrawD (fun (ks : List Int) => [keysD ks]) gk (fun ks d => ∃ p1 p2, d = .tuple [picD p1, picD p2] ∧ gp ks p1 ∧ gp ks p2)
abbrev sp_lay_pieces (A : Ad) (K : PySem.W.Frag) : Sp := spLayX A.c_Memory (erF A) K
abbrev sp_update (A : Ad) (K : PySem.W.Frag) : Sp := spUpdX A.c_Memory (erF A) K
abbrev sp__law_update := spLUpd
abbrev sp_count (A : Ad) (_ : PySem.W.Frag) : Sp := Z.spCount A.c_Memory
abbrev sp_raise_to (A : Ad) (_ : PySem.W.Frag) : Sp := Z.spRaiseX A.c_Memory (erF A)
abbrev sp_sums := spSums
abbrev sp_page (A : Ad) := Z.spPage A.c_Memory
abbrev sp_newest (A : Ad) := Z.spNewest A.c_Memory
abbrev sp_record (A : Ad) := Z.spRecord A.c_Memory
abbrev sp_page_row := Z.spPageRow
abbrev sp_note (A : Ad) := Z.spNote A.c_Memory (erF A)
abbrev sp__law_sums := spEO (fun xs => xs.length ≤ 10000) sumsD
abbrev sp__law_newest := Z.spLNewest
abbrev sp__law_noted := Z.spLNoted
abbrev sp_head_of (A : Ad) (_ : PySem.W.Frag) : Sp := Z.spHead A.c_Memory
abbrev sp_parts_of (A : Ad) (_ : PySem.W.Frag) : Sp := Z.spParts A.c_Memory
abbrev sp_floor_of (A : Ad) (_ : PySem.W.Frag) : Sp := Z.spFloor A.c_Memory
abbrev sp_why_not (A : Ad) (K : PySem.W.Frag) : Sp := Z.spWhy A.c_Memory K
abbrev sp_judged (A : Ad) (K : PySem.W.Frag) : Sp := Z.spJudged A.c_Memory K
abbrev sp_seal := spSeal
abbrev sp__law_seal := spLSealE
abbrev sp__law_count := spLCount
abbrev sp__law_why := spLWhy
abbrev sp__law_judged := spLJudged
def spLRight (K : PySem.W.Frag) : Sp := fun vs H Q _ => ∃ (M : List Addr) (p : Addr) (cs : List (Option Int)) (s : Int) (ts : List (Int × Int × Int)) (v : V), vs = [.ref p, .int s, v] ∧ (∀ a ∈ M, ∃ o, H a = some o) ∧ SqL K H p (cs.map ov) ∧ cs.length = 54 ∧ (s = 0 ∨ s = 1) ∧ Dt K M H (.tuple (ts.map tripD)) v ∧ fitsL ts (slotB s + 7) ∧
  ∀ H', Fr [] H H' → Q (.int (rightF cs ts (slotB s + 7))) H'
abbrev sp__law_right := spLRight
local macro_rules | `(tactic| walk_at "zsq") => `(tactic| (first | assumption | (have hS' : Sy _ _ _ _ _ _ := (by assumption); with_reducible first | exact hS'.sl 0 rfl | exact hS'.sl 1 rfl | exact hS'.sl 2 rfl | exact hS'.sl 3 rfl | exact hS'.sl 4 rfl | exact hS'.sl 5 rfl | exact hS'.sl 6 rfl | exact hS'.sl 7 rfl | exact hS'.sl 8 rfl | exact hS'.sl 9 rfl | exact hS'.sl 10 rfl | exact hS'.sl 11 rfl | exact hS'.sl 12 rfl | exact hS'.sl 13 rfl | exact hS'.sl 14 rfl | exact hS'.sl 15 rfl)))
local macro_rules | `(tactic| walk_at "zst") => `(tactic| (first | exact TupK.st (by assumption) | (first | assumption | (have hS' : Sy _ _ _ _ _ _ := (by assumption); with_reducible first | exact hS'.st 0 rfl | exact hS'.st 1 rfl | exact hS'.st 2 rfl | exact hS'.st 3 rfl | exact hS'.st 4 rfl | exact hS'.st 5 rfl | exact hS'.st 6 rfl | exact hS'.st 7 rfl | exact hS'.st 8 rfl | exact hS'.st 9 rfl | exact hS'.st 10 rfl | exact hS'.st 11 rfl | exact hS'.st 12 rfl | exact hS'.st 13 rfl | exact hS'.st 14 rfl | exact hS'.st 15 rfl))))
local macro_rules | `(tactic| walk_at "zen") => `(tactic| (first | assumption | (have hS' : Sy _ _ _ _ _ _ := (by assumption); with_reducible first | exact hS'.get 0 rfl | exact hS'.get 1 rfl | exact hS'.get 2 rfl | exact hS'.get 3 rfl | exact hS'.get 4 rfl | exact hS'.get 5 rfl | exact hS'.get 6 rfl | exact hS'.get 7 rfl | exact hS'.get 8 rfl | exact hS'.get 9 rfl | exact hS'.get 10 rfl | exact hS'.get 11 rfl | exact hS'.get 12 rfl | exact hS'.get 13 rfl | exact hS'.get 14 rfl | exact hS'.get 15 rfl)))
local macro_rules | `(tactic| walk_at "zsqe") => `(tactic| (first | assumption | (apply SqE.ofL; walk_at "zsq") | (apply SqE.ofT; walk_at "zst")))
local macro_rules | `(tactic| walk_at "zkb") => `(tactic| (first | exact kb_NoneType_tuple | exact kb_NoneType_list | exact kb_NoneType_bool | exact kb_NoneType_str | exact kb_NoneType_int | exact kb_bool_tuple | exact kb_bool_list | exact kb_bool_bool | exact kb_bool_str | exact kb_bool_int | exact kb_int_tuple | exact kb_int_list | exact kb_int_bool | exact kb_int_str | exact kb_int_int | exact kb_str_tuple | exact kb_str_list | exact kb_str_bool | exact kb_str_str | exact kb_str_int | exact kb_list_tuple | exact kb_list_list | exact kb_list_bool | exact kb_list_str | exact kb_list_int | exact kb_tuple_tuple | exact kb_tuple_list | exact kb_tuple_bool | exact kb_tuple_str | exact kb_tuple_int))
local macro_rules | `(tactic| walk_at "zsub") => `(tactic| (repeat (first | exact List.Sublist.slnil | exact List.nil_sublist _ | apply List.Sublist.cons₂ | apply List.Sublist.cons)))
local macro_rules | `(tactic| walk_at "zs") => `(tactic| (with_reducible first | refine x_seq ?_ | refine x_asg ?_ | refine x_op ?_ | (refine' x_var ?zzh ?_; (case zzh => with_unfolding_all rfl)) | refine x_c ?_ | refine x_I0 ?_ | walk_at "zs2"))
local macro_rules | `(tactic| walk_at "zs2") => `(tactic| (first | (refine' x_I ?zzh ?_; (case zzh => with_unfolding_all (first | exact ⟨by omega, by omega⟩ | omega | decide | (exact .inl ⟨by omega, by omega⟩) | (exact .inr ⟨by omega, by omega⟩)))) | (refine' x_ixL ?zzh ?zza ?_; (case zzh => walk_at "zsq"); (case zza => with_unfolding_all rfl)) | (refine' x_ixT ?zzh ?zza ?_; (case zzh => walk_at "zst"); (case zza => with_unfolding_all rfl)) | refine x_call ?_ | refine x_callS ?_ | refine x_methX ?_ | refine x_cb ?_ | refine x_cons ?_ | refine x_nil ?_ | refine x_ret ?_ | refine x_ifs ?_ | refine x_test ?_ | refine x_k ?_ | (refine' n_len ?zzh ?_; (case zzh => walk_at "zsqe")) | refine x_if ?_ | refine x_B ?_ | refine x_and ?_ | refine x_or ?_ | refine x_not ?_ | refine x_chain ?_ | refine n_tup ?_ | refine n_lst ?_ | refine x_drop ?_ | refine x_sub ?_ | (refine' x_eq ?zzh ?_; (case zzh => with_unfolding_all rfl)) | (refine' x_ne ?zzh ?_; (case zzh => with_unfolding_all rfl)) | refine x_yes ?_ | refine x_next ?_ | (refine' x_setR ?zzh ?zze ?zzf ?_; (case zzh => walk_at "zen"); (case zze => with_unfolding_all rfl); (case zzf => with_unfolding_all rfl)) | (refine' n_list ?zzh ?_; (case zzh => walk_at "zsqe")) | refine n_isN ?_ | refine n_notN ?_ | refine n_intI ?_ | refine n_intB ?_ | refine n_min2 ?_ | refine n_max2 ?_ | refine n_sl ?_ | (refine' n_slL ?zzh ?_; (case zzh => walk_at "zsq")) | refine n_noPart ?_ | refine n_part ?_ | refine n_i ?_ | refine n_bm ?_ | refine x_bm0 ?_ | refine x_for ?_ | refine x_iR1 ?_ | refine x_iR2 ?_ | refine x_lc ?_ | refine x_iL ?_ | (refine' x_iLa ?zzh ?_; (case zzh => walk_at "zsq")) | refine x_iT ?_ | (refine' x_iTa ?zzh ?_; (case zzh => walk_at "zst")) | (refine' x_gtup ?zzh ?zze ?_; (case zzh => walk_at "zst"); (case zze => with_unfolding_all rfl)) | refine x_gcons ?_ | refine x_gnil ?_ | refine x_fld ?_ | refine x_meth ?_ | refine x_sfld ?_ | refine x_make ?_ | (refine' n_worths ?zzh ?zza ?zzb ?_; (case zzh => walk_at "zen"); (case zza => assumption); (case zzb => assumption)) | (refine' n_left ?zzh ?zza ?zzb ?_; (case zzh => walk_at "zen"); (case zza => assumption); (case zzb => assumption)) | (refine' n_torn ?zzh ?zza ?zzb ?_; (case zzh => walk_at "zen"); (case zza => assumption); (case zzb => assumption)) | (refine' n_up ?zzh ?zza ?zzb ?_; (case zzh => walk_at "zen"); (case zza => assumption); (case zzb => assumption)) | (refine' n_many ?zzh ?zza ?zzb ?_; (case zzh => walk_at "zen"); (case zza => assumption); (case zzb => assumption)) | (refine' n_meth ?zzh ?zza ?_; (case zzh => walk_at "zen"); (case zza => exact memF_no (by decide +kernel))) | (refine' n_xbunch ?zzh ?zza ?zzb ?_; (case zzh => walk_at "zen"); (case zza => assumption); (case zzb => assumption)) | (refine' n_xtries ?zzh ?zza ?zzb ?_; (case zzh => walk_at "zen"); (case zza => assumption); (case zzb => assumption)) | (refine' n_xrunning ?zzh ?zza ?zzb ?_; (case zzh => walk_at "zen"); (case zza => assumption); (case zzb => assumption)) | (refine' n_xmemory ?zzh ?zza ?zzb ?_; (case zzh => walk_at "zen"); (case zza => assumption); (case zzb => assumption)) | (refine' n_xmeth ?zzh ?zza ?_; (case zzh => walk_at "zen"); (case zza => exact macF_no (by decide +kernel))) | refine x_pair ?_ | refine x_pair0 ?_ | refine x_dgT ?_ | refine x_iS ?_ | refine x_sv ?_ | refine x_m1 ?_ | refine x_m1s ?_ | refine n_notInS ?_ | (refine' n_neLL ?zzh ?zzg ?_; (case zzh => walk_at "zsq"); (case zzg => walk_at "zsq")) | (refine' n_eqLL ?zzh ?zzg ?_; (case zzh => walk_at "zsq"); (case zzg => walk_at "zsq")) | refine x_un ?_ | refine x_U ?_ | refine x_andV ?_ | refine x_orV ?_ | refine x_notV ?_ | (refine' x_iteT ?zzh ?_; (case zzh => first | exact decide_eq_true rfl | with_unfolding_all rfl)) | (refine' x_iteF ?zzh ?_; (case zzh => first | exact nd_self | with_unfolding_all rfl)) | (refine' n_isiN ?zze ?_; (case zze => walk_at "zkb")) | (refine' n_isiB ?zze ?_; (case zze => walk_at "zkb")) | (refine' n_isiI ?zze ?_; (case zze => walk_at "zkb")) | (refine' n_isiS ?zze ?_; (case zze => walk_at "zkb")) | (refine' n_isiL ?zzh ?zze ?_; (case zzh => walk_at "zsq"); (case zze => walk_at "zkb")) | (refine' n_isiT ?zzh ?zze ?_; (case zzh => walk_at "zst"); (case zze => walk_at "zkb")) | refine x_par3 ?_ | refine x_par2 ?_ | refine x_iRevA ?_ | refine x_iRev ?_ | refine x_lstRg ?_ | refine x_rg2 ?_ | refine n_rg2 ?_ | (refine' n_sum ?zzh ?_; (case zzh => walk_at "zsq")) | (refine' n_sumT ?zzh ?_; (case zzh => walk_at "zst")) | (refine' n_tupleL ?zzh ?_; (case zzh => walk_at "zsq"))))
local macro_rules | `(tactic| walk_at "zdt") => `(tactic| (first | exact Dt.int' | exact Dt.non' | exact Dt.bl' | exact Dt.str' | assumption | (have hS' : Sy _ _ _ _ _ _ := (by assumption); with_unfolding_all first | exact hS'.d 0 rfl | exact hS'.d 1 rfl | exact hS'.d 2 rfl | exact hS'.d 3 rfl | exact hS'.d 4 rfl | exact hS'.d 5 rfl | exact hS'.d 6 rfl | exact hS'.d 7 rfl | exact hS'.d 8 rfl | exact hS'.d 9 rfl | exact hS'.d 10 rfl | exact hS'.d 11 rfl | exact hS'.d 12 rfl | exact hS'.d 13 rfl | exact hS'.d 14 rfl | exact hS'.d 15 rfl | exact hS'.d 16 rfl | exact hS'.d 17 rfl | exact hS'.d 18 rfl | exact hS'.d 19 rfl | exact hS'.d 20 rfl | exact hS'.d 21 rfl | exact hS'.d 22 rfl | exact hS'.d 23 rfl | exact hS'.d 24 rfl | exact hS'.d 25 rfl | exact hS'.d 26 rfl | exact hS'.d 27 rfl | exact hS'.d 28 rfl | exact hS'.d 29 rfl | exact hS'.d 30 rfl | exact hS'.d 31 rfl | exact hS'.d 32 rfl | exact hS'.d 33 rfl | exact hS'.d 34 rfl | exact hS'.d 35 rfl | exact hS'.d 36 rfl | exact hS'.d 37 rfl | exact hS'.d 38 rfl | exact hS'.d 39 rfl)))
local macro_rules | `(tactic| walk_at "zdl") => `(tactic| (first | exact DtL.nil' | (refine' DtL.cons' ?zzdl1 ?zzdl2; (case zzdl1 => walk_at "zdt"); (case zzdl2 => walk_at "zdl"))))
local macro_rules | `(tactic| walk_at "zdata") => `(tactic| (first | (refine' d_ixTI ?zzh ?zze ?_; (case zzh => walk_at "zdt"); (case zze => with_unfolding_all rfl)) | (refine' d_ixTT ?zzs ?zzh ?zze ?_; (case zzs => assumption); (case zzh => walk_at "zdt"); (case zze => with_unfolding_all rfl); intro _ _) | (refine' d_ixT ?zzs ?zzh ?zze ?_; (case zzs => assumption); (case zzh => walk_at "zdt"); (case zze => with_unfolding_all rfl); intro _ _) | (refine' d_lenT ?zzh ?_; (case zzh => walk_at "zdt")) | (refine' d_lenL ?zzh ?_; (case zzh => walk_at "zdt")) | (refine' d_tup ?zzs ?zzh ?zze ?_; (case zzs => assumption); (case zzh => (first | exact Nat.le_of_ble_eq_true (by with_unfolding_all rfl) | (simp only [List.length_cons, List.length_nil, List.length_append, List.length_map]; omega))); (case zze => walk_at "zdl"); intro _ _ _) | (refine' d_catT ?zzs ?zzh ?zzg ?zza ?zzb ?zzc ?_; (case zzs => assumption); (case zzh => walk_at "zdt"); (case zzg => walk_at "zdt"); (case zza => simp); (case zzb => simp); (case zzc => simp); intro _ _ _) | (refine' d_tupleL ?zzs ?zzh ?_; (case zzs => assumption); (case zzh => walk_at "zdt"); intro _ _ _) | (refine' d_tupleT ?zzh ?_; (case zzh => walk_at "zdt")) | (refine' d_listT ?zzs ?zzh ?_; (case zzs => assumption); (case zzh => walk_at "zdt"); intro _ _ _) | (refine' d_slL ?zzs ?zzh ?_; (case zzs => assumption); (case zzh => walk_at "zdt"); intro _ _ _) | refine x_iR3 ?_))
local macro_rules | `(tactic| walk_at "zc") => `(tactic| (first | (refine' x_iteT ?zzc ?_; (case zzc => first | exact decide_eq_true (by omega) | exact nd_not (by omega))) | (refine' x_iteF ?zzc ?_; (case zzc => first | exact decide_eq_false (by omega) | exact nd_of (by omega)))))
local macro_rules | `(tactic| walk_at "zD1") => `(tactic| (repeat (with_reducible first | (refine' x_name (σ' := [_]) ?zzh ?_; (case zzh => with_unfolding_all rfl)) | walk_at "zs" | walk_at "zdata")))
local macro_rules | `(tactic| walk_at "zC1") => `(tactic| (repeat (first | (with_reducible first | (refine' x_name (σ' := [_]) ?zzh ?_; (case zzh => with_unfolding_all rfl)) | walk_at "zs" | walk_at "zdata") | walk_at "zc")))
local macro_rules | `(tactic| walk_at "zS1") => `(tactic| (repeat (with_reducible first | (refine' x_name (σ' := [_]) ?zzh ?_; (case zzh => with_unfolding_all rfl)) | walk_at "zs")))
local macro_rules | `(tactic| walk_at "zD2") => `(tactic| (repeat (with_reducible first | (refine' x_name (σ' := [_, _]) ?zzh ?_; (case zzh => with_unfolding_all rfl)) | walk_at "zs" | walk_at "zdata")))
local macro_rules | `(tactic| walk_at "zC2") => `(tactic| (repeat (first | (with_reducible first | (refine' x_name (σ' := [_, _]) ?zzh ?_; (case zzh => with_unfolding_all rfl)) | walk_at "zs" | walk_at "zdata") | walk_at "zc")))
local macro_rules | `(tactic| walk_at "zS2") => `(tactic| (repeat (with_reducible first | (refine' x_name (σ' := [_, _]) ?zzh ?_; (case zzh => with_unfolding_all rfl)) | walk_at "zs")))
local macro_rules | `(tactic| walk_at "zD3") => `(tactic| (repeat (with_reducible first | (refine' x_name (σ' := [_, _, _]) ?zzh ?_; (case zzh => with_unfolding_all rfl)) | walk_at "zs" | walk_at "zdata")))
local macro_rules | `(tactic| walk_at "zC3") => `(tactic| (repeat (first | (with_reducible first | (refine' x_name (σ' := [_, _, _]) ?zzh ?_; (case zzh => with_unfolding_all rfl)) | walk_at "zs" | walk_at "zdata") | walk_at "zc")))
local macro_rules | `(tactic| walk_at "zS3") => `(tactic| (repeat (with_reducible first | (refine' x_name (σ' := [_, _, _]) ?zzh ?_; (case zzh => with_unfolding_all rfl)) | walk_at "zs")))
local macro_rules | `(tactic| walk_at "zD4") => `(tactic| (repeat (with_reducible first | (refine' x_name (σ' := [_, _, _, _]) ?zzh ?_; (case zzh => with_unfolding_all rfl)) | walk_at "zs" | walk_at "zdata")))
local macro_rules | `(tactic| walk_at "zC4") => `(tactic| (repeat (first | (with_reducible first | (refine' x_name (σ' := [_, _, _, _]) ?zzh ?_; (case zzh => with_unfolding_all rfl)) | walk_at "zs" | walk_at "zdata") | walk_at "zc")))
local macro_rules | `(tactic| walk_at "zS4") => `(tactic| (repeat (with_reducible first | (refine' x_name (σ' := [_, _, _, _]) ?zzh ?_; (case zzh => with_unfolding_all rfl)) | walk_at "zs")))
local macro_rules | `(tactic| walk_at "zD5") => `(tactic| (repeat (with_reducible first | (refine' x_name (σ' := [_, _, _, _, _]) ?zzh ?_; (case zzh => with_unfolding_all rfl)) | walk_at "zs" | walk_at "zdata")))
local macro_rules | `(tactic| walk_at "zC5") => `(tactic| (repeat (first | (with_reducible first | (refine' x_name (σ' := [_, _, _, _, _]) ?zzh ?_; (case zzh => with_unfolding_all rfl)) | walk_at "zs" | walk_at "zdata") | walk_at "zc")))
local macro_rules | `(tactic| walk_at "zS5") => `(tactic| (repeat (with_reducible first | (refine' x_name (σ' := [_, _, _, _, _]) ?zzh ?_; (case zzh => with_unfolding_all rfl)) | walk_at "zs")))
local macro_rules | `(tactic| walk_at "zD6") => `(tactic| (repeat (with_reducible first | (refine' x_name (σ' := [_, _, _, _, _, _]) ?zzh ?_; (case zzh => with_unfolding_all rfl)) | walk_at "zs" | walk_at "zdata")))
local macro_rules | `(tactic| walk_at "zC6") => `(tactic| (repeat (first | (with_reducible first | (refine' x_name (σ' := [_, _, _, _, _, _]) ?zzh ?_; (case zzh => with_unfolding_all rfl)) | walk_at "zs" | walk_at "zdata") | walk_at "zc")))
local macro_rules | `(tactic| walk_at "zS6") => `(tactic| (repeat (with_reducible first | (refine' x_name (σ' := [_, _, _, _, _, _]) ?zzh ?_; (case zzh => with_unfolding_all rfl)) | walk_at "zs")))
local macro_rules | `(tactic| walk_at "zD8") => `(tactic| (repeat (with_reducible first | (refine' x_name (σ' := [_, _, _, _, _, _, _, _]) ?zzh ?_; (case zzh => with_unfolding_all rfl)) | walk_at "zs" | walk_at "zdata")))
local macro_rules | `(tactic| walk_at "zC8") => `(tactic| (repeat (first | (with_reducible first | (refine' x_name (σ' := [_, _, _, _, _, _, _, _]) ?zzh ?_; (case zzh => with_unfolding_all rfl)) | walk_at "zs" | walk_at "zdata") | walk_at "zc")))
local macro_rules | `(tactic| walk_at "zS8") => `(tactic| (repeat (with_reducible first | (refine' x_name (σ' := [_, _, _, _, _, _, _, _]) ?zzh ?_; (case zzh => with_unfolding_all rfl)) | walk_at "zs")))
local macro_rules | `(tactic| walk_at "zD9") => `(tactic| (repeat (with_reducible first | (refine' x_name (σ' := [_, _, _, _, _, _, _, _, _]) ?zzh ?_; (case zzh => with_unfolding_all rfl)) | walk_at "zs" | walk_at "zdata")))
local macro_rules | `(tactic| walk_at "zC9") => `(tactic| (repeat (first | (with_reducible first | (refine' x_name (σ' := [_, _, _, _, _, _, _, _, _]) ?zzh ?_; (case zzh => with_unfolding_all rfl)) | walk_at "zs" | walk_at "zdata") | walk_at "zc")))
local macro_rules | `(tactic| walk_at "zS9") => `(tactic| (repeat (with_reducible first | (refine' x_name (σ' := [_, _, _, _, _, _, _, _, _]) ?zzh ?_; (case zzh => with_unfolding_all rfl)) | walk_at "zs")))
local macro_rules | `(tactic| walk_at "zD10") => `(tactic| (repeat (with_reducible first | (refine' x_name (σ' := [_, _, _, _, _, _, _, _, _, _]) ?zzh ?_; (case zzh => with_unfolding_all rfl)) | walk_at "zs" | walk_at "zdata")))
local macro_rules | `(tactic| walk_at "zC10") => `(tactic| (repeat (first | (with_reducible first | (refine' x_name (σ' := [_, _, _, _, _, _, _, _, _, _]) ?zzh ?_; (case zzh => with_unfolding_all rfl)) | walk_at "zs" | walk_at "zdata") | walk_at "zc")))
local macro_rules | `(tactic| walk_at "zS10") => `(tactic| (repeat (with_reducible first | (refine' x_name (σ' := [_, _, _, _, _, _, _, _, _, _]) ?zzh ?_; (case zzh => with_unfolding_all rfl)) | walk_at "zs")))
local macro_rules | `(tactic| walk_at "zD11") => `(tactic| (repeat (with_reducible first | (refine' x_name (σ' := [_, _, _, _, _, _, _, _, _, _, _]) ?zzh ?_; (case zzh => with_unfolding_all rfl)) | walk_at "zs" | walk_at "zdata")))
local macro_rules | `(tactic| walk_at "zC11") => `(tactic| (repeat (first | (with_reducible first | (refine' x_name (σ' := [_, _, _, _, _, _, _, _, _, _, _]) ?zzh ?_; (case zzh => with_unfolding_all rfl)) | walk_at "zs" | walk_at "zdata") | walk_at "zc")))
local macro_rules | `(tactic| walk_at "zS11") => `(tactic| (repeat (with_reducible first | (refine' x_name (σ' := [_, _, _, _, _, _, _, _, _, _, _]) ?zzh ?_; (case zzh => with_unfolding_all rfl)) | walk_at "zs")))
local macro_rules | `(tactic| walk_at "zD12") => `(tactic| (repeat (with_reducible first | (refine' x_name (σ' := [_, _, _, _, _, _, _, _, _, _, _, _]) ?zzh ?_; (case zzh => with_unfolding_all rfl)) | walk_at "zs" | walk_at "zdata")))
local macro_rules | `(tactic| walk_at "zC12") => `(tactic| (repeat (first | (with_reducible first | (refine' x_name (σ' := [_, _, _, _, _, _, _, _, _, _, _, _]) ?zzh ?_; (case zzh => with_unfolding_all rfl)) | walk_at "zs" | walk_at "zdata") | walk_at "zc")))
local macro_rules | `(tactic| walk_at "zS12") => `(tactic| (repeat (with_reducible first | (refine' x_name (σ' := [_, _, _, _, _, _, _, _, _, _, _, _]) ?zzh ?_; (case zzh => with_unfolding_all rfl)) | walk_at "zs")))
local macro_rules | `(tactic| walk_at "zD14") => `(tactic| (repeat (with_reducible first | (refine' x_name (σ' := [_, _, _, _, _, _, _, _, _, _, _, _, _, _]) ?zzh ?_; (case zzh => with_unfolding_all rfl)) | walk_at "zs" | walk_at "zdata")))
local macro_rules | `(tactic| walk_at "zC14") => `(tactic| (repeat (first | (with_reducible first | (refine' x_name (σ' := [_, _, _, _, _, _, _, _, _, _, _, _, _, _]) ?zzh ?_; (case zzh => with_unfolding_all rfl)) | walk_at "zs" | walk_at "zdata") | walk_at "zc")))
local macro_rules | `(tactic| walk_at "zS14") => `(tactic| (repeat (with_reducible first | (refine' x_name (σ' := [_, _, _, _, _, _, _, _, _, _, _, _, _, _]) ?zzh ?_; (case zzh => with_unfolding_all rfl)) | walk_at "zs")))
local macro_rules | `(tactic| walk_at "zD17") => `(tactic| (repeat (with_reducible first | (refine' x_name (σ' := [_, _, _, _, _, _, _, _, _, _, _, _, _, _, _, _, _]) ?zzh ?_; (case zzh => with_unfolding_all rfl)) | walk_at "zs" | walk_at "zdata")))
local macro_rules | `(tactic| walk_at "zC17") => `(tactic| (repeat (first | (with_reducible first | (refine' x_name (σ' := [_, _, _, _, _, _, _, _, _, _, _, _, _, _, _, _, _]) ?zzh ?_; (case zzh => with_unfolding_all rfl)) | walk_at "zs" | walk_at "zdata") | walk_at "zc")))
local macro_rules | `(tactic| walk_at "zS17") => `(tactic| (repeat (with_reducible first | (refine' x_name (σ' := [_, _, _, _, _, _, _, _, _, _, _, _, _, _, _, _, _]) ?zzh ?_; (case zzh => with_unfolding_all rfl)) | walk_at "zs")))
section
variable {P : Program} {w : World} {K : PySem.W.Frag} {mg : Str → Option Value} {base : Heap} {A : Ad}
theorem ok__law_taken (T : Txt K mg base A) : FnOk P w K mg base CX0 1 A.a__law_taken A.d__law_taken ["_law_row", "_law_many"] (sp__law_taken K) := by
  refine T.F__law_taken.ok sc__law_taken (fun vs H Q E h => ?_) (fun cdv A_ outer s H0 vs Q E hr h => ?_)
  · obtain ⟨_, h⟩ := h; obtain ⟨_, h⟩ := h; obtain ⟨_, h⟩ := h; obtain ⟨_, h⟩ := h; obtain ⟨_, h⟩ := h; obtain ⟨rfl, _⟩ := h; rfl
  · obtain ⟨r, a, m, q, ns, rfl, hm, hm2, ho, hq, hsa, hl, k⟩ := h
    have hu := hu_of hr
    have hu2 := hu2_of hr
    refine ⟨_, pss_cons (ps_if (pt_cmpR op_gt (pe_ix (b_ixL (K := K)) (pv 0) pe_int (fun _ _ => rfl)) pe_int (nomark _)) (pss_cons (ps_set (i := 2) sc__law_taken.nd rfl (Or.inl rfl) (pe_op op_mod (pe_ix (b_ixL (K := K)) (pv 0) pe_int (fun _ _ => rfl)) (pv 1)))
      (pss_cons (ps_asg (pe_op op_fdiv (pe_ix (b_ixL (K := K)) (pv 0) pe_int (fun _ _ => rfl)) (pv 1)) (pg_sub (pv 0) pe_int set_list))
      (pss_one (ps_ret (pv 2))))) pss_nil)
      (pss_cons (ps_asg (pe_op op_add (pe_ix (b_ixL (K := K)) (pv 0) pe_int (fun _ _ => rfl)) pe_int) (pg_sub (pv 0) pe_int set_list))
      (pss_cons (ps_if (pt_cmpR op_gt (pe_ix (b_ixL (K := K)) (pv 0) pe_int (fun _ _ => rfl)) (pe_callB (b_len (K := K)) (by rfl) T.z_len (by decide +kernel) (pa_cons (pe_ix (b_ixL (K := K)) (pv 0) pe_int (fun _ _ => rfl)) pa_nil)) (nomark _)) (pss_cons (ps_asg (pe_op op_mod (pe_op op_add (pe_op op_mul (pe_ix (b_ixL (K := K)) (pv 0) pe_int (fun _ _ => rfl)) pe_int) pe_int) pe_int) (pg_sub (pv 0) pe_int set_list))
      (pss_one (ps_ret (pe_op op_mod (pe_op op_fdiv (pe_ix (b_ixL (K := K)) (pv 0) pe_int (fun _ _ => rfl)) pe_int) (pv 1))))) pss_nil)
      (pss_cons (ps_set (i := 3) sc__law_taken.nd rfl (Or.inl rfl) (pe_ix (b_ixL (K := K)) (pe_ix (b_ixL (K := K)) (pv 0) pe_int (fun _ _ => rfl)) (pe_op op_sub (pe_ix (b_ixL (K := K)) (pv 0) pe_int (fun _ _ => rfl)) pe_int) (fun _ _ => rfl)))
      (pss_cons (ps_asg (pe_op op_mod (pe_op op_add (pe_op op_add (pe_op op_mul (pe_ix (b_ixL (K := K)) (pv 0) pe_int (fun _ _ => rfl)) pe_int) (pv 3)) pe_int) pe_int) (pg_sub (pv 0) pe_int set_list))
      (pss_cons (ps_if (pt_cmpR op_ge (pv 3) (pe_op op_pow pe_int pe_int) (nomark _)) (pss_one (ps_asg (pe_op op_fdiv (pv 3) (pv 1)) (pg_sub (pv 0) pe_int set_list))) pss_nil)
      (pss_one (ps_ret (pe_op op_mod (pv 3) (pv 1))))))))), ?_⟩
    try dsimp only [cxOf, Cx.nox, Cx.wish]
    refine x_st (σ' := [some _, some _, none, none]) rfl ?_
    have h0 : SqL K H0 r [.ref a, .int q.i, .int q.x, .int q.g] := .inl (.inl ho)
    obtain ⟨q1, q2, q3, q4⟩ := hq
    have ho1 : H0 r = some (.lst [.ref a, .int q.i, .int q.x, .int q.g]) := ho
    walk_at "zS4"
    (refine x_ite (fun hc => ?_) (fun hc => ?_) <;> simp only [decide_eq_true_eq, decide_eq_false_iff_not, Bool.not_eq_true', Bool.not_eq_false', V.int.injEq, reduceCtorEq, not_false_eq_true] at hc)
    · walk_at "zS4"
      refine k _ ⟨q.i, q.x, q.g / m⟩ (Int.emod_nonneg _ (by omega)) (Int.emod_lt_of_pos _ hm) ⟨q1, q2, q3, Int.ediv_nonneg q4 (by omega)⟩
    · walk_at "zS4"
      have h1 : ∀ o, SqL K (upd H0 r o) a (ns.map V.int) := fun o => (hsa.mono (Fr.set (List.mem_singleton.mpr rfl))).1
      have h2 : SqL K (upd H0 r (.lst [.ref a, .int (q.i + 1), .int q.x, .int q.g])) r [.ref a, .int (q.i + 1), .int q.x, .int q.g] := .inl (.inl upd_same)
      have h3 := h1 (.lst [.ref a, .int (q.i + 1), .int q.x, .int q.g])
      have ho2 : upd H0 r (.lst [.ref a, .int (q.i + 1), .int q.x, .int q.g]) r = some (.lst [.ref a, .int (q.i + 1), .int q.x, .int q.g]) := upd_same
      walk_at "zS4"
      rw [List.length_map]
      walk_at "zS4"
      (refine x_ite (fun hc => ?_) (fun hc => ?_) <;> simp only [decide_eq_true_eq, decide_eq_false_iff_not, Bool.not_eq_true', Bool.not_eq_false', V.int.injEq, reduceCtorEq, not_false_eq_true] at hc)
      · walk_at "zS4"
        rw [upd_upd]
        have h4 : SqL K (upd H0 r (.lst [.ref a, .int (q.i + 1), .int ((q.x * 48271 + 11) % 2147483647), .int q.g])) r [.ref a, .int (q.i + 1), .int ((q.x * 48271 + 11) % 2147483647), .int q.g] := .inl (.inl upd_same)
        walk_at "zS4"
        exact k _ ⟨q.i + 1, (q.x * 48271 + 11) % 2147483647, q.g⟩ (Int.emod_nonneg _ (by omega)) (Int.emod_lt_of_pos _ hm) ⟨by show 0 ≤ q.i + 1; omega, Int.emod_nonneg _ (by decide), Int.emod_lt_of_pos _ (by decide), q4⟩
      · walk_at "zS4"
        obtain ⟨c, hc1⟩ := at_lt (xs := ns) (i := (q.i + 1 - 1).toNat) (by omega)
        refine x_ixL h3 (atI_int (by omega) (at_map hc1)) ?_
        walk_at "zS4"
        rw [upd_upd]
        have ho3 : upd H0 r (.lst [.ref a, .int (q.i + 1), .int ((q.x * 48271 + c + 11) % 2147483647), .int q.g]) r = some (.lst [.ref a, .int (q.i + 1), .int ((q.x * 48271 + c + 11) % 2147483647), .int q.g]) := upd_same
        walk_at "zS4"
        have e0 : (0 : Int) ≤ (q.x * 48271 + c + 11) % 2147483647 := Int.emod_nonneg _ (by decide)
        have e1 : (q.x * 48271 + c + 11) % 2147483647 < 2147483647 := Int.emod_lt_of_pos _ (by decide)
        (refine x_ite (fun hc => ?_) (fun hc => ?_) <;> simp only [decide_eq_true_eq, decide_eq_false_iff_not, Bool.not_eq_true', Bool.not_eq_false', V.int.injEq, reduceCtorEq, not_false_eq_true] at hc)
        · walk_at "zS4"
          rw [upd_upd]
          walk_at "zS4"
          exact k _ ⟨q.i + 1, (q.x * 48271 + c + 11) % 2147483647, c / m⟩ (Int.emod_nonneg _ (by omega)) (Int.emod_lt_of_pos _ hm) ⟨by show 0 ≤ q.i + 1; omega, e0, e1, Int.ediv_nonneg (by
            have : (0 : Int) ≤ 10 ^ (18 : Int).toNat := by decide
            omega) (by omega)⟩
        · walk_at "zS4"
          exact k _ ⟨q.i + 1, (q.x * 48271 + c + 11) % 2147483647, q.g⟩ (Int.emod_nonneg _ (by omega)) (Int.emod_lt_of_pos _ hm) ⟨by show 0 ≤ q.i + 1; omega, e0, e1, q4⟩
theorem ok__law_keys (T : Txt K mg base A) : FnOk P w K mg base CX0 2 A.a__law_keys A.d__law_keys ["_law_row"] (sp__law_keys K) := by
  have G__law_taken := ok__law_taken (P := P) (w := w) (base := base) T
  refine T.F__law_keys.ok sc__law_keys (fun vs H Q E h => ?_) (fun cdv A_ outer s H0 vs Q E hr h => ?_)
  · exact spDrawD_len h (fun _ => rfl)
  · obtain ⟨M, _, r, a, q, ns, ws, rfl, h0, hq, hs, hl, hM, hdom, hd, _, k⟩ := h
    have hS := Sy.ofDD h0 hs hM hdom hd
    simp only [DtL] at hd
    subst hd
    have hu := hu_of hr
    have hu2 := hu2_of hr
    have hr__law_taken : Room 1 _ := hr.mono (by decide)
    refine ⟨_, pss_one (ps_ret (pe_callTy (b_tuple (K := K)) (by rfl) T.z_tuple (by decide +kernel) (pa_cons (pe_lc (own := [("_law_k", 1)]) (g := gName 1) (by rfl) sc__law_keys.nd (pi_range1 (by rfl) T.z_range (pa_cons (pe_op op_add pe_int (pe_call G__law_taken hr__law_taken (by rfl) T.g__law_taken T.F__law_taken.kp T.b__law_taken .nil pass0 (pa_cons (pv 0) (pa_cons pe_int pa_nil)))) pa_nil)) (blkOk_by (N := ["_law_row", "_law_k"]) (sc := defScope s__law_keys) (by decide +kernel)) (fun _ _ _ _ _ => pg_name (i := 1) sc__law_keys.nd rfl (by first | exact Or.inl rfl | exact Or.inr rfl)) (fun _ _ _ _ _ => pts_nil) (fun _ _ _ _ _ => (pe_op op_add pe_int (pe_call G__law_taken hr__law_taken (by rfl) T.g__law_taken T.F__law_taken.kp T.b__law_taken .nil pass0 (pa_cons (pv 0) (pa_cons (pe_ix (b_ixL (K := K)) (pe_lst (pa_cons pe_int (pa_cons pe_int pa_nil))) (pe_call G__law_taken hr__law_taken (by rfl) T.g__law_taken T.F__law_taken.kp T.b__law_taken .nil pass0 (pa_cons (pv 0) (pa_cons pe_int pa_nil))) (fun _ _ => rfl)) pa_nil)))))) pa_nil))), ?_⟩
    try dsimp only [cxOf, Cx.nox, Cx.wish]
    refine x_st (σ' := [some _, none]) rfl ?_
    walk_at "zS2"
    (refine use_taken hS ⟨by first | assumption | (simp; done) | exact List.mem_cons_of_mem _ (by assumption) | exact List.mem_cons_of_mem _ (List.mem_cons_of_mem _ (by assumption)), by first | exact .inr (by assumption) | exact .inl (by simp)⟩ hq hl (by omega) (by omega) ?_; clear hS hq; intro n q H n_0 n_1 hq hS)
    walk_at "zS2"
    (refine ⟨_, rfl, by omega, by omega, ?_⟩)
    refine lc_draw (n := (1 + n).toNat) (C := fun x => 1 ≤ x ∧ x ≤ 9972) hS ⟨hM, .inl (by simp)⟩ hq (by omega) ?_ ?_
    · intro v M' H q L' Q' hM hq hS kk
      walk_at "zS2"
      refine ⟨by simp only [List.length_cons, List.length_nil]; decide, n_al hS ?_⟩
      clear hS; intro l H l_n l_0 hS
      walk_at "zS2"
      refine use_taken (L := L' ++ _) hS hM hq hl (by omega) (by omega) ?_
      clear hS hq; intro c q H c_0 c_1 hq hS
      have hl5 := hS.sl (L'.length + 1) (a := l) (xs := [.int 50, .int 9972]) (by simp)
      obtain ⟨m, hm, hm0, hm1⟩ : ∃ m : Int, atI [V.int 50, V.int 9972] c = some (.int m) ∧ 0 < m ∧ m ≤ 9972 := by
        obtain rfl | rfl : c = 0 ∨ c = 1 := by omega
        · exact ⟨50, rfl, by decide, by decide⟩
        · exact ⟨9972, rfl, by decide, by decide⟩
      refine x_ixL hl5 hm ?_
      walk_at "zS2"
      refine use_taken (L := L' ++ _) hS hM hq hl (by omega) (by omega) ?_
      clear hS hq; intro y q H y_0 y_1 hq hS
      walk_at "zS2"
      exact kk _ q H ⟨by omega, by omega⟩ hq (hS.sub (List.Sublist.cons₂ _ (List.sublist_append_left _ _)))
    clear hS hq; intro p xs q H p_n hx hC hq hS
    (try simp only [List.cons_append, List.nil_append] at hS)
    walk_at "zS2"
    refine d_newT (ds := xs.map .int) hS (DtL.ints.mpr rfl) ?_
    clear hS; intro pp H hS
    exact k _ _ q H ⟨xs, rfl, by omega, by omega, hC⟩ hq hS.fr (hS.get 0 rfl) (hS.d 1 rfl)
theorem ok__law_worth (T : Txt K mg base A) : FnOk P w K mg base CX0 2 A.a__law_worth A.d__law_worth ["_law_row"] (sp__law_worth K) := by
  have G__law_taken := ok__law_taken (P := P) (w := w) (base := base) T
  refine T.F__law_worth.ok sc__law_worth (fun vs H Q E h => ?_) (fun cdv A_ outer s H0 vs Q E hr h => ?_)
  · obtain ⟨_, h⟩ := h; obtain ⟨_, h⟩ := h; obtain ⟨_, h⟩ := h; obtain ⟨_, h⟩ := h; obtain ⟨rfl, _⟩ := h; rfl
  · obtain ⟨r, a, q, ns, rfl, R, k⟩ := h
    have hu := hu_of hr
    have hu2 := hu2_of hr
    have hr__law_taken : Room 1 _ := hr.mono (by decide)
    refine ⟨_, pss_one (ps_ret (pe_call G__law_taken hr__law_taken (by rfl) T.g__law_taken T.F__law_taken.kp T.b__law_taken .nil pass0 (pa_cons (pv 0) (pa_cons (pe_ix (b_ixL (K := K)) (pe_lst (pa_cons pe_int (pa_cons pe_int (pa_cons pe_int pa_nil)))) (pe_call G__law_taken hr__law_taken (by rfl) T.g__law_taken T.F__law_taken.kp T.b__law_taken .nil pass0 (pa_cons (pv 0) (pa_cons pe_int pa_nil))) (fun _ _ => rfl)) pa_nil)))), ?_⟩
    try dsimp only [cxOf, Cx.nox, Cx.wish]
    refine x_st (σ' := [some _]) rfl ?_
    have hS := R.sy; have hq := R.2.1; have hl := R.2.2.2
    walk_at "zS1"
    (refine ⟨by simp only [List.length_cons, List.length_nil]; decide, n_al hS ?_⟩; clear hS; intro p H p_n p_0 hS; simp only [List.cons_append, List.nil_append] at hS)
    walk_at "zS1"
    (refine use_taken hS ⟨by first | assumption | (simp; done) | exact List.mem_cons_of_mem _ (by assumption) | exact List.mem_cons_of_mem _ (List.mem_cons_of_mem _ (by assumption)), by first | exact .inr (by assumption) | exact .inl (by simp)⟩ hq hl (by omega) (by omega) ?_; clear hS hq; intro x q H x_0 x_1 hq hS)
    obtain rfl | rfl | rfl : x = 0 ∨ x = 1 ∨ x = 2 := by omega
    all_goals
      walk_at "zS1"
      (refine use_taken hS ⟨by first | assumption | (simp; done) | exact List.mem_cons_of_mem _ (by assumption) | exact List.mem_cons_of_mem _ (List.mem_cons_of_mem _ (by assumption)), by first | exact .inr (by assumption) | exact .inl (by simp)⟩ hq hl (by omega) (by omega) ?_; clear hS hq; intro y q H y_0 y_1 hq hS)
      exact k y q H ⟨by omega, by omega⟩ hq hS.fr (hS.get 0 rfl)
theorem ok__law_picture (T : Txt K mg base A) : FnOk P w K mg base CX0 3 A.a__law_picture A.d__law_picture ["_law_row", "_law_keys_here", "_law_most"] (sp__law_picture K) := by
  have G__law_taken := ok__law_taken (P := P) (w := w) (base := base) T
  have G__law_worth := ok__law_worth (P := P) (w := w) (base := base) T
  refine T.F__law_picture.ok sc__law_picture (fun vs H Q E h => ?_) (fun cdv A_ outer s H0 vs Q E hr h => ?_)
  · exact spDrawD_len h (fun _ => rfl)
  · obtain ⟨M, ⟨ks, most⟩, r, a, q, ns, ws, rfl, h0, hq, hs, hl, hM, hdom, hd, ⟨gg, m0, m1⟩, k⟩ := h
    dsimp only at hd gg m0 m1 k
    have hS := Sy.ofDD h0 hs hM hdom hd
    simp only [DtL] at hd
    obtain ⟨u, _, rfl, hu0, _, _, rfl, hm, rfl⟩ := hd
    simp only [Dt] at hm; subst hm
    obtain ⟨p0, xs0, rfl, s, r0⟩ : ∃ p xs, u = .ref p ∧ STA K M H0 p xs ∧ DtL K M H0 (ks.map .int) xs := by
      have hu1 := hu0
      simp only [Dt] at hu1; exact hu1
    have hl0 := r0.len
    rw [List.length_map] at hl0
    have hu := hu_of hr
    have hu2 := hu2_of hr
    have hr__law_taken : Room 1 _ := hr.mono (by decide)
    have hr__law_worth : Room 2 _ := hr.mono (by decide)
    refine ⟨_, pss_cons (ps_set (i := 3) sc__law_picture.nd rfl (Or.inl rfl) (pe_callTy (b_tuple (K := K)) (by rfl) T.z_tuple (by decide +kernel) (pa_cons (pe_lc (own := [("_law_k", 4)]) (g := gName 4) (by rfl) sc__law_picture.nd (pi_range1 (by rfl) T.z_range (pa_cons (pe_op op_add pe_int (pe_call G__law_taken hr__law_taken (by rfl) T.g__law_taken T.F__law_taken.kp T.b__law_taken .nil pass0 (pa_cons (pv 0) (pa_cons pe_int pa_nil)))) pa_nil)) (blkOk_by (N := ["_law_row", "_law_keys_here", "_law_most", "_law_cells", "_law_k"]) (sc := defScope s__law_picture) (by decide +kernel)) (fun _ _ _ _ _ => pg_name (i := 4) sc__law_picture.nd rfl (by first | exact Or.inl rfl | exact Or.inr rfl)) (fun _ _ _ _ _ => pts_nil) (fun _ _ _ _ _ => (pe_call G__law_worth hr__law_worth (by rfl) T.g__law_worth T.F__law_worth.kp T.b__law_worth .nil pass0 (pa_cons (pv 0) pa_nil)))) pa_nil)))
      (pss_one (ps_ret (pe_tup (pa_cons (pe_op op_add pe_int (pe_call G__law_taken hr__law_taken (by rfl) T.g__law_taken T.F__law_taken.kp T.b__law_taken .nil pass0 (pa_cons (pv 0) (pa_cons (pv 2) pa_nil)))) (pa_cons (pv 3) (pa_cons (pe_call G__law_taken hr__law_taken (by rfl) T.g__law_taken T.F__law_taken.kp T.b__law_taken .nil pass0 (pa_cons (pv 0) (pa_cons (pe_callB (b_len (K := K)) (by rfl) T.z_len (by decide +kernel) (pa_cons (pv 1) pa_nil)) pa_nil))) pa_nil)))))), ?_⟩
    try dsimp only [cxOf, Cx.nox, Cx.wish]
    refine x_st (σ' := [some _, some _, some _, none, none]) rfl ?_
    walk_at "zS5"
    (refine use_taken hS ⟨by first | assumption | (simp; done) | exact List.mem_cons_of_mem _ (by assumption) | exact List.mem_cons_of_mem _ (List.mem_cons_of_mem _ (by assumption)), by first | exact .inr (by assumption) | exact .inl (by simp)⟩ hq hl (by omega) (by omega) ?_; clear hS hq; intro n q H n_0 n_1 hq hS)
    walk_at "zS5"
    (refine ⟨_, rfl, by omega, by omega, ?_⟩)
    refine lc_draw (n := (1 + n).toNat) (C := fun x => 0 ≤ x ∧ x < 9973) hS ⟨hM, .inl (by simp)⟩ hq (by omega) ?_ ?_
    · intro v M' H q L' Q' hM hq hS kk
      walk_at "zS5"
      exact use_draw hS hM hq hl kk
    clear hS hq; intro p xs q H p_n hx hC hq hS
    (try simp only [List.cons_append, List.nil_append] at hS)
    walk_at "zS5"
    refine d_newT (ds := xs.map .int) hS (DtL.ints.mpr rfl) ?_
    clear hS; intro pp H hS
    walk_at "zS5"
    refine use_taken hS ⟨hM, .inl (by simp)⟩ hq hl (by omega) (by omega) ?_
    clear hS hq; intro ver q H ver_0 ver_1 hq hS
    walk_at "zS5"
    refine d_lenT (hS.d 1 rfl) ?_
    rw [List.length_map]
    walk_at "zS5"
    obtain ⟨g1, g2, g3⟩ := gg
    refine use_taken hS ⟨hM, .inl (by simp)⟩ hq hl (by omega) (by omega) ?_
    clear hS hq; intro num q H num_0 num_1 hq hS
    walk_at "zD5"
    (have hS : Sy K _ _ _ _ _ := (by assumption))
    have gpp : gp ks ⟨1 + ver, xs, num⟩ := ⟨by dsimp only; omega, by dsimp only; omega, by dsimp only; omega, by dsimp only; omega, fun c hc => ⟨(hC c hc).1, by have := (hC c hc).2; omega⟩, num_0, num_1⟩
    exact k _ _ q _ ⟨⟨1 + ver, xs, num⟩, rfl, gpp, by dsimp only; omega⟩ hq hS.fr (hS.get 0 rfl) (by walk_at "zdt")
theorem ok__law_sums (T : Txt K mg base A) : FnOk P w K mg base CX0 1 A.a__law_sums A.d__law_sums ["_law_some"] (sp__law_sums K) := by
  refine T.F__law_sums.ok sc__law_sums (fun vs H Q E h => ?_) (fun cdv A_ outer s H0 vs Q E hr h => ?_)
  · obtain ⟨_, h⟩ := h; obtain ⟨_, h⟩ := h; obtain ⟨_, h⟩ := h; obtain ⟨rfl, _⟩ := h; rfl
  · obtain ⟨M, xs, p, rfl, hdom, hx, hz, k⟩ := h
    have hS : Sy K (b0 H0) M H0 [] [] := Sy.start _ _ _ (fun _ z => nomatch z) (by simp) (fun _ z => nomatch z) hdom
    have hu := hu_of hr
    have hu2 := hu2_of hr
    refine ⟨_, pss_cons (ps_if (pt_cmpR (b_in (K := K)) pe_non (pv 0) (by rfl)) (pss_one (ps_ret pe_non)) pss_nil)
      (pss_cons (ps_set (i := 1) sc__law_sums.nd rfl (Or.inl rfl) (pe_callB (b_sum (K := K) rfl) (by rfl) T.z_sum (by decide +kernel) (pa_cons (pe_lc (own := [("_law_number", 3)]) (g := gName 3) (by rfl) sc__law_sums.nd (b_iE (K := K) (pv 0)) (blkOk_by (N := ["_law_some", "_law_one", "_law_two", "_law_number", "_law_k"]) (sc := defScope s__law_sums) (by decide +kernel)) (fun _ _ _ _ _ => pg_name (i := 3) sc__law_sums.nd rfl (by first | exact Or.inl rfl | exact Or.inr rfl)) (fun _ _ _ _ _ => pts_nil) (fun _ _ _ _ _ => (pe_op op_add (pv 3) pe_int))) pa_nil)))
      (pss_cons (ps_set (i := 2) sc__law_sums.nd rfl (Or.inl rfl) (pe_callB (b_sum (K := K) rfl) (by rfl) T.z_sum (by decide +kernel) (pa_cons (pe_lc (own := [("_law_k", 4)]) (g := gName 4) (by rfl) sc__law_sums.nd (pi_range1 (by rfl) T.z_range (pa_cons (pe_callB (b_len (K := K)) (by rfl) T.z_len (by decide +kernel) (pa_cons (pv 0) pa_nil)) pa_nil)) (blkOk_by (N := ["_law_some", "_law_one", "_law_two", "_law_number", "_law_k"]) (sc := defScope s__law_sums) (by decide +kernel)) (fun _ _ _ _ _ => pg_name (i := 4) sc__law_sums.nd rfl (by first | exact Or.inl rfl | exact Or.inr rfl)) (fun _ _ _ _ _ => pts_nil) (fun _ _ _ _ _ => (pe_op op_mul (pe_op op_sub (pe_callB (b_len (K := K)) (by rfl) T.z_len (by decide +kernel) (pa_cons (pv 0) pa_nil)) (pv 4)) (pe_op op_add (pe_ix (b_ix (K := K)) (pv 0) (pv 4) (fun _ _ => rfl)) pe_int)))) pa_nil)))
      (pss_one (ps_ret (pe_tup (pa_cons (pe_op op_mod (pv 1) pe_int) (pa_cons (pe_op op_mod (pv 2) pe_int) pa_nil))))))), ?_⟩
    try dsimp only [cxOf, Cx.nox, Cx.wish]
    refine x_st (σ' := [some _, none, none, none, none]) rfl ?_
    walk_at "zS5"
    refine n_in hx rfl (flat_ov _) ?_
    rw [inV_none]
    by_cases hn : none ∈ xs
    · rw [sumsD_none hn] at k
      walk_at "zS5"
      refine x_iteT (decide_eq_true hn) ?_
      walk_at "zS5"
      exact k _ _ hS.fr Dt.non'
    obtain ⟨ns, rfl⟩ := whole_of hn
    rw [sumsD_some] at k
    rw [List.length_map] at hz
    rw [← ints_ov] at hx
    walk_at "zS5"
    refine x_iteF (decide_eq_false hn) ?_
    walk_at "zS5"
    refine x_iEx (by with_unfolding_all rfl) hx ?_
    intro J G w hG
    refine lcW_data w hS hG (by rw [List.length_map]; omega) (fun i => .int (ns.getD i 0 + 1)) ?_ ?_
    · intro i x D acc Ds' H Q' hi hx2 hD hS kk
      obtain ⟨m, hm, rfl⟩ := of_map hx2
      walk_at "zS5"
      refine kk _ _ hS ?_
      rw [getD_at hm]
      exact Dt.int'
    clear hS; intro D H hS
    have e1 : (List.range (ns.map V.int).length).map (fun i => PyData.int (ns.getD i 0 + 1)) = (ns.map (· + 1)).map PyData.int := by
      rw [List.length_map, range_map_get (fun n : Int => PyData.int (n + 1)), List.map_map]; rfl
    rw [e1] at hS
    have hd := hS.d 0 rfl
    obtain ⟨zs, s1, r1⟩ := hd.lst
    rw [DtL.ints.mp r1] at s1
    have s11 := s1.1
    walk_at "zS5"
    rw [one_sum]
    have hx3 := hS.fr.sq0 hx
    walk_at "zS5"
    rw [List.length_map]
    (refine ⟨_, rfl, by omega, by omega, ?_⟩)
    simp only [Int.toNat_natCast]
    refine lcW_data walk_range' hS (fun _ _ _ _ => trivial) (by omega) (fun i => .int (((ns.length : Int) - i) * (ns.getD i 0 + 1))) ?_ ?_
    · intro i x D2 acc Ds' H' Q' hi hx2 hD hS kk
      subst hx2
      obtain ⟨m, hm⟩ := at_lt hi
      have hx4 := hS.fr.sq0 hx3
      walk_at "zS5"
      rw [List.length_map]
      walk_at "zS5"
      refine n_ixE hx4 (atI0 (at_map hm)) ?_
      walk_at "zS5"
      refine kk _ _ hS ?_
      rw [getD_at hm, Int.zero_add]
      exact Dt.int'
    clear hS; intro D2 H hS
    have e2 : (List.range ns.length).map (fun (i : Nat) => PyData.int (((ns.length : Int) - i) * (ns.getD i 0 + 1))) = ((List.range ns.length).map (fun (i : Nat) => ((ns.length : Int) - i) * (ns.getD i 0 + 1))).map PyData.int := by rw [List.map_map]; rfl
    rw [e2] at hS
    have hd2 := hS.d 1 rfl
    obtain ⟨zs2, s2, r2⟩ := hd2.lst
    rw [DtL.ints.mp r2] at s2
    have s21 := s2.1
    walk_at "zS5"
    rw [two_sum]
    walk_at "zD5"
    (have hS : Sy K _ _ _ _ _ := (by assumption))
    refine k _ _ hS.fr ?_
    rw [sums_is]
    exact (by walk_at "zdt")
theorem ok__law_newest (T : Txt K mg base A) : FnOk P w K mg base CX0 2 A.a__law_newest A.d__law_newest ["_law_cells", "_law_place"] (sp__law_newest K) := by
  have G__law_sums := ok__law_sums (P := P) (w := w) (base := base) T
  refine T.F__law_newest.ok sc__law_newest (fun vs H Q E h => ?_) (fun cdv A_ outer s H0 vs Q E hr h => ?_)
  · obtain ⟨_, h⟩ := h; obtain ⟨_, h⟩ := h; obtain ⟨_, h⟩ := h; obtain ⟨_, h⟩ := h; obtain ⟨rfl, _⟩ := h; rfl
  · obtain ⟨M, xs, p, i, rfl, hdom, hx, ⟨h0, h1, h2, hnn⟩, k⟩ := h
    have hu := hu_of hr
    have hu2 := hu2_of hr
    have hr__law_sums : Room 1 _ := hr.mono (by decide)
    refine ⟨_, pss_cons (ps_set (i := 2) sc__law_newest.nd rfl (Or.inl rfl) pe_non)
      (pss_cons (ps_for PassesOwn.never rfl (pi_range1 (by rfl) T.z_range (pa_cons pe_int pa_nil)) (pg_name (i := 3) sc__law_newest.nd rfl (Or.inl rfl)) (pss_cons (ps_set (i := 4) sc__law_newest.nd rfl (Or.inl rfl) (pe_slice (b_slL (K := K)) (pv 0) (po_some (pe_op op_add (pv 1) (pe_op op_mul pe_int (pv 3)))) (po_some (pe_op op_add (pe_op op_add (pv 1) (pe_op op_mul pe_int (pv 3))) pe_int))))
      (pss_one (ps_if (PW.pt (pw_and (pt_cmpR (b_notIn (K := K)) pe_non (pv 4) (by rfl)) (pw_and (pt_cmpR op_gt (pe_ix (b_ixL (K := K)) (pv 4) pe_int (fun _ _ => rfl)) pe_int (nomark _)) (pw_and1 (pt_cmpR (b_eqD (K := K) hr.units) (pe_call G__law_sums hr__law_sums (by rfl) T.g__law_sums T.F__law_sums.kp T.b__law_sums .nil pass0 (pa_cons (pe_slice (b_slL (K := K)) (pv 4) po_none (po_some pe_int)) pa_nil)) (pe_tup (pa_cons (pe_ix (b_ixL (K := K)) (pv 4) pe_int (fun _ _ => rfl)) (pa_cons (pe_ix (b_ixL (K := K)) (pv 4) pe_int (fun _ _ => rfl)) pa_nil))) (nomark _)))))) (pss_one (ps_if (PW.pt (pw_or (pt_cmpR c_isN (pv 2) pe_non (nomark _)) (pw_or1 (pt_cmpR op_gt (pe_ix (b_ixL (K := K)) (pv 4) pe_int (fun _ _ => rfl)) (pe_ix (b_ixT (K := K)) (pv 2) pe_int (fun _ _ => rfl)) (nomark _))))) (pss_one (ps_set (i := 2) sc__law_newest.nd rfl (Or.inl rfl) (pe_tup (pa_cons (pv 3) (pa_cons (pe_ix (b_ixL (K := K)) (pv 4) pe_int (fun _ _ => rfl)) (pa_cons (pe_callTy (b_tuple (K := K)) (by rfl) T.z_tuple (by decide +kernel) (pa_cons (pe_slice (b_slL (K := K)) (pv 4) (po_some pe_int) (po_some pe_int)) pa_nil)) pa_nil)))))) pss_nil)) pss_nil))))
      (pss_one (ps_ret (pv 2)))), ?_⟩
    try dsimp only [cxOf, Cx.nox, Cx.wish]
    refine x_st (σ' := [some _, some _, none, none, none]) rfl ?_
    have hS := Sy.atD (K := K) hdom
    dsimp only at k
    walk_at "zS5"
    (refine ⟨_, rfl, by omega, by omega, ?_⟩)
    refine for_range (lo := 0) (n := (2 : Int).toNat) (fun j σ' H' => ∃ (v3 v4 : Option V) (u : V), Sy K (b0 H0) M H' [] [(newestD (foundF xs i.toNat j), u)] ∧ σ' = [some (.ref p), some (.int i), some u, v3, v4]) ?_ ?_ ?_
    · exact ⟨_, _, .non, hS.addD Dt.non', rfl⟩
    · clear hS
      rintro j σ' H' hj ⟨v3, v4, u, hS, rfl⟩
      have hj2 : j < 2 := hj
      have hx' := hS.fr.sl (fun z => nomatch z) hx
      walk_at "zS5"
      (refine n_al hS ?_; clear hS; intro q H q_n q_0 hS; simp only [List.cons_append, List.nil_append] at hS)
      have ej : (i + 6 * (0 + (j : Int))).toNat = i.toNat + 6 * j := by omega
      rw [cut_in ov xs (by omega) (by omega) (by omega), ej, show (i + 6 * (0 + (j : Int)) + 6 - (i + 6 * (0 + (j : Int)))).toNat = 6 by omega] at hS
      have hlen : ((xs.drop (i.toNat + 6 * j)).take 6).length = 6 := by rw [List.length_take, List.length_drop]; omega
      have hmo := foundF_more xs i.toNat j
      unfold pageO at hmo
      have hn6 : ∀ n, some n ∈ (xs.drop (i.toNat + 6 * j)).take 6 → 0 ≤ n := fun n hn => hnn n (List.mem_of_mem_drop (List.mem_of_mem_take hn))
      generalize (xs.drop (i.toNat + 6 * j)).take 6 = x6 at hS hlen hmo hn6
      have stay : moreF (foundF xs i.toNat j) (j : Int) (pageL x6) = foundF xs i.toNat j → ∀ H'' L v3 v4, Sy K (b0 H0) M H'' L [(newestD (foundF xs i.toNat j), u)] → ∃ (v3' v4' : Option V) (u' : V), Sy K (b0 H0) M H'' [] [(newestD (foundF xs i.toNat (j + 1)), u')] ∧ [some (V.ref p), some (.int i), some u, v3, v4] = [some (.ref p), some (.int i), some u', v3', v4'] := fun e H'' L v3 v4 hS => by
        refine ⟨v3, v4, u, ?_, rfl⟩
        rw [hmo, e]
        exact hS.sub (List.nil_sublist _)
      walk_at "zS5"
      refine n_in (by walk_at "zsqe") rfl (flat_ov _) ?_
      rw [inV_none]
      by_cases hn : none ∈ x6
      · walk_at "zS5"
        refine x_iteF (nd_of hn) ?_
        walk_at "zS5"
        exact stay (by rw [pageL_none hn]; rfl) _ _ _ _ hS
      · obtain ⟨n, a, b, c, s4, t, rfl⟩ := row6 hlen hn
        simp only [List.map_cons, List.map_nil, ov] at hS
        have hp := pageL_some n a b c s4 t
        have hn0 := hn6 n (by simp)
        generalize pageL [some n, some a, some b, some c, some s4, some t] = pg at hp stay hmo
        walk_at "zS5"
        refine x_ite (fun hz => ?_) (fun hz => ?_)
        · have hz : 0 < n := of_decide_eq_true hz
          walk_at "zS5"
          (refine n_al hS ?_; clear hS; intro q2 H q2_n q2_0 hS; simp only [List.cons_append, List.nil_append] at hS)
          simp only [cut_4] at hS
          walk_at "zS5"
          refine use_EO [some n, some a, some b, some c] hS (by walk_at "zsqe") (show (4 : Nat) ≤ 10000 by decide) ?_
          clear hS; intro u2 H hS
          rw [show sumsD [some n, some a, some b, some c] = _ from sumsD_some [n, a, b, c]] at hS
          (try simp only [List.cons_append, List.nil_append] at hS)
          walk_at "zD5"
          have hS' := ‹Sy K (b0 H0) M _ _ [_, _, _]›
          refine d_eqP (s := sumsF [n, a, b, c]) (t := (s4, t)) (hS'.d 1 rfl) (hS'.d 2 rfl) ?_
          refine ⟨_, rfl, ?_⟩
          by_cases he : sumsF [n, a, b, c] = (s4, t)
          · rw [if_pos ⟨by omega, he⟩] at hp
            refine x_iteT (decide_eq_true he) ?_
            clear hS
            have hS := hS'
            cases hf : foundF xs i.toNat j with
            | none =>
              rw [hf] at hS hmo
              have hu' := hS.d 0 rfl
              simp only [newestD, Dt] at hu'
              subst hu'
              walk_at "zS5"
              (refine n_al hS ?_; clear hS; intro q3 H q3_n q3_0 hS; simp only [List.cons_append, List.nil_append] at hS)
              simp only [cut_14] at hS
              walk_at "zS5"
              refine d_newT hS (DtL.cons' Dt.int' (DtL.cons' Dt.int' (DtL.cons' Dt.int' DtL.nil'))) ?_
              clear hS; intro t3 H hS
              (try simp only [List.cons_append, List.nil_append] at hS)
              walk_at "zS5"
              refine d_tup hS (by simp) (DtL.cons' Dt.int' (DtL.cons' Dt.int' (DtL.cons' (hS.d 3 rfl) DtL.nil'))) ?_
              clear hS; intro t4 H hS
              (try simp only [List.cons_append, List.nil_append] at hS)
              walk_at "zS5"
              refine ⟨_, _, _, (hS.sub (List.nil_sublist _)).subD (Ds' := [_]) ?_, rfl⟩
              rw [hmo, hp]
              simp [moreF, newestD, recD]
            | some g =>
              rw [hf] at hS hmo
              obtain ⟨c2, rfl⟩ := (hS.d 0 rfl).refT
              walk_at "zD5"
              refine x_ite (fun hlt => ?_) (fun hlt => ?_)
              · have hlt : g.2.1 < n := of_decide_eq_true hlt
                walk_at "zS5"
                (refine n_al hS ?_; clear hS; intro q3 H q3_n q3_0 hS; simp only [List.cons_append, List.nil_append] at hS)
                simp only [cut_14] at hS
                walk_at "zS5"
                refine d_newT hS (DtL.cons' Dt.int' (DtL.cons' Dt.int' (DtL.cons' Dt.int' DtL.nil'))) ?_
                clear hS; intro t3 H hS
                (try simp only [List.cons_append, List.nil_append] at hS)
                walk_at "zS5"
                refine d_tup hS (by simp) (DtL.cons' Dt.int' (DtL.cons' Dt.int' (DtL.cons' (hS.d 3 rfl) DtL.nil'))) ?_
                clear hS; intro t4 H hS
                (try simp only [List.cons_append, List.nil_append] at hS)
                walk_at "zS5"
                refine ⟨_, _, _, (hS.sub (List.nil_sublist _)).subD (Ds' := [_]) ?_, rfl⟩
                rw [hmo, hp]
                simp [moreF, newestD, recD, hlt]
              · have hlt : ¬ g.2.1 < n := of_decide_eq_false hlt
                walk_at "zS5"
                refine ⟨_, _, _, (hS.sub (List.nil_sublist _)).subD (Ds' := [_]) ?_, rfl⟩
                rw [hmo, hp]
                simp [moreF, hlt]
          · refine x_iteF (decide_eq_false he) ?_
            walk_at "zS5"
            exact stay (by rw [hp, if_neg (fun z => he z.2)]; rfl) _ _ _ _ (hS'.subD (by simp))
        · have hz : ¬ 0 < n := of_decide_eq_false hz
          walk_at "zS5"
          exact stay (by rw [hp, if_neg (fun z => z.1 (by omega))]; rfl) _ _ _ _ hS
    · clear hS
      rintro σ' H' ⟨v3, v4, u, hS, rfl⟩
      rw [show (2 : Int).toNat = 2 from rfl, foundF_two] at hS
      walk_at "zS5"
      exact k _ _ hS.fr (hS.d 0 rfl)
theorem ok__law_noted (T : Txt K mg base A) : FnOk P w K mg base CX0 3 A.a__law_noted A.d__law_noted ["_law_cells", "_law_place", "_law_three"] (sp__law_noted K) := by
  have G__law_newest := ok__law_newest (P := P) (w := w) (base := base) T
  have G__law_sums := ok__law_sums (P := P) (w := w) (base := base) T
  refine T.F__law_noted.ok sc__law_noted (fun vs H Q E h => ?_) (fun cdv A_ outer s H0 vs Q E hr h => ?_)
  · obtain ⟨_, h⟩ := h; obtain ⟨_, h⟩ := h; obtain ⟨_, h⟩ := h; obtain ⟨_, h⟩ := h; obtain ⟨_, h⟩ := h; obtain ⟨_, h⟩ := h; obtain ⟨rfl, _⟩ := h; rfl
  · obtain ⟨M, xs, p, i, r, v, rfl, hdom, hx, ⟨h0, h1, h2, hnn⟩, hv, k⟩ := h
    have hu := hu_of hr
    have hu2 := hu2_of hr
    have hr__law_newest : Room 2 _ := hr.mono (by decide)
    have hr__law_sums : Room 1 _ := hr.mono (by decide)
    refine ⟨_, pss_cons (ps_set (i := 3) sc__law_noted.nd rfl (Or.inl rfl) (pe_call G__law_newest hr__law_newest (by rfl) T.g__law_newest T.F__law_newest.kp T.b__law_newest .nil pass0 (pa_cons (pv 0) (pa_cons (pv 1) pa_nil))))
      (Evl.pss_cut (ps_set (i := 4) sc__law_noted.nd rfl (Or.inr rfl) (pe_op op_add (pv 1) (pe_op op_mul pe_int (pe_callTy c_int (by rfl) T.z_int (by decide +kernel) (pa_cons (pe_and (pe_cmpR c_notN (pv 3) pe_non (nomark _)) (pe_one (pe_cmpR op_eq (pe_ix (b_ixT (K := K)) (pv 3) pe_int (fun _ _ => rfl)) pe_int (nomark _)))) pa_nil)))))
      (Evl.pss_cut (ps_set (i := 5) sc__law_noted.nd rfl (Or.inl rfl) (pe_ifExp (pt_cmpR c_isN (pv 3) pe_non (nomark _)) pe_int (pe_op op_add (pe_ix (b_ixT (K := K)) (pv 3) pe_int (fun _ _ => rfl)) pe_int)))
      (pss_cons (ps_set (i := 6) sc__law_noted.nd rfl (Or.inr rfl) (pe_op op_cat (pe_lst (pa_cons (pv 5) pa_nil)) (pe_callTy (b_list (K := K)) (by rfl) T.z_list (by decide +kernel) (pa_cons (pv 2) pa_nil))))
      (pss_cons (ps_set (i := 6) sc__law_noted.nd rfl (Or.inr rfl) (pe_op op_cat (pv 6) (pe_callTy (b_list (K := K)) (by rfl) T.z_list (by decide +kernel) (pa_cons (pe_call G__law_sums hr__law_sums (by rfl) T.g__law_sums T.F__law_sums.kp T.b__law_sums .nil pass0 (pa_cons (pv 6) pa_nil)) pa_nil))))
      (pss_one (ps_ret (pe_op op_cat (pe_op op_cat (pe_lst (pa_cons (pe_tup (pa_cons (pv 4) (pa_cons pe_int pa_nil))) pa_nil)) (pe_lc (own := [("_law_k", 7)]) (g := gName 7) (by rfl) sc__law_noted.nd (pi_range2 (by rfl) T.z_range (pa_cons pe_int (pa_cons pe_int pa_nil))) (blkOk_by (N := ["_law_cells", "_law_place", "_law_three", "_law_here", "_law_begin", "_law_number", "_law_told", "_law_k"]) (sc := defScope s__law_noted) (by decide +kernel)) (fun _ _ _ _ _ => pg_name (i := 7) sc__law_noted.nd rfl (by first | exact Or.inl rfl | exact Or.inr rfl)) (fun _ _ _ _ _ => pts_nil) (fun _ _ _ _ _ => (pe_tup (pa_cons (pe_op op_add (pv 4) (pv 7)) (pa_cons (pe_ix (b_ixL (K := K)) (pv 6) (pv 7) (fun _ _ => rfl)) pa_nil)))))) (pe_lst (pa_cons (pe_tup (pa_cons (pv 4) (pa_cons (pv 5) pa_nil))) pa_nil))))))))), ?_⟩
    try dsimp only [cxOf, Cx.nox, Cx.wish]
    refine x_st (σ' := [some _, some _, some _, none, none, none, none, none]) rfl ?_
    have hS := (Sy.atD (K := K) hdom).addD hv
    (try simp only [List.cons_append, List.nil_append] at hS)
    walk_at "zS8"
    refine use_LI xs hS hx ⟨h0, h1, h2, hnn⟩ ?_
    clear hS; intro v3 H hS
    (try simp only [List.cons_append, List.nil_append] at hS)
    have hnx := next_cases xs i.toNat
    unfold noteW at k
    generalize (nextO xs i.toNat).1 = wh at hnx k
    generalize (nextO xs i.toNat).2 = nb at hnx k
    have hg : ∀ g, newestO xs i.toNat = some g → g.1 = 0 ∨ g.1 = 1 := fun g e => newest_w e
    generalize newestO xs i.toNat = no at hnx hS hg
    with_reducible refine x_name rfl ?_
    refine ⟨fun σ' H' => Sy K (b0 H0) M H' [] [(recD r, v), (newestD no, v3)] ∧ σ' = [some (.ref p), some (.int i), some v, some v3, some (.int (i + 6 * wh)), none, none, none], ?_, ?_⟩
    · rcases hnx with ⟨rfl, rfl, rfl⟩ | ⟨g, rfl, rfl, rfl⟩
      · have h3 := hS.d 1 rfl
        simp only [newestD, Dt] at h3
        subst h3
        walk_at "zS8"
        exact ⟨hS, by simp⟩
      · obtain ⟨b, rfl⟩ := (hS.d 1 rfl).refT
        have hg := hg g rfl
        walk_at "zD8"
        rcases hg with hg | hg
        · rw [hg]
          walk_at "zS8"
          exact ⟨hS, by simp⟩
        · rw [hg]
          walk_at "zS8"
          exact ⟨hS, by simp⟩
    clear hS
    rintro σ' H ⟨hS, rfl⟩
    refine ⟨fun σ' H' => Sy K (b0 H0) M H' [] [(recD r, v)] ∧ σ' = [some (.ref p), some (.int i), some v, some v3, some (.int (i + 6 * wh)), some (.int nb), none, none], ?_, ?_⟩
    · rcases hnx with ⟨rfl, rfl, rfl⟩ | ⟨g, rfl, rfl, rfl⟩
      · have h3 := hS.d 1 rfl
        simp only [newestD, Dt] at h3
        subst h3
        walk_at "zS8"
        exact ⟨hS.subD (by simp), rfl⟩
      · obtain ⟨b, rfl⟩ := (hS.d 1 rfl).refT
        walk_at "zD8"
        exact ⟨hS.subD (by simp), rfl⟩
    clear hS
    rintro σ' H ⟨hS, rfl⟩
    have hw : wh = 0 ∨ wh = 1 := by
      rcases hnx with ⟨_, rfl, _⟩ | ⟨g, e, rfl, _⟩
      · exact .inl rfl
      · have := hg g e
        omega
    clear hnx hg
    obtain ⟨b, rfl⟩ := (hS.d 0 rfl).refT
    walk_at "zS8"
    (refine ⟨by simp only [List.length_cons, List.length_nil]; decide, n_al hS ?_⟩; clear hS; intro t0 H t0_n t0_0 hS; simp only [List.cons_append, List.nil_append] at hS)
    walk_at "zS8"
    obtain ⟨ys, s1, r1⟩ := (hS.d 0 rfl).tup
    rw [show ([PyData.int r.1, .int r.2.1, .int r.2.2] : List PyData) = [r.1, r.2.1, r.2.2].map .int from rfl, DtL.ints] at r1
    subst r1
    refine n_list (.inr s1.1) ?_
    (refine n_al hS ?_; clear hS; intro t1 H t1_n t1_0 hS; simp only [List.cons_append, List.nil_append] at hS)
    refine n_cat (hS.get 0 rfl) (hS.get 1 rfl) (by simp) ?_
    (refine n_al hS ?_; clear hS; intro t2 H t2_n t2_0 hS; simp only [List.cons_append, List.nil_append] at hS)
    simp only [List.map_cons, List.map_nil, List.cons_append, List.nil_append] at hS
    walk_at "zS8"
    refine use_EO [some nb, some r.1, some r.2.1, some r.2.2] hS (.inl (hS.sl 2 rfl)) (show (4 : Nat) ≤ 10000 by decide) ?_
    clear hS; intro u2 H hS
    rw [show sumsD [some nb, some r.1, some r.2.1, some r.2.2] = _ from sumsD_some [nb, r.1, r.2.1, r.2.2]] at hS
    (try simp only [List.cons_append, List.nil_append] at hS)
    obtain ⟨b2, rfl⟩ := (hS.d 1 rfl).refT
    obtain ⟨ys, s2, r2⟩ := (hS.d 1 rfl).tup
    rw [show ([PyData.int (sumsF [nb, r.1, r.2.1, r.2.2]).1, .int (sumsF [nb, r.1, r.2.1, r.2.2]).2] : List PyData) = [(sumsF [nb, r.1, r.2.1, r.2.2]).1, (sumsF [nb, r.1, r.2.1, r.2.2]).2].map .int from rfl, DtL.ints] at r2
    subst r2
    walk_at "zS8"
    refine n_list (.inr s2.1) ?_
    (refine n_al hS ?_; clear hS; intro t3 H t3_n t3_0 hS; simp only [List.cons_append, List.nil_append] at hS)
    refine n_cat (hS.get 2 rfl) (hS.get 3 rfl) (by simp) ?_
    (refine n_al hS ?_; clear hS; intro t4 H t4_n t4_0 hS; simp only [List.cons_append, List.nil_append] at hS)
    have hS := (hS.sub (L' := [(t4, .lst ((rowF nb r).map V.int))]) (by simp [rowF])).subD (Ds' := []) (by simp)
    walk_at "zS8"
    refine d_tup hS (by simp) (DtL.cons' Dt.int' (DtL.cons' Dt.int' DtL.nil')) ?_
    clear hS; intro t5 H hS
    (try simp only [List.cons_append, List.nil_append] at hS)
    walk_at "zS8"
    (refine ⟨by simp only [List.length_cons, List.length_nil]; decide, n_al hS ?_⟩; clear hS; intro t6 H t6_n t6_0 hS; simp only [List.cons_append, List.nil_append] at hS)
    walk_at "zS8"
    refine ⟨1, 6, rfl, ⟨by decide, by decide, by decide, by decide⟩, ?_⟩
    refine lcW_zip walk_range' hS (fun _ _ _ _ => trivial) (by decide) (fun j => wrD (i.toNat + 6 * wh.toNat + (j + 1), (rowF nb r).getD (j + 1) 0)) ?_ ?_
    · intro j x D acc Ds' H Q' hj hx2 hD hS kk
      have hj : j < 5 := hj
      subst hx2
      walk_at "zS8"
      have hat : ((rowF nb r).map V.int)[j + 1]? = some (.int ((rowF nb r).getD (j + 1) 0)) := by
        have : j + 1 < (rowF nb r).length := by simp [rowF]; omega
        simp [List.getElem?_map, List.getElem?_eq_getElem this, List.getD_eq_getElem?_getD]
      refine x_ixL (hS.sl 0 rfl) (i := 1 + (j : Int)) (by rw [show (1 : Int) + j = ((j + 1 : Nat) : Int) by omega]; exact atI_nat hat) ?_
      walk_at "zS8"
      refine d_tup hS (by simp) (DtL.cons' Dt.int' (DtL.cons' Dt.int' DtL.nil')) ?_
      intro t7 H7 hS7
      rw [List.append_assoc] at hS7
      have e : ([PyData.int (i + 6 * wh + (1 + (j : Int))), .int ((rowF nb r).getD (j + 1) 0)] : List PyData) = [.int (((i.toNat + 6 * wh.toNat + (j + 1) : Nat)) : Int), .int ((rowF nb r).getD (j + 1) 0)] := by congr 2; omega
      rw [e] at hS7
      exact kk _ _ hS7.back (hS7.dat (_, .ref t7) (by simp))
    clear hS
    intro D H vs hD hvl hS
    rw [show ((6 : Int) - 1).toNat = 5 from rfl] at hvl hS
    (try simp only [List.cons_append, List.nil_append] at hS)
    refine n_cat (hS.get 1 rfl) (hS.get 2 rfl) (by simp [hvl]) ?_
    (refine n_al hS ?_; clear hS; intro t8 H t8_n t8_0 hS; simp only [List.cons_append, List.nil_append] at hS)
    walk_at "zS8"
    refine d_tup hS (by simp) (DtL.cons' Dt.int' (DtL.cons' Dt.int' DtL.nil')) ?_
    clear hS; intro t9 H hS
    (try simp only [List.cons_append, List.nil_append] at hS)
    walk_at "zS8"
    (refine ⟨by simp only [List.length_cons, List.length_nil]; decide, n_al hS ?_⟩; clear hS; intro ta H ta_n ta_0 hS; simp only [List.cons_append, List.nil_append] at hS)
    refine n_cat (hS.get 3 rfl) (hS.get 4 rfl) (by simp [hvl]) ?_
    (refine n_al hS ?_; clear hS; intro tb H tb_n tb_0 hS; simp only [List.cons_append, List.nil_append] at hS)
    refine k _ _ hS.fr ?_
    refine Dt.lstI ⟨hS.sl 5 rfl, .inl (notM0 hdom tb_0)⟩ ?_
    have eb : (i + 6 * wh : Int) = ((i.toNat + 6 * wh.toNat : Nat) : Int) := by omega
    have d5 : Dt K M H (.tuple [.int (i + 6 * wh), .int 0]) (.ref t5) := hS.dat _ (List.mem_cons_self ..)
    have d9 : Dt K M H (.tuple [.int (i + 6 * wh), .int nb]) (.ref t9) := hS.dat _ (List.mem_cons_of_mem _ (List.mem_append_right _ (List.mem_singleton.mpr rfl)))
    have dz : DtL K M H ((List.range 5).map (fun j => wrD (i.toNat + 6 * wh.toNat + (j + 1), (rowF nb r).getD (j + 1) 0))) vs := DtL.of_zip (by rw [List.length_map, List.length_range, hvl]) fun x hx => hS.dat x (List.mem_cons_of_mem _ (List.mem_append_left _ hx))
    rw [eb] at d5 d9
    exact DtL.cons' d5 (dz.append (DtL.cons' d9 DtL.nil'))
theorem ok__law_seal (T : Txt K mg base A) : FnOk P w K mg base CX0 1 A.a__law_seal A.d__law_seal ["_law_key", "_law_some"] (sp__law_seal K) := by
  refine T.F__law_seal.ok sc__law_seal (fun vs H Q E h => ?_) (fun cdv A_ outer s H0 vs Q E hr h => ?_)
  · obtain ⟨_, h⟩ := h; obtain ⟨_, h⟩ := h; obtain ⟨_, h⟩ := h; obtain ⟨rfl, _⟩ := h; rfl
  · obtain ⟨key, p, ns, rfl, k0, k1, hp, hz, hb, k⟩ := h
    have hu := hu_of hr
    have hu2 := hu2_of hr
    refine ⟨_, pss_cons (ps_set (i := 2) sc__law_seal.nd rfl (Or.inl rfl) pe_int)
      (pss_cons (ps_set (i := 3) sc__law_seal.nd rfl (Or.inl rfl) pe_int)
      (pss_cons (ps_for PassesOwn.never rfl (b_revA (K := K) (by rfl) T.z_reversed (pv 1)) (pg_name (i := 4) sc__law_seal.nd rfl (Or.inl rfl)) (pss_cons (ps_set (i := 2) sc__law_seal.nd rfl (Or.inl rfl) (pe_op op_add (pv 2) (pe_op op_mulW (pe_op op_add (pv 4) pe_int) (pv 3))))
      (pss_one (ps_set (i := 3) sc__law_seal.nd rfl (Or.inl rfl) (pe_op op_mulW (pv 3) (pv 0))))))
      (pss_one (ps_ret (pe_op op_mod (pe_op op_add (pv 2) (pe_op op_mulW (pv 0) (pv 3))) pe_int))))), ?_⟩
    try dsimp only [cxOf, Cx.nox, Cx.wish]
    refine x_st (σ' := [some _, some _, none, none, none]) rfl ?_
    walk_at "zS5"
    refine for_revE (xs := ns.map V.int) hp (fun j σ' H' => H' = H0 ∧ ∃ v, σ' = [some (.int key), some (.ref p), some (.int (tailR key (ns.drop (ns.length - j)))), some (.int (key ^ j)), v]) ⟨rfl, none, by simp [tailR]⟩ (fun j σ' H' z => z.1) ?_ ?_
    · rintro j x σ' H' hj hx ⟨rfl, v, rfl⟩
      rw [List.length_map] at hj hx
      obtain ⟨m, hm, rfl⟩ := of_map hx
      have hmb := hb m (List.mem_of_getElem? hm)
      have hpw := pow_nat k0 (by omega) j
      walk_at "zS5"
      refine x_I (wide_mul (a := 14) (b := 14 * j + 1) (by omega) hpw (by decide) (by omega) (by omega)) ?_
      walk_at "zS5"
      refine x_I (wide_mul (a := 14 * j + 1) (b := 14) hpw (by omega) (by omega) (by decide) (by omega)) ?_
      walk_at "zS5"
      refine ⟨rfl, some (.int m), ?_⟩
      rw [tail_more key hm hj, Int.pow_succ]
    · rintro σ' H' ⟨rfl, v, rfl⟩
      rw [List.length_map, Nat.sub_self, List.drop_zero]
      have hpw := pow_nat k0 (by omega) ns.length
      walk_at "zS5"
      refine x_I (wide_mul (a := 14) (b := 14 * ns.length + 1) (by omega) hpw (by decide) (by omega) (by omega)) ?_
      walk_at "zS5"
      rw [← seal_is key ns k0 k1]
      exact k
theorem ok__law_head (T : Txt K mg base A) : FnOk P w K mg base CX0 2 A.a__law_head A.d__law_head ["_law_keys_here", "_law_picture_here"] (sp__law_head K) := by
  have G__law_sums := ok__law_sums (P := P) (w := w) (base := base) T
  have G__law_seal := ok__law_seal (P := P) (w := w) (base := base) T
  refine T.F__law_head.ok sc__law_head (fun vs H Q E h => ?_) (fun cdv A_ outer s H0 vs Q E hr h => ?_)
  · exact spD_len h (fun _ => rfl)
  · obtain ⟨M, ⟨ks, pic⟩, hdom, hds, ⟨gg, hp⟩, k⟩ := h
    dsimp only at hds gg hp k
    have hko := keyOf_ok gg hp
    have hpo := plainF_ok gg.2.1 hp
    obtain ⟨p1, p2, p3, p4, p5, p6, p7⟩ := hp
    have hS := Sy.ofD hdom hds
    simp only [DtL] at hds
    obtain ⟨u, _, rfl, hu0, u2, _, rfl, hu2, rfl⟩ := hds
    obtain ⟨p, xs, rfl, s, r⟩ : ∃ p xs, u = .ref p ∧ STA K M H0 p xs ∧ DtL K M H0 (ks.map .int) xs := by
      have hu1 := hu0
      simp only [Dt] at hu1; exact hu1
    rw [DtL.ints.mp r] at s
    simp only [Dt, DtL] at hu2
    obtain ⟨b, ys, rfl, sb, _, _, rfl, rfl, _, _, rfl, ⟨c, cs, rfl, sc, rc⟩, _, _, rfl, rfl, rfl⟩ := hu2
    have hc : Dt K M H0 (.tuple (pic.cells.map .int)) (.ref c) := Dt.tupI sc rc
    have hsb := sb.1
    have hu := hu_of hr
    have hu2 := hu2_of hr
    have hr__law_sums : Room 1 _ := hr.mono (by decide)
    have hr__law_seal : Room 1 _ := hr.mono (by decide)
    refine ⟨_, pss_cons (ps_asg (pv 1) (pg_tup (by rfl) (pgs_cons (pg_name (i := 2) sc__law_head.nd rfl (Or.inl rfl)) (pgs_cons (pg_name (i := 3) sc__law_head.nd rfl (Or.inl rfl)) (pgs_cons (pg_name (i := 4) sc__law_head.nd rfl (Or.inl rfl)) pgs_nil)))))
      (pss_cons (ps_set (i := 5) sc__law_head.nd rfl (Or.inl rfl) (pe_op op_cat (pe_op op_cat (pe_lst (pa_cons (pv 2) (pa_cons (pe_callB (b_len (K := K)) (by rfl) T.z_len (by decide +kernel) (pa_cons (pv 3) pa_nil)) pa_nil))) (pe_callTy (b_list (K := K)) (by rfl) T.z_list (by decide +kernel) (pa_cons (pe_call G__law_sums hr__law_sums (by rfl) T.g__law_sums T.F__law_sums.kp T.b__law_sums .nil pass0 (pa_cons (pv 3) pa_nil)) pa_nil))) (pe_lst (pa_cons (pv 4) pa_nil))))
      (pss_one (ps_ret (pe_callTy (b_tuple (K := K)) (by rfl) T.z_tuple (by decide +kernel) (pa_cons (pe_op op_cat (pv 5) (pe_lst (pa_cons (pe_call G__law_seal hr__law_seal (by rfl) T.g__law_seal T.F__law_seal.kp T.b__law_seal .nil pass0 (pa_cons (pe_ix (b_ixT (K := K)) (pv 0) (pv 4) (fun _ _ => rfl)) (pa_cons (pv 5) pa_nil))) pa_nil))) pa_nil))))), ?_⟩
    try dsimp only [cxOf, Cx.nox, Cx.wish]
    refine x_st (σ' := [some _, some _, none, none, none, none]) rfl ?_
    have hS := hS.addD hc
    walk_at "zD6"
    rw [List.length_map]
    (refine ⟨by simp only [List.length_cons, List.length_nil]; decide, n_al hS ?_⟩; clear hS; intro l1 H l1_n l1_0 hS; simp only [List.cons_append, List.nil_append] at hS)
    walk_at "zS6"
    have hcs : SqE K H c ((pic.cells.map some).map ov) := by
      rw [← ints_ov]
      obtain ⟨zs, s1, r1⟩ := (hS.d 2 rfl).tup
      rw [DtL.ints.mp r1] at s1
      exact .inr s1.1
    refine use_EO (pic.cells.map some) hS hcs (show (pic.cells.map some).length ≤ 10000 by rw [List.length_map]; omega) ?_
    clear hS; intro t1 H hS
    rw [sumsD_some] at hS
    have h3 := hS.d 3 rfl
    obtain ⟨t2, zs, rfl, s3, r3⟩ : ∃ p xs, t1 = .ref p ∧ STA K M H p xs ∧ DtL K M H [.int (sumsF pic.cells).1, .int (sumsF pic.cells).2] xs := by
      simp only [Dt] at h3 ⊢; exact h3
    simp only [DtL, Dt] at r3
    obtain ⟨_, _, rfl, rfl, _, _, rfl, rfl, rfl⟩ := r3
    have s31 := s3.1
    walk_at "zS6"
    (refine n_al hS ?_; clear hS; intro l2 H l2_n l2_0 hS; simp only [List.cons_append, List.nil_append] at hS)
    refine n_cat (by walk_at "zen") (by walk_at "zen") (by simp) ?_
    (refine n_al hS ?_; clear hS; intro l3 H l3_n l3_0 hS; simp only [List.cons_append, List.nil_append] at hS)
    walk_at "zS6"
    (refine ⟨by simp only [List.length_cons, List.length_nil]; decide, n_al hS ?_⟩; clear hS; intro l4 H l4_n l4_0 hS; simp only [List.cons_append, List.nil_append] at hS)
    refine n_cat (by walk_at "zen") (by walk_at "zen") (by simp) ?_
    (refine n_al hS ?_; clear hS; intro l5 H l5_n l5_0 hS; simp only [List.cons_append, List.nil_append] at hS)
    walk_at "zS6"
    have s2 := hS.fr.st (fun z => nomatch z) s.1
    refine x_ixT s2 (atI_int p6 (at_map hko.1)) ?_
    walk_at "zS6"
    refine ⟨_, l5, plainF pic, rfl, by omega, by omega, .inl (hS.sl 4 rfl), by simp [plainF], hpo, ?_⟩
    walk_at "zS6"
    (refine ⟨by simp only [List.length_cons, List.length_nil]; decide, n_al hS ?_⟩; clear hS; intro l6 H l6_n l6_0 hS; simp only [List.cons_append, List.nil_append] at hS)
    refine n_cat (by walk_at "zen") (by walk_at "zen") (by simp) ?_
    (refine n_al hS ?_; clear hS; intro l7 H l7_n l7_0 hS; simp only [List.cons_append, List.nil_append] at hS)
    walk_at "zS6"
    refine d_newT (ds := (headF ks pic).map .int) hS (DtL.ints.mpr rfl) ?_
    clear hS; intro pp H hS
    exact k _ _ hS.fr (hS.d 4 rfl)
theorem ok__law_machine (T : Txt K mg base A) : FnOk P w K mg base CX0 4 A.a__law_machine A.d__law_machine ["_law_keys_here", "_law_tries", "_law_picture_here"] (sp__law_machine K) := by
  have G__law_noted := ok__law_noted (P := P) (w := w) (base := base) T
  have G__law_head := ok__law_head (P := P) (w := w) (base := base) T
  refine T.F__law_machine.ok sc__law_machine (fun vs H Q E h => ?_) (fun cdv A_ outer s H0 vs Q E hr h => ?_)
  · obtain ⟨_, h⟩ := h; obtain ⟨_, h⟩ := h; obtain ⟨_, h⟩ := h; obtain ⟨_, h⟩ := h; obtain ⟨_, h⟩ := h; obtain ⟨_, h⟩ := h; obtain ⟨rfl, _⟩ := h; rfl
  · obtain ⟨M, ks, pic, t, v, u, rfl, hdom, hv, hpi, gg, hp, k⟩ := h
    have hu := hu_of hr
    have hu2 := hu2_of hr
    have hr__law_noted : Room 3 _ := hr.mono (by decide)
    have hr__law_head : Room 2 _ := hr.mono (by decide)
    refine ⟨_, pss_cons (ps_set (i := 3) sc__law_machine.nd rfl (Or.inl rfl) (pe_op op_rep (pe_lst (pa_cons pe_int pa_nil)) pe_int))
      (pss_cons (ps_asg (pe_ix (b_ixT (K := K)) (pv 2) pe_int (fun _ _ => rfl)) (pg_sub (pv 3) pe_int set_list))
      (pss_cons (ps_asg (pe_ix (b_ixT (K := K)) (pv 2) pe_int (fun _ _ => rfl)) (pg_sub (pv 3) pe_int set_list))
      (pss_cons (ps_for PassesOwn.never rfl (b_iL (K := K) (pe_call G__law_noted hr__law_noted (by rfl) T.g__law_noted T.F__law_noted.kp T.b__law_noted .nil pass0 (pa_cons (pv 3) (pa_cons pe_int (pa_cons (pe_tup (pa_cons pe_int (pa_cons pe_int (pa_cons pe_int pa_nil)))) pa_nil))))) (pg_tup (by rfl) (pgs_cons (pg_name (i := 4) sc__law_machine.nd rfl (Or.inl rfl)) (pgs_cons (pg_name (i := 5) sc__law_machine.nd rfl (Or.inl rfl)) pgs_nil))) (pss_one (ps_asg (pv 5) (pg_sub (pv 3) (pv 4) set_list))))
      (pss_cons (ps_set (i := 6) sc__law_machine.nd rfl (Or.inl rfl) (pe_op op_cat (pe_op op_cat (pe_lst (pa_cons pe_int pa_nil)) (pe_callTy (b_list (K := K)) (by rfl) T.z_list (by decide +kernel) (pa_cons (pe_call G__law_head hr__law_head (by rfl) T.g__law_head T.F__law_head.kp T.b__law_head .nil pass0 (pa_cons (pv 0) (pa_cons (pv 2) pa_nil))) pa_nil))) (pe_callTy (b_list (K := K)) (by rfl) T.z_list (by decide +kernel) (pa_cons (pe_ix (b_ixT (K := K)) (pv 2) pe_int (fun _ _ => rfl)) pa_nil))))
      (pss_cons (ps_for PassesOwn.never rfl (pi_range1 (by rfl) T.z_range (pa_cons (pe_callB (b_len (K := K)) (by rfl) T.z_len (by decide +kernel) (pa_cons (pv 6) pa_nil)) pa_nil)) (pg_name (i := 7) sc__law_machine.nd rfl (Or.inl rfl)) (pss_cons (ps_asg (pe_ix (b_ixL (K := K)) (pv 6) (pv 7) (fun _ _ => rfl)) (pg_sub (pv 3) (pe_op op_add pe_int (pv 7)) set_list))
      (pss_one (ps_asg (pe_ix (b_ixL (K := K)) (pv 6) (pv 7) (fun _ _ => rfl)) (pg_sub (pv 3) (pe_op op_add pe_int (pv 7)) set_list)))))
      (pss_cons (ps_set (i := 8) sc__law_machine.nd rfl (Or.inl rfl) (pe_disp (pps_cons pe_str (pv 3) (pps_cons pe_str (pv 0) (pps_cons pe_str (pv 1) pps_nil))) (by rfl) (by rfl) (by simp) (by decide)))
      (pss_cons (ps_expr (pe_bm PySem.F.plainAttrs_dict PySem.F.slot_dict_update PySem.F.type_dict_update mt_dupd (pv 8) (pa_cons (pe_disp (pps_cons pe_str pe_non (pps_cons pe_str pe_non (pps_cons pe_str pe_str (pps_cons pe_str pe_int pps_nil)))) (by rfl) (by rfl) (by simp) (by decide)) pa_nil)))
      (pss_one (ps_ret (pv 8)))))))))), ?_⟩
    try dsimp only [cxOf, Cx.nox, Cx.wish]
    refine x_st (σ' := [some _, some _, some _, none, none, none, none, none, none]) rfl ?_
    obtain ⟨b, rfl⟩ := hv.refT
    have hpi2 := hpi
    simp only [Dt, DtL] at hpi2
    obtain ⟨b2, ys, rfl, sb, _, _, rfl, rfl, _, _, rfl, ⟨c2, cs2, rfl, sc, rc⟩, _, _, rfl, rfl, rfl⟩ := hpi2
    have hc : Dt K M H0 (.tuple (pic.cells.map .int)) (.ref c2) := Dt.tupI sc rc
    rw [DtL.ints.mp rc] at sc
    obtain ⟨p1, p2, p3, p4, p5, p6, p7⟩ := _root_.id hp
    have hS := (((Sy.atD (K := K) hdom).addD hv).addD hpi).addD hc
    (try simp only [List.cons_append, List.nil_append] at hS)
    walk_at "zS9"
    (refine ⟨by simp only [List.length_cons, List.length_nil]; decide, n_alM hS ?_⟩; clear hS; intro c0 H c0_n c0_0 hS; simp only [List.cons_append, List.nil_append] at hS)
    walk_at "zS9"
    refine n_rep (by walk_at "zen") (by omega) (by omega) (by simp) ?_
    (refine n_alM hS ?_; clear hS; intro c H c_n c_0 hS; simp only [List.cons_append, List.nil_append] at hS)
    have hS := hS.sub (L' := [(c, .lst (List.flatten (List.replicate (54 : Int).toNat [V.int 0])))]) (by walk_at "zsub")
    rw [show List.flatten (List.replicate (54 : Int).toNat [V.int 0]) = (List.replicate 54 (some (0 : Int))).map ov from rfl] at hS
    walk_at "zS9"
    refine d_ixTI (hS.d 1 rfl) (by rfl) ?_
    walk_at "zS9"
    refine x_setS hS 0 rfl ⟨by simp, .inr c_0⟩ (j := 0) (by rw [List.length_map, List.length_replicate]; rfl) ?_
    clear hS; intro H hS
    simp only [List.set_cons_zero, List.set_cons_succ] at hS
    walk_at "zS9"
    refine d_ixTI (hS.d 1 rfl) (by rfl) ?_
    walk_at "zS9"
    refine x_setS hS 0 rfl ⟨by simp, .inr c_0⟩ (j := 2) (by rw [List.length_set, List.length_map, List.length_replicate]; rfl) ?_
    clear hS; intro H hS
    simp only [List.set_cons_zero, List.set_cons_succ] at hS
    rw [show (((List.replicate 54 (some (0 : Int))).map ov).set 0 (.int pic.v)).set 2 (.int pic.n) = (machB pic).map ov by unfold machB; rw [List.map_set, List.map_set]; rfl] at hS
    walk_at "zS9"
    refine d_tup hS (by simp) (DtL.cons' Dt.int' (DtL.cons' Dt.int' (DtL.cons' Dt.int' DtL.nil'))) ?_
    clear hS; intro tn H hS
    (try simp only [List.cons_append, List.nil_append] at hS)
    have hnn : ∀ n, some n ∈ machB pic → 0 ≤ n := by
      intro n hn
      have := bnd_machB p1 p2 p6 (by have := gg.2.1; omega) n hn
      omega
    have hbl := machB_len pic
    walk_at "zS9"
    refine ⟨_, machB pic, c, 4, (0, 0, 0), .ref tn, rfl, hS.dom, hS.sl 0 rfl, ⟨by decide, by omega, by omega, hnn⟩, hS.d 3 rfl, fun uw H f hu2 => ?_⟩
    have hS := (hS.ex f).addD hu2
    (try simp only [List.cons_append, List.nil_append] at hS)
    obtain ⟨bw, rfl⟩ := hu2.refL
    have hin : ∀ p ∈ noteW (machB pic) 4 (0, 0, 0), p.1 < (machB pic).length := fun p hp => by
      have h1 := noteW_at _ _ _ p hp
      have h2 := pages_in (machB pic) 4
      omega
    have hmn : machN pic = applyW (noteW (machB pic) 4 (0, 0, 0)) (machB pic) := rfl
    rw [show (4 : Int).toNat = 4 from rfl] at hS
    generalize noteW (machB pic) 4 (0, 0, 0) = ws at hS hin hmn
    walk_at "zS9"
    obtain ⟨vs, sla, -⟩ := (hS.d 4 rfl).lst
    refine ⟨bw, rfl, ⟨vs, sla.1⟩, ?_⟩
    have hS1 := hS.from [c] (fun b hb => by rw [List.mem_singleton.mp hb]; exact ⟨_, hS.get 0 rfl⟩)
    refine for_dataL (hS.d 4 rfl) (fun j σ' H' => ∃ v4 v5 : Option V, Sy K ⟨H, [c]⟩ (c :: c0 :: M) H' [(c, .lst ((applyW (ws.take j) (machB pic)).map ov))] [(keysD ks, .ref b), (picD pic, .ref b2), (.tuple (pic.cells.map .int), .ref c2), (recD (0, 0, 0), .ref tn), (logD ws, .ref bw)] ∧
        σ' = [some (.ref b), some (.int t), some (.ref b2), some (.ref c), v4, v5, none, none, none]) ⟨_, _, hS1, rfl⟩ (fun j σ' H' ⟨_, _, z, _⟩ => z.fr.wk (by simp)) ?_ ?_
    · clear hS hS1
      rintro j d x σ' H' hd hdx ⟨v4, v5, hS, rfl⟩
      obtain ⟨p, hp, rfl⟩ : ∃ p, ws[j]? = some p ∧ d = wrD p := by
        rw [List.getElem?_map] at hd
        cases e : ws[j]? with
        | none => rw [e] at hd; cases hd
        | some p => rw [e] at hd; exact ⟨p, rfl, (Option.some.inj hd).symm⟩
      obtain ⟨b, rfl⟩ := hdx.refT
      have hpi := hin p (List.mem_of_getElem? hp)
      refine d_gtup hdx rfl fun xs hx => ?_
      simp only [DtL, Dt] at hx
      obtain ⟨_, _, rfl, rfl, _, _, rfl, rfl, rfl⟩ := hx
      walk_at "zS9"
      refine x_setS hS 0 rfl ⟨by simp, .inl (by simp)⟩ (ixN_int (by omega) (by rw [List.length_map, applyW_len]; omega)) ?_
      clear hS; intro H hS
      simp only [List.set_cons_zero, List.set_cons_succ, Int.toNat_natCast] at hS
      have e : ((applyW (ws.take j) (machB pic)).map ov).set p.1 (.int p.2) = (applyW (ws.take (j + 1)) (machB pic)).map ov := by
        rw [take_more hp, applyW_app]
        show _ = ((applyW (ws.take j) (machB pic)).set p.1 (some p.2)).map ov
        rw [List.map_set]; rfl
      rw [e] at hS
      walk_at "zS9"
      exact ⟨_, _, hS, rfl⟩
    rintro σ' H' ⟨v4, v5, hS2, rfl⟩
    have hS := hS.into hS2 (fun b hb => by rw [List.mem_singleton.mp hb]; exact .inr c_0)
    clear hS1 hS2
    have hl7 : (ws.map wrD).length = ws.length := List.length_map _
    rw [hl7, List.take_length, ← hmn] at hS
    walk_at "zS9"
    (refine ⟨by simp only [List.length_cons, List.length_nil]; decide, n_al hS ?_⟩; clear hS; intro e1 H e1_n e1_0 hS; simp only [List.cons_append, List.nil_append] at hS)
    walk_at "zS9"
    refine use_D (ks, pic) hS (DtL.cons' (hS.d 0 rfl) (DtL.cons' (hS.d 1 rfl) DtL.nil')) ⟨gg, hp⟩ ?_
    clear hS; intro vh H hS
    (try simp only [List.cons_append, List.nil_append] at hS)
    obtain ⟨bh, rfl⟩ := (hS.d 5 rfl).refT
    obtain ⟨zs, s3, r3⟩ := (hS.d 5 rfl).tup
    rw [DtL.ints.mp r3] at s3
    have s31 := s3.1
    walk_at "zS9"
    (refine n_al hS ?_; clear hS; intro e2 H e2_n e2_0 hS; simp only [List.cons_append, List.nil_append] at hS)
    refine n_cat (by walk_at "zen") (by walk_at "zen") (by simp [headF, plainF]) ?_
    (refine n_al hS ?_; clear hS; intro e3 H e3_n e3_0 hS; simp only [List.cons_append, List.nil_append] at hS)
    have sb2 := hS.fr.st (fun z => nomatch z) sb.1
    walk_at "zS9"
    have sc2 := hS.fr.st (fun z => nomatch z) sc.1
    refine n_list (.inr sc2) ?_
    (refine n_al hS ?_; clear hS; intro e4 H e4_n e4_0 hS; simp only [List.cons_append, List.nil_append] at hS)
    refine n_cat (by walk_at "zen") (by walk_at "zen") (by simp [headF, plainF]; omega) ?_
    (refine n_al hS ?_; clear hS; intro e5 H e5_n e5_0 hS; simp only [List.cons_append, List.nil_append] at hS)
    have hS := (hS.sub (L' := [(c, .lst ((machN pic).map ov)), (e5, .lst ((slotRow ks pic).map V.int))]) (by simp [slotRow])).subD (Ds' := [(keysD ks, .ref b)]) (by simp)
    have hrl : (slotRow ks pic).length = 7 + pic.cells.length := by simp [slotRow, headF, plainF]; omega
    have hml := machN_len pic
    have hmc : machC ks pic = layB (slotRow ks pic) (slotRow ks pic).length (machN pic) := rfl
    generalize slotRow ks pic = row at hS hrl hmc
    walk_at "zS9"
    rw [List.length_map]
    (refine ⟨_, rfl, by omega, by omega, ?_⟩)
    refine for_range (lo := 0) (n := ((row.length : Int)).toNat) (fun j σ' H' => ∃ v7 : Option V, Sy K (b0 H0) (c :: c0 :: M) H' [(c, .lst ((layB row j (machN pic)).map ov)), (e5, .lst (row.map V.int))] [(keysD ks, .ref b)] ∧
        σ' = [some (.ref b), some (.int t), some (.ref b2), some (.ref c), v4, v5, some (.ref e5), v7, none]) ?_ ?_ ?_
    · exact ⟨none, hS, rfl⟩
    · clear hS
      rintro j σ' H' hj ⟨v7, hS, rfl⟩
      have hj : j < row.length := by omega
      have hat : (row.map V.int)[j]? = some (.int (row.getD j 0)) := by
        rw [List.getElem?_map, List.getElem?_eq_getElem hj, List.getD_eq_getElem?_getD, List.getElem?_eq_getElem hj]; rfl
      walk_at "zS9"
      refine x_ixL (hS.sl 1 rfl) (atI0 hat) ?_
      walk_at "zS9"
      refine x_setS hS 0 rfl ⟨by simp, .inr c_0⟩ (ixN_int (by omega) (by rw [List.length_map, layB_len]; omega)) ?_
      clear hS; intro H hS
      simp only [List.set_cons_zero, List.set_cons_succ] at hS
      walk_at "zS9"
      refine x_ixL (hS.sl 1 rfl) (atI0 hat) ?_
      walk_at "zS9"
      refine x_setS hS 0 rfl ⟨by simp, .inr c_0⟩ (ixN_int (by omega) (by rw [List.length_set, List.length_map, layB_len]; omega)) ?_
      clear hS; intro H hS
      simp only [List.set_cons_zero, List.set_cons_succ] at hS
      walk_at "zS9"
      refine ⟨_, ?_, rfl⟩
      rw [layB_more, List.map_set, List.map_set]
      rw [show ((16 : Int) + (0 + (j : Int))).toNat = 16 + j by omega, show ((35 : Int) + (0 + (j : Int))).toNat = 35 + j by omega] at hS
      exact hS
    · clear hS
      rintro σ' H' ⟨v7, hS, rfl⟩
      rw [Int.toNat_natCast, ← hmc] at hS
      walk_at "zS9"
      refine x_dispN fun m0 hm0 => ?_
      have m00 := hS.free hm0
      have hS := hS.newM (o := .dK []) hm0
      (try simp only [List.cons_append, List.nil_append] at hS)
      walk_at "zS9"
      refine n_dispN [("cells", .ref c), ("keys", .ref b), ("tries", .int t)] ["cells", "keys", "tries"] (hS.get 2 rfl) (by simp) rfl (by decide +kernel) ?_
      have hS := hS.set (o' := .dK (kvT [("cells", .ref c), ("keys", .ref b), ("tries", .int t)])) 2 rfl ⟨by simp, .inr m00⟩
      simp only [List.set_cons_zero, List.set_cons_succ] at hS
      walk_at "zS9"
      refine ⟨ty_dict (hS.get 2 rfl), ?_⟩
      walk_at "zS9"
      refine x_dispN fun n0 hn0 => ?_
      have n00 := hS.free hn0
      have hS := hS.newM (o := .dK []) hn0
      (try simp only [List.cons_append, List.nil_append] at hS)
      walk_at "zS9"
      refine n_dispN [("runs", .non), ("left", .non), ("torn", .str "old"), ("many", .int 0)] ["runs", "left", "torn", "many"] (hS.get 3 rfl) (by simp) rfl (by decide +kernel) ?_
      have hS := hS.set (o' := .dK (kvT [("runs", .non), ("left", .non), ("torn", .str "old"), ("many", .int 0)])) 3 rfl ⟨by simp, .inr n00⟩
      simp only [List.set_cons_zero, List.set_cons_succ] at hS
      walk_at "zS9"
      refine n_dupT ["cells", "keys", "tries", "runs", "left", "torn", "many"] (hS.get 2 rfl) (hS.get 3 rfl) (hS.ne 2 3 rfl rfl (by decide)) rfl (by decide +kernel) (by simp) ?_
      have hS := hS.set (o' := .dK (kvT (machKV c (.ref b) t))) 2 rfl ⟨by simp, .inr m00⟩
      simp only [List.set_cons_zero, List.set_cons_succ] at hS
      walk_at "zS9"
      exact k m0 c _ hS.fr m00 c_0 (hS.ne 2 0 rfl rfl (by decide)) (hS.get 2 rfl) (hS.get 0 rfl)
theorem ok__law_newer (T : Txt K mg base A) : FnOk P w K mg base CX0 3 A.a__law_newer A.d__law_newer ["_law_row", "_law_keys_here", "_law_picture_here", "_law_more"] (sp__law_newer K) := by
  have G__law_taken := ok__law_taken (P := P) (w := w) (base := base) T
  have G__law_worth := ok__law_worth (P := P) (w := w) (base := base) T
  refine T.F__law_newer.ok sc__law_newer (fun vs H Q E h => ?_) (fun cdv A_ outer s H0 vs Q E hr h => ?_)
  · exact spDrawD_len h (fun _ => rfl)
  · obtain ⟨M, ⟨ks, pic, more⟩, r, a, q, ns, ws, rfl, h0, hq, hs, hl, hM, hdom, hd, ⟨gg, hp, e0, e1⟩, k⟩ := h
    dsimp only at hd gg hp e0 e1 k
    have hS := Sy.ofDD h0 hs hM hdom hd
    simp only [DtL] at hd
    obtain ⟨u, _, rfl, hu0, u2, _, rfl, hu2, _, _, rfl, hmo, rfl⟩ := hd
    simp only [Dt] at hmo; subst hmo
    obtain ⟨b, rfl⟩ := hu0.refT
    simp only [Dt, DtL] at hu2
    obtain ⟨b2, ys, rfl, sb, _, _, rfl, rfl, _, _, rfl, ⟨c2, cs2, rfl, sc, rc⟩, _, _, rfl, rfl, rfl⟩ := hu2
    rw [DtL.ints.mp rc] at sc
    have hsb := sb.1
    have hsc := sc.1
    obtain ⟨p1, p2, p3, p4, p5, p6, p7⟩ := _root_.id hp
    have hu := hu_of hr
    have hu2 := hu2_of hr
    have hr__law_taken : Room 1 _ := hr.mono (by decide)
    have hr__law_worth : Room 2 _ := hr.mono (by decide)
    refine ⟨_, pss_cons (ps_asg (pv 2) (pg_tup (by rfl) (pgs_cons (pg_name (i := 4) sc__law_newer.nd rfl (Or.inl rfl)) (pgs_cons (pg_name (i := 5) sc__law_newer.nd rfl (Or.inl rfl)) (pgs_cons (pg_name (i := 6) sc__law_newer.nd rfl (Or.inl rfl)) pgs_nil)))))
      (pss_cons (ps_set (i := 7) sc__law_newer.nd rfl (Or.inl rfl) (pe_callTy (b_list (K := K)) (by rfl) T.z_list (by decide +kernel) (pa_cons (pv 5) pa_nil)))
      (pss_cons (ps_for PassesOwn.never rfl (pi_range1 (by rfl) T.z_range (pa_cons (pe_call G__law_taken hr__law_taken (by rfl) T.g__law_taken T.F__law_taken.kp T.b__law_taken .nil pass0 (pa_cons (pv 0) (pa_cons pe_int pa_nil))) pa_nil)) (pg_name (i := 8) sc__law_newer.nd rfl (Or.inl rfl)) (pss_one (ps_asg (pe_call G__law_worth hr__law_worth (by rfl) T.g__law_worth T.F__law_worth.kp T.b__law_worth .nil pass0 (pa_cons (pv 0) pa_nil)) (pg_sub (pv 7) (pe_call G__law_taken hr__law_taken (by rfl) T.g__law_taken T.F__law_taken.kp T.b__law_taken .nil pass0 (pa_cons (pv 0) (pa_cons (pe_callB (b_len (K := K)) (by rfl) T.z_len (by decide +kernel) (pa_cons (pv 7) pa_nil)) pa_nil))) set_list))))
      (pss_cons (ps_set (i := 9) sc__law_newer.nd rfl (Or.inl rfl) (pe_call G__law_taken hr__law_taken (by rfl) T.g__law_taken T.F__law_taken.kp T.b__law_taken .nil pass0 (pa_cons (pv 0) (pa_cons pe_int pa_nil))))
      (Evl.pss_cut (ps_if (pt_cmpR op_eq (pv 9) pe_int (nomark _)) (pss_one (ps_set (i := 7) sc__law_newer.nd rfl (Or.inl rfl) (pe_slice (b_slL (K := K)) (pe_op op_cat (pv 7) (pe_lc (own := [("_law_k", 11)]) (g := gName 11) (by rfl) sc__law_newer.nd (pi_range1 (by rfl) T.z_range (pa_cons (pe_call G__law_taken hr__law_taken (by rfl) T.g__law_taken T.F__law_taken.kp T.b__law_taken .nil pass0 (pa_cons (pv 0) (pa_cons pe_int pa_nil))) pa_nil)) (blkOk_by (N := ["_law_row", "_law_keys_here", "_law_picture_here", "_law_more", "_law_version", "_law_cells", "_law_number", "_law_some", "_law_turn", "_law_way", "_law_late", "_law_k"]) (sc := defScope s__law_newer) (by decide +kernel)) (fun _ _ _ _ _ => pg_name (i := 11) sc__law_newer.nd rfl (by first | exact Or.inl rfl | exact Or.inr rfl)) (fun _ _ _ _ _ => pts_nil) (fun _ _ _ _ _ => (pe_call G__law_worth hr__law_worth (by rfl) T.g__law_worth T.F__law_worth.kp T.b__law_worth .nil pass0 (pa_cons (pv 0) pa_nil))))) po_none (po_some pe_int)))) pss_nil)
      (Evl.pss_cut (ps_if (pt_cmpR op_eq (pv 9) pe_int (nomark _)) (pss_one (ps_set (i := 7) sc__law_newer.nd rfl (Or.inl rfl) (pe_slice (b_slL (K := K)) (pv 7) po_none (po_some (pe_op op_add pe_int (pe_call G__law_taken hr__law_taken (by rfl) T.g__law_taken T.F__law_taken.kp T.b__law_taken .nil pass0 (pa_cons (pv 0) (pa_cons (pe_callB (b_len (K := K)) (by rfl) T.z_len (by decide +kernel) (pa_cons (pv 7) pa_nil)) pa_nil)))))))) pss_nil)
      (Evl.pss_cut (ps_if (pt_cmpR op_eq (pv 9) pe_int (nomark _)) (pss_one (ps_set (i := 7) sc__law_newer.nd rfl (Or.inl rfl) (pe_slice (b_slL (K := K)) (pe_op op_cat (pe_slice (b_slL (K := K)) (pv 7) (po_some pe_int) po_none) (pe_slice (b_slL (K := K)) (pv 7) po_none (po_some pe_int))) po_none (po_some pe_int)))) pss_nil)
      (pss_cons (ps_set (i := 10) sc__law_newer.nd rfl (Or.inl rfl) (pe_callB (c_min2 rfl) (by rfl) T.z_min (by decide +kernel) (pa_cons (pe_op op_sub (pe_callB (b_len (K := K)) (by rfl) T.z_len (by decide +kernel) (pa_cons (pv 1) pa_nil)) pe_int) (pa_cons (pe_op op_add (pv 6) (pe_call G__law_taken hr__law_taken (by rfl) T.g__law_taken T.F__law_taken.kp T.b__law_taken .nil pass0 (pa_cons (pv 0) (pa_cons pe_int pa_nil)))) pa_nil))))
      (pss_one (ps_ret (pe_tup (pa_cons (pe_callB (c_max2 rfl) (by rfl) T.z_max (by decide +kernel) (pa_cons pe_int (pa_cons (pe_callB (c_min2 rfl) (by rfl) T.z_min (by decide +kernel) (pa_cons pe_int (pa_cons (pe_op op_add (pv 4) (pv 3)) pa_nil))) pa_nil))) (pa_cons (pe_callTy (b_tuple (K := K)) (by rfl) T.z_tuple (by decide +kernel) (pa_cons (pv 7) pa_nil)) (pa_cons (pv 10) pa_nil))))))))))))), ?_⟩
    try dsimp only [cxOf, Cx.nox, Cx.wish]
    refine x_st (σ' := [some _, some _, some _, some _, none, none, none, none, none, none, none, none]) rfl ?_
    walk_at "zS12"
    (refine n_alM hS ?_; clear hS; intro p H p_n p_0 hS; simp only [List.cons_append, List.nil_append] at hS)
    have hS : Sy K ⟨H0, [r]⟩ (p :: M) H [(r, rowO a q), (p, .lst (pic.cells.map V.int))] [(script ns, .ref a), (keysD ks, .ref b)] := hS.subD (by simp)
    walk_at "zS12"
    (refine use_taken hS ⟨by first | assumption | (simp; done) | exact List.mem_cons_of_mem _ (by assumption) | exact List.mem_cons_of_mem _ (List.mem_cons_of_mem _ (by assumption)), by first | exact .inr (by assumption) | exact .inl (by simp)⟩ hq hl (by omega) (by omega) ?_; clear hS hq; intro n1 q H n1_0 n1_1 hq hS)
    walk_at "zS12"
    (refine ⟨_, rfl, by omega, by omega, ?_⟩)
    refine for_range (lo := 0) (n := n1.toNat) (fun j σ' H' => ∃ (q : Rho) (xs : List Int) (v8 : Option V), q.ok ∧ xs.length = pic.cells.length ∧ (∀ c ∈ xs, 0 ≤ c ∧ c ≤ 9972) ∧ Sy K ⟨H0, [r]⟩ (p :: M) H' [(r, rowO a q), (p, .lst (xs.map V.int))] [(script ns, .ref a), (keysD ks, .ref b)] ∧
        σ' = [some (.ref r), some (.ref b), some (.ref b2), some (.int more), some (.int pic.v), some (.ref c2), some (.int pic.n), some (.ref p), v8, none, none, none]) ?_ ?_ ?_
    · exact ⟨q, _, none, hq, rfl, p5, hS, rfl⟩
    · clear hS hq
      rintro j σ' H' hj ⟨q, xs, v8, hq, hxl, hxb, hS, rfl⟩
      walk_at "zS12"
      (refine use_draw hS ⟨by first | assumption | (simp; done) | exact List.mem_cons_of_mem _ (by assumption) | exact List.mem_cons_of_mem _ (List.mem_cons_of_mem _ (by assumption)), by first | exact .inr (by assumption) | exact .inl (by simp)⟩ hq hl ?_; clear hS hq; intro w q H w_c hq hS)
      walk_at "zS12"
      rw [List.length_map]
      walk_at "zS12"
      (refine use_taken hS ⟨by first | assumption | (simp; done) | exact List.mem_cons_of_mem _ (by assumption) | exact List.mem_cons_of_mem _ (List.mem_cons_of_mem _ (by assumption)), by first | exact .inr (by assumption) | exact .inl (by simp)⟩ hq hl (by omega) (by omega) ?_; clear hS hq; intro ix q H ix_0 ix_1 hq hS)
      walk_at "zS12"
      refine x_setS hS 1 rfl ⟨by simp, .inr p_0⟩ (ixN_int (by omega) (by rw [List.length_map]; omega)) ?_
      clear hS; intro H hS
      simp only [List.set_cons_zero, List.set_cons_succ] at hS
      walk_at "zS12"
      refine ⟨q, xs.set ix.toNat w, _, hq, by rw [List.length_set]; exact hxl, fun c hc => ?_, by rw [List.map_set]; exact hS, rfl⟩
      rcases List.mem_or_eq_of_mem_set hc with z | z
      · exact hxb c z
      · omega
    clear hS hq
    rintro σ' H ⟨q, xs, v8, hq, hxl, hxb, hS, rfl⟩
    walk_at "zS12"
    (refine use_taken hS ⟨by first | assumption | (simp; done) | exact List.mem_cons_of_mem _ (by assumption) | exact List.mem_cons_of_mem _ (List.mem_cons_of_mem _ (by assumption)), by first | exact .inr (by assumption) | exact .inl (by simp)⟩ hq hl (by omega) (by omega) ?_; clear hS hq; intro wy q H wy_0 wy_1 hq hS)
    walk_at "zS12"
    have x1 : 1 ≤ xs.length := by omega
    have x2 : xs.length ≤ 12 := by omega
    clear hxl
    refine ⟨fun σ' H' => ∃ (q : Rho) (xs : List Int) (p' : Addr) (v11 : Option V), q.ok ∧ 1 ≤ xs.length ∧ xs.length ≤ 12 ∧ (∀ c ∈ xs, 0 ≤ c ∧ c ≤ 9972) ∧ Sy K ⟨H0, [r]⟩ (p :: M) H' [(r, rowO a q), (p', .lst (xs.map V.int))] [(script ns, .ref a), (keysD ks, .ref b)] ∧
        σ' = [some (.ref r), some (.ref b), some (.ref b2), some (.int more), some (.int pic.v), some (.ref c2), some (.int pic.n), some (.ref p'), v8, some (.int wy), none, v11], ?_, ?_⟩
    · walk_at "zS12"
      refine x_ite (fun hw => ?_) (fun hw => ?_)
      · walk_at "zS12"
        (refine use_taken hS ⟨by first | assumption | (simp; done) | exact List.mem_cons_of_mem _ (by assumption) | exact List.mem_cons_of_mem _ (List.mem_cons_of_mem _ (by assumption)), by first | exact .inr (by assumption) | exact .inl (by simp)⟩ hq hl (by omega) (by omega) ?_; clear hS hq; intro n2 q H n2_0 n2_1 hq hS)
        walk_at "zS12"
        (refine ⟨_, rfl, by omega, by omega, ?_⟩)
        refine lc_draw (n := n2.toNat) (C := fun x => 0 ≤ x ∧ x < 9973) hS ⟨by first | assumption | (simp; done) | exact List.mem_cons_of_mem _ (by assumption) | exact List.mem_cons_of_mem _ (List.mem_cons_of_mem _ (by assumption)), by first | exact .inr (by assumption) | exact .inl (by simp)⟩ hq (by omega) ?_ ?_
        · intro v M' H q L' Q' hM hq hS kk
          walk_at "zS12"
          exact use_draw hS hM hq hl kk
        clear hS hq; intro p2 ys q H p2_n hy hC hq hS
        (try simp only [List.cons_append, List.nil_append] at hS)
        walk_at "zS12"
        refine n_cat (by walk_at "zen") (by walk_at "zen") (by simp; omega) ?_
        (refine n_al hS ?_; clear hS; intro p3 H p3_n p3_0 hS; simp only [List.cons_append, List.nil_append] at hS)
        rw [← List.map_append] at hS
        walk_at "zS12"
        (refine n_al hS ?_; clear hS; intro p4 H p4_n p4_0 hS; simp only [List.cons_append, List.nil_append] at hS)
        rw [cut_to V.int (xs ++ ys) (by decide)] at hS
        walk_at "zS12"
        refine ⟨q, (xs ++ ys).take 12, p4, _, hq, by rw [List.length_take, List.length_append]; omega, by rw [List.length_take]; omega, fun c hc => ?_, hS.sub (by walk_at "zsub"), rfl⟩
        rcases List.mem_append.mp (List.mem_of_mem_take hc) with z | z
        · exact hxb c z
        · have := hC c z; omega
      · walk_at "zS12"
        exact ⟨q, xs, p, _, hq, x1, x2, hxb, hS, rfl⟩
    clear hS hq hxb x1 x2
    rintro σ' H ⟨q, xs, p', v11, hq, x1, x2, hxb, hS, rfl⟩
    refine ⟨fun σ' H' => ∃ (q : Rho) (xs : List Int) (p' : Addr) (v11 : Option V), q.ok ∧ 1 ≤ xs.length ∧ xs.length ≤ 12 ∧ (∀ c ∈ xs, 0 ≤ c ∧ c ≤ 9972) ∧ Sy K ⟨H0, [r]⟩ (p :: M) H' [(r, rowO a q), (p', .lst (xs.map V.int))] [(script ns, .ref a), (keysD ks, .ref b)] ∧
        σ' = [some (.ref r), some (.ref b), some (.ref b2), some (.int more), some (.int pic.v), some (.ref c2), some (.int pic.n), some (.ref p'), v8, some (.int wy), none, v11], ?_, ?_⟩
    · walk_at "zS12"
      refine x_ite (fun hw => ?_) (fun hw => ?_)
      · walk_at "zS12"
        rw [List.length_map]
        walk_at "zS12"
        (refine use_taken hS ⟨by first | assumption | (simp; done) | exact List.mem_cons_of_mem _ (by assumption) | exact List.mem_cons_of_mem _ (List.mem_cons_of_mem _ (by assumption)), by first | exact .inr (by assumption) | exact .inl (by simp)⟩ hq hl (by omega) (by omega) ?_; clear hS hq; intro n2 q H n2_0 n2_1 hq hS)
        walk_at "zS12"
        (refine n_al hS ?_; clear hS; intro p4 H p4_n p4_0 hS; simp only [List.cons_append, List.nil_append] at hS)
        rw [cut_to V.int xs (by omega)] at hS
        walk_at "zS12"
        refine ⟨q, xs.take (1 + n2).toNat, p4, _, hq, by rw [List.length_take]; omega, by rw [List.length_take]; omega, fun c hc => hxb c (List.mem_of_mem_take hc), hS.sub (by walk_at "zsub"), rfl⟩
      · walk_at "zS12"
        exact ⟨q, xs, p', _, hq, x1, x2, hxb, hS, rfl⟩
    clear hS hq hxb x1 x2
    rintro σ' H ⟨q, xs, p', v11, hq, x1, x2, hxb, hS, rfl⟩
    refine ⟨fun σ' H' => ∃ (q : Rho) (xs : List Int) (p' : Addr) (v11 : Option V), q.ok ∧ 1 ≤ xs.length ∧ xs.length ≤ 12 ∧ (∀ c ∈ xs, 0 ≤ c ∧ c ≤ 9972) ∧ Sy K ⟨H0, [r]⟩ (p :: M) H' [(r, rowO a q), (p', .lst (xs.map V.int))] [(script ns, .ref a), (keysD ks, .ref b)] ∧
        σ' = [some (.ref r), some (.ref b), some (.ref b2), some (.int more), some (.int pic.v), some (.ref c2), some (.int pic.n), some (.ref p'), v8, some (.int wy), none, v11], ?_, ?_⟩
    · walk_at "zS12"
      refine x_ite (fun hw => ?_) (fun hw => ?_)
      · walk_at "zS12"
        (refine n_al hS ?_; clear hS; intro p2 H p2_n p2_0 hS; simp only [List.cons_append, List.nil_append] at hS)
        rw [cut_from V.int xs (by omega)] at hS
        walk_at "zS12"
        (refine n_al hS ?_; clear hS; intro p3 H p3_n p3_0 hS; simp only [List.cons_append, List.nil_append] at hS)
        rw [cut_to V.int xs (by omega)] at hS
        refine n_cat (by walk_at "zen") (by walk_at "zen") (by simp; omega) ?_
        (refine n_al hS ?_; clear hS; intro p5 H p5_n p5_0 hS; simp only [List.cons_append, List.nil_append] at hS)
        rw [← List.map_append] at hS
        walk_at "zS12"
        (refine n_al hS ?_; clear hS; intro p4 H p4_n p4_0 hS; simp only [List.cons_append, List.nil_append] at hS)
        rw [cut_to V.int (xs.drop (3 : Int).toNat ++ xs.take (3 : Int).toNat) (b := 12) (by decide)] at hS
        walk_at "zS12"
        refine ⟨q, (xs.drop (3 : Int).toNat ++ xs.take (3 : Int).toNat).take (12 : Int).toNat, p4, _, hq, by rw [List.length_take, List.length_append, List.length_drop, List.length_take]; omega, by rw [List.length_take]; omega, fun c hc => ?_, hS.sub (by walk_at "zsub"), rfl⟩
        rcases List.mem_append.mp (List.mem_of_mem_take hc) with z | z
        · exact hxb c (List.mem_of_mem_drop z)
        · exact hxb c (List.mem_of_mem_take z)
      · walk_at "zS12"
        exact ⟨q, xs, p', _, hq, x1, x2, hxb, hS, rfl⟩
    clear hS hq hxb x1 x2
    rintro σ' H ⟨q, xs, p', v11, hq, x1, x2, hxb, hS, rfl⟩
    walk_at "zS12"
    refine d_lenT (hS.d 1 rfl) ?_
    rw [List.length_map]
    walk_at "zS12"
    (refine use_taken hS ⟨by first | assumption | (simp; done) | exact List.mem_cons_of_mem _ (by assumption) | exact List.mem_cons_of_mem _ (List.mem_cons_of_mem _ (by assumption)), by first | exact .inr (by assumption) | exact .inl (by simp)⟩ hq hl (by omega) (by omega) ?_; clear hS hq; intro n3 q H n3_0 n3_1 hq hS)
    walk_at "zS12"
    have hl1 : (0 ≤ (if pic.n + n3 < ((ks.length : Int)) - 1 then pic.n + n3 else ((ks.length : Int)) - 1) ∧ (if pic.n + n3 < ((ks.length : Int)) - 1 then pic.n + n3 else ((ks.length : Int)) - 1) < ks.length) ∧ pic.n ≤ (if pic.n + n3 < ((ks.length : Int)) - 1 then pic.n + n3 else ((ks.length : Int)) - 1) := by have := gg.1; split <;> omega
    have hv1 : (1 ≤ (if (if pic.v + more < 999 then pic.v + more else 999) > 1 then if pic.v + more < 999 then pic.v + more else 999 else 1) ∧ (if (if pic.v + more < 999 then pic.v + more else 999) > 1 then if pic.v + more < 999 then pic.v + more else 999 else 1) ≤ 999) ∧ (1 ≤ pic.v + more → pic.v + more ≤ 999 → (if (if pic.v + more < 999 then pic.v + more else 999) > 1 then if pic.v + more < 999 then pic.v + more else 999 else 1) = pic.v + more) := by split <;> split <;> omega
    generalize (if pic.n + n3 < ((ks.length : Int)) - 1 then pic.n + n3 else ((ks.length : Int)) - 1) = late at hl1 ⊢
    generalize (if (if pic.v + more < 999 then pic.v + more else 999) > 1 then if pic.v + more < 999 then pic.v + more else 999 else 1) = ver at hv1 ⊢
    obtain ⟨hl1, hl2⟩ := hl1
    obtain ⟨hv1, hv2⟩ := hv1
    refine d_newT (ds := xs.map .int) hS (DtL.ints.mpr rfl) ?_
    clear hS; intro pp H hS
    (try simp only [List.cons_append, List.nil_append] at hS)
    walk_at "zD12"
    (have hS : Sy K _ _ _ _ _ := (by assumption))
    exact k _ _ q _ ⟨⟨ver, xs, late⟩, rfl, ⟨hv1.1, hv1.2, x1, x2, hxb, hl1.1, hl1.2⟩, hl2, hv2⟩ hq hS.fr (hS.get 0 rfl) (Dt.wk (by walk_at "zdt") (fun b hb => List.mem_cons_of_mem _ hb))
theorem ok__law_pieces (T : Txt K mg base A) : FnOk P w K mg base CX0 1 A.a__law_pieces A.d__law_pieces ["_law_some"] (sp__law_pieces K) := by
  refine T.F__law_pieces.ok sc__law_pieces (fun vs H Q E h => ?_) (fun cdv A_ outer s H0 vs Q E hr h => ?_)
  · obtain ⟨_, h⟩ := h; obtain ⟨_, h⟩ := h; obtain ⟨_, h⟩ := h; obtain ⟨rfl, _⟩ := h; rfl
  · obtain ⟨M, ns, v, rfl, hdom, hv, hz, k⟩ := h
    obtain ⟨p, xs, rfl, hx, hxs⟩ := hv.ex
    have hS : Sy K (b0 H0) M H0 [] [] := Sy.start _ _ _ (fun _ z => nomatch z) (by simp) (fun _ z => nomatch z) hdom
    have hu := hu_of hr
    have hu2 := hu2_of hr
    refine ⟨_, pss_one (ps_ret (pe_lc (own := [("_law_k", 1)]) (g := gName 1) (by rfl) sc__law_pieces.nd (pi_range3 (by rfl) T.z_range (pa_cons pe_int (pa_cons (pe_callB (b_len (K := K)) (by rfl) T.z_len (by decide +kernel) (pa_cons (pv 0) pa_nil)) (pa_cons pe_int pa_nil)))) (blkOk_by (N := ["_law_some", "_law_k"]) (sc := defScope s__law_pieces) (by decide +kernel)) (fun _ _ _ _ _ => pg_name (i := 1) sc__law_pieces.nd rfl (by first | exact Or.inl rfl | exact Or.inr rfl)) (fun _ _ _ _ _ => pts_nil) (fun _ _ _ _ _ => (pe_callTy (b_tuple (K := K)) (by rfl) T.z_tuple (by decide +kernel) (pa_cons (pe_slice (b_slE (K := K)) (pv 0) (po_some (pv 1)) (po_some (pe_op op_add (pv 1) pe_int))) pa_nil))))), ?_⟩
    try dsimp only [cxOf, Cx.nox, Cx.wish]
    refine x_st (σ' := [some _, none]) rfl ?_
    walk_at "zD2"
    have hxl : xs.length = ns.length := by rw [hxs.len, List.length_map]
    rw [hxl]
    refine ⟨0, _, 3, pieceN ns.length, rfl, range3_n (by omega), ?_⟩
    refine lcW_data walk_rangeC' hS (fun _ _ _ _ => trivial) (by unfold pieceN; omega) (fun i => .tuple (((ns.drop (3 * i)).take 3).map .int)) ?_ ?_
    · intro i x D acc Ds' H Q' hi hx hD hS kk
      subst hx
      have hv2 := (hv.cons hD).mono (Fr.wk0 hS.fr)
      walk_at "zS2"
      refine d_slE hS hv2 ?_
      clear hS; intro u H he hS
      obtain ⟨p2, ys, rfl, _, _⟩ := he.ex
      walk_at "zS2"
      refine d_tupleE hS he ?_
      clear hS; intro p3 H ht hS
      rw [cutG_piece, ← List.map_drop, ← List.map_take] at ht
      exact kk _ _ hS ht
    clear hS; intro D H hS
    have e := hS.d 0 rfl
    refine k _ _ hS.fr ?_
    unfold piecesF
    simp only [List.map_map]
    exact e
theorem ok__law_title (T : Txt K mg base A) : FnOk P w K mg base CX0 2 A.a__law_title A.d__law_title ["_law_piece"] (sp__law_title K) := by
  have G__law_sums := ok__law_sums (P := P) (w := w) (base := base) T
  refine T.F__law_title.ok sc__law_title (fun vs H Q E h => ?_) (fun cdv A_ outer s H0 vs Q E hr h => ?_)
  · obtain ⟨_, h⟩ := h; obtain ⟨_, h⟩ := h; obtain ⟨rfl, _⟩ := h; rfl
  · obtain ⟨p, xs, rfl, hx, hz, kn, ks⟩ := h
    have hu := hu_of hr
    have hu2 := hu2_of hr
    have hr__law_sums : Room 1 _ := hr.mono (by decide)
    refine ⟨_, pss_cons (ps_set (i := 1) sc__law_title.nd rfl (Or.inl rfl) (pe_call G__law_sums hr__law_sums (by rfl) T.g__law_sums T.F__law_sums.kp T.b__law_sums .nil pass0 (pa_cons (pv 0) pa_nil)))
      (pss_one (ps_ret (pe_ifExp (pt_cmpR c_isN (pv 1) pe_non (nomark _)) pe_non (pe_op (b_catT (K := K)) (pv 1) (pe_tup (pa_cons (pe_callB (b_len (K := K)) (by rfl) T.z_len (by decide +kernel) (pa_cons (pv 0) pa_nil)) pa_nil)))))), ?_⟩
    try dsimp only [cxOf, Cx.nox, Cx.wish]
    refine x_st (σ' := [some _, none]) rfl ?_
    have hS : Sy K (b0 H0) [] H0 [] [] := Sy.start _ _ _ (fun _ z => nomatch z) (by simp) (fun _ z => nomatch z) (fun _ z => nomatch z)
    walk_at "zS2"
    refine use_EO xs hS hx (by omega) ?_
    clear hS; intro t H hS
    by_cases hn : none ∈ xs
    · have ht := hS.d 0 rfl
      rw [sumsD_none hn] at ht
      simp only [Dt] at ht
      subst ht
      walk_at "zS2"
      exact kn (allI_none.mpr hn) _ hS.fr
    obtain ⟨ns, rfl⟩ := whole_of hn
    rw [sumsD_some] at hS
    rw [List.length_map] at hz
    rw [← ints_ov] at hx
    obtain ⟨tp, rfl⟩ := (hS.d 0 rfl).refT
    have hx2 := hS.fr.sq0 hx
    walk_at "zS2"
    (refine ⟨by simp only [List.length_cons, List.length_nil]; decide, n_al hS ?_⟩; clear hS; intro l1 H l1_n l1_0 hS; simp only [List.cons_append, List.nil_append] at hS)
    obtain ⟨zs, s, r⟩ := (hS.d 0 rfl).tup
    simp only [DtL, Dt] at r
    obtain ⟨_, _, rfl, rfl, _, _, rfl, rfl, rfl⟩ := r
    refine n_catT s.1 (hS.st 0 rfl) (by simp) (by simp) (by simp) ?_
    (refine n_al hS ?_; clear hS; intro t3 H t3_n t3_0 hS; simp only [List.cons_append, List.nil_append] at hS)
    refine ks ns t3 _ (allI_some ns) hS.fr t3_0 ?_
    have e := hS.get 1 rfl
    rw [List.length_map] at e
    exact e
theorem ok__law_manifest (T : Txt K mg base A) : FnOk P w K mg base CX0 3 A.a__law_manifest A.d__law_manifest ["_law_keys_here", "_law_picture_here"] (sp__law_manifest K) := by
  have G__law_head := ok__law_head (P := P) (w := w) (base := base) T
  have G__law_pieces := ok__law_pieces (P := P) (w := w) (base := base) T
  have G__law_title := ok__law_title (P := P) (w := w) (base := base) T
  refine T.F__law_manifest.ok sc__law_manifest (fun vs H Q E h => ?_) (fun cdv A_ outer s H0 vs Q E hr h => ?_)
  · exact spD_len h (fun _ => rfl)
  · obtain ⟨M, ⟨ks, pic⟩, hdom, hds, ⟨gg, hp⟩, k⟩ := h
    dsimp only at hds gg hp k
    have hS := Sy.ofD hdom hds
    simp only [DtL] at hds
    obtain ⟨u, _, rfl, hu0, u2, _, rfl, hu2, rfl⟩ := hds
    simp only [Dt, DtL] at hu2
    obtain ⟨b, ys, rfl, sb, _, _, rfl, rfl, _, _, rfl, ⟨c, cs, rfl, sc, rc⟩, _, _, rfl, rfl, rfl⟩ := hu2
    have hc : Dt K M H0 (.tuple (pic.cells.map .int)) (.ref c) := Dt.tupI sc rc
    have hsb := sb.1
    have hu := hu_of hr
    have hu2 := hu2_of hr
    have hr__law_head : Room 2 _ := hr.mono (by decide)
    have hr__law_pieces : Room 1 _ := hr.mono (by decide)
    have hr__law_title : Room 2 _ := hr.mono (by decide)
    refine ⟨_, pss_one (ps_ret (pe_op (b_catT (K := K)) (pe_call G__law_head hr__law_head (by rfl) T.g__law_head T.F__law_head.kp T.b__law_head .nil pass0 (pa_cons (pv 0) (pa_cons (pv 1) pa_nil))) (pe_tup (pa_cons (pe_callTy (b_tuple (K := K)) (by rfl) T.z_tuple (by decide +kernel) (pa_cons (pe_lc (own := [("_law_piece", 2)]) (g := gName 2) (by rfl) sc__law_manifest.nd (b_iL (K := K) (pe_call G__law_pieces hr__law_pieces (by rfl) T.g__law_pieces T.F__law_pieces.kp T.b__law_pieces .nil pass0 (pa_cons (pe_ix (b_ixT (K := K)) (pv 1) pe_int (fun _ _ => rfl)) pa_nil))) (blkOk_by (N := ["_law_keys_here", "_law_picture_here", "_law_piece"]) (sc := defScope s__law_manifest) (by decide +kernel)) (fun _ _ _ _ _ => pg_name (i := 2) sc__law_manifest.nd rfl (by first | exact Or.inl rfl | exact Or.inr rfl)) (fun _ _ _ _ _ => pts_nil) (fun _ _ _ _ _ => (pe_call G__law_title hr__law_title (by rfl) T.g__law_title T.F__law_title.kp T.b__law_title .nil pass0 (pa_cons (pv 2) pa_nil)))) pa_nil)) pa_nil)))), ?_⟩
    try dsimp only [cxOf, Cx.nox, Cx.wish]
    refine x_st (σ' := [some _, some _, none]) rfl ?_
    have hS := hS.addD hc
    walk_at "zS3"
    refine use_D (ks, pic) hS (DtL.cons' (hS.d 0 rfl) (DtL.cons' (hS.d 1 rfl) DtL.nil')) ⟨gg, hp⟩ ?_
    clear hS; intro v3 H hS
    have hsb2 := hS.fr.st (fun z => nomatch z) hsb
    have h3 := hS.d 3 rfl
    obtain ⟨a3, rfl⟩ := h3.refT
    walk_at "zS3"
    refine use_E pic.cells hS (.inr (hS.d 2 rfl)) (by have := hp.2.2.2.1; omega) ?_
    clear hS; intro v4 H hS
    have h4 := hS.d 4 rfl
    obtain ⟨z4, zs, rfl, s4, r4⟩ : ∃ p xs, v4 = .ref p ∧ SLA K M H p xs ∧ DtL K M H ((piecesF pic.cells).map fun c => .tuple (c.map .int)) xs := by
      simp only [Dt] at h4; exact h4
    have s41 := s4.1
    walk_at "zS3"
    refine lcD_data hS h4 (by rw [List.length_map]; unfold piecesF pieceN; rw [List.length_map, List.length_range]; have := hp.2.2.2.1; omega) (fun i => tripD (titleF ((piecesF pic.cells).getD i []))) ?_ ?_
    · intro i d x D acc Ds' H Q' hd w0 w hS kk
      obtain ⟨pc, hpc, rfl⟩ := of_map hd
      obtain ⟨wp, rfl⟩ := w.refT
      walk_at "zS3"
      have hpl := piece_len (List.mem_of_getElem? hpc)
      refine du_title hS (.inr w) (by omega) ?_
      clear hS; intro t H hS
      have e : (piecesF pic.cells).getD i [] = pc := by simp [hpc]
      refine kk _ _ (hS.subD (fun x hx => List.mem_append_left _ hx)) ?_
      rw [e]
      exact hS.dat _ (List.mem_append_right _ (List.mem_singleton.mpr rfl))
    clear hS; intro D H hS
    rw [List.length_map, range_map_get (fun c => tripD (titleF c)) (piecesF pic.cells) []] at hS
    walk_at "zD3"
    (have hS : Sy K _ _ _ _ _ := (by assumption))
    refine d_catT hS (by walk_at "zdt") (by walk_at "zdt") (by simp [headF, plainF]) (by simp) (by simp [headF, plainF]) ?_
    clear hS; intro pp H hS
    refine k _ _ hS.fr ?_
    show Dt K M _ (maniD ks pic) _
    unfold maniD
    rw [List.map_map]
    exact (by walk_at "zdt")
theorem ok__law_store (T : Txt K mg base A) : FnOk P w K mg base CX0 3 A.a__law_store A.d__law_store ["_law_row", "_law_picture_here", "_law_often"] (sp__law_store K) := by
  have G__law_pieces := ok__law_pieces (P := P) (w := w) (base := base) T
  have G__law_title := ok__law_title (P := P) (w := w) (base := base) T
  have G__law_taken := ok__law_taken (P := P) (w := w) (base := base) T
  have G__law_worth := ok__law_worth (P := P) (w := w) (base := base) T
  refine T.F__law_store.ok sc__law_store (fun vs H Q E h => ?_) (fun cdv A_ outer s H0 vs Q E hr h => ?_)
  · exact spDrawD_len h (fun _ => rfl)
  · obtain ⟨M, ⟨pic, often⟩, r, a, q, ns, ws, rfl, h0, hq, hs, hl, hM, hdom, hd, ⟨⟨ks, hp⟩, o1, o2⟩, k⟩ := h
    dsimp only at hd hp o1 o2 k
    have hS := Sy.ofDD h0 hs hM hdom hd
    simp only [DtL] at hd
    obtain ⟨u2, _, rfl, hu2, _, _, rfl, hmo, rfl⟩ := hd
    simp only [Dt] at hmo; subst hmo
    obtain ⟨b2, ys, rfl, sb, rb⟩ : ∃ p xs, u2 = .ref p ∧ STA K M H0 p xs ∧ DtL K M H0 [.int pic.v, .tuple (pic.cells.map .int), .int pic.n] xs := by
      have hz := hu2
      simp only [picD, Dt] at hz; exact hz
    simp only [Dt, DtL] at rb
    obtain ⟨_, _, rfl, rfl, _, _, rfl, ⟨c2, cs2, rfl, sc, rc⟩, _, _, rfl, rfl, rfl⟩ := rb
    have hc : Dt K M H0 (.tuple (pic.cells.map .int)) (.ref c2) := Dt.tupI sc rc
    have hsb := sb.1
    obtain ⟨p1, p2, p3, p4, p5, p6, p7⟩ := _root_.id hp
    have hu := hu_of hr
    have hu2 := hu2_of hr
    have hr__law_pieces : Room 1 _ := hr.mono (by decide)
    have hr__law_title : Room 2 _ := hr.mono (by decide)
    have hr__law_taken : Room 1 _ := hr.mono (by decide)
    have hr__law_worth : Room 2 _ := hr.mono (by decide)
    refine ⟨_, pss_cons (ps_set (i := 3) sc__law_store.nd rfl (Or.inl rfl) (pe_lst pa_nil))
      (pss_cons (ps_for PassesOwn.never rfl (b_iL (K := K) (pe_call G__law_pieces hr__law_pieces (by rfl) T.g__law_pieces T.F__law_pieces.kp T.b__law_pieces .nil pass0 (pa_cons (pe_ix (b_ixT (K := K)) (pv 1) pe_int (fun _ _ => rfl)) pa_nil))) (pg_name (i := 4) sc__law_store.nd rfl (Or.inl rfl)) (pss_cons (ps_set (i := 5) sc__law_store.nd rfl (Or.inl rfl) (pe_call G__law_title hr__law_title (by rfl) T.g__law_title T.F__law_title.kp T.b__law_title .nil pass0 (pa_cons (pv 4) pa_nil)))
      (pss_one (ps_for PassesOwn.never rfl (pi_range1 (by rfl) T.z_range (pa_cons (pe_ifM (pt_cmpR op_gt (pv 2) pe_int (nomark _)) (pe_ix (b_ixL (K := K)) (pe_lst (pa_cons pe_int (pa_cons pe_int (pa_cons pe_int (pa_cons pe_int pa_nil))))) (pe_call G__law_taken hr__law_taken (by rfl) T.g__law_taken T.F__law_taken.kp T.b__law_taken .nil pass0 (pa_cons (pv 0) (pa_cons pe_int pa_nil))) (fun _ _ => rfl)) pe_int) pa_nil)) (pg_name (i := 6) sc__law_store.nd rfl (Or.inl rfl)) (pss_cons (ps_set (i := 7) sc__law_store.nd rfl (Or.inl rfl) (pe_callTy (b_list (K := K)) (by rfl) T.z_list (by decide +kernel) (pa_cons (pv 4) pa_nil)))
      (Evl.pss_cut (ps_if (PW.pt (pw_and (pt_cmpR op_gt (pv 2) pe_int (nomark _)) (pw_and1 (pt_cmpR op_eq (pe_call G__law_taken hr__law_taken (by rfl) T.g__law_taken T.F__law_taken.kp T.b__law_taken .nil pass0 (pa_cons (pv 0) (pa_cons (pv 2) pa_nil))) pe_int (nomark _))))) (pss_one (ps_asg (pe_call G__law_worth hr__law_worth (by rfl) T.g__law_worth T.F__law_worth.kp T.b__law_worth .nil pass0 (pa_cons (pv 0) pa_nil)) (pg_sub (pv 7) (pe_call G__law_taken hr__law_taken (by rfl) T.g__law_taken T.F__law_taken.kp T.b__law_taken .nil pass0 (pa_cons (pv 0) (pa_cons (pe_callB (b_len (K := K)) (by rfl) T.z_len (by decide +kernel) (pa_cons (pv 7) pa_nil)) pa_nil))) set_list))) pss_nil)
      (pss_one (ps_expr (pe_bm PySem.F.plainAttrs_list PySem.F.slot_list_insert PySem.F.type_list_insert mt_insert (pv 3) (pa_cons (pe_call G__law_taken hr__law_taken (by rfl) T.g__law_taken T.F__law_taken.kp T.b__law_taken .nil pass0 (pa_cons (pv 0) (pa_cons (pe_op op_add (pe_callB (b_len (K := K)) (by rfl) T.z_len (by decide +kernel) (pa_cons (pv 3) pa_nil)) pe_int) pa_nil))) (pa_cons (pe_tup (pa_cons (pv 5) (pa_cons (pe_callTy (b_tuple (K := K)) (by rfl) T.z_tuple (by decide +kernel) (pa_cons (pv 7) pa_nil)) pa_nil))) pa_nil)))))))))))
      (pss_one (ps_ret (pv 3)))), ?_⟩
    try dsimp only [cxOf, Cx.nox, Cx.wish]
    refine x_st (σ' := [some _, some _, some _, none, none, none, none, none]) rfl ?_
    have hS := hS.addD hc
    walk_at "zS8"
    (refine ⟨by simp only [List.length_cons, List.length_nil]; decide, n_alM hS ?_⟩; clear hS; intro l H l_n l_0 hS; simp only [List.cons_append, List.nil_append] at hS)
    have hsb2 := (sb.mono (hS.fr.wk fun x hx => by rw [List.mem_singleton.mp hx]; exact hM)).1
    have hpl : (piecesF pic.cells).length ≤ 4 := by unfold piecesF pieceN; rw [List.length_map, List.length_range]; omega
    walk_at "zS8"
    refine ⟨l :: M, pic.cells, _, rfl, hS.dom, .inr (hS.d 3 rfl), by omega, fun v4 H f h4 => ?_⟩
    have hS := (hS.ex f).addD h4
    (try simp only [List.cons_append, List.nil_append] at hS)
    obtain ⟨z4, zs, rfl, s4, r4⟩ : ∃ p xs, v4 = .ref p ∧ SLA K (l :: M) H p xs ∧ DtL K (l :: M) H ((piecesF pic.cells).map fun c => .tuple (c.map .int)) xs := by
      simp only [Dt] at h4; exact h4
    walk_at "zS8"
    refine ⟨z4, rfl, ⟨_, s4.1⟩, ?_⟩
    refine for_dataL (ds := (piecesF pic.cells).map fun c => .tuple (c.map .int)) h4 (fun j σ' H' => ∃ (q : Rho) (st : List Row) (vs : List V) (v4 v5 v6 v7 : Option V), q.ok ∧ Sy K ⟨H, [r, l]⟩ (l :: M) H' [(r, rowO a q), (l, .lst vs)] [(script ns, .ref a)] ∧ DtL K (l :: M) H' (st.map rowD) vs ∧ st.length ≤ 2 * j ∧ (∀ x ∈ st, 1 ≤ x.2.length ∧ x.2.length ≤ 3 ∧ ∀ n ∈ x.2, 0 ≤ n ∧ n ≤ 9972) ∧ (often = 1 → ∀ c ∈ (piecesF pic.cells).take j, (titleF c, c) ∈ st) ∧
      σ' = [some (.ref r), some (.ref b2), some (.int often), some (.ref l), v4, v5, v6, v7]) ?_ ?_ ?_ ?_
    · refine ⟨q, [], [], _, _, _, _, hq, (hS.rebase.from [r, l] (fun x hx => hS.dom x (by simp at hx; rcases hx with rfl | rfl <;> simp [hM]))).subD (by simp), DtL.nil', by simp, by simp, by simp, rfl⟩
    · rintro j σ' H' ⟨_, _, _, _, _, _, _, _, z, _⟩
      exact z.fr.wk fun x hx => by simp at hx; rcases hx with rfl | rfl <;> simp [hM]
    · clear hq
      rintro j d x σ' H1 hd hdx ⟨q, st, vs, v4, v5, v6, v7, hq, hS1, hvs, hsl, hsg, hsn, rfl⟩
      obtain ⟨pc, hpc, rfl⟩ := of_map hd
      have hjl := (List.getElem?_eq_some_iff.mp hpc).1
      obtain ⟨pa, rfl⟩ := hdx.refT
      have hcl := piece_len (List.mem_of_getElem? hpc)
      have hcp := piece_pos (List.mem_of_getElem? hpc)
      have hcm := piecesF_mem (List.mem_of_getElem? hpc)
      have hS := (hS1.rebase.from [r, l] (fun x hx => hS1.nom x hx)).addD hdx
      walk_at "zS8"
      refine du_title hS (.inr (hS.d 1 rfl)) (by omega) ?_
      clear hS; intro t5 H2 hS
      walk_at "zS8"
      have hvs := hvs.mono (hS.fr.wk fun x hx => by simp at hx; rcases hx with rfl | rfl <;> simp [hM])
      have hSb := hS
      refine x_ifM (fun v H' => ∃ (n : Int) (q : Rho), v = .int n ∧ 0 ≤ n ∧ n ≤ 2 ∧ (often = 1 → n = 1) ∧ q.ok ∧ Sy K ⟨H2, [r]⟩ (l :: M) H' [(r, rowO a q), (l, .lst vs)] [(script ns, .ref a), (.tuple (pc.map .int), .ref pa), (tripD (titleF pc), .ref t5)]) (fun Q' hQ' => ?_) ?_
      · have hS := hS.rebase.from [r] (fun x hx => hS.nom x (List.mem_cons.mpr (.inl (List.mem_singleton.mp hx))))
        walk_at "zS8"
        refine x_ite (fun ho => ?_) (fun ho => ?_)
        · walk_at "zS8"
          (refine ⟨by simp only [List.length_cons, List.length_nil]; decide, n_al hS ?_⟩; clear hS; intro e1 H e1_n e1_0 hS; simp only [List.cons_append, List.nil_append] at hS)
          walk_at "zS8"
          (refine use_taken hS ⟨by first | assumption | (simp; done) | exact List.mem_cons_of_mem _ (by assumption) | exact List.mem_cons_of_mem _ (List.mem_cons_of_mem _ (by assumption)), by first | exact .inr (by assumption) | exact .inl (by simp)⟩ hq hl (by omega) (by omega) ?_; clear hS hq; intro y q H y_0 y_1 hq hS)
          obtain ⟨m4, hm4, m0, m2⟩ : ∃ m4 : Int, atI ([.int 1, .int 1, .int 0, .int 2] : List V) y = some (.int m4) ∧ 0 ≤ m4 ∧ m4 ≤ 2 := by
            have : y = 0 ∨ y = 1 ∨ y = 2 ∨ y = 3 := by omega
            rcases this with rfl | rfl | rfl | rfl
            · exact ⟨1, rfl, by decide, by decide⟩
            · exact ⟨1, rfl, by decide, by decide⟩
            · exact ⟨0, rfl, by decide, by decide⟩
            · exact ⟨2, rfl, by decide, by decide⟩
          walk_at "zS8"
          refine x_ixL (hS.sl 2 rfl) hm4 ?_
          have ho := of_decide_eq_true ho
          exact hQ' _ _ ⟨m4, q, rfl, m0, m2, fun z => by omega, hq, hS.sub (by walk_at "zsub")⟩
        · walk_at "zS8"
          exact hQ' _ _ ⟨1, q, rfl, by decide, by decide, fun _ => rfl, hq, hS⟩
      clear hS hq
      rintro v H3 ⟨n, q, rfl, n0, n2, hn1, hq, hS⟩
      have hvs := hvs.mono (hS.fr.wk fun x hx => by simp at hx; rcases hx with rfl; simp [hM])
      have hS := hSb.into hS (fun x hx => .inl (by simp at hx; simp [hx]))
      walk_at "zS8"
      (refine ⟨_, rfl, by omega, by omega, ?_⟩)
      refine for_range (lo := 0) (n := n.toNat) (fun j2 σ' H' => ∃ (q : Rho) (st2 : List Row) (vs2 : List V) (v6 v7 : Option V), q.ok ∧ Sy K ⟨H1, [r, l]⟩ (l :: M) H' [(r, rowO a q), (l, .lst vs2)] [(script ns, .ref a), (.tuple (pc.map .int), .ref pa), (tripD (titleF pc), .ref t5)] ∧ DtL K (l :: M) H' (st2.map rowD) vs2 ∧ st2.length ≤ st.length + j2 ∧ (∀ x ∈ st2, 1 ≤ x.2.length ∧ x.2.length ≤ 3 ∧ ∀ n ∈ x.2, 0 ≤ n ∧ n ≤ 9972) ∧ (∀ x ∈ st, x ∈ st2) ∧ (often = 1 → 0 < j2 → (titleF pc, pc) ∈ st2) ∧
        σ' = [some (.ref r), some (.ref b2), some (.int often), some (.ref l), some (.ref pa), some (.ref t5), v6, v7]) ?_ ?_ ?_
      · exact ⟨q, st, vs, _, _, hq, hS, hvs, by omega, hsg, fun _ z => z, fun _ z => absurd z (Nat.lt_irrefl 0), rfl⟩
      · clear hS hvs hq
        rintro j2 σ' H4 hj2 ⟨q, st2, vs2, v6, v7, hq, hS4, hvs, hl2, hg2, hin, hpin, rfl⟩
        have hvl : vs2.length = st2.length := by rw [hvs.len, List.length_map]
        have hS := hS4.rebase.from [r, l] (fun x hx => hS4.nom x hx)
        walk_at "zS8"
        refine n_list (Dt.sq (.inr (hS.d 1 rfl))) ?_
        (refine n_alM hS ?_; clear hS; intro p H p_n p_0 hS; simp only [List.cons_append, List.nil_append] at hS)
        walk_at "zS8"
        refine ⟨fun σ' H' => ∃ (q : Rho) (xs : List Int), q.ok ∧ Sy K ⟨H4, [r, l]⟩ (p :: l :: M) H' [(r, rowO a q), (l, .lst vs2), (p, .lst (xs.map V.int))] [(script ns, .ref a), (.tuple (pc.map .int), .ref pa), (tripD (titleF pc), .ref t5)] ∧ xs.length = pc.length ∧ (∀ n ∈ xs, 0 ≤ n ∧ n ≤ 9972) ∧ (often = 1 → xs = pc) ∧
          σ' = [some (.ref r), some (.ref b2), some (.int often), some (.ref l), some (.ref pa), some (.ref t5), some (.int (0 + (j2 : Int))), some (.ref p)], ?_, ?_⟩
        · walk_at "zS8"
          have hpb : ∀ n ∈ pc, 0 ≤ n ∧ n ≤ 9972 := fun n hn => p5 n (hcm n hn)
          refine x_ite (fun ho => ?_) (fun ho => ?_)
          · have ho := of_decide_eq_true ho
            walk_at "zS8"
            (refine use_taken hS ⟨by first | assumption | (simp; done) | exact List.mem_cons_of_mem _ (by assumption) | exact List.mem_cons_of_mem _ (List.mem_cons_of_mem _ (by assumption)), by first | exact .inr (by assumption) | exact .inl (by simp)⟩ hq hl (by omega) (by omega) ?_; clear hS hq; intro y q H y_0 y_1 hq hS)
            walk_at "zS8"
            refine x_ite (fun hy => ?_) (fun hy => ?_)
            · walk_at "zS8"
              (refine use_draw hS ⟨by first | assumption | (simp; done) | exact List.mem_cons_of_mem _ (by assumption) | exact List.mem_cons_of_mem _ (List.mem_cons_of_mem _ (by assumption)), by first | exact .inr (by assumption) | exact .inl (by simp)⟩ hq hl ?_; clear hS hq; intro w q H w_c hq hS)
              walk_at "zS8"
              rw [List.length_map]
              walk_at "zS8"
              (refine use_taken hS ⟨by first | assumption | (simp; done) | exact List.mem_cons_of_mem _ (by assumption) | exact List.mem_cons_of_mem _ (List.mem_cons_of_mem _ (by assumption)), by first | exact .inr (by assumption) | exact .inl (by simp)⟩ hq hl (by omega) (by omega) ?_; clear hS hq; intro ix q H ix_0 ix_1 hq hS)
              walk_at "zS8"
              refine x_setS hS 2 rfl ⟨by simp, .inr p_n⟩ (ixN_int (by omega) (by rw [List.length_map]; omega)) ?_
              clear hS; intro H hS
              simp only [List.set_cons_zero, List.set_cons_succ] at hS
              walk_at "zS8"
              refine ⟨q, pc.set ix.toNat w, hq, by rw [List.map_set]; exact hS, by rw [List.length_set], fun c hc => ?_, fun z => by omega, rfl⟩
              rcases List.mem_or_eq_of_mem_set hc with z | z
              · exact hpb c z
              · omega
            · walk_at "zS8"
              exact ⟨q, pc, hq, hS, rfl, hpb, fun _ => rfl, rfl⟩
          · walk_at "zS8"
            exact ⟨q, pc, hq, hS, rfl, hpb, fun _ => rfl, rfl⟩
        · clear hS hq
          rintro σ' H ⟨q, xs, hq, hS, hxl, hxb, hx1, rfl⟩
          walk_at "zS8"
          refine ⟨ty_list (hS.sl 1 rfl), ?_⟩
          walk_at "zS8"
          rw [hvl]
          walk_at "zS8"
          (refine use_taken hS ⟨by first | assumption | (simp; done) | exact List.mem_cons_of_mem _ (by assumption) | exact List.mem_cons_of_mem _ (List.mem_cons_of_mem _ (by assumption)), by first | exact .inr (by assumption) | exact .inl (by simp)⟩ hq hl (by omega) (by omega) ?_; clear hS hq; intro ix q H ix_0 ix_1 hq hS)
          walk_at "zS8"
          have hdm := hS.dom
          (refine n_al hS ?_; clear hS; intro u1 H u1_n u1_0 hS; simp only [List.cons_append, List.nil_append] at hS)
          have hu1 := notM0 hdm u1_n
          walk_at "zS8"
          have hdm := hS.dom
          (refine ⟨by simp only [List.length_cons, List.length_nil]; decide, n_al hS ?_⟩; clear hS; intro u2 H u2_n u2_0 hS; simp only [List.cons_append, List.nil_append] at hS)
          have hu3 := notM0 hdm u2_n
          walk_at "zS8"
          have hro : Dt K (p :: l :: M) H (rowD (titleF pc, xs)) (.ref u2) := Dt.tupI ⟨hS.st 4 rfl, .inl hu3⟩ (DtL.cons' (hS.d 2 rfl) (DtL.cons' (Dt.tupI ⟨hS.st 3 rfl, .inl hu1⟩ (DtL.ints.mpr rfl)) DtL.nil'))
          have hvs := (hvs.consM p_n).mono (hS.fr.wk fun x hx => by simp at hx; rcases hx with rfl | rfl <;> simp [hM])
          refine ⟨l, vs2, ix, .ref u2, rfl, rfl, hS.get 1 rfl, szl (by omega), ix_0, by omega, ?_⟩
          have fset := Fr.set (M := p :: l :: M) (H := H) (o := .lst (vs2.take ix.toNat ++ [V.ref u2] ++ vs2.drop ix.toNat)) (p := l) (by simp)
          have hvs2 : DtL K (p :: l :: M) (upd H l (.lst (vs2.take ix.toNat ++ [V.ref u2] ++ vs2.drop ix.toNat))) ((st2.take ix.toNat ++ [(titleF pc, xs)] ++ st2.drop ix.toNat).map rowD) (vs2.take ix.toNat ++ [V.ref u2] ++ vs2.drop ix.toNat) := by
            rw [List.map_append, List.map_append, List.map_take, List.map_drop]
            exact (DtL.append (DtL.append (DtL.take _ hvs) (DtL.cons' hro DtL.nil')) (DtL.drop _ hvs)).mono fset
          have hS := hS.set (o' := .lst (vs2.take ix.toNat ++ [V.ref u2] ++ vs2.drop ix.toNat)) 1 rfl ⟨by simp, .inl (by simp)⟩
          simp only [List.set_cons_zero, List.set_cons_succ] at hS
          have hS := (hS.sub (L' := [(r, rowO a q), (l, .lst (vs2.take ix.toNat ++ [V.ref u2] ++ vs2.drop ix.toNat))]) (by simp)).dropM
          walk_at "zS8"
          refine ⟨q, st2.take ix.toNat ++ [(titleF pc, xs)] ++ st2.drop ix.toNat, _, _, _, hq, hS4.into hS (fun x hx => .inl hx), hvs2.wk fun _ z => List.mem_cons_of_mem _ z, by simp only [List.length_append, List.length_take, List.length_drop, List.length_singleton]; omega, fun x hx => ?_, fun x hx => mem_ins.mpr (.inr (hin x hx)), fun z _ => mem_ins.mpr (.inl (by rw [hx1 z])), rfl⟩
          rcases mem_ins.mp hx with rfl | hx
          · exact ⟨by dsimp only; omega, by dsimp only; omega, hxb⟩
          · exact hg2 x hx
      · clear hS hvs hq
        rintro σ' H4 ⟨q, st2, vs2, v6, v7, hq, hS4, hvs, hl2, hg2, hin, hpin, rfl⟩
        walk_at "zS8"
        refine ⟨q, st2, vs2, _, _, _, _, hq, (hS1.into hS4 (fun x hx => .inl hx)).subD (by simp), hvs, by omega, hg2, fun ho c hc => ?_, rfl⟩
        rw [take_more hpc] at hc
        rcases List.mem_append.mp hc with hc | hc
        · exact hin _ (hsn ho c hc)
        · rw [List.mem_singleton.mp hc]
          exact hpin ho (by have := hn1 ho; omega)
    · clear hq
      rintro σ' H1 ⟨q, st, vs, v4, v5, v6, v7, hq, hS1, hvs, hsl, hsg, hsn, rfl⟩
      rw [List.length_map] at hsl hsn
      rw [List.take_length] at hsn
      have hS := (hS.into hS1 (fun x hx => by
        simp only [List.mem_cons, List.not_mem_nil, or_false] at hx
        rcases hx with rfl | rfl
        · exact .inl (by simp)
        · exact .inr l_0)).dropM
      walk_at "zS8"
      have hlM : l ∉ M := fun z => by obtain ⟨o, e⟩ := hdom l z; rw [show H0 l = none from l_0] at e; cases e
      exact k _ _ q H1 ⟨st, rfl, ⟨by omega, hsg⟩, hsn⟩ hq hS.fr (hS.get 0 rfl) (Dt.lstI ⟨hS.sl 1 rfl, .inl hlM⟩ (hvs.wk fun _ z => List.mem_cons_of_mem _ z))
theorem ok__law_stores (T : Txt K mg base A) : FnOk P w K mg base CX0 4 A.a__law_stores A.d__law_stores ["_law_row", "_law_picture_here", "_law_sure"] (sp__law_stores K) := by
  have G__law_taken := ok__law_taken (P := P) (w := w) (base := base) T
  have G__law_store := ok__law_store (P := P) (w := w) (base := base) T
  refine T.F__law_stores.ok sc__law_stores (fun vs H Q E h => ?_) (fun cdv A_ outer s H0 vs Q E hr h => ?_)
  · exact spDrawD_len h (fun _ => rfl)
  · obtain ⟨M, ⟨pic, sure⟩, r, a, q, ns, ws, rfl, h0, hq, hs, hl, hM, hdom, hd, ⟨ks, hp⟩, k⟩ := h
    dsimp only at hd hp k
    have hS := Sy.ofDD h0 hs hM hdom hd
    simp only [DtL] at hd
    obtain ⟨u2, _, rfl, hu2, _, _, rfl, hmo, rfl⟩ := hd
    simp only [Dt] at hmo; subst hmo
    obtain ⟨b2, rfl⟩ := hu2.refT
    have hu := hu_of hr
    have hu2 := hu2_of hr
    have hr__law_taken : Room 1 _ := hr.mono (by decide)
    have hr__law_store : Room 3 _ := hr.mono (by decide)
    refine ⟨_, pss_cons (ps_setLc (i := 3) (own := [("_law_k", 4)]) (g := gName 4) (by rfl) sc__law_stores.nd rfl rfl (sw_true rfl rfl rfl (by decide +kernel)) (pi_range1 (by rfl) T.z_range (pa_cons (pe_op op_add pe_int (pe_call G__law_taken hr__law_taken (by rfl) T.g__law_taken T.F__law_taken.kp T.b__law_taken .nil pass0 (pa_cons (pv 0) (pa_cons pe_int pa_nil)))) pa_nil)) (blkOk_by (N := ["_law_row", "_law_picture_here", "_law_sure", "_law_found", "_law_k"]) (sc := defScope s__law_stores) (by decide +kernel)) (fun _ _ _ _ _ => pg_name (i := 4) sc__law_stores.nd rfl (by first | exact Or.inl rfl | exact Or.inr rfl)) (fun _ _ _ _ _ => pts_nil) (fun _ _ _ _ _ => (pe_call G__law_store hr__law_store (by rfl) T.g__law_store T.F__law_store.kp T.b__law_store .nil pass0 (pa_cons (pv 0) (pa_cons (pv 1) (pa_cons (pe_op op_add pe_int (pe_call G__law_taken hr__law_taken (by rfl) T.g__law_taken T.F__law_taken.kp T.b__law_taken .nil pass0 (pa_cons (pv 0) (pa_cons pe_int pa_nil)))) pa_nil))))))
      (pss_cons (ps_if (pt_val (pv 2)) (pss_one (ps_asg (pe_call G__law_store hr__law_store (by rfl) T.g__law_store T.F__law_store.kp T.b__law_store .nil pass0 (pa_cons (pv 0) (pa_cons (pv 1) (pa_cons pe_int pa_nil)))) (pg_sub (pv 3) (pe_call G__law_taken hr__law_taken (by rfl) T.g__law_taken T.F__law_taken.kp T.b__law_taken .nil pass0 (pa_cons (pv 0) (pa_cons (pe_callB (b_len (K := K)) (by rfl) T.z_len (by decide +kernel) (pa_cons (pv 3) pa_nil)) pa_nil))) set_list))) pss_nil)
      (pss_one (ps_ret (pv 3)))), ?_⟩
    try dsimp only [cxOf, Cx.nox, Cx.wish]
    refine x_st (σ' := [some _, some _, some _, none, none]) rfl ?_
    have hS : Sy K ⟨H0, [r]⟩ M H0 [(r, rowO a q)] [(script ns, .ref a), (picD pic, .ref b2)] := hS.subD (by simp)
    walk_at "zS5"
    (refine use_taken hS ⟨by first | assumption | (simp; done) | exact List.mem_cons_of_mem _ (by assumption) | exact List.mem_cons_of_mem _ (List.mem_cons_of_mem _ (by assumption)), by first | exact .inr (by assumption) | exact .inl (by simp)⟩ hq hl (by omega) (by omega) ?_; clear hS hq; intro n q H n_0 n_1 hq hS)
    walk_at "zS5"
    (refine ⟨_, rfl, by omega, by omega, ?_⟩)
    refine lc_drawT (n := (1 + n).toNat) (C := fun d => ∃ st, d = storeD st ∧ gStore st) hS ⟨hM, .inl (by simp)⟩ hq (by omega) ?_ ?_
    · intro v M' H q L' E Q' hM hq hS kk
      walk_at "zS5"
      refine use_taken (L := L') hS hM hq hl (by omega) (by omega) ?_
      clear hS hq; intro y q H y_0 y_1 hq hS
      walk_at "zS5"
      refine use_DD (pic, 2 + y) hS hM hq hl (DtL.cons' (hS.d 1 rfl) (DtL.cons' Dt.int' DtL.nil')) ⟨⟨ks, hp⟩, by dsimp only; omega, by dsimp only; omega⟩ ?_
      clear hS hq; intro d w3 q H hres hq hS
      obtain ⟨st, rfl, g, -⟩ := hres
      exact kk _ _ q H ⟨st, rfl, g⟩ hq hS
    clear hS hq; intro D ds vs q H D_n D_0 hdl hC hq hvs hS
    have hS : Sy K ⟨H0, [r]⟩ (D :: M) H [(r, rowO a q), (D, .lst vs)] [(script ns, .ref a), (picD pic, .ref b2)] := hS
    obtain ⟨ss, hss, hsg⟩ : ∃ ss : List (List Row), ds = ss.map storeD ∧ ∀ st ∈ ss, gStore st := by
      clear hdl hvs
      induction ds with
      | nil => exact ⟨[], rfl, fun _ z => nomatch z⟩
      | cons d ds ih =>
        obtain ⟨st, rfl, g⟩ := hC d (List.mem_cons_self ..)
        obtain ⟨ss, rfl, hg⟩ := ih fun x hx => hC x (List.mem_cons_of_mem _ hx)
        exact ⟨st :: ss, rfl, fun x hx => (List.mem_cons.mp hx).elim (fun z => z ▸ g) (hg x)⟩
    rw [hss] at hvs hdl
    rw [List.length_map] at hdl
    have hvl : vs.length = ss.length := by rw [hvs.len, List.length_map]
    have hDM : D ∉ M := fun z => by obtain ⟨o, e⟩ := hdom D z; rw [show H0 D = none from D_0] at e; cases e
    walk_at "zS5"
    have hT := hS
    cases sure with
    | false =>
      have hS := hT
      refine x_iteF rfl ?_
      walk_at "zS5"
      exact k _ _ q _ ⟨ss, rfl, ⟨by omega, by omega, hsg⟩, fun z => nomatch z⟩ hq hS.fr (hS.get 0 rfl) (Dt.lstI ⟨hS.sl 1 rfl, .inl hDM⟩ (hvs.wk fun _ z => List.mem_cons_of_mem _ z))
    | true =>
      have hS := hT
      refine x_iteT rfl ?_
      have hSb := hS
      have hS := hS.rebase.from [r] (fun x hx => hS.nom x hx)
      walk_at "zS5"
      refine use_DD (pic, 1) hS ⟨by simp [hM], .inl (by simp)⟩ hq hl (DtL.cons' (hS.d 1 rfl) (DtL.cons' Dt.int' DtL.nil')) ⟨⟨ks, hp⟩, by show (1 : Int) ≤ 1; decide, by show (1 : Int) ≤ 10; decide⟩ ?_
      clear hS hq; intro d w3 q H3 hres hq hS
      obtain ⟨st, rfl, gst, hall⟩ := hres
      have hall := hall rfl
      (try simp only [List.cons_append, List.nil_append] at hS)
      walk_at "zS5"
      rw [hvl]
      (refine use_taken hS ⟨by first | assumption | (simp; done) | exact List.mem_cons_of_mem _ (by assumption) | exact List.mem_cons_of_mem _ (List.mem_cons_of_mem _ (by assumption)), by first | exact .inr (by assumption) | exact .inl (by simp)⟩ hq hl (by omega) (by omega) ?_; clear hS hq; intro ix q H ix_0 ix_1 hq hS)
      have hvs := hvs.mono (hS.fr.wk fun x hx => by simp at hx; rcases hx with rfl; simp [hM])
      have hro := hS.d 2 rfl
      have hS := hSb.into hS (fun x hx => .inl hx)
      walk_at "zS5"
      refine x_setF hS 1 rfl ⟨by simp, .inr D_0⟩ (ixN_int (by omega) (by omega)) ?_
      have hvs3 := hvs.set (i := ix.toNat) (by omega) hro
      clear hS; intro H4 f hS
      simp only [List.set_cons_zero, List.set_cons_succ] at hS
      have hvs4 := hvs3.mono (f.wk fun x hx => by rw [List.mem_singleton.mp hx]; simp)
      rw [show (ss.map storeD).set ix.toNat (storeD st) = (ss.set ix.toNat st).map storeD by rw [List.map_set]] at hvs4
      walk_at "zS5"
      refine k _ _ q _ ⟨ss.set ix.toNat st, rfl, ⟨by rw [List.length_set]; omega, by rw [List.length_set]; omega, fun x hx => ?_⟩, fun _ => ⟨st, ?_, hall⟩⟩ hq hS.fr (hS.get 0 rfl) (Dt.lstI ⟨hS.sl 1 rfl, .inl hDM⟩ (hvs4.wk fun _ z => List.mem_cons_of_mem _ z))
      · rcases List.mem_or_eq_of_mem_set hx with z | rfl
        · exact hsg x z
        · exact gst
      · exact List.mem_set (by omega) _
theorem ok_Memory___init__ (T : Txt K mg base A) : FnOk P w K mg base (L2.CX P w) 1 A.a_Memory___init__ A.d_Memory___init__ ["self", "size"] (sp_Memory___init__ A K) := by
  refine T.F_Memory___init__.okX sc_Memory___init__ (fun vs H Q E h => ?_) (fun cdv A_ outer s H0 vs Q E hr h => ?_)
  · obtain ⟨_, h⟩ := h; obtain ⟨_, h⟩ := h; obtain ⟨_, h⟩ := h; obtain ⟨rfl, _⟩ := h; rfl
  · obtain ⟨p, dx, n, rfl, hp, k, kE⟩ := h
    have hu := hu_of hr
    have hu2 := hu2_of hr
    have cl_Memory := T.cl_Memory; have na_Memory_is_up := T.n_Memory_is_up; have na_Memory_left := T.n_Memory_left; have na_Memory_many := T.n_Memory_many; have na_Memory_torn := T.n_Memory_torn; have na_Memory_worths := T.n_Memory_worths
    refine ⟨_, pss_cons (ps_if (pt_not (pt_chain op_le op_le pe_int (pv 1) (pe_gi rfl T.c_MOST_CELLS))) (pss_one (ps_raise rfl (takes_of rfl rfl rfl rfl) (pmk_own PySem.F.excBase_ValueError T.x_BadSize T.g_BadSize T.k_BadSize (raises_own T.b_BadSize T.t_BadSize) rfl))) pss_nil)
      (pss_cons (ps_fld (pv 0) (pe_op op_rep (pe_lst (pa_cons pe_int pa_nil)) (pv 1)) rfl)
      (pss_cons (ps_fld (pv 0) pe_non rfl)
      (pss_cons (ps_fld (pv 0) pe_str rfl)
      (pss_cons (ps_fld (pv 0) pe_bl rfl)
      (pss_one (ps_fld (pv 0) pe_int rfl)))))), ?_⟩
    try dsimp only [cxOf, Cx.nox, Cx.wish]
    refine x_st (σ' := [some _, some _]) rfl ?_
    have hS : Sy K ⟨H0, [p]⟩ [p] H0 [(p, .ins A.c_Memory dx [])] [] := Sy.start _ _ _ (fun x hx => by rw [List.mem_singleton.mp hx]; exact hp) (by simp) (fun _ z => nomatch z) (fun b hb => by rw [List.mem_singleton.mp hb]; exact ⟨_, hp⟩) (fun b hb => by rw [List.mem_singleton.mp hb]; exact ⟨_, hp⟩)
    by_cases n0 : 1 ≤ n
    · by_cases n1 : n ≤ 400
      · walk_at "zC2"
        (refine ⟨by simp only [List.length_cons, List.length_nil]; decide, n_al hS ?_⟩; clear hS; intro q H q_n q_0 hS; simp only [List.cons_append, List.nil_append] at hS)
        walk_at "zC2"
        refine n_rep (by walk_at "zen") (by omega) (by omega) (by simp; omega) ?_
        (refine n_al hS ?_; clear hS; intro l H l_n l_0 hS; simp only [List.cons_append, List.nil_append] at hS)
        walk_at "zS2"
        refine n_set hS 0 rfl ⟨by first | assumption | (simp; done) | exact List.mem_cons_of_mem _ (by assumption) | exact List.mem_cons_of_mem _ (List.mem_cons_of_mem _ (by assumption)), by first | exact .inr (by assumption) | exact .inl (by simp)⟩ cl_Memory na_Memory_worths (by simp) rfl ?_
        clear hS; intro H hS
        simp only [List.set_cons_zero, List.set_cons_succ] at hS
        walk_at "zS2"
        refine n_set hS 0 rfl ⟨by first | assumption | (simp; done) | exact List.mem_cons_of_mem _ (by assumption) | exact List.mem_cons_of_mem _ (List.mem_cons_of_mem _ (by assumption)), by first | exact .inr (by assumption) | exact .inl (by simp)⟩ cl_Memory na_Memory_left (by simp [put_nil]) rfl ?_
        clear hS; intro H hS
        simp only [List.set_cons_zero, List.set_cons_succ] at hS
        walk_at "zS2"
        refine n_set hS 0 rfl ⟨by first | assumption | (simp; done) | exact List.mem_cons_of_mem _ (by assumption) | exact List.mem_cons_of_mem _ (List.mem_cons_of_mem _ (by assumption)), by first | exact .inr (by assumption) | exact .inl (by simp)⟩ cl_Memory na_Memory_torn (Nat.lt_of_le_of_lt (len_putF _ _ _) (by simp [put_nil])) rfl ?_
        clear hS; intro H hS
        simp only [List.set_cons_zero, List.set_cons_succ] at hS
        walk_at "zS2"
        refine n_set hS 0 rfl ⟨by first | assumption | (simp; done) | exact List.mem_cons_of_mem _ (by assumption) | exact List.mem_cons_of_mem _ (List.mem_cons_of_mem _ (by assumption)), by first | exact .inr (by assumption) | exact .inl (by simp)⟩ cl_Memory na_Memory_is_up (Nat.lt_of_le_of_lt (len_putF _ _ _) (Nat.lt_of_le_of_lt (Nat.add_le_add_right (len_putF _ _ _) 1) (by simp [put_nil]))) rfl ?_
        clear hS; intro H hS
        simp only [List.set_cons_zero, List.set_cons_succ] at hS
        walk_at "zS2"
        refine n_set hS 0 rfl ⟨by first | assumption | (simp; done) | exact List.mem_cons_of_mem _ (by assumption) | exact List.mem_cons_of_mem _ (List.mem_cons_of_mem _ (by assumption)), by first | exact .inr (by assumption) | exact .inl (by simp)⟩ cl_Memory na_Memory_many (Nat.lt_of_le_of_lt (len_putF _ _ _) (Nat.lt_of_le_of_lt (Nat.add_le_add_right (len_putF _ _ _) 1) (Nat.lt_of_le_of_lt (Nat.add_le_add_right (Nat.add_le_add_right (len_putF _ _ _) 1) 1) (by simp [put_nil])))) (memF_new l n.toNat) ?_
        clear hS; intro H hS
        simp only [List.set_cons_zero, List.set_cons_succ] at hS
        walk_at "zS2"
        have e := hS.get 2 rfl
        have e2 : (List.replicate n.toNat [V.int 0]).flatten = (Mem.new n.toNat).cells.map ov := by
          simp [Mem.new, ov]
        rw [e2] at e
        exact k n0 n1 l H l_0 ⟨hS.get 0 rfl, e, hS.ne 0 2 rfl rfl (by decide)⟩ hS.fr
      · walk_at "zC2"
        exact kE fun z => n1 z.2
    · walk_at "zC2"
      exact kE fun z => n0 z.1
theorem ok_Memory_need_place (T : Txt K mg base A) : FnOk P w K mg base (L2.CX P w) 1 A.a_Memory_need_place A.d_Memory_need_place ["self", "place"] (sp_Memory_need_place A K) := by
  refine T.F_Memory_need_place.okX sc_Memory_need_place (fun vs H Q E h => ?_) (fun cdv A_ outer s H0 vs Q E hr h => ?_)
  · obtain ⟨_, h⟩ := h; obtain ⟨_, h⟩ := h; obtain ⟨_, h⟩ := h; obtain ⟨_, h⟩ := h; obtain ⟨_, h⟩ := h; obtain ⟨rfl, _⟩ := h; rfl
  · obtain ⟨m, dx, l, μ, i, rfl, ⟨hm, hc, hne⟩, k, kE⟩ := h
    have hu := hu_of hr
    have hu2 := hu2_of hr
    have cl_Memory := T.cl_Memory; have na_Memory_is_up := T.n_Memory_is_up; have na_Memory_left := T.n_Memory_left; have na_Memory_many := T.n_Memory_many; have na_Memory_torn := T.n_Memory_torn; have na_Memory_worths := T.n_Memory_worths
    refine ⟨_, pss_one (ps_if (pt_not (pt_chain op_le op_lt pe_int (pv 1) (pe_callB (b_len (K := K)) (by rfl) T.z_len (by decide +kernel) (pa_cons (b_fld (K := K) (pv 0) rfl) pa_nil)))) (pss_one (ps_raise rfl (takes_of rfl rfl rfl rfl) (pmk_own PySem.F.excBase_ValueError T.x_BadPlace T.g_BadPlace T.k_BadPlace (raises_own T.b_BadPlace T.t_BadPlace) rfl))) pss_nil), ?_⟩
    try dsimp only [cxOf, Cx.nox, Cx.wish]
    refine x_st (σ' := [some _, some _]) rfl ?_
    have sl := Dt.memX (K := K) hc
    by_cases h0 : 0 ≤ i
    · by_cases h1 : i < μ.cells.length
      · walk_at "zC2"
        rw [List.length_map]
        walk_at "zC2"
        exact k h0 h1
      · walk_at "zC2"
        rw [List.length_map]
        walk_at "zC2"
        exact kE fun z => h1 z.2
    · walk_at "zC2"
      exact kE fun z => h0 z.1
theorem ok_Memory_need_cell (T : Txt K mg base A) : FnOk P w K mg base (L2.CX P w) 2 A.a_Memory_need_cell A.d_Memory_need_cell ["self", "place", "worth"] (sp_Memory_need_cell A K) := by
  have G_Memory_need_place := ok_Memory_need_place (P := P) (w := w) (base := base) T
  refine T.F_Memory_need_cell.okX sc_Memory_need_cell (fun vs H Q E h => ?_) (fun cdv A_ outer s H0 vs Q E hr h => ?_)
  · obtain ⟨_, h⟩ := h; obtain ⟨_, h⟩ := h; obtain ⟨_, h⟩ := h; obtain ⟨_, h⟩ := h; obtain ⟨_, h⟩ := h; obtain ⟨_, h⟩ := h; obtain ⟨rfl, _⟩ := h; rfl
  · obtain ⟨m, dx, l, μ, i, w, rfl, hM, k, kP, kW⟩ := h
    have hu := hu_of hr
    have hu2 := hu2_of hr
    have cl_Memory := T.cl_Memory; have na_Memory_is_up := T.n_Memory_is_up; have na_Memory_left := T.n_Memory_left; have na_Memory_many := T.n_Memory_many; have na_Memory_torn := T.n_Memory_torn; have na_Memory_worths := T.n_Memory_worths
    have hr_Memory_need_place : Room 1 _ := hr.mono (by decide)
    refine ⟨_, pss_cons (ps_expr (pe_meth (pv 0) T.cl_Memory T.m_Memory_need_place G_Memory_need_place hr_Memory_need_place T.b_Memory_need_place .nil (passX rfl rfl rfl rfl) (pa_cons (pv 1) pa_nil)))
      (pss_one (ps_if (pt_not (pt_chain op_le op_le pe_int (pv 2) (pe_gi rfl T.c_MOST_WORTH))) (pss_one (ps_raise rfl (takes_of rfl rfl rfl rfl) (pmk_own PySem.F.excBase_ValueError T.x_BadWorth T.g_BadWorth T.k_BadWorth (raises_own T.b_BadWorth T.t_BadWorth) rfl))) pss_nil)), ?_⟩
    try dsimp only [cxOf, Cx.nox, Cx.wish]
    refine x_st (σ' := [some _, some _, some _]) rfl ?_
    obtain ⟨hm, hc, hne⟩ := _root_.id hM
    walk_at "zS3"
    refine ⟨m, dx, l, μ, i, rfl, hM, fun h0 h1 => ?_, kP⟩
    by_cases w0 : 0 ≤ w
    · by_cases w1 : w ≤ 9972
      · walk_at "zC3"
        exact k h0 h1 w0 w1
      · walk_at "zC3"
        exact kW h0 h1 fun z => w1 z.2
    · walk_at "zC3"
      exact kW h0 h1 fun z => w0 z.1
theorem ok_Memory_spoil (T : Txt K mg base A) : FnOk P w K mg base (L2.CX P w) 3 A.a_Memory_spoil A.d_Memory_spoil ["self", "place", "worth"] (sp_Memory_spoil A K) := by
  have G_Memory_need_cell := ok_Memory_need_cell (P := P) (w := w) (base := base) T
  refine T.F_Memory_spoil.okX sc_Memory_spoil (fun vs H Q E h => ?_) (fun cdv A_ outer s H0 vs Q E hr h => ?_)
  · obtain ⟨_, h⟩ := h; obtain ⟨_, h⟩ := h; obtain ⟨_, h⟩ := h; obtain ⟨_, h⟩ := h; obtain ⟨_, h⟩ := h; obtain ⟨_, h⟩ := h; obtain ⟨rfl, _⟩ := h; rfl
  · obtain ⟨m, dx, l, μ, i, w, rfl, hM, k, kP, kW⟩ := h
    have hu := hu_of hr
    have hu2 := hu2_of hr
    have cl_Memory := T.cl_Memory; have na_Memory_is_up := T.n_Memory_is_up; have na_Memory_left := T.n_Memory_left; have na_Memory_many := T.n_Memory_many; have na_Memory_torn := T.n_Memory_torn; have na_Memory_worths := T.n_Memory_worths
    have hr_Memory_need_cell : Room 2 _ := hr.mono (by decide)
    refine ⟨_, pss_cons (ps_expr (pe_meth (pv 0) T.cl_Memory T.m_Memory_need_cell G_Memory_need_cell hr_Memory_need_cell T.b_Memory_need_cell .nil (passX rfl rfl rfl rfl) (pa_cons (pv 1) (pa_cons (pe_ifExp (pt_cmpR c_isN (pv 2) pe_non (nomark _)) pe_int (pv 2)) pa_nil))))
      (pss_one (ps_asg (pv 2) (pg_sub (b_fld (K := K) (pv 0) rfl) (pv 1) set_list))), ?_⟩
    try dsimp only [cxOf, Cx.nox, Cx.wish]
    refine x_st (σ' := [some _, some _, some _]) rfl ?_
    have hS := MemAt.sy (K := K) hM
    obtain ⟨hm, hc, hne⟩ := _root_.id hM
    cases w with
    | none =>
      walk_at "zS3"
      refine ⟨m, dx, l, _, i, 0, rfl, hM, fun h0 h1 _ _ => ?_, kP, fun _ _ z => (z (by decide)).elim⟩
      walk_at "zS3"
      refine x_setS hS 1 rfl ⟨by first | assumption | (simp; done) | exact List.mem_cons_of_mem _ (by assumption) | exact List.mem_cons_of_mem _ (List.mem_cons_of_mem _ (by assumption)), by first | exact .inr (by assumption) | exact .inl (by simp)⟩ (ixN_int h0 (by rw [List.length_map]; exact h1)) ?_
      clear hS; intro H hS
      simp only [List.set_cons_zero, List.set_cons_succ] at hS
      walk_at "zS3"
      refine k h0 h1 (fun n z => nomatch z) H hS.fr ⟨hS.get 0 rfl, ?_, hne⟩
      rw [hS.get 1 rfl]
      simp [cellsO, List.map_set, ov]
    | some w =>
      walk_at "zS3"
      refine ⟨m, dx, l, _, i, w, rfl, hM, fun h0 h1 w0 w1 => ?_, kP, fun h0 h1 z => kW h0 h1 ⟨w, rfl, z⟩⟩
      walk_at "zS3"
      refine x_setS hS 1 rfl ⟨by first | assumption | (simp; done) | exact List.mem_cons_of_mem _ (by assumption) | exact List.mem_cons_of_mem _ (List.mem_cons_of_mem _ (by assumption)), by first | exact .inr (by assumption) | exact .inl (by simp)⟩ (ixN_int h0 (by rw [List.length_map]; exact h1)) ?_
      clear hS; intro H hS
      simp only [List.set_cons_zero, List.set_cons_succ] at hS
      walk_at "zS3"
      refine k h0 h1 (fun n z => by cases z; exact ⟨w0, w1⟩) H hS.fr ⟨hS.get 0 rfl, ?_, hne⟩
      rw [hS.get 1 rfl]
      simp [cellsO, List.map_set, ov]
theorem ok__law_memory (T : Txt K mg base A) : FnOk P w K mg base CX0 4 A.a__law_memory A.d__law_memory ["_law_cells"] (sp__law_memory A K) := by
  have G_Memory___init__ := ok_Memory___init__ (P := P) (w := w) (base := base) T
  have G_Memory_spoil := ok_Memory_spoil (P := P) (w := w) (base := base) T
  refine T.F__law_memory.ok sc__law_memory (fun vs H Q E h => ?_) (fun cdv A_ outer s H0 vs Q E hr h => ?_)
  · obtain ⟨_, h⟩ := h; obtain ⟨_, h⟩ := h; obtain ⟨rfl, _⟩ := h; rfl
  · obtain ⟨p, cs, rfl, hx0, h1, h2, hbd, k⟩ := h
    have hu := hu_of hr
    have hu2 := hu2_of hr
    have cl_Memory := T.cl_Memory; have na_Memory_is_up := T.n_Memory_is_up; have na_Memory_left := T.n_Memory_left; have na_Memory_many := T.n_Memory_many; have na_Memory_torn := T.n_Memory_torn; have na_Memory_worths := T.n_Memory_worths
    have hr_Memory___init__ : Room 1 _ := hr.mono (by decide)
    have hr_Memory_spoil : Room 3 _ := hr.mono (by decide)
    have hrm_Memory___init__ : Room 2 _ := hr.mono (by decide)
    refine ⟨_, pss_cons (ps_set (i := 1) sc__law_memory.nd rfl (Or.inl rfl) (pe_make T.mk_Memory G_Memory___init__ hrm_Memory___init__ rfl T.g_Memory T.b_Memory___init__ .nil passL (pa_cons (pe_callB (b_len (K := K)) (by rfl) T.z_len (by decide +kernel) (pa_cons (pv 0) pa_nil)) pa_nil)))
      (pss_cons (ps_for PassesOwn.never rfl (pi_range1 (by rfl) T.z_range (pa_cons (pe_callB (b_len (K := K)) (by rfl) T.z_len (by decide +kernel) (pa_cons (pv 0) pa_nil)) pa_nil)) (pg_name (i := 2) sc__law_memory.nd rfl (Or.inl rfl)) (pss_one (ps_expr (pe_meth (pv 1) T.cl_Memory T.m_Memory_spoil G_Memory_spoil hr_Memory_spoil T.b_Memory_spoil .nil passL (pa_cons (pv 2) (pa_cons (pe_ix (b_ixL (K := K)) (pv 0) (pv 2) (fun _ _ => rfl)) pa_nil))))))
      (pss_one (ps_ret (pv 1)))), ?_⟩
    try dsimp only [cxOf, Cx.nox, Cx.wish]
    refine x_st (σ' := [some _, none, none]) rfl ?_
    have hS : Sy K (b0 H0) [] H0 [] [] := Sy.start _ _ _ (fun _ z => nomatch z) (by simp) (fun _ z => nomatch z) (fun _ z => nomatch z)
    walk_at "zS3"
    rw [List.length_map]
    refine use_initX hS (by omega) (by omega) ?_
    clear hS; intro m dx l H hS hm0 hl0
    (try simp only [List.cons_append, List.nil_append] at hS)
    have hne : m ≠ l := hS.ne 0 1 rfl rfl (by decide)
    have hx := hS.fr.sl (fun z => nomatch z) hx0
    walk_at "zS3"
    rw [List.length_map]
    (refine ⟨_, rfl, by omega, by omega, ?_⟩)
    refine for_range (lo := 0) (n := ((cs.length : Int)).toNat) (fun j σ' H' => ∃ v2 : Option V, Sy K (b0 H0) [l, m] H' [(m, memO A.c_Memory dx l (Mem.of (cs.take j ++ List.replicate (cs.length - j) (some 0)))), (l, cellsO (Mem.of (cs.take j ++ List.replicate (cs.length - j) (some 0))))] [] ∧
        σ' = [some (.ref p), some (.ref m), v2]) ?_ ?_ ?_
    · exact ⟨none, by rw [show (Mem.of (cs.take 0 ++ List.replicate (cs.length - 0) (some 0))) = Mem.new ((cs.length : Int)).toNat by simp [Mem.of, Mem.new]]; exact hS, rfl⟩
    · clear hS hx
      rintro j σ' H' hj ⟨v2, hS, rfl⟩
      have hj : j < cs.length := by omega
      have hx := hS.fr.sl (fun z => nomatch z) hx0
      have hcl : (cs.take j ++ List.replicate (cs.length - j) (some (0 : Int))).length = cs.length := by simp; omega
      have hat : cs.getD (0 + (j : Int)).toNat none = cs[j] := by
        rw [show (0 + (j : Int)).toNat = j by omega, List.getD_eq_getElem?_getD, List.getElem?_eq_getElem hj]; rfl
      walk_at "zS3"
      refine x_ixL hx (atO (by omega) (by omega)) ?_
      rw [hat]
      walk_at "zS3"
      have hlen : (0 : Int) ≤ 0 + (j : Int) ∧ 0 + (j : Int) < ((Mem.of (cs.take j ++ List.replicate (cs.length - j) (some 0))).cells.length : Int) := by
        show _ ∧ _ < ((cs.take j ++ List.replicate (cs.length - j) (some (0 : Int))).length : Int); omega
      refine ⟨m, dx, l, _, _, cs[j], rfl, ⟨hS.get 0 rfl, hS.get 1 rfl, hne⟩, fun _ _ _ H f hM => ?_, fun z => (z hlen).elim, fun _ _ ⟨n, e, z⟩ => (z (hbd n (by rw [← e]; exact List.getElem_mem hj))).elim⟩
      have hS := hS.memAt (i := 0) (j := 1) rfl rfl (by decide) ⟨by simp, .inr hm0⟩ ⟨by simp, .inr hl0⟩ f hM
      simp only [List.set_cons_zero, List.set_cons_succ] at hS
      walk_at "zS3"
      refine ⟨_, ?_, rfl⟩
      have e : (cs.take j ++ List.replicate (cs.length - j) (some (0 : Int))).set (0 + (j : Int)).toNat cs[j] = cs.take (j + 1) ++ List.replicate (cs.length - (j + 1)) (some 0) := by
        rw [show (0 + (j : Int)).toNat = j by omega]
        exact take_fill hj
      have hS : Sy K (b0 H0) [l, m] H [(m, memO A.c_Memory dx l (Mem.of ((cs.take j ++ List.replicate (cs.length - j) (some (0 : Int))).set (0 + (j : Int)).toNat cs[j]))), (l, cellsO (Mem.of ((cs.take j ++ List.replicate (cs.length - j) (some (0 : Int))).set (0 + (j : Int)).toNat cs[j])))] [] := hS
      rw [e] at hS
      exact hS
    · clear hS hx
      rintro σ' H' ⟨v2, hS, rfl⟩
      rw [show cs.take ((cs.length : Int)).toNat ++ List.replicate (cs.length - ((cs.length : Int)).toNat) (some (0 : Int)) = cs by simp] at hS
      walk_at "zS3"
      exact k m dx l _ hS.fr hm0 hl0 ⟨hS.get 0 rfl, hS.get 1 rfl, hne⟩
theorem ok_Memory_cut (T : Txt K mg base A) : FnOk P w K mg base (L2.CX P w) 1 A.a_Memory_cut A.d_Memory_cut ["self", "many", "torn"] (sp_Memory_cut A K) := by
  refine T.F_Memory_cut.okX sc_Memory_cut (fun vs H Q E h => ?_) (fun cdv A_ outer s H0 vs Q E hr h => ?_)
  · obtain ⟨_, h⟩ := h; obtain ⟨_, h⟩ := h; obtain ⟨_, h⟩ := h; obtain ⟨_, h⟩ := h; obtain ⟨_, h⟩ := h; obtain ⟨_, h⟩ := h; obtain ⟨rfl, _⟩ := h; rfl
  · obtain ⟨m, dx, l, ⟨cells, left, torn, up, many⟩, n, t, rfl, hM, k, kE⟩ := h
    have hu := hu_of hr
    have hu2 := hu2_of hr
    have tk_TORNS := T.l_TORNS
    have cl_Memory := T.cl_Memory; have na_Memory_is_up := T.n_Memory_is_up; have na_Memory_left := T.n_Memory_left; have na_Memory_many := T.n_Memory_many; have na_Memory_torn := T.n_Memory_torn; have na_Memory_worths := T.n_Memory_worths
    refine ⟨_, pss_cons (ps_if (PW.pt (pw_or (pt_not (pt_chain op_le op_le pe_int (pv 1) (pe_gi rfl T.c_MOST_MANY))) (pw_or1 (pt_cmpR (b_notIn (K := K)) (pv 2) (pe_gt rfl T.g_TORNS) (by rfl))))) (pss_one (ps_raise rfl (takes_of rfl rfl rfl rfl) (pmk_own PySem.F.excBase_ValueError T.x_BadCut T.g_BadCut T.k_BadCut (raises_own T.b_BadCut T.t_BadCut) rfl))) pss_nil)
      (pss_cons (ps_fld (pv 0) (pv 1) rfl)
      (pss_one (ps_fld (pv 0) (pv 2) rfl))), ?_⟩
    try dsimp only [cxOf, Cx.nox, Cx.wish]
    refine x_st (σ' := [some _, some _, some _]) rfl ?_
    have hS := MemAt.sy (K := K) hM
    obtain ⟨hm, hc, hne⟩ := _root_.id hM
    by_cases h0 : 0 ≤ n
    · by_cases h1 : n ≤ 100000
      · walk_at "zC3"
        refine n_in (SqE.ofT (TupK.st tk_TORNS)) rfl rfl ?_
        rw [if_pos rfl, inV_torns]
        by_cases ht : t = "old" ∨ t = "broken" ∨ t = "new"
        · have k := k h0 h1 ht
          refine ⟨_, rfl, ?_⟩
          refine x_iteF (nd_of ht) ?_
          walk_at "zS3"
          refine n_set hS 0 rfl ⟨by first | assumption | (simp; done) | exact List.mem_cons_of_mem _ (by assumption) | exact List.mem_cons_of_mem _ (List.mem_cons_of_mem _ (by assumption)), by first | exact .inr (by assumption) | exact .inl (by simp)⟩ cl_Memory na_Memory_left (by simp [memF]) (show putF _ (V.int n) _ = _ from memF_pleft (some n)) ?_
          clear hS; intro H hS
          simp only [List.set_cons_zero, List.set_cons_succ] at hS
          walk_at "zS3"
          refine n_set hS 0 rfl ⟨by first | assumption | (simp; done) | exact List.mem_cons_of_mem _ (by assumption) | exact List.mem_cons_of_mem _ (List.mem_cons_of_mem _ (by assumption)), by first | exact .inr (by assumption) | exact .inl (by simp)⟩ cl_Memory na_Memory_torn (by simp [memF]) (memF_ptorn _) ?_
          clear hS; intro H hS
          simp only [List.set_cons_zero, List.set_cons_succ] at hS
          walk_at "zS3"
          exact k H hS.fr ⟨hS.get 0 rfl, hS.get 1 rfl, hne⟩
        · refine ⟨_, rfl, ?_⟩
          refine x_iteT (nd_not ht) ?_
          exact kE fun z => ht z.2.2
      · walk_at "zC3"
        exact kE fun z => h1 z.2.1
    · walk_at "zC3"
      exact kE fun z => h0 z.1
theorem ok__law_stop (T : Txt K mg base A) : FnOk P w K mg base CX0 1 A.a__law_stop A.d__law_stop ["_law_work"] (fun _ _ _ _ => False) := by exact fn_never
theorem ok_Memory_need_power (T : Txt K mg base A) : FnOk P w K mg base (L2.CX P w) 1 A.a_Memory_need_power A.d_Memory_need_power ["self"] (sp_Memory_need_power A K) := by
  refine T.F_Memory_need_power.okX sc_Memory_need_power (fun vs H Q E h => ?_) (fun cdv A_ outer s H0 vs Q E hr h => ?_)
  · obtain ⟨_, h⟩ := h; obtain ⟨_, h⟩ := h; obtain ⟨_, h⟩ := h; obtain ⟨_, h⟩ := h; obtain ⟨rfl, _⟩ := h; rfl
  · obtain ⟨m, dx, l, μ, rfl, ⟨hm, hc, hne⟩, k, kE⟩ := h
    have hu := hu_of hr
    have hu2 := hu2_of hr
    have cl_Memory := T.cl_Memory; have na_Memory_is_up := T.n_Memory_is_up; have na_Memory_left := T.n_Memory_left; have na_Memory_many := T.n_Memory_many; have na_Memory_torn := T.n_Memory_torn; have na_Memory_worths := T.n_Memory_worths
    refine ⟨_, pss_one (ps_if (pt_not (pt_val (b_fld (K := K) (pv 0) rfl))) (pss_one (ps_raise rfl (takes_of rfl rfl rfl rfl) (pmk_own PySem.F.excBase_ValueError T.x_Stopped T.g_Stopped T.k_Stopped (raises_own T.b_Stopped T.t_Stopped) rfl))) pss_nil), ?_⟩
    try dsimp only [cxOf, Cx.nox, Cx.wish]
    refine x_st (σ' := [some _]) rfl ?_
    walk_at "zS1"
    cases hup : μ.up with
    | true =>
      refine x_iteF rfl ?_
      walk_at "zS1"
      exact k hup
    | false =>
      refine x_iteT rfl ?_
      exact kE hup
theorem ok_Memory_read (T : Txt K mg base A) : FnOk P w K mg base (L2.CX P w) 2 A.a_Memory_read A.d_Memory_read ["self", "place"] (sp_Memory_read A K) := by
  have G_Memory_need_place := ok_Memory_need_place (P := P) (w := w) (base := base) T
  have G_Memory_need_power := ok_Memory_need_power (P := P) (w := w) (base := base) T
  refine T.F_Memory_read.okX sc_Memory_read (fun vs H Q E h => ?_) (fun cdv A_ outer s H0 vs Q E hr h => ?_)
  · obtain ⟨_, h⟩ := h; obtain ⟨_, h⟩ := h; obtain ⟨_, h⟩ := h; obtain ⟨_, h⟩ := h; obtain ⟨_, h⟩ := h; obtain ⟨rfl, _⟩ := h; rfl
  · obtain ⟨m, dx, l, μ, i, rfl, hM, k, kP, kS⟩ := h
    have hu := hu_of hr
    have hu2 := hu2_of hr
    have cl_Memory := T.cl_Memory; have na_Memory_is_up := T.n_Memory_is_up; have na_Memory_left := T.n_Memory_left; have na_Memory_many := T.n_Memory_many; have na_Memory_torn := T.n_Memory_torn; have na_Memory_worths := T.n_Memory_worths
    have hr_Memory_need_place : Room 1 _ := hr.mono (by decide)
    have hr_Memory_need_power : Room 1 _ := hr.mono (by decide)
    refine ⟨_, pss_cons (ps_expr (pe_meth (pv 0) T.cl_Memory T.m_Memory_need_place G_Memory_need_place hr_Memory_need_place T.b_Memory_need_place .nil (passX rfl rfl rfl rfl) (pa_cons (pv 1) pa_nil)))
      (pss_cons (ps_expr (pe_meth0 (pv 0) T.cl_Memory T.m_Memory_need_power G_Memory_need_power hr_Memory_need_power T.b_Memory_need_power .nil (passX rfl rfl rfl rfl)))
      (pss_one (ps_ret (pe_ix (b_ixL (K := K)) (b_fld (K := K) (pv 0) rfl) (pv 1) (fun _ _ => rfl))))), ?_⟩
    try dsimp only [cxOf, Cx.nox, Cx.wish]
    refine x_st (σ' := [some _, some _]) rfl ?_
    obtain ⟨hm, hc, hne⟩ := _root_.id hM
    have sl := Dt.memX (K := K) hc
    walk_at "zS2"
    refine ⟨m, dx, l, μ, i, rfl, hM, fun h0 h1 => ?_, kP⟩
    walk_at "zS2"
    refine ⟨m, dx, l, μ, rfl, hM, fun hup => ?_, kS h0 h1⟩
    walk_at "zS2"
    obtain ⟨x, hx⟩ := at_lt (xs := μ.cells) (i := i.toNat) (by omega)
    refine x_ixL sl (atI_int h0 (at_map hx)) ?_
    have k := k h0 h1 hup
    rw [show μ.cells.getD i.toNat none = x by simp [hx]] at k
    exact k
theorem ok_Memory_row (T : Txt K mg base A) : FnOk P w K mg base CX0 3 A.a_Memory_row A.d_Memory_row ["self", "place", "many"] (sp_Memory_row A K) := by
  have G_Memory_read := ok_Memory_read (P := P) (w := w) (base := base) T
  refine T.F_Memory_row.ok sc_Memory_row (fun vs H Q E h => ?_) (fun cdv A_ outer s H0 vs Q E hr h => ?_)
  · obtain ⟨_, h⟩ := h; obtain ⟨_, h⟩ := h; obtain ⟨_, h⟩ := h; obtain ⟨_, h⟩ := h; obtain ⟨_, h⟩ := h; obtain ⟨_, h⟩ := h; obtain ⟨rfl, _⟩ := h; rfl
  · obtain ⟨m, dx, l, μ, i, n, rfl, hM, hup, h0, h1, h2, h3, k⟩ := h
    have hu := hu_of hr
    have hu2 := hu2_of hr
    have cl_Memory := T.cl_Memory; have na_Memory_is_up := T.n_Memory_is_up; have na_Memory_left := T.n_Memory_left; have na_Memory_many := T.n_Memory_many; have na_Memory_torn := T.n_Memory_torn; have na_Memory_worths := T.n_Memory_worths
    have hr_Memory_read : Room 2 _ := hr.mono (by decide)
    refine ⟨_, pss_one (ps_ret (pe_lc (own := [("k", 3)]) (g := gName 3) (by rfl) sc_Memory_row.nd (pi_range1 (by rfl) T.z_range (pa_cons (pv 2) pa_nil)) (blkOk_by (N := ["self", "place", "many", "k"]) (sc := defScope s_Memory_row) (by decide +kernel)) (fun _ _ _ _ _ => pg_name (i := 3) sc_Memory_row.nd rfl (by first | exact Or.inl rfl | exact Or.inr rfl)) (fun _ _ _ _ _ => pts_nil) (fun _ _ _ _ _ => (pe_meth (pv 0) T.cl_Memory T.m_Memory_read G_Memory_read hr_Memory_read T.b_Memory_read .nil passL (pa_cons (pe_op op_add (pv 1) (pv 3)) pa_nil))))), ?_⟩
    try dsimp only [cxOf, Cx.nox, Cx.wish]
    refine x_st (σ' := [some _, some _, some _, none]) rfl ?_
    have hS : Sy K (b0 H0) [] H0 [] [] := Sy.start _ _ _ (fun _ z => nomatch z) (by simp) (fun _ z => nomatch z) (fun _ z => nomatch z)
    walk_at "zS4"
    (refine ⟨_, rfl, by omega, by omega, ?_⟩)
    refine lcW_map walk_range' hS (fun _ _ _ _ => trivial) (by omega) (fun j => ov ((μ.cells.drop i.toNat).getD j none)) ?_ ?_
    · intro j x D acc H' Q' hj hx hD hS kk
      subst hx
      have hM' := hM.ex hS.fr
      obtain ⟨hm, hc, hne⟩ := _root_.id hM'
      walk_at "zS4"
      refine ⟨m, dx, l, μ, _, rfl, hM', fun _ _ _ => ?_, fun z => (z ⟨by omega, by omega⟩).elim, fun _ _ z => by rw [hup] at z; cases z⟩
      have := kk _ hS
      rw [show (μ.cells.drop i.toNat).getD j none = μ.cells.getD (i + (0 + (j : Int))).toNat none by
        simp only [List.getD_eq_getElem?_getD, List.getElem?_drop]
        rw [show (i + (0 + (j : Int))).toNat = i.toNat + j by omega]] at this
      exact this
    clear hS; intro D H hD hS
    rw [range_getD_take _ (by rw [List.length_drop]; omega)] at hS
    exact k D H hS.fr hD (hS.get 0 rfl)
theorem ok_sums (T : Txt K mg base A) : FnOk P w K mg base CX0 1 A.a_sums A.d_sums ["row"] (sp_sums K) := by
  refine T.F_sums.ok sc_sums (fun vs H Q E h => ?_) (fun cdv A_ outer s H0 vs Q E hr h => ?_)
  · obtain ⟨_, h⟩ := h; obtain ⟨_, h⟩ := h; obtain ⟨rfl, _⟩ := h; rfl
  · obtain ⟨p, xs, rfl, hx, k0, k1⟩ := h
    have hu := hu_of hr
    have hu2 := hu2_of hr
    refine ⟨_, pss_cons (ps_set (i := 1) sc_sums.nd rfl (Or.inl rfl) pe_int)
      (pss_cons (ps_set (i := 2) sc_sums.nd rfl (Or.inl rfl) pe_int)
      (pss_cons (ps_for PassesOwn.never rfl (b_iE (K := K) (pv 0)) (pg_name (i := 3) sc_sums.nd rfl (Or.inl rfl)) (pss_cons (ps_if (pt_cmpR c_isN (pv 3) pe_non (nomark _)) (pss_one (ps_ret pe_non)) pss_nil)
      (pss_cons (ps_set (i := 1) sc_sums.nd rfl (Or.inl rfl) (pe_op op_mod (pe_op op_add (pe_op op_add (pv 1) (pv 3)) pe_int) (pe_gi rfl T.c_PRIME)))
      (pss_one (ps_set (i := 2) sc_sums.nd rfl (Or.inl rfl) (pe_op op_mod (pe_op op_add (pv 2) (pv 1)) (pe_gi rfl T.c_PRIME)))))))
      (pss_one (ps_ret (pe_tup (pa_cons (pv 1) (pa_cons (pv 2) pa_nil))))))), ?_⟩
    try dsimp only [cxOf, Cx.nox, Cx.wish]
    refine x_st (σ' := [some _, none, none, none]) rfl ?_
    walk_at "zS4"
    refine x_forE (by with_unfolding_all rfl) hx (fun j σ' H0' => H0' = H0 ∧ ∃ pre v, allI (xs.take j) = some pre ∧ σ' = [some (.ref p), some (.int (sumsF pre).1), some (.int (sumsF pre).2), v]) ⟨rfl, [], _, rfl, rfl⟩ (fun j σ' H0' z _ => by rw [z.1]; exact ⟨id, id⟩) ?_ ?_
    · rintro j x σ' H0' hj ⟨rfl, pre, v, hp, rfl⟩
      obtain ⟨o, ho, rfl⟩ := of_map hj
      cases o with
      | none =>
        dsimp only [ov]
        walk_at "zS4"
        refine k0 (allI_none.mpr (List.mem_of_getElem? ho))
      | some n =>
        dsimp only [ov]
        walk_at "zS4"
        refine ⟨rfl, pre ++ [n], some (.int n), ?_, ?_⟩
        · rw [take_more ho]
          rw [allI_inv hp]
          have := allI_some (pre ++ [n])
          rw [List.map_append] at this
          exact this
        · rw [sumsF_more]; rfl
    · rintro σ' H0' ⟨rfl, pre, v, hp, rfl⟩
      rw [List.length_map, List.take_length] at hp
      walk_at "zS4"
      exact ⟨by simp only [List.length_cons, List.length_nil]; decide, fun t ht => k1 pre t hp ht⟩
theorem ok_page (T : Txt K mg base A) : FnOk P w K mg base CX0 4 A.a_page A.d_page ["memory", "place"] (sp_page A K) := by
  have G_Memory_row := ok_Memory_row (P := P) (w := w) (base := base) T
  have G_sums := ok_sums (P := P) (w := w) (base := base) T
  refine T.F_page.ok sc_page (fun vs H Q E h => ?_) (fun cdv A_ outer s H0 vs Q E hr h => ?_)
  · obtain ⟨_, h⟩ := h; obtain ⟨_, h⟩ := h; obtain ⟨_, h⟩ := h; obtain ⟨_, h⟩ := h; obtain ⟨_, h⟩ := h; obtain ⟨_, h⟩ := h; obtain ⟨rfl, _⟩ := h; rfl
  · obtain ⟨M, m, dx, l, μ, i, rfl, hdom, hM, hup, ⟨h0, h1, h2⟩, k⟩ := h
    have hu := hu_of hr
    have hu2 := hu2_of hr
    have cl_Memory := T.cl_Memory; have na_Memory_is_up := T.n_Memory_is_up; have na_Memory_left := T.n_Memory_left; have na_Memory_many := T.n_Memory_many; have na_Memory_torn := T.n_Memory_torn; have na_Memory_worths := T.n_Memory_worths
    have hr_Memory_row : Room 3 _ := hr.mono (by decide)
    have hr_sums : Room 1 _ := hr.mono (by decide)
    refine ⟨_, pss_cons (ps_set (i := 2) sc_page.nd rfl (Or.inl rfl) (pe_meth (pv 0) T.cl_Memory T.m_Memory_row G_Memory_row hr_Memory_row T.b_Memory_row .nil pass0 (pa_cons (pv 1) (pa_cons (pe_gi rfl T.c_PAGE) pa_nil))))
      (pss_cons (ps_if (PW.pt (pw_or (pt_cmpR (b_in (K := K)) pe_non (pv 2) (by rfl)) (pw_or (pt_cmpR op_eq (pe_ix (b_ixL (K := K)) (pv 2) pe_int (fun _ _ => rfl)) pe_int (nomark _)) (pw_or1 (pt_cmpR (b_neD (K := K) hr.units) (pe_call G_sums hr_sums (by rfl) T.g_sums T.F_sums.kp T.b_sums .nil pass0 (pa_cons (pe_slice (b_slL (K := K)) (pv 2) po_none (po_some (pe_op op_add (pe_gi rfl T.c_RECORD) pe_int))) pa_nil)) (pe_tup (pa_cons (pe_ix (b_ixL (K := K)) (pv 2) pe_int (fun _ _ => rfl)) (pa_cons (pe_ix (b_ixL (K := K)) (pv 2) pe_int (fun _ _ => rfl)) pa_nil))) (nomark _)))))) (pss_one (ps_ret pe_non)) pss_nil)
      (pss_one (ps_ret (pe_tup (pa_cons (pe_ix (b_ixL (K := K)) (pv 2) pe_int (fun _ _ => rfl)) (pa_cons (pe_tup (pa_cons (pe_ix (b_ixL (K := K)) (pv 2) pe_int (fun _ _ => rfl)) (pa_cons (pe_ix (b_ixL (K := K)) (pv 2) pe_int (fun _ _ => rfl)) (pa_cons (pe_ix (b_ixL (K := K)) (pv 2) pe_int (fun _ _ => rfl)) pa_nil)))) pa_nil)))))), ?_⟩
    try dsimp only [cxOf, Cx.nox, Cx.wish]
    refine x_st (σ' := [some _, some _, none]) rfl ?_
    have hS := Sy.atD (K := K) hdom
    obtain ⟨hm, hc, hne⟩ := _root_.id hM
    walk_at "zS3"
    refine ⟨m, dx, l, μ, i, 6, rfl, hM, hup, h0, by decide, h1, h2, fun p H f hp e => ?_⟩
    have hS := hS.exN f hp e
    (try simp only [List.cons_append, List.nil_append] at hS)
    rw [show (6 : Int).toNat = 6 from rfl] at hS
    have hlen : ((μ.cells.drop i.toNat).take 6).length = 6 := by rw [List.length_take, List.length_drop]; omega
    dsimp only at k
    unfold pageO at k
    generalize (μ.cells.drop i.toNat).take 6 = xs at hS k hlen
    walk_at "zS3"
    refine n_in (by walk_at "zsqe") rfl (flat_ov _) ?_
    rw [inV_none]
    by_cases hn : none ∈ xs
    · rw [pageL_none hn] at k
      walk_at "zS3"
      refine x_iteT (decide_eq_true hn) ?_
      walk_at "zS3"
      exact k _ _ hS.fr Dt.non'
    · obtain ⟨n, a, b, c, s4, t, rfl⟩ := row6 hlen hn
      simp only [List.map_cons, List.map_nil, ov] at hS
      have hp := pageL_some n a b c s4 t
      generalize pageL [some n, some a, some b, some c, some s4, some t] = pg at hp k
      walk_at "zS3"
      refine x_ite (fun hz => ?_) (fun hz => ?_)
      · have hz : n = 0 := by simpa using of_decide_eq_true hz
        rw [if_neg (fun z => z.1 hz)] at hp
        subst hp
        walk_at "zS3"
        exact k _ _ hS.fr Dt.non'
      · have hz : ¬ n = 0 := by simpa using of_decide_eq_false hz
        walk_at "zS3"
        (refine n_al hS ?_; clear hS; intro q H q_n q_0 hS; simp only [List.cons_append, List.nil_append] at hS)
        simp only [show (3 : Int) + 1 = 4 from rfl, cut_4] at hS
        walk_at "zS3"
        refine use_sums (ns := [n, a, b, c]) hS (by walk_at "zsqe") ?_
        clear hS; intro t1 H ht1 hS
        (try simp only [List.cons_append, List.nil_append] at hS)
        walk_at "zS3"
        (refine ⟨by simp only [List.length_cons, List.length_nil]; decide, n_al hS ?_⟩; clear hS; intro t2 H t2_n t2_0 hS; simp only [List.cons_append, List.nil_append] at hS)
        refine n_neS (s := sumsF [n, a, b, c]) (t := (s4, t)) (hS.st 2 rfl) (hS.st 3 rfl) ?_
        refine ⟨_, rfl, ?_⟩
        by_cases he : sumsF [n, a, b, c] = (s4, t)
        · rw [if_pos ⟨hz, he⟩] at hp
          subst hp
          refine x_iteF (nd_of he) ?_
          walk_at "zS3"
          refine d_tup hS (by simp) (DtL.cons' Dt.int' (DtL.cons' Dt.int' (DtL.cons' Dt.int' DtL.nil'))) ?_
          clear hS; intro t3 H hS
          walk_at "zS3"
          refine d_tup hS (by simp) (DtL.cons' Dt.int' (DtL.cons' (hS.d 0 rfl) DtL.nil')) ?_
          clear hS; intro t4 H hS
          exact k _ _ hS.fr (hS.d 1 rfl)
        · rw [if_neg (fun z => he z.2)] at hp
          subst hp
          refine x_iteT (nd_not he) ?_
          walk_at "zS3"
          exact k _ _ hS.fr Dt.non'
theorem ok_newest (T : Txt K mg base A) : FnOk P w K mg base CX0 5 A.a_newest A.d_newest ["memory", "place"] (sp_newest A K) := by
  have G_page := ok_page (P := P) (w := w) (base := base) T
  refine T.F_newest.ok sc_newest (fun vs H Q E h => ?_) (fun cdv A_ outer s H0 vs Q E hr h => ?_)
  · obtain ⟨_, h⟩ := h; obtain ⟨_, h⟩ := h; obtain ⟨_, h⟩ := h; obtain ⟨_, h⟩ := h; obtain ⟨_, h⟩ := h; obtain ⟨_, h⟩ := h; obtain ⟨rfl, _⟩ := h; rfl
  · obtain ⟨M, m, dx, l, μ, i, rfl, hdom, hM, hup, ⟨h0, h1, h2⟩, k⟩ := h
    have hu := hu_of hr
    have hu2 := hu2_of hr
    have cl_Memory := T.cl_Memory; have na_Memory_is_up := T.n_Memory_is_up; have na_Memory_left := T.n_Memory_left; have na_Memory_many := T.n_Memory_many; have na_Memory_torn := T.n_Memory_torn; have na_Memory_worths := T.n_Memory_worths
    have hr_page : Room 4 _ := hr.mono (by decide)
    refine ⟨_, pss_cons (ps_set (i := 2) sc_newest.nd rfl (Or.inl rfl) pe_non)
      (pss_cons (ps_for PassesOwn.never rfl (pi_range1 (by rfl) T.z_range (pa_cons pe_int pa_nil)) (pg_name (i := 3) sc_newest.nd rfl (Or.inl rfl)) (pss_cons (ps_set (i := 4) sc_newest.nd rfl (Or.inl rfl) (pe_call G_page hr_page (by rfl) T.g_page T.F_page.kp T.b_page .nil pass0 (pa_cons (pv 0) (pa_cons (pe_op op_add (pv 1) (pe_op op_mul (pv 3) (pe_gi rfl T.c_PAGE))) pa_nil))))
      (pss_one (ps_if (PW.pt (pw_and (pt_cmpR c_notN (pv 4) pe_non (nomark _)) (pw_and1 (PW.pt (pw_or (pt_cmpR c_isN (pv 2) pe_non (nomark _)) (pw_or1 (pt_cmpR op_gt (pe_ix (b_ixT (K := K)) (pv 4) pe_int (fun _ _ => rfl)) (pe_ix (b_ixT (K := K)) (pv 2) pe_int (fun _ _ => rfl)) (nomark _)))))))) (pss_one (ps_set (i := 2) sc_newest.nd rfl (Or.inl rfl) (pe_op (b_catT (K := K)) (pe_tup (pa_cons (pv 3) pa_nil)) (pv 4)))) pss_nil))))
      (pss_one (ps_ret (pv 2)))), ?_⟩
    try dsimp only [cxOf, Cx.nox, Cx.wish]
    refine x_st (σ' := [some _, some _, none, none, none]) rfl ?_
    have hS := Sy.atD (K := K) hdom
    dsimp only at k
    walk_at "zS5"
    (refine ⟨_, rfl, by omega, by omega, ?_⟩)
    refine for_range (lo := 0) (n := (2 : Int).toNat) (fun j σ' H' => ∃ (v3 v4 : Option V) (u : V), Sy K (b0 H0) M H' [] [(newestD (foundF μ.cells i.toNat j), u)] ∧ σ' = [some (.ref m), some (.int i), some u, v3, v4]) ?_ ?_ ?_
    · exact ⟨_, _, .non, hS.addD Dt.non', rfl⟩
    · clear hS
      rintro j σ' H' hj ⟨v3, v4, u, hS, rfl⟩
      have hj2 : j < 2 := hj
      walk_at "zS5"
      refine use_MI hS (hM.ex hS.fr) hup ⟨by omega, by omega, h2⟩ ?_
      clear hS; intro v H hS _
      have ei : (i + (0 + (j : Int)) * 6).toNat = i.toNat + 6 * j := by omega
      rw [ei] at hS
      (try simp only [List.cons_append, List.nil_append] at hS)
      have hm := foundF_more μ.cells i.toNat j
      cases hp : pageO μ.cells (i.toNat + 6 * j) with
      | none =>
        rw [hp] at hS hm
        have hv := hS.d 1 rfl
        simp only [pageD, Dt] at hv
        subst hv
        walk_at "zS5"
        rw [show foundF μ.cells i.toNat j = foundF μ.cells i.toNat (j + 1) from hm.symm] at hS
        exact ⟨_, _, u, hS.subD (by simp), rfl⟩
      | some p =>
        rw [hp] at hS hm
        have hv := hS.d 1 rfl
        obtain ⟨b, rfl⟩ := hv.refT
        walk_at "zS5"
        cases hf : foundF μ.cells i.toNat j with
        | none =>
          rw [hf] at hS hm
          have hu' := hS.d 0 rfl
          simp only [newestD, Dt] at hu'
          subst hu'
          walk_at "zS5"
          refine d_tup hS (by simp) (DtL.cons' Dt.int' DtL.nil') ?_
          clear hS; intro t1 H hS
          (try simp only [List.cons_append, List.nil_append] at hS)
          walk_at "zD5"
          have hS' := ‹Sy K (b0 H0) M _ _ _›
          simp only [Int.zero_add, List.cons_append, List.nil_append] at hS'
          refine ⟨_, _, _, hS'.subD (Ds' := [_]) ?_, rfl⟩
          rw [hm]
          simp [moreF, newestD]
        | some g =>
          rw [hf] at hS hm
          have hu' := hS.d 0 rfl
          obtain ⟨c, rfl⟩ := hu'.refT
          walk_at "zD5"
          by_cases hlt : g.2.1 < p.1
          · refine x_iteT (decide_eq_true hlt) ?_
            walk_at "zD5"
            have hS' := ‹Sy K (b0 H0) M _ _ _›
            simp only [Int.zero_add, List.cons_append, List.nil_append] at hS'
            refine ⟨_, _, _, hS'.subD (Ds' := [_]) ?_, rfl⟩
            rw [hm]
            simp [moreF, newestD, hlt]
          · refine x_iteF (decide_eq_false hlt) ?_
            walk_at "zD5"
            refine ⟨_, _, _, hS.subD (Ds' := [_]) ?_, rfl⟩
            rw [hm]
            simp [moreF, hlt]
    · clear hS
      rintro σ' H' ⟨v3, v4, u, hS, rfl⟩
      rw [show (2 : Int).toNat = 2 from rfl, foundF_two] at hS
      walk_at "zS5"
      exact k _ _ hS.fr (hS.d 0 rfl)
theorem ok_record (T : Txt K mg base A) : FnOk P w K mg base CX0 6 A.a_record A.d_record ["memory", "place"] (sp_record A K) := by
  have G_newest := ok_newest (P := P) (w := w) (base := base) T
  refine T.F_record.ok sc_record (fun vs H Q E h => ?_) (fun cdv A_ outer s H0 vs Q E hr h => ?_)
  · obtain ⟨_, h⟩ := h; obtain ⟨_, h⟩ := h; obtain ⟨_, h⟩ := h; obtain ⟨_, h⟩ := h; obtain ⟨_, h⟩ := h; obtain ⟨_, h⟩ := h; obtain ⟨rfl, _⟩ := h; rfl
  · obtain ⟨M, m, dx, l, μ, i, rfl, hdom, hM, hup, ⟨h0, h1, h2⟩, k⟩ := h
    have hu := hu_of hr
    have hu2 := hu2_of hr
    have cl_Memory := T.cl_Memory; have na_Memory_is_up := T.n_Memory_is_up; have na_Memory_left := T.n_Memory_left; have na_Memory_many := T.n_Memory_many; have na_Memory_torn := T.n_Memory_torn; have na_Memory_worths := T.n_Memory_worths
    have hr_newest : Room 5 _ := hr.mono (by decide)
    refine ⟨_, pss_cons (ps_set (i := 2) sc_record.nd rfl (Or.inl rfl) (pe_call G_newest hr_newest (by rfl) T.g_newest T.F_newest.kp T.b_newest .nil pass0 (pa_cons (pv 0) (pa_cons (pv 1) pa_nil))))
      (pss_one (ps_ret (pe_ifExp (pt_cmpR c_isN (pv 2) pe_non (nomark _)) pe_non (pe_ix (b_ixT (K := K)) (pv 2) pe_int (fun _ _ => rfl))))), ?_⟩
    try dsimp only [cxOf, Cx.nox, Cx.wish]
    refine x_st (σ' := [some _, some _, none]) rfl ?_
    have hS := Sy.atD (K := K) hdom
    dsimp only at k
    walk_at "zS3"
    refine use_MI hS hM hup ⟨h0, h1, h2⟩ ?_
    clear hS; intro v H hS _
    (try simp only [List.cons_append, List.nil_append] at hS)
    unfold recordO at k
    cases hn : newestO μ.cells i.toNat with
    | none =>
      rw [hn] at hS k
      have hv := hS.d 0 rfl
      simp only [newestD, Dt] at hv
      subst hv
      walk_at "zS3"
      exact k _ _ hS.fr Dt.non'
    | some g =>
      rw [hn] at hS k
      obtain ⟨b, rfl⟩ := (hS.d 0 rfl).refT
      walk_at "zD3"
      have hS' := ‹Sy K (b0 H0) M H _ [_, _]›
      exact k _ _ hS'.fr (hS'.d 1 rfl)
theorem ok_booked (T : Txt K mg base A) : FnOk P w K mg base CX0 7 A.a_booked A.d_booked ["memory"] (sp_booked A K) := by
  have G_record := ok_record (P := P) (w := w) (base := base) T
  refine T.F_booked.ok sc_booked (fun vs H Q E h => ?_) (fun cdv A_ outer s H0 vs Q E hr h => ?_)
  · obtain ⟨_, h⟩ := h; obtain ⟨_, h⟩ := h; obtain ⟨_, h⟩ := h; obtain ⟨_, h⟩ := h; obtain ⟨_, h⟩ := h; obtain ⟨rfl, _⟩ := h; rfl
  · obtain ⟨M, m, dx, l, μ, rfl, hdom, hM, hup, hl, k⟩ := h
    have hu := hu_of hr
    have hu2 := hu2_of hr
    have tk_FRESH := T.l_FRESH
    have cl_Memory := T.cl_Memory; have na_Memory_is_up := T.n_Memory_is_up; have na_Memory_left := T.n_Memory_left; have na_Memory_many := T.n_Memory_many; have na_Memory_torn := T.n_Memory_torn; have na_Memory_worths := T.n_Memory_worths
    have hr_record : Room 6 _ := hr.mono (by decide)
    refine ⟨_, pss_cons (ps_set (i := 1) sc_booked.nd rfl (Or.inl rfl) (pe_call G_record hr_record (by rfl) T.g_record T.F_record.kp T.b_record .nil pass0 (pa_cons (pv 0) (pa_cons (pe_gi rfl T.c_BOOK) pa_nil))))
      (pss_one (ps_ret (pe_ifExp (pt_cmpR c_isN (pv 1) pe_non (nomark _)) (pe_gt rfl T.g_FRESH) (pv 1)))), ?_⟩
    try dsimp only [cxOf, Cx.nox, Cx.wish]
    refine x_st (σ' := [some _, none]) rfl ?_
    have hS := Sy.atD (K := K) hdom
    obtain ⟨hm, hc, hne⟩ := _root_.id hM
    walk_at "zS2"
    refine use_MI hS hM hup ⟨by decide, by show (4 : Int) + 12 ≤ _; omega, by omega⟩ ?_
    clear hS; intro v H hS f
    (try simp only [List.cons_append, List.nil_append] at hS)
    have hM := hM.ex f
    cases e : recordO μ.cells (4 : Int).toNat with
    | none =>
      rw [e] at hS
      have hd := hS.d 0 rfl
      simp only [recordD, Dt] at hd
      subst hd
      walk_at "zS2"
      have k := k (.ref A.c_FRESH) H hS.fr
      rw [show bookedO μ.cells = (0, 0, 0) by unfold bookedO; rw [show recordO μ.cells 4 = none from e]; rfl] at k
      exact k (Dt.tupI ⟨TupK.st tk_FRESH, .inr fun _ => TupK.st tk_FRESH⟩ (DtL.cons' Dt.int' (DtL.cons' Dt.int' (DtL.cons' Dt.int' DtL.nil'))))
    | some r =>
      rw [e] at hS
      have hd := hS.d 0 rfl
      obtain ⟨p, rfl, st⟩ := Dt.rec r hd
      walk_at "zS2"
      have k := k (.ref p) H hS.fr
      rw [show bookedO μ.cells = r by unfold bookedO; rw [show recordO μ.cells 4 = some r from e]; rfl] at k
      exact k hd
theorem ok_head_of (T : Txt K mg base A) : FnOk P w K mg base CX0 4 A.a_head_of A.d_head_of ["memory", "slot"] (sp_head_of A K) := by
  have G_Memory_row := ok_Memory_row (P := P) (w := w) (base := base) T
  refine T.F_head_of.ok sc_head_of (fun vs H Q E h => ?_) (fun cdv A_ outer s H0 vs Q E hr h => ?_)
  · obtain ⟨_, h⟩ := h; obtain ⟨_, h⟩ := h; obtain ⟨_, h⟩ := h; obtain ⟨_, h⟩ := h; obtain ⟨_, h⟩ := h; obtain ⟨rfl, _⟩ := h; rfl
  · obtain ⟨m, dx, l, μ, s, rfl, hM, hup, hl, hs, k⟩ := h
    have hu := hu_of hr
    have hu2 := hu2_of hr
    have tk_SLOTS := T.l_SLOTS
    have cl_Memory := T.cl_Memory; have na_Memory_is_up := T.n_Memory_is_up; have na_Memory_left := T.n_Memory_left; have na_Memory_many := T.n_Memory_many; have na_Memory_torn := T.n_Memory_torn; have na_Memory_worths := T.n_Memory_worths
    have hr_Memory_row : Room 3 _ := hr.mono (by decide)
    refine ⟨_, pss_one (ps_ret (pe_meth (pv 0) T.cl_Memory T.m_Memory_row G_Memory_row hr_Memory_row T.b_Memory_row .nil pass0 (pa_cons (pe_ix (b_ixT (K := K)) (pe_gt rfl T.g_SLOTS) (pv 1) (fun _ _ => rfl)) (pa_cons (pe_gi rfl T.c_HEAD) pa_nil)))), ?_⟩
    try dsimp only [cxOf, Cx.nox, Cx.wish]
    refine x_st (σ' := [some _, some _]) rfl ?_
    have hb := slotB_b hs
    obtain ⟨hm, hc, hne⟩ := _root_.id hM
    walk_at "zS2"
    refine x_ixT (TupK.st tk_SLOTS) (slot_at hs) ?_
    walk_at "zS2"
    exact ⟨m, dx, l, μ, slotB s, 7, rfl, hM, hup, by omega, by decide, by omega, by omega, k⟩
theorem ok_parts_of (T : Txt K mg base A) : FnOk P w K mg base CX0 4 A.a_parts_of A.d_parts_of ["memory", "slot", "many"] (sp_parts_of A K) := by
  have G_Memory_row := ok_Memory_row (P := P) (w := w) (base := base) T
  refine T.F_parts_of.ok sc_parts_of (fun vs H Q E h => ?_) (fun cdv A_ outer s H0 vs Q E hr h => ?_)
  · obtain ⟨_, h⟩ := h; obtain ⟨_, h⟩ := h; obtain ⟨_, h⟩ := h; obtain ⟨_, h⟩ := h; obtain ⟨_, h⟩ := h; obtain ⟨_, h⟩ := h; obtain ⟨rfl, _⟩ := h; rfl
  · obtain ⟨m, dx, l, μ, s, n, rfl, hM, hup, hl, hs, n0, n1, k⟩ := h
    have hu := hu_of hr
    have hu2 := hu2_of hr
    have tk_SLOTS := T.l_SLOTS
    have cl_Memory := T.cl_Memory; have na_Memory_is_up := T.n_Memory_is_up; have na_Memory_left := T.n_Memory_left; have na_Memory_many := T.n_Memory_many; have na_Memory_torn := T.n_Memory_torn; have na_Memory_worths := T.n_Memory_worths
    have hr_Memory_row : Room 3 _ := hr.mono (by decide)
    refine ⟨_, pss_one (ps_ret (pe_meth (pv 0) T.cl_Memory T.m_Memory_row G_Memory_row hr_Memory_row T.b_Memory_row .nil pass0 (pa_cons (pe_op op_add (pe_ix (b_ixT (K := K)) (pe_gt rfl T.g_SLOTS) (pv 1) (fun _ _ => rfl)) (pe_gi rfl T.c_HEAD)) (pa_cons (pv 2) pa_nil)))), ?_⟩
    try dsimp only [cxOf, Cx.nox, Cx.wish]
    refine x_st (σ' := [some _, some _, some _]) rfl ?_
    have hb := slotB_b hs
    obtain ⟨hm, hc, hne⟩ := _root_.id hM
    walk_at "zS3"
    refine x_ixT (TupK.st tk_SLOTS) (slot_at hs) ?_
    walk_at "zS3"
    exact ⟨m, dx, l, μ, slotB s + 7, n, rfl, hM, hup, by omega, n0, by omega, by omega, k⟩
theorem ok_count (T : Txt K mg base A) : FnOk P w K mg base CX0 4 A.a_count A.d_count ["memory", "place"] (sp_count A K) := by
  have G_Memory_row := ok_Memory_row (P := P) (w := w) (base := base) T
  refine T.F_count.ok sc_count (fun vs H Q E h => ?_) (fun cdv A_ outer s H0 vs Q E hr h => ?_)
  · obtain ⟨_, h⟩ := h; obtain ⟨_, h⟩ := h; obtain ⟨_, h⟩ := h; obtain ⟨_, h⟩ := h; obtain ⟨_, h⟩ := h; obtain ⟨rfl, _⟩ := h; rfl
  · obtain ⟨m, dx, l, μ, i, rfl, hM, hup, h0, h2, hz, k⟩ := h
    have hu := hu_of hr
    have hu2 := hu2_of hr
    have cl_Memory := T.cl_Memory; have na_Memory_is_up := T.n_Memory_is_up; have na_Memory_left := T.n_Memory_left; have na_Memory_many := T.n_Memory_many; have na_Memory_torn := T.n_Memory_torn; have na_Memory_worths := T.n_Memory_worths
    have hr_Memory_row : Room 3 _ := hr.mono (by decide)
    refine ⟨_, pss_cons (ps_setLc (i := 2) (own := [("number", 3)]) (g := gName 3) (by rfl) sc_count.nd rfl rfl (sw_true rfl rfl rfl (by decide +kernel)) (b_iL (K := K) (pe_meth (pv 0) T.cl_Memory T.m_Memory_row G_Memory_row hr_Memory_row T.b_Memory_row .nil pass0 (pa_cons (pv 1) (pa_cons (pe_gi rfl T.c_CELLS) pa_nil)))) (blkOk_by (N := ["memory", "place", "some", "number"]) (sc := defScope s_count) (by decide +kernel)) (fun _ _ _ _ _ => pg_name (i := 3) sc_count.nd rfl (by first | exact Or.inl rfl | exact Or.inr rfl)) (fun _ _ _ _ _ => (pts_one (pt_cmpR c_notN (pv 3) pe_non (nomark _)))) (fun _ _ _ _ _ => (pv 3)))
      (pss_one (ps_ret (pe_ifExp (pt_cmpR (b_neD (K := K) hr.units) (pv 2) (pe_lst pa_nil) (nomark _)) (pe_callB (b_max (K := K) rfl) (by rfl) T.z_max (by decide +kernel) (pa_cons (pv 2) pa_nil)) pe_non))), ?_⟩
    try dsimp only [cxOf, Cx.nox, Cx.wish]
    refine x_st (σ' := [some _, some _, none, none]) rfl ?_
    have hS : Sy K (b0 H0) [] H0 [] [] := Sy.start _ _ _ (fun _ z => nomatch z) (by simp) (fun _ z => nomatch z) (fun _ z => nomatch z)
    obtain ⟨hm, hc, hne⟩ := _root_.id hM
    walk_at "zS4"
    refine ⟨m, dx, l, μ, i, 2, rfl, hM, hup, h0, by decide, by omega, hz, fun p H f hp e => ?_⟩
    rw [show (2 : Int).toNat = 2 from rfl, two_at μ.cells (by omega)] at e
    have hS := hS.exN f hp e
    generalize μ.cells.getD i.toNat none = ca at e hS k
    generalize μ.cells.getD (i.toNat + 1) none = cb at e hS k
    (try simp only [List.cons_append, List.nil_append] at hS)
    walk_at "zS4"
    refine lc_whole hS 0 rfl (by simp) ?_ ?_ ?_
    · intro c D acc H' Q' hS kk
      walk_at "zS4"
      refine q_b ?_ (kk _ hS)
      cases c <;> rfl
    · intro n D acc H' Q' hS kk
      walk_at "zS4"
      exact kk _ hS
    clear hS; intro D H hD hS
    (try simp only [List.cons_append, List.nil_append] at hS)
    walk_at "zS4"
    (refine ⟨by simp only [List.length_cons, List.length_nil]; decide, n_al hS ?_⟩; clear hS; intro e0 H e0_n e0_0 hS; simp only [List.cons_append, List.nil_append] at hS)
    refine n_neLL (ns := [ca, cb].filterMap id) (ms := []) (hS.sl 1 rfl) (hS.sl 2 rfl) ?_
    by_cases he : [ca, cb].filterMap id = []
    · rw [count_none he] at k
      refine x_k ?_
      refine x_iteF (nd_of he) ?_
      walk_at "zS4"
      exact k _ hS.fr
    · refine x_k ?_
      refine x_iteT (nd_not he) ?_
      walk_at "zS4"
      refine ⟨_, [ca, cb].filterMap id, rfl, hS.sl 1 rfl, List.length_pos_iff.mpr he, fun m hm hy => ?_⟩
      rw [count_max hm hy] at k
      exact k _ hS.fr
theorem ok_floor_of (T : Txt K mg base A) : FnOk P w K mg base CX0 5 A.a_floor_of A.d_floor_of ["memory", "place"] (sp_floor_of A K) := by
  have G_count := ok_count (P := P) (w := w) (base := base) T
  refine T.F_floor_of.ok sc_floor_of (fun vs H Q E h => ?_) (fun cdv A_ outer s H0 vs Q E hr h => ?_)
  · obtain ⟨_, h⟩ := h; obtain ⟨_, h⟩ := h; obtain ⟨_, h⟩ := h; obtain ⟨_, h⟩ := h; obtain ⟨_, h⟩ := h; obtain ⟨rfl, _⟩ := h; rfl
  · obtain ⟨m, dx, l, μ, i, rfl, hM, hup, hl, h0, h1, k⟩ := h
    have hu := hu_of hr
    have hu2 := hu2_of hr
    have cl_Memory := T.cl_Memory; have na_Memory_is_up := T.n_Memory_is_up; have na_Memory_left := T.n_Memory_left; have na_Memory_many := T.n_Memory_many; have na_Memory_torn := T.n_Memory_torn; have na_Memory_worths := T.n_Memory_worths
    have hr_count : Room 4 _ := hr.mono (by decide)
    refine ⟨_, pss_cons (ps_set (i := 2) sc_floor_of.nd rfl (Or.inl rfl) (pe_call G_count hr_count (by rfl) T.g_count T.F_count.kp T.b_count .nil pass0 (pa_cons (pv 0) (pa_cons (pv 1) pa_nil))))
      (pss_one (ps_ret (pe_ifExp (pt_cmpR c_isN (pv 2) pe_non (nomark _)) pe_int (pv 2)))), ?_⟩
    try dsimp only [cxOf, Cx.nox, Cx.wish]
    refine x_st (σ' := [some _, some _, none]) rfl ?_
    obtain ⟨hm, hc, hne⟩ := _root_.id hM
    walk_at "zS3"
    refine ⟨m, dx, l, μ, i, rfl, hM, hup, h0, by omega, by omega, fun H f => ?_⟩
    have k := k H f
    unfold floorO at k
    generalize countF (μ.cells.getD i.toNat none) (μ.cells.getD (i.toNat + 1) none) = c at k ⊢
    cases c with
    | none =>
      walk_at "zS3"
      exact k
    | some n =>
      walk_at "zS3"
      exact k
theorem ok_seal (T : Txt K mg base A) : FnOk P w K mg base CX0 1 A.a_seal A.d_seal ["key", "head"] (sp_seal K) := by
  refine T.F_seal.ok sc_seal (fun vs H Q E h => ?_) (fun cdv A_ outer s H0 vs Q E hr h => ?_)
  · obtain ⟨_, h⟩ := h; obtain ⟨_, h⟩ := h; obtain ⟨_, h⟩ := h; obtain ⟨rfl, _⟩ := h; rfl
  · obtain ⟨key, p, ns, rfl, k0, k1, hx, k⟩ := h
    have hu := hu_of hr
    have hu2 := hu2_of hr
    refine ⟨_, pss_cons (ps_set (i := 2) sc_seal.nd rfl (Or.inl rfl) (pv 0))
      (pss_cons (ps_for PassesOwn.never rfl (b_iE (K := K) (pv 1)) (pg_name (i := 3) sc_seal.nd rfl (Or.inl rfl)) (pss_one (ps_set (i := 2) sc_seal.nd rfl (Or.inl rfl) (pe_op op_mod (pe_op op_add (pe_op op_add (pe_op op_mul (pv 2) (pv 0)) (pv 3)) pe_int) (pe_gi rfl T.c_PRIME)))))
      (pss_one (ps_ret (pv 2)))), ?_⟩
    try dsimp only [cxOf, Cx.nox, Cx.wish]
    refine x_st (σ' := [some _, some _, none, none]) rfl ?_
    walk_at "zS4"
    refine x_forE (by with_unfolding_all rfl) hx (fun j σ' H0' => H0' = H0 ∧ ∃ v, σ' = [some (.int key), some (.ref p), some (.int (sealF key (ns.take j))), v]) ⟨rfl, _, rfl⟩ (fun j σ' H0' z _ => by rw [z.1]; exact ⟨id, id⟩) ?_ ?_
    · rintro j x σ' H0' hj ⟨rfl, v, rfl⟩
      obtain ⟨n, ho, rfl⟩ := of_map hj
      have hb := sealF_lt key (ns.take j) k0 k1
      walk_at "zS4"
      refine ⟨rfl, some (.int n), ?_⟩
      rw [take_more ho, sealF_more]; rfl
    · rintro σ' H0' ⟨rfl, v, rfl⟩
      rw [List.length_map, List.take_length]
      walk_at "zS4"
      exact k
theorem ok_why_not (T : Txt K mg base A) : FnOk P w K mg base CX0 6 A.a_why_not A.d_why_not ["memory", "keys", "slot"] (sp_why_not A K) := by
  have G_head_of := ok_head_of (P := P) (w := w) (base := base) T
  have G_parts_of := ok_parts_of (P := P) (w := w) (base := base) T
  have G_sums := ok_sums (P := P) (w := w) (base := base) T
  have G_floor_of := ok_floor_of (P := P) (w := w) (base := base) T
  have G_seal := ok_seal (P := P) (w := w) (base := base) T
  refine T.F_why_not.ok sc_why_not (fun vs H Q E h => ?_) (fun cdv A_ outer s H0 vs Q E hr h => ?_)
  · obtain ⟨_, h⟩ := h; obtain ⟨_, h⟩ := h; obtain ⟨_, h⟩ := h; obtain ⟨_, h⟩ := h; obtain ⟨_, h⟩ := h; obtain ⟨_, h⟩ := h; obtain ⟨_, h⟩ := h; obtain ⟨_, h⟩ := h; obtain ⟨rfl, _⟩ := h; rfl
  · obtain ⟨M, m, dx, l, μ, ks, v, s, rfl, hdom, hM, hup, hl, hbd, hv, hg, hs, k⟩ := h
    have hu := hu_of hr
    have hu2 := hu2_of hr
    have cl_Memory := T.cl_Memory; have na_Memory_is_up := T.n_Memory_is_up; have na_Memory_left := T.n_Memory_left; have na_Memory_many := T.n_Memory_many; have na_Memory_torn := T.n_Memory_torn; have na_Memory_worths := T.n_Memory_worths
    have hr_head_of : Room 4 _ := hr.mono (by decide)
    have hr_parts_of : Room 4 _ := hr.mono (by decide)
    have hr_sums : Room 1 _ := hr.mono (by decide)
    have hr_floor_of : Room 5 _ := hr.mono (by decide)
    have hr_seal : Room 1 _ := hr.mono (by decide)
    refine ⟨_, pss_cons (ps_set (i := 3) sc_why_not.nd rfl (Or.inl rfl) (pe_call G_head_of hr_head_of (by rfl) T.g_head_of T.F_head_of.kp T.b_head_of .nil pass0 (pa_cons (pv 0) (pa_cons (pv 2) pa_nil))))
      (pss_cons (ps_if (PW.pt (pw_or (pt_cmpR (b_in (K := K)) pe_non (pv 3) (by rfl)) (pw_or1 (pt_cmpR op_ne (pe_ix (b_ixL (K := K)) (pv 3) pe_int (fun _ _ => rfl)) (pe_gi rfl T.c_LAID) (nomark _))))) (pss_one (ps_ret pe_str)) pss_nil)
      (pss_cons (ps_asg (pe_slice (b_slL (K := K)) (pv 3) (po_some pe_int) po_none) (b_lst (K := K) rfl (pgs_cons (pg_name (i := 4) sc_why_not.nd rfl (Or.inl rfl)) (pgs_cons (pg_name (i := 5) sc_why_not.nd rfl (Or.inl rfl)) (pgs_cons (pg_name (i := 6) sc_why_not.nd rfl (Or.inl rfl)) (pgs_cons (pg_name (i := 7) sc_why_not.nd rfl (Or.inl rfl)) (pgs_cons (pg_name (i := 8) sc_why_not.nd rfl (Or.inl rfl)) (pgs_cons (pg_name (i := 9) sc_why_not.nd rfl (Or.inl rfl)) pgs_nil))))))))
      (pss_cons (ps_if (pt_not (pt_chain op_le op_le pe_int (pv 5) (pe_gi rfl T.c_MOST_PARTS))) (pss_one (ps_ret pe_str)) pss_nil)
      (pss_cons (ps_if (pt_cmpR (b_neD (K := K) hr.units) (pe_call G_sums hr_sums (by rfl) T.g_sums T.F_sums.kp T.b_sums .nil pass0 (pa_cons (pe_call G_parts_of hr_parts_of (by rfl) T.g_parts_of T.F_parts_of.kp T.b_parts_of .nil pass0 (pa_cons (pv 0) (pa_cons (pv 2) (pa_cons (pv 5) pa_nil)))) pa_nil)) (pe_tup (pa_cons (pv 6) (pa_cons (pv 7) pa_nil))) (nomark _)) (pss_one (ps_ret pe_str)) pss_nil)
      (pss_cons (ps_if (pt_not (pt_chain op_le op_lt (pe_call G_floor_of hr_floor_of (by rfl) T.g_floor_of T.F_floor_of.kp T.b_floor_of .nil pass0 (pa_cons (pv 0) (pa_cons (pe_gi rfl T.c_KEY_FLOOR) pa_nil))) (pv 8) (pe_callB (b_len (K := K)) (by rfl) T.z_len (by decide +kernel) (pa_cons (pv 1) pa_nil)))) (pss_one (ps_ret pe_str)) pss_nil)
      (pss_cons (ps_if (pt_cmpR op_ne (pe_call G_seal hr_seal (by rfl) T.g_seal T.F_seal.kp T.b_seal .nil pass0 (pa_cons (pe_ix (b_ixT (K := K)) (pv 1) (pv 8) (fun _ _ => rfl)) (pa_cons (pe_slice (b_slL (K := K)) (pv 3) (po_some pe_int) (po_some (pe_op op_sub (pe_gi rfl T.c_HEAD) pe_int))) pa_nil))) (pv 9) (nomark _)) (pss_one (ps_ret pe_str)) pss_nil)
      (pss_one (ps_ret (pe_ifExp (pt_cmpR op_lt (pv 4) (pe_call G_floor_of hr_floor_of (by rfl) T.g_floor_of T.F_floor_of.kp T.b_floor_of .nil pass0 (pa_cons (pv 0) (pa_cons (pe_gi rfl T.c_FLOOR) pa_nil))) (nomark _)) pe_str pe_str))))))))), ?_⟩
    try dsimp only [cxOf, Cx.nox, Cx.wish]
    refine x_st (σ' := [some _, some _, some _, none, none, none, none, none, none, none]) rfl ?_
    have hb := slotB_b hs
    obtain ⟨hm, hc, hne⟩ := _root_.id hM
    have hS := (Sy.atD (K := K) hdom).addD hv
    obtain ⟨bk, rfl⟩ := hv.refT
    (try simp only [List.cons_append, List.nil_append] at hS)
    walk_at "zS10"
    refine ⟨m, dx, l, μ, s, rfl, hM, hup, hl, hs, fun p H f hp e => ?_⟩
    have hS := hS.exN f hp e
    (try simp only [List.cons_append, List.nil_append] at hS)
    have hl7 := headL_len hl hs
    by_cases hn : none ∈ headL μ.cells s
    · rw [why_none hn] at k
      walk_at "zS10"
      refine n_in (by walk_at "zsqe") rfl (flat_ov _) ?_
      rw [inV_none]
      walk_at "zS10"
      refine x_iteT (decide_eq_true hn) ?_
      walk_at "zS10"
      exact k _ hS.fr
    · obtain ⟨mk, ve, many, one, two, n, sl, hh⟩ := row7 hl7 hn
      rw [why_some hh] at k
      rw [hh] at hS hn
      have hbm : ∀ x, some x ∈ headL μ.cells s → 0 ≤ x ∧ x ≤ 9972 := fun x hx => hbd x (List.mem_of_mem_drop (List.mem_of_mem_take hx))
      rw [hh] at hbm
      simp only [List.map_cons, List.map_nil, ov] at hS
      unfold whyH at k
      walk_at "zS10"
      refine n_in (by walk_at "zsqe") rfl (by simp [flatV]) ?_
      walk_at "zS10"
      refine x_ite (fun h1 => ?_) (fun h1 => ?_)
      · rw [if_pos (by simpa using h1)] at k
        walk_at "zS10"
        exact k _ hS.fr
      rw [if_neg (by simpa using h1)] at k
      walk_at "zS10"
      (refine n_al hS ?_; clear hS; intro q H q_n q_0 hS; simp only [List.cons_append, List.nil_append] at hS)
      simp only [cut7_1] at hS
      refine x_glst (hS.sl 1 rfl) rfl ?_
      walk_at "zS10"
      by_cases h2 : 1 ≤ many ∧ many ≤ 12
      · rw [if_neg (fun z => z h2)] at k
        have h20 := h2.1
        have h21 := h2.2
        walk_at "zC10"
        refine ⟨m, dx, l, μ, s, many, rfl, hM.ex hS.fr, hup, hl, hs, by omega, h21, fun p2 H f hp2 e2 => ?_⟩
        have hS := hS.exN f hp2 e2
        (try simp only [List.cons_append, List.nil_append] at hS)
        have hpl : (partsL μ.cells s many).length ≤ 12 := by unfold partsL; rw [List.length_take]; omega
        generalize partsL μ.cells s many = px at hS k hpl
        by_cases hpn : none ∈ px
        · rw [allI_none.mpr hpn, if_pos (by simp)] at k
          walk_at "zS10"
          refine use_sumsN (by walk_at "zsqe") hpn ?_
          walk_at "zS10"
          refine d_tup hS (by simp) (DtL.cons' Dt.int' (DtL.cons' Dt.int' DtL.nil')) ?_
          clear hS; intro t1 H hS
          refine n_neD .non (hS.d 1 rfl).dp (by decide +kernel) (by simp [SeqAt.shaped, PyData.canLay0, PyData.canLayAll0, PyData.depth, PyData.depthAll]) ?_
          simp only [PyData.eqv]
          walk_at "zS10"
          exact k _ hS.fr
        · obtain ⟨ns, rfl⟩ := whole_of hpn
          rw [allI_some] at k
          rw [← ints_ov] at hS
          walk_at "zS10"
          refine use_sums hS (.inl (hS.sl 2 rfl)) ?_
          clear hS; intro t1 H ht1 hS
          (try simp only [List.cons_append, List.nil_append] at hS)
          walk_at "zS10"
          (refine ⟨by simp only [List.length_cons, List.length_nil]; decide, n_al hS ?_⟩; clear hS; intro t2 H t2_n t2_0 hS; simp only [List.cons_append, List.nil_append] at hS)
          refine n_neS (s := sumsF ns) (t := (one, two)) (hS.st 3 rfl) (hS.st 4 rfl) ?_
          refine ⟨_, rfl, ?_⟩
          by_cases he : sumsF ns = (one, two)
          · rw [if_neg (by simp [he])] at k
            refine x_iteF (nd_of he) ?_
            have hn0 := hbm n (by simp)
            have hfb := floorO_b hbd 2
            have hfb0 := floorO_b hbd 0
            walk_at "zS10"
            refine ⟨m, dx, l, μ, 2, rfl, hM.ex hS.fr, hup, hl, by decide, by decide, fun H f => ?_⟩
            have hS := hS.ex f
            walk_at "zS10"
            by_cases h3 : floorO μ.cells 2 ≤ n ∧ n < ks.length
            · rw [if_neg (fun z => z h3)] at k
              have hk := key_at hg hn0.1 h3.2
              refine x_iteT (decide_eq_true h3.1) ?_
              walk_at "zS10"
              refine d_lenT (hS.d 0 rfl) ?_
              rw [List.length_map]
              walk_at "zS10"
              refine x_iteF (by rw [decide_eq_true h3.2]; rfl) ?_
              walk_at "zS10"
              refine d_ixTI (hS.d 0 rfl) hk.1 ?_
              walk_at "zS10"
              (refine n_al hS ?_; clear hS; intro q3 H q3_n q3_0 hS; simp only [List.cons_append, List.nil_append] at hS)
              simp only [show (7 : Int) - 1 = 6 from rfl, cut7_16] at hS
              walk_at "zS10"
              refine use_seal (ns := [ve, many, one, two, n]) (.inl (hS.sl 5 rfl)) (by omega) (by omega) ?_
              walk_at "zS10"
              refine x_ite (fun h5 => ?_) (fun h5 => ?_)
              · rw [if_pos (by simpa using h5)] at k
                walk_at "zS10"
                exact k _ hS.fr
              · rw [if_neg (by simpa using h5)] at k
                walk_at "zS10"
                refine ⟨m, dx, l, μ, 0, rfl, hM.ex hS.fr, hup, hl, by decide, by decide, fun H f => ?_⟩
                have hS := hS.ex f
                walk_at "zS10"
                refine x_ite (fun h6 => ?_) (fun h6 => ?_)
                · have h7 : ve < floorO μ.cells 0 := of_decide_eq_true h6
                  rw [if_pos h7] at k
                  walk_at "zS10"
                  exact k _ hS.fr
                · have h7 : ¬ ve < floorO μ.cells 0 := of_decide_eq_false h6
                  rw [if_neg h7] at k
                  walk_at "zS10"
                  exact k _ hS.fr
            · rw [if_pos h3] at k
              by_cases h4 : floorO μ.cells 2 ≤ n
              · have h5 : ¬ n < ks.length := fun z => h3 ⟨h4, z⟩
                refine x_iteT (decide_eq_true h4) ?_
                walk_at "zS10"
                refine d_lenT (hS.d 0 rfl) ?_
                rw [List.length_map]
                walk_at "zS10"
                refine x_iteT (by rw [decide_eq_false h5]; rfl) ?_
                walk_at "zS10"
                exact k _ hS.fr
              · refine x_iteF (decide_eq_false h4) ?_
                walk_at "zS10"
                exact k _ hS.fr
          · rw [if_pos (by simp [he])] at k
            refine x_iteT (nd_not he) ?_
            walk_at "zS10"
            exact k _ hS.fr
      · rw [if_pos h2] at k
        by_cases h20 : 1 ≤ many
        · have h21 : ¬ many ≤ 12 := fun z => h2 ⟨h20, z⟩
          walk_at "zC10"
          exact k _ hS.fr
        · walk_at "zC10"
          exact k _ hS.fr
theorem ok_judged (T : Txt K mg base A) : FnOk P w K mg base CX0 7 A.a_judged A.d_judged ["memory", "keys", "slot"] (sp_judged A K) := by
  have G_why_not := ok_why_not (P := P) (w := w) (base := base) T
  have G_Memory_read := ok_Memory_read (P := P) (w := w) (base := base) T
  refine T.F_judged.ok sc_judged (fun vs H Q E h => ?_) (fun cdv A_ outer s H0 vs Q E hr h => ?_)
  · obtain ⟨_, h⟩ := h; obtain ⟨_, h⟩ := h; obtain ⟨_, h⟩ := h; obtain ⟨_, h⟩ := h; obtain ⟨_, h⟩ := h; obtain ⟨_, h⟩ := h; obtain ⟨_, h⟩ := h; obtain ⟨_, h⟩ := h; obtain ⟨rfl, _⟩ := h; rfl
  · obtain ⟨M, m, dx, l, μ, ks, v, s, rfl, hdom, hM, hup, hl, hbd, hv, hg, hs, k⟩ := h
    have hu := hu_of hr
    have hu2 := hu2_of hr
    have tk_SLOTS := T.l_SLOTS
    have cl_Memory := T.cl_Memory; have na_Memory_is_up := T.n_Memory_is_up; have na_Memory_left := T.n_Memory_left; have na_Memory_many := T.n_Memory_many; have na_Memory_torn := T.n_Memory_torn; have na_Memory_worths := T.n_Memory_worths
    have hr_why_not : Room 6 _ := hr.mono (by decide)
    have hr_Memory_read : Room 2 _ := hr.mono (by decide)
    refine ⟨_, pss_cons (ps_set (i := 3) sc_judged.nd rfl (Or.inl rfl) (pe_call G_why_not hr_why_not (by rfl) T.g_why_not T.F_why_not.kp T.b_why_not .nil pass0 (pa_cons (pv 0) (pa_cons (pv 1) (pa_cons (pv 2) pa_nil)))))
      (pss_one (ps_ret (pe_ifExp (pt_cmpR op_eq (pv 3) pe_str (nomark _)) (pe_tup (pa_cons pe_str (pa_cons (pe_meth (pv 0) T.cl_Memory T.m_Memory_read G_Memory_read hr_Memory_read T.b_Memory_read .nil passL (pa_cons (pe_op op_add (pe_ix (b_ixT (K := K)) (pe_gt rfl T.g_SLOTS) (pv 2) (fun _ _ => rfl)) pe_int) pa_nil)) pa_nil))) (pe_tup (pa_cons (pv 3) pa_nil))))), ?_⟩
    try dsimp only [cxOf, Cx.nox, Cx.wish]
    refine x_st (σ' := [some _, some _, some _, none]) rfl ?_
    have hb := slotB_b hs
    obtain ⟨hm, hc, hne⟩ := _root_.id hM
    have hS := (Sy.atD (K := K) hdom).addD hv
    (try simp only [List.cons_append, List.nil_append] at hS)
    unfold judgedD at k
    walk_at "zS4"
    refine ⟨M, m, dx, l, μ, ks, v, s, rfl, hdom, hM, hup, hl, hbd, hv, hg, hs, fun H f => ?_⟩
    have hS := hS.ex f
    have hM := hM.ex f
    obtain ⟨hm, hc, hne⟩ := _root_.id hM
    walk_at "zS4"
    by_cases hw : whyF μ.cells ks s = ""
    · rw [if_pos hw] at k
      refine x_iteT (by rw [hw]; rfl) ?_
      walk_at "zS4"
      refine x_ixT (TupK.st tk_SLOTS) (slot_at hs) ?_
      walk_at "zS4"
      refine ⟨m, dx, l, μ, slotB s + 1, rfl, hM, fun _ _ _ => ?_, fun z => (z ⟨by omega, by omega⟩).elim, fun _ _ z => by rw [hup] at z; cases z⟩
      walk_at "zS4"
      refine d_tup hS (by simp) (DtL.cons' Dt.str' (DtL.cons' (dt_od _) DtL.nil')) ?_
      clear hS; intro t H hS
      exact k _ _ hS.fr (hS.d 1 rfl)
    · rw [if_neg hw] at k
      refine x_iteF (by simpa using hw) ?_
      walk_at "zS4"
      refine d_tup hS (by simp) (DtL.cons' Dt.str' DtL.nil') ?_
      clear hS; intro t H hS
      exact k _ _ hS.fr (hS.d 1 rfl)
theorem ok_why_refused (T : Txt K mg base A) : FnOk P w K mg base CX0 8 A.a_why_refused A.d_why_refused ["memory", "keys", "manifest"] (sp_why_refused A K) := by
  have G_booked := ok_booked (P := P) (w := w) (base := base) T
  have G_judged := ok_judged (P := P) (w := w) (base := base) T
  have G_floor_of := ok_floor_of (P := P) (w := w) (base := base) T
  have G_seal := ok_seal (P := P) (w := w) (base := base) T
  refine T.F_why_refused.ok sc_why_refused (fun vs H Q E h => ?_) (fun cdv A_ outer s H0 vs Q E hr h => ?_)
  · obtain ⟨_, h⟩ := h; obtain ⟨_, h⟩ := h; obtain ⟨_, h⟩ := h; obtain ⟨_, h⟩ := h; obtain ⟨_, h⟩ := h; obtain ⟨_, h⟩ := h; obtain ⟨_, h⟩ := h; obtain ⟨_, h⟩ := h; obtain ⟨_, h⟩ := h; obtain ⟨rfl, _⟩ := h; rfl
  · obtain ⟨M, m, dx, l, μ, ks, v, mn, u, rfl, hdom, hM, hup, hl, hbd, hbo, hv, hg, hmu, gm, k⟩ := h
    have hu := hu_of hr
    have hu2 := hu2_of hr
    have cl_Memory := T.cl_Memory; have na_Memory_is_up := T.n_Memory_is_up; have na_Memory_left := T.n_Memory_left; have na_Memory_many := T.n_Memory_many; have na_Memory_torn := T.n_Memory_torn; have na_Memory_worths := T.n_Memory_worths
    have hr_booked : Room 7 _ := hr.mono (by decide)
    have hr_judged : Room 7 _ := hr.mono (by decide)
    have hr_floor_of : Room 5 _ := hr.mono (by decide)
    have hr_seal : Room 1 _ := hr.mono (by decide)
    refine ⟨_, pss_cons (ps_asg (pe_slice (b_slT (K := K)) (pv 2) (po_some pe_int) (po_some pe_int)) (pg_tup (by rfl) (pgs_cons (pg_name (i := 3) sc_why_refused.nd rfl (Or.inl rfl)) (pgs_cons (pg_name (i := 4) sc_why_refused.nd rfl (Or.inl rfl)) pgs_nil))))
      (pss_cons (ps_set (i := 5) sc_why_refused.nd rfl (Or.inl rfl) (pe_call G_judged hr_judged (by rfl) T.g_judged T.F_judged.kp T.b_judged .nil pass0 (pa_cons (pv 0) (pa_cons (pv 1) (pa_cons (pe_ix (b_ixT (K := K)) (pe_call G_booked hr_booked (by rfl) T.g_booked T.F_booked.kp T.b_booked .nil pass0 (pa_cons (pv 0) pa_nil)) pe_int (fun _ _ => rfl)) pa_nil)))))
      (pss_cons (ps_if (pt_cmpR op_ne (pe_ix (b_ixT (K := K)) (pv 5) pe_int (fun _ _ => rfl)) pe_str (nomark _)) (pss_one (ps_ret pe_str)) pss_nil)
      (pss_cons (ps_if (pt_not (pt_chain op_le op_lt (pe_call G_floor_of hr_floor_of (by rfl) T.g_floor_of T.F_floor_of.kp T.b_floor_of .nil pass0 (pa_cons (pv 0) (pa_cons (pe_gi rfl T.c_KEY_FLOOR) pa_nil))) (pv 3) (pe_callB (b_len (K := K)) (by rfl) T.z_len (by decide +kernel) (pa_cons (pv 1) pa_nil)))) (pss_one (ps_ret pe_str)) pss_nil)
      (pss_cons (ps_if (pt_cmpR op_ne (pe_call G_seal hr_seal (by rfl) T.g_seal T.F_seal.kp T.b_seal .nil pass0 (pa_cons (pe_ix (b_ixT (K := K)) (pv 1) (pv 3) (fun _ _ => rfl)) (pa_cons (pe_slice (b_slT (K := K)) (pv 2) po_none (po_some pe_int)) pa_nil))) (pv 4) (nomark _)) (pss_one (ps_ret pe_str)) pss_nil)
      (pss_one (ps_ret (pe_ifExp (PW.pt (pw_or (pt_cmpR op_lt (pe_ix (b_ixT (K := K)) (pv 2) pe_int (fun _ _ => rfl)) (pe_call G_floor_of hr_floor_of (by rfl) T.g_floor_of T.F_floor_of.kp T.b_floor_of .nil pass0 (pa_cons (pv 0) (pa_cons (pe_gi rfl T.c_FLOOR) pa_nil))) (nomark _)) (pw_or1 (pt_cmpR op_le (pe_ix (b_ixT (K := K)) (pv 2) pe_int (fun _ _ => rfl)) (pe_ix (b_ixT (K := K)) (pv 5) pe_int (fun _ _ => rfl)) (nomark _))))) pe_str pe_str))))))), ?_⟩
    try dsimp only [cxOf, Cx.nox, Cx.wish]
    refine x_st (σ' := [some _, some _, some _, none, none, none]) rfl ?_
    obtain ⟨hm, hc, hne⟩ := _root_.id hM
    have hS := ((Sy.atD (K := K) hdom).addD hv).addD hmu
    obtain ⟨bk, rfl⟩ := hv.refT
    obtain ⟨pm, tp, zs, rfl, sm, -, -⟩ := man_at hmu
    (try simp only [List.cons_append, List.nil_append] at hS)
    have gn := gm.n
    have gv := gm.v
    have sm1 := sm.1
    walk_at "zS6"
    refine n_slT sm1 (by simp only [List.length_cons, List.length_nil]; decide) ?_
    (refine n_al hS ?_; clear hS; intro q H q_n q_0 hS; simp only [List.cons_append, List.nil_append] at hS)
    rw [cut7_46] at hS
    walk_at "zS6"
    refine ⟨M, m, dx, l, μ, rfl, hS.dom, hM.ex hS.fr, hup, hl, fun w H f hd => ?_⟩
    have hS := (hS.ex f).addD hd
    (try simp only [List.cons_append, List.nil_append] at hS)
    obtain ⟨pb, rfl, stb⟩ := Dt.rec _ hd
    unfold bookOk at hbo
    unfold refF at k
    generalize bookedO μ.cells = b at hbo k hS stb
    obtain ⟨t, st, lf⟩ := b
    dsimp only at hbo k stb
    have hM1 := hM.ex hS.fr
    walk_at "zS6"
    refine x_ixT stb.1 rfl ?_
    walk_at "zS6"
    refine ⟨M, m, dx, l, μ, ks, _, t, rfl, hS.dom, hM1, hup, hl, hbd, hS.d 0 rfl, hg, hbo, fun uj H f hu => ?_⟩
    have hS := (hS.ex f).addD hu
    (try simp only [List.cons_append, List.nil_append] at hS)
    unfold refB at k
    by_cases hw : whyF μ.cells ks t = ""
    · obtain ⟨vt, many, one, two, n, sl, nsp, hh, -⟩ := good_parts hl hbo hw
      obtain ⟨v', e', hj⟩ := judged_good hbo hw
      rw [hh] at e'
      obtain rfl : vt = v' := by simpa using (List.cons.inj (List.cons.inj e').2).1
      have htv : topV μ.cells t = vt := by unfold topV; rw [hh]; rfl
      rw [if_neg (fun z => z hw), htv] at k
      rw [hj] at hu
      obtain ⟨ju, rfl, stu⟩ := hu.str2
      have hfb := floorO_b hbd 2
      walk_at "zS6"
      refine x_ixT stu.1 rfl ?_
      walk_at "zS6"
      have hM2 := hM.ex hS.fr
      obtain ⟨hm2, hc2, -⟩ := _root_.id hM2
      refine ⟨m, dx, l, μ, 2, rfl, hM2, hup, hl, by decide, by decide, fun H f => ?_⟩
      have hS := hS.ex f
      have stu' := f.st (fun z => nomatch z) stu.1
      walk_at "zS6"
      by_cases h4 : floorO μ.cells 2 ≤ mn.n
      · by_cases h5 : mn.n < ks.length
        · rw [if_neg (fun z => z ⟨h4, h5⟩)] at k
          have hk := key_at hg gn.1 h5
          have hmm := gm.many
          have hss := gm.s
          refine x_iteT (decide_eq_true h4) ?_
          walk_at "zS6"
          refine d_lenT (hS.d 0 rfl) ?_
          rw [List.length_map]
          walk_at "zS6"
          refine x_iteF (by rw [decide_eq_true h5]; rfl) ?_
          walk_at "zS6"
          refine d_ixTI (hS.d 0 rfl) hk.1 ?_
          walk_at "zS6"
          have sm3 := hS.fr.st (fun z => nomatch z) sm1
          refine n_slT sm3 (by simp only [List.length_cons, List.length_nil]; decide) ?_
          (refine n_al hS ?_; clear hS; intro q3 H q3_n q3_0 hS; simp only [List.cons_append, List.nil_append] at hS)
          rw [cut7_5] at hS
          walk_at "zS6"
          refine use_seal (ns := [mn.v, mn.many, mn.one, mn.two, mn.n]) (.inr (hS.st 1 rfl)) (by omega) (by omega) ?_
          walk_at "zS6"
          refine x_ite (fun h7 => ?_) (fun h7 => ?_)
          · rw [if_pos (by simpa using h7)] at k
            walk_at "zS6"
            exact k _ hS.fr
          · rw [if_neg (by simpa using h7)] at k
            have sm3 := hS.fr.st (fun z => nomatch z) sm1
            walk_at "zS6"
            have hM3 := hM.ex hS.fr
            refine ⟨m, dx, l, μ, 0, rfl, hM3, hup, hl, by decide, by decide, fun H f => ?_⟩
            have hS := hS.ex f
            have sm4 := f.st (fun z => nomatch z) sm3
            walk_at "zS6"
            by_cases h8 : mn.v < floorO μ.cells 0
            · rw [if_pos (.inl h8)] at k
              refine x_iteT (decide_eq_true h8) ?_
              walk_at "zS6"
              exact k _ hS.fr
            · have hju := hS.d 3 rfl
              rw [hj] at hju
              obtain ⟨ju', ej, stu3⟩ := hju.str2
              cases ej
              have stu4 := stu3.1
              refine x_iteF (decide_eq_false h8) ?_
              walk_at "zS6"
              refine x_ite (fun h9 => ?_) (fun h9 => ?_)
              · rw [if_pos (.inr (of_decide_eq_true h9))] at k
                walk_at "zS6"
                exact k _ hS.fr
              · rw [if_neg (fun z => z.elim h8 (of_decide_eq_false h9))] at k
                walk_at "zS6"
                exact k _ hS.fr
        · have h6 : ¬ (floorO μ.cells 2 ≤ mn.n ∧ mn.n < ks.length) := fun z => h5 z.2
          rw [if_pos h6] at k
          refine x_iteT (decide_eq_true h4) ?_
          walk_at "zS6"
          refine d_lenT (hS.d 0 rfl) ?_
          rw [List.length_map]
          walk_at "zS6"
          refine x_iteT (by rw [decide_eq_false h5]; rfl) ?_
          walk_at "zS6"
          exact k _ hS.fr
      · have h6 : ¬ (floorO μ.cells 2 ≤ mn.n ∧ mn.n < ks.length) := fun z => h4 z.1
        rw [if_pos h6] at k
        refine x_iteF (decide_eq_false h4) ?_
        walk_at "zS6"
        exact k _ hS.fr
    · rw [if_pos hw] at k
      rw [judged_bad hw] at hu
      obtain ⟨ju, rfl, stu⟩ := hu.str1
      walk_at "zS6"
      refine x_ixT stu.1 rfl ?_
      walk_at "zS6"
      refine x_iteT (by rw [not_good]; rfl) ?_
      walk_at "zS6"
      exact k _ hS.fr
theorem ok_page_row (T : Txt K mg base A) : FnOk P w K mg base CX0 2 A.a_page_row A.d_page_row ["number", "row"] (sp_page_row K) := by
  have G_sums := ok_sums (P := P) (w := w) (base := base) T
  refine T.F_page_row.ok sc_page_row (fun vs H Q E h => ?_) (fun cdv A_ outer s H0 vs Q E hr h => ?_)
  · exact spD_len h (fun _ => rfl)
  · obtain ⟨M, ⟨n, r⟩, hdom, hds, -, k⟩ := h
    dsimp only at hds k
    have hS := Sy.ofD hdom hds
    simp only [DtL] at hds
    obtain ⟨u, _, rfl, hu0, u2, _, rfl, hu2, rfl⟩ := hds
    simp only [Dt] at hu0; subst hu0
    obtain ⟨b, rfl⟩ := hu2.refT
    simp only [List.zip_cons_cons, List.zip_nil_left, recD] at hS
    have hu := hu_of hr
    have hu2 := hu2_of hr
    have hr_sums : Room 1 _ := hr.mono (by decide)
    refine ⟨_, pss_one (ps_ret (pe_op (b_catT (K := K)) (pe_op (b_catT (K := K)) (pe_tup (pa_cons (pv 0) pa_nil)) (pe_callTy (b_tuple (K := K)) (by rfl) T.z_tuple (by decide +kernel) (pa_cons (pv 1) pa_nil))) (pe_call G_sums hr_sums (by rfl) T.g_sums T.F_sums.kp T.b_sums .nil pass0 (pa_cons (pe_op (b_catT (K := K)) (pe_tup (pa_cons (pv 0) pa_nil)) (pe_callTy (b_tuple (K := K)) (by rfl) T.z_tuple (by decide +kernel) (pa_cons (pv 1) pa_nil))) pa_nil)))), ?_⟩
    try dsimp only [cxOf, Cx.nox, Cx.wish]
    refine x_st (σ' := [some _, some _]) rfl ?_
    walk_at "zD2"
    have hS' := ‹Sy K (b0 H0) M _ _ _›
    simp only [List.cons_append, List.nil_append] at hS'
    refine du_sums (ns := [n, r.1, r.2.1, r.2.2]) hS' (.inr (by walk_at "zdt")) ?_
    clear hS'; intro t H hS
    simp only [List.cons_append, List.nil_append] at hS
    walk_at "zD2"
    have hS' := ‹Sy K (b0 H0) M _ _ _›
    exact k _ _ hS'.fr (by have := hS'.d 7 rfl; exact this)
theorem ok_Memory_go_down (T : Txt K mg base A) : FnOk P w K mg base (L2.CX P w) 1 A.a_Memory_go_down A.d_Memory_go_down ["self", "place", "worth"] (sp_Memory_go_down A K) := by
  refine T.F_Memory_go_down.okX sc_Memory_go_down (fun vs H Q E h => ?_) (fun cdv A_ outer s H0 vs Q E hr h => ?_)
  · obtain ⟨_, h⟩ := h; obtain ⟨_, h⟩ := h; obtain ⟨_, h⟩ := h; obtain ⟨_, h⟩ := h; obtain ⟨_, h⟩ := h; obtain ⟨_, h⟩ := h; obtain ⟨rfl, _⟩ := h; rfl
  · obtain ⟨m, dx, l, ⟨cells, left, torn, up, many⟩, i, w, rfl, hM, h0, h1, k⟩ := h
    have hu := hu_of hr
    have hu2 := hu2_of hr
    have cl_Memory := T.cl_Memory; have na_Memory_is_up := T.n_Memory_is_up; have na_Memory_left := T.n_Memory_left; have na_Memory_many := T.n_Memory_many; have na_Memory_torn := T.n_Memory_torn; have na_Memory_worths := T.n_Memory_worths
    refine ⟨_, pss_cons (ps_fld (pv 0) pe_bl rfl)
      (pss_cons (ps_fld (pv 0) pe_non rfl)
      (pss_cons (ps_if (pt_cmpR op_eq (b_fld (K := K) (pv 0) rfl) pe_str (nomark _)) (pss_one (ps_asg pe_non (pg_sub (b_fld (K := K) (pv 0) rfl) (pv 1) set_list))) pss_nil)
      (pss_cons (ps_if (pt_cmpR op_eq (b_fld (K := K) (pv 0) rfl) pe_str (nomark _)) (pss_one (ps_asg (pv 2) (pg_sub (b_fld (K := K) (pv 0) rfl) (pv 1) set_list))) pss_nil)
      (pss_one (ps_raise rfl (takes_of rfl rfl rfl rfl) (pmk_own PySem.F.excBase_ValueError T.x_Stopped T.g_Stopped T.k_Stopped (raises_own T.b_Stopped T.t_Stopped) rfl)))))), ?_⟩
    try dsimp only [cxOf, Cx.nox, Cx.wish]
    refine x_st (σ' := [some _, some _, some _]) rfl ?_
    dsimp only at h1 k
    have hS := MemAt.sy (K := K) hM
    obtain ⟨hm, hc, hne⟩ := _root_.id hM
    walk_at "zS3"
    refine n_set hS 0 rfl ⟨by first | assumption | (simp; done) | exact List.mem_cons_of_mem _ (by assumption) | exact List.mem_cons_of_mem _ (List.mem_cons_of_mem _ (by assumption)), by first | exact .inr (by assumption) | exact .inl (by simp)⟩ cl_Memory na_Memory_is_up (by simp [memF]) (memF_pup _) ?_
    clear hS; intro H hS
    simp only [List.set_cons_zero, List.set_cons_succ] at hS
    walk_at "zS3"
    refine n_set hS 0 rfl ⟨by first | assumption | (simp; done) | exact List.mem_cons_of_mem _ (by assumption) | exact List.mem_cons_of_mem _ (List.mem_cons_of_mem _ (by assumption)), by first | exact .inr (by assumption) | exact .inl (by simp)⟩ cl_Memory na_Memory_left (by simp [memF]) (memF_pleft none) ?_
    clear hS; intro H hS
    simp only [List.set_cons_zero, List.set_cons_succ] at hS
    walk_at "zS3"
    refine x_ite (fun ht => ?_) (fun ht => ?_)
    · have ht := of_decide_eq_true ht
      simp only [V.str.injEq] at ht
      subst ht
      walk_at "zS3"
      refine x_setS hS 1 rfl ⟨by first | assumption | (simp; done) | exact List.mem_cons_of_mem _ (by assumption) | exact List.mem_cons_of_mem _ (List.mem_cons_of_mem _ (by assumption)), by first | exact .inr (by assumption) | exact .inl (by simp)⟩ (ixN_int h0 (by rw [List.length_map]; exact h1)) ?_
      clear hS; intro H hS
      simp only [List.set_cons_zero, List.set_cons_succ] at hS
      walk_at "zS3"
      refine k H hS.fr ⟨hS.get 0 rfl, ?_, hne⟩
      rw [hS.get 1 rfl]
      simp [cellsO, List.map_set, ov, Mem.down]
    · have ht := of_decide_eq_false ht
      simp only [V.str.injEq] at ht
      walk_at "zS3"
      refine x_ite (fun h2 => ?_) (fun h2 => ?_)
      · have h2 := of_decide_eq_true h2
        simp only [V.str.injEq] at h2
        subst h2
        walk_at "zS3"
        refine x_setS hS 1 rfl ⟨by first | assumption | (simp; done) | exact List.mem_cons_of_mem _ (by assumption) | exact List.mem_cons_of_mem _ (List.mem_cons_of_mem _ (by assumption)), by first | exact .inr (by assumption) | exact .inl (by simp)⟩ (ixN_int h0 (by rw [List.length_map]; exact h1)) ?_
        clear hS; intro H hS
        simp only [List.set_cons_zero, List.set_cons_succ] at hS
        walk_at "zS3"
        refine k H hS.fr ⟨hS.get 0 rfl, ?_, hne⟩
        rw [hS.get 1 rfl]
        simp [cellsO, List.map_set, ov, Mem.down, ht]
      · have h2 := of_decide_eq_false h2
        simp only [V.str.injEq] at h2
        walk_at "zS3"
        refine k H hS.fr ⟨hS.get 0 rfl, ?_, hne⟩
        rw [hS.get 1 rfl]
        simp [cellsO, Mem.down, ht, h2]
theorem ok_Memory_write (T : Txt K mg base A) : FnOk P w K mg base (L2.CX P w) 3 A.a_Memory_write A.d_Memory_write ["self", "place", "worth"] (sp_Memory_write A K) := by
  have G_Memory_need_cell := ok_Memory_need_cell (P := P) (w := w) (base := base) T
  have G_Memory_need_power := ok_Memory_need_power (P := P) (w := w) (base := base) T
  have G_Memory_go_down := ok_Memory_go_down (P := P) (w := w) (base := base) T
  refine T.F_Memory_write.okX sc_Memory_write (fun vs H Q E h => ?_) (fun cdv A_ outer s H0 vs Q E hr h => ?_)
  · obtain ⟨_, h⟩ := h; obtain ⟨_, h⟩ := h; obtain ⟨_, h⟩ := h; obtain ⟨_, h⟩ := h; obtain ⟨_, h⟩ := h; obtain ⟨_, h⟩ := h; obtain ⟨rfl, _⟩ := h; rfl
  · obtain ⟨m, dx, l, μ, i, w, rfl, hM, k, kD, kP, kW, kS⟩ := h
    have hu := hu_of hr
    have hu2 := hu2_of hr
    have cl_Memory := T.cl_Memory; have na_Memory_is_up := T.n_Memory_is_up; have na_Memory_left := T.n_Memory_left; have na_Memory_many := T.n_Memory_many; have na_Memory_torn := T.n_Memory_torn; have na_Memory_worths := T.n_Memory_worths
    have hr_Memory_need_cell : Room 2 _ := hr.mono (by decide)
    have hr_Memory_need_power : Room 1 _ := hr.mono (by decide)
    have hr_Memory_go_down : Room 1 _ := hr.mono (by decide)
    refine ⟨_, pss_cons (ps_expr (pe_meth (pv 0) T.cl_Memory T.m_Memory_need_cell G_Memory_need_cell hr_Memory_need_cell T.b_Memory_need_cell .nil (passX rfl rfl rfl rfl) (pa_cons (pv 1) (pa_cons (pv 2) pa_nil))))
      (pss_cons (ps_expr (pe_meth0 (pv 0) T.cl_Memory T.m_Memory_need_power G_Memory_need_power hr_Memory_need_power T.b_Memory_need_power .nil (passX rfl rfl rfl rfl)))
      (pss_cons (ps_if (pt_cmpR op_eq (b_fld (K := K) (pv 0) rfl) pe_int (nomark _)) (pss_one (ps_expr (pe_meth (pv 0) T.cl_Memory T.m_Memory_go_down G_Memory_go_down hr_Memory_go_down T.b_Memory_go_down .nil (passX rfl rfl rfl rfl) (pa_cons (pv 1) (pa_cons (pv 2) pa_nil))))) pss_nil)
      (pss_cons (ps_if (pt_cmpR c_notN (b_fld (K := K) (pv 0) rfl) pe_non (nomark _)) (pss_one (ps_fld (pv 0) (pe_op op_sub (b_fld (K := K) (pv 0) rfl) pe_int) rfl)) pss_nil)
      (pss_cons (ps_asg (pv 2) (pg_sub (b_fld (K := K) (pv 0) rfl) (pv 1) set_list))
      (pss_one (ps_fld (pv 0) (pe_op op_add (b_fld (K := K) (pv 0) rfl) pe_int) rfl)))))), ?_⟩
    try dsimp only [cxOf, Cx.nox, Cx.wish]
    refine x_st (σ' := [some _, some _, some _]) rfl ?_
    obtain ⟨hm, hc, hne⟩ := _root_.id hM
    walk_at "zS3"
    refine ⟨m, dx, l, μ, i, w, rfl, hM, fun h0 h1 w0 w1 => ?_, kP, kW⟩
    walk_at "zS3"
    refine ⟨m, dx, l, μ, rfl, hM, fun hup => ?_, kS h0 h1 w0 w1⟩
    have k := k h0 h1 w0 w1 hup
    have kD := kD h0 h1 w0 w1 hup
    clear kP kW kS
    obtain ⟨cells, left, torn, up, many⟩ := μ
    dsimp only at h1 hup
    subst hup
    have hS := MemAt.sy (K := K) hM
    cases left with
    | none =>
      have k := k (fun z => nomatch z)
      walk_at "zS3"
      refine x_setS hS 1 rfl ⟨by first | assumption | (simp; done) | exact List.mem_cons_of_mem _ (by assumption) | exact List.mem_cons_of_mem _ (List.mem_cons_of_mem _ (by assumption)), by first | exact .inr (by assumption) | exact .inl (by simp)⟩ (ixN_int h0 (by rw [List.length_map]; exact h1)) ?_
      clear hS; intro H hS
      simp only [List.set_cons_zero, List.set_cons_succ] at hS
      walk_at "zS3"
      refine n_set hS 0 rfl ⟨by first | assumption | (simp; done) | exact List.mem_cons_of_mem _ (by assumption) | exact List.mem_cons_of_mem _ (List.mem_cons_of_mem _ (by assumption)), by first | exact .inr (by assumption) | exact .inl (by simp)⟩ cl_Memory na_Memory_many (by simp [memF]) (memF_pmany _) ?_
      clear hS; intro H hS
      simp only [List.set_cons_zero, List.set_cons_succ] at hS
      walk_at "zS3"
      refine k H hS.fr ⟨hS.get 0 rfl, ?_, hne⟩
      rw [hS.get 1 rfl]
      simp [cellsO, List.map_set, ov, Mem.wr]
    | some n =>
      walk_at "zS3"
      refine x_ite (fun hn => ?_) (fun hn => ?_)
      · have hn : n = 0 := by simpa [ov] using of_decide_eq_true hn
        subst hn
        walk_at "zS3"
        refine ⟨m, dx, l, _, i, w, rfl, hM, h0, h1, kD rfl⟩
      · have hn : ¬ n = 0 := by simpa [ov] using of_decide_eq_false hn
        have k := k (by simpa using hn)
        walk_at "zS3"
        refine x_I0 (i := n) (j := 1) ?_
        walk_at "zS3"
        refine n_set hS 0 rfl ⟨by first | assumption | (simp; done) | exact List.mem_cons_of_mem _ (by assumption) | exact List.mem_cons_of_mem _ (List.mem_cons_of_mem _ (by assumption)), by first | exact .inr (by assumption) | exact .inl (by simp)⟩ cl_Memory na_Memory_left (by simp [memF]) (show putF _ (V.int (n - 1)) _ = _ from memF_pleft (some (n - 1))) ?_
        clear hS; intro H hS
        simp only [List.set_cons_zero, List.set_cons_succ] at hS
        walk_at "zS3"
        refine x_setS hS 1 rfl ⟨by first | assumption | (simp; done) | exact List.mem_cons_of_mem _ (by assumption) | exact List.mem_cons_of_mem _ (List.mem_cons_of_mem _ (by assumption)), by first | exact .inr (by assumption) | exact .inl (by simp)⟩ (ixN_int h0 (by rw [List.length_map]; exact h1)) ?_
        clear hS; intro H hS
        simp only [List.set_cons_zero, List.set_cons_succ] at hS
        walk_at "zS3"
        refine n_set hS 0 rfl ⟨by first | assumption | (simp; done) | exact List.mem_cons_of_mem _ (by assumption) | exact List.mem_cons_of_mem _ (List.mem_cons_of_mem _ (by assumption)), by first | exact .inr (by assumption) | exact .inl (by simp)⟩ cl_Memory na_Memory_many (by simp [memF]) (memF_pmany _) ?_
        clear hS; intro H hS
        simp only [List.set_cons_zero, List.set_cons_succ] at hS
        walk_at "zS3"
        refine k H hS.fr ⟨hS.get 0 rfl, ?_, hne⟩
        rw [hS.get 1 rfl]
        simp [cellsO, List.map_set, ov, Mem.wr]
theorem ok_note (T : Txt K mg base A) : FnOk P w K mg base (L2.CX P w) 6 A.a_note A.d_note ["memory", "place", "row"] (sp_note A K) := by
  have G_newest := ok_newest (P := P) (w := w) (base := base) T
  have G_page_row := ok_page_row (P := P) (w := w) (base := base) T
  have G_Memory_write := ok_Memory_write (P := P) (w := w) (base := base) T
  refine T.F_note.okX sc_note (fun vs H Q E h => ?_) (fun cdv A_ outer s H0 vs Q E hr h => ?_)
  · obtain ⟨_, h⟩ := h; obtain ⟨_, h⟩ := h; obtain ⟨_, h⟩ := h; obtain ⟨_, h⟩ := h; obtain ⟨_, h⟩ := h; obtain ⟨_, h⟩ := h; obtain ⟨_, h⟩ := h; obtain ⟨rfl, _⟩ := h; rfl
  · obtain ⟨m, dx, l, μ, i, r, v, rfl, hM, hup, ⟨h0, h1, h2⟩, hv, hr1, hn1, hn0, k⟩ := h
    have hu := hu_of hr
    have hu2 := hu2_of hr
    have cl_Memory := T.cl_Memory; have na_Memory_is_up := T.n_Memory_is_up; have na_Memory_left := T.n_Memory_left; have na_Memory_many := T.n_Memory_many; have na_Memory_torn := T.n_Memory_torn; have na_Memory_worths := T.n_Memory_worths
    have hr_newest : Room 5 _ := hr.mono (by decide)
    have hr_page_row : Room 2 _ := hr.mono (by decide)
    have hr_Memory_write : Room 3 _ := hr.mono (by decide)
    refine ⟨_, pss_cons (ps_set (i := 3) sc_note.nd rfl (Or.inl rfl) (pe_call G_newest hr_newest (by rfl) T.g_newest T.F_newest.kp T.b_newest .nil pass0 (pa_cons (pv 0) (pa_cons (pv 1) pa_nil))))
      (Evl.pss_cut (ps_asg (pe_ifExp (pt_cmpR c_isN (pv 3) pe_non (nomark _)) (pe_tup (pa_cons pe_int (pa_cons pe_int pa_nil))) (pe_tup (pa_cons (pe_op op_sub pe_int (pe_ix (b_ixT (K := K)) (pv 3) pe_int (fun _ _ => rfl))) (pa_cons (pe_op op_add (pe_ix (b_ixT (K := K)) (pv 3) pe_int (fun _ _ => rfl)) pe_int) pa_nil)))) (pg_tup (by rfl) (pgs_cons (pg_name (i := 4) sc_note.nd rfl (Or.inl rfl)) (pgs_cons (pg_name (i := 5) sc_note.nd rfl (Or.inl rfl)) pgs_nil))))
      (pss_cons (ps_set (i := 6) sc_note.nd rfl (Or.inl rfl) (pe_op op_add (pv 1) (pe_op op_mul (pv 4) (pe_gi rfl T.c_PAGE))))
      (pss_cons (ps_set (i := 7) sc_note.nd rfl (Or.inl rfl) (pe_call G_page_row hr_page_row (by rfl) T.g_page_row T.F_page_row.kp T.b_page_row .nil pass0 (pa_cons (pv 5) (pa_cons (pv 2) pa_nil))))
      (pss_cons (ps_expr (pe_meth (pv 0) T.cl_Memory T.m_Memory_write G_Memory_write hr_Memory_write T.b_Memory_write .nil (passX rfl rfl rfl rfl) (pa_cons (pv 6) (pa_cons pe_int pa_nil))))
      (pss_cons (ps_for (passes_of rfl) rfl (pi_range2 (by rfl) T.z_range (pa_cons pe_int (pa_cons (pe_gi rfl T.c_PAGE) pa_nil))) (pg_name (i := 8) sc_note.nd rfl (Or.inl rfl)) (pss_one (ps_expr (pe_meth (pv 0) T.cl_Memory T.m_Memory_write G_Memory_write hr_Memory_write T.b_Memory_write .nil (passX rfl rfl rfl rfl) (pa_cons (pe_op op_add (pv 6) (pv 8)) (pa_cons (pe_ix (b_ixT (K := K)) (pv 7) (pv 8) (fun _ _ => rfl)) pa_nil))))))
      (pss_one (ps_expr (pe_meth (pv 0) T.cl_Memory T.m_Memory_write G_Memory_write hr_Memory_write T.b_Memory_write .nil (passX rfl rfl rfl rfl) (pa_cons (pv 6) (pa_cons (pv 5) pa_nil)))))))))), ?_⟩
    try dsimp only [cxOf, Cx.nox, Cx.wish]
    refine x_st (σ' := [some _, some _, some _, none, none, none, none, none, none]) rfl ?_
    have hS := MemAt.sy (K := K) hM
    obtain ⟨hm, hc, hne⟩ := _root_.id hM
    walk_at "zS9"
    refine use_MI hS hM hup ⟨h0, h1, h2⟩ ?_
    clear hS; intro v3 H hS f
    (try simp only [List.cons_append, List.nil_append] at hS)
    have hw := next_w μ.cells i.toNat
    have mid : ∀ j : Nat, j < 5 → _ := fun j hj => noteW_mid μ.cells i.toNat r hj
    have first : (noteW μ.cells i.toNat r)[0]? = some (i.toNat + 6 * (nextO μ.cells i.toNat).1.toNat, 0) := rfl
    have last : (noteW μ.cells i.toNat r)[6]? = some (i.toNat + 6 * (nextO μ.cells i.toNat).1.toNat, (nextO μ.cells i.toNat).2) := rfl
    have all : (noteW μ.cells i.toNat r).take 7 = noteW μ.cells i.toNat r := rfl
    have hro := rowF_ok (n := (nextO μ.cells i.toNat).2) (by omega) hn1 hr1
    generalize hws : noteW μ.cells i.toNat r = ws at k mid first last all
    generalize hwh : (nextO μ.cells i.toNat).1 = wh at hw mid first last
    generalize hnb : (nextO μ.cells i.toNat).2 = nb at hn1 hn0 mid last hro
    have hnx : newestO μ.cells i.toNat = none ∧ wh = 0 ∧ nb = 1 ∨ ∃ p, newestO μ.cells i.toNat = some p ∧ wh = 1 - p.1 ∧ nb = p.2.1 + 1 := by
      unfold nextO at hwh hnb
      cases e : newestO μ.cells i.toNat with
      | none => rw [e] at hwh hnb; exact .inl ⟨rfl, hwh.symm, hnb.symm⟩
      | some p => rw [e] at hwh hnb; exact .inr ⟨p, rfl, hwh.symm, hnb.symm⟩
    have hS := hS.addD (hv.mono (Fr.wk0 f))
    (try simp only [List.cons_append, List.nil_append] at hS)
    with_reducible refine x_name rfl ?_
    refine ⟨fun σ' H' => Sy K ⟨H0, [m, l]⟩ [m, l] H' [(m, memO A.c_Memory dx l μ), (l, cellsO μ)] [(recD r, v)] ∧ σ' = [some (.ref m), some (.int i), some v, some v3, some (.int wh), some (.int nb), none, none, none], ?_, ?_⟩
    · rcases hnx with ⟨e, rfl, rfl⟩ | ⟨p, e, rfl, rfl⟩
      · rw [e] at hS
        have h3 := hS.d 0 rfl
        simp only [newestD, Dt] at h3
        subst h3
        walk_at "zS9"
        walk_at "zD9"
        have hS' := ‹Sy K _ [m, l] _ _ [_, _, _]›
        refine d_gtup (hS'.d 2 rfl) rfl fun xs hx => ?_
        simp only [DtL, Dt] at hx
        obtain ⟨_, _, rfl, rfl, _, _, rfl, rfl, rfl⟩ := hx
        walk_at "zS9"
        exact ⟨hS'.subD (by simp), rfl⟩
      · rw [e] at hS
        obtain ⟨b, rfl⟩ := (hS.d 0 rfl).refT
        walk_at "zD9"
        have hS' := ‹Sy K _ [m, l] _ _ [_, _, _]›
        refine d_gtup (hS'.d 2 rfl) rfl fun xs hx => ?_
        simp only [DtL, Dt] at hx
        obtain ⟨_, _, rfl, rfl, _, _, rfl, rfl, rfl⟩ := hx
        walk_at "zS9"
        exact ⟨hS'.subD (by simp), rfl⟩
    clear hS hnx hwh hnb hws
    rintro σ' H ⟨hS, rfl⟩
    walk_at "zS9"
    refine use_D (nb, r) hS (DtL.cons' Dt.int' (DtL.cons' (hS.d 0 rfl) DtL.nil')) trivial ?_
    clear hS; intro v7 H hS
    have hS := hS.subD (Ds' := [(.tuple ((rowF nb r).map .int), v7)]) (by simp)
    obtain ⟨b7, rfl⟩ := (hS.d 0 rfl).refT
    walk_at "zS9"
    have hlen : ∀ (c : List Wr), (Mem.run c μ).1.cells.length = μ.cells.length := fun c => run_len c μ
    refine use_wr (μ := μ) ⟨hS.get 0 rfl, hS.get 1 rfl, hne⟩ hup (by omega) (by omega) (by decide) (by decide) ?_
    have eb : (i + wh * 6).toNat = i.toNat + 6 * wh.toNat := by omega
    rw [eb]
    refine ranX_step (j := 0) first rfl k hS.fr fun H2 f2 hM2 ok2 => ?_
    have hS := hS.memAt (i := 0) (j := 1) rfl rfl (by decide) ⟨by simp, .inl (by simp)⟩ ⟨by simp, .inl (by simp)⟩ f2 hM2
    simp only [List.set_cons_zero, List.set_cons_succ] at hS
    walk_at "zS9"
    refine ⟨1, 6, rfl, ⟨by decide, by decide, by decide, by decide⟩, ?_⟩
    refine for_range (lo := 1) (n := ((6 : Int) - 1).toNat) (fun j σ' H' => ∃ v8 : Option V, (Mem.run (ws.take (j + 1)) μ).2 = true ∧ Sy K ⟨H0, [m, l]⟩ [m, l] H' [(m, memO A.c_Memory dx l (Mem.run (ws.take (j + 1)) μ).1), (l, cellsO (Mem.run (ws.take (j + 1)) μ).1)] [(.tuple ((rowF nb r).map .int), .ref b7)] ∧ σ' = [some (.ref m), some (.int i), some v, some v3, some (.int wh), some (.int nb), some (.int (i + wh * 6)), some (.ref b7), v8]) ?_ ?_ ?_
    · exact ⟨none, ok2, hS, rfl⟩
    · clear hS f2 hM2 ok2
      rintro j σ' H' hj ⟨v8, hok, hS, rfl⟩
      have hj : j < 5 := hj
      walk_at "zS9"
      have hat : ((rowF nb r).map PyData.int)[j + 1]? = some (.int ((rowF nb r).getD (j + 1) 0)) := by
        have : j + 1 < (rowF nb r).length := by simp [rowF]; omega
        simp [List.getElem?_map, List.getElem?_eq_getElem this, List.getD_eq_getElem?_getD]
      have hwb : 0 ≤ (rowF nb r).getD (j + 1) 0 ∧ (rowF nb r).getD (j + 1) 0 ≤ 9972 := by
        have : j + 1 < (rowF nb r).length := by simp [rowF]; omega
        rw [List.getD_eq_getElem?_getD, List.getElem?_eq_getElem this, Option.getD_some]
        exact hro _ (List.getElem_mem this)
      refine d_ixTI (hS.d 0 rfl) (i := 1 + (j : Int)) (by rw [show (1 : Int) + j = ((j + 1 : Nat) : Int) by omega]; exact atI_nat hat) ?_
      walk_at "zS9"
      refine use_wr ⟨hS.get 0 rfl, hS.get 1 rfl, hne⟩ ((run_upT hok).trans hup) (by omega) (by rw [hlen]; omega) hwb.1 hwb.2 ?_
      have eb2 : (i + wh * 6 + (1 + (j : Int))).toNat = i.toNat + 6 * wh.toNat + (j + 1) := by omega
      rw [eb2]
      refine ranX_step (mid j hj) hok k hS.fr fun H2 f2 hM2 ok2 => ?_
      have hS := hS.memAt (i := 0) (j := 1) rfl rfl (by decide) ⟨by simp, .inl (by simp)⟩ ⟨by simp, .inl (by simp)⟩ f2 hM2
      simp only [List.set_cons_zero, List.set_cons_succ] at hS
      walk_at "zS9"
      exact ⟨_, ok2, hS, rfl⟩
    · clear hS f2 hM2 ok2
      rintro σ' H' ⟨v8, hok, hS, rfl⟩
      rw [show ((6 : Int) - 1).toNat + 1 = 6 from rfl] at hS hok
      walk_at "zS9"
      refine use_wr ⟨hS.get 0 rfl, hS.get 1 rfl, hne⟩ ((run_upT hok).trans hup) (by omega) (by rw [hlen]; omega) (by omega) hn1 ?_
      rw [eb]
      refine ranX_step last hok k hS.fr fun H2 f2 hM2 ok2 => ?_
      rw [all] at hM2 ok2
      walk_at "zS9"
      exact (k H2 (hS.fr.trans f2) hM2).1 ok2
theorem ok_open_slot (T : Txt K mg base A) : FnOk P w K mg base (L2.CX P w) 4 A.a_open_slot A.d_open_slot ["memory", "slot"] (sp_open_slot A K) := by
  have G_Memory_read := ok_Memory_read (P := P) (w := w) (base := base) T
  have G_Memory_write := ok_Memory_write (P := P) (w := w) (base := base) T
  refine T.F_open_slot.okX sc_open_slot (fun vs H Q E h => ?_) (fun cdv A_ outer s H0 vs Q E hr h => ?_)
  · obtain ⟨_, h⟩ := h; obtain ⟨_, h⟩ := h; obtain ⟨_, h⟩ := h; obtain ⟨_, h⟩ := h; obtain ⟨_, h⟩ := h; obtain ⟨rfl, _⟩ := h; rfl
  · obtain ⟨m, dx, l, μ, s, rfl, hM, hup, hl, hs, k⟩ := h
    have hu := hu_of hr
    have hu2 := hu2_of hr
    have tk_SLOTS := T.l_SLOTS
    have cl_Memory := T.cl_Memory; have na_Memory_is_up := T.n_Memory_is_up; have na_Memory_left := T.n_Memory_left; have na_Memory_many := T.n_Memory_many; have na_Memory_torn := T.n_Memory_torn; have na_Memory_worths := T.n_Memory_worths
    have hr_Memory_read : Room 2 _ := hr.mono (by decide)
    have hr_Memory_write : Room 3 _ := hr.mono (by decide)
    refine ⟨_, pss_one (ps_if (pt_cmpR op_ne (pe_meth (pv 0) T.cl_Memory T.m_Memory_read G_Memory_read hr_Memory_read T.b_Memory_read .nil (passX rfl rfl rfl rfl) (pa_cons (pe_ix (b_ixT (K := K)) (pe_gt rfl T.g_SLOTS) (pv 1) (fun _ _ => rfl)) pa_nil)) pe_int (nomark _)) (pss_one (ps_expr (pe_meth (pv 0) T.cl_Memory T.m_Memory_write G_Memory_write hr_Memory_write T.b_Memory_write .nil (passX rfl rfl rfl rfl) (pa_cons (pe_ix (b_ixT (K := K)) (pe_gt rfl T.g_SLOTS) (pv 1) (fun _ _ => rfl)) (pa_cons pe_int pa_nil))))) pss_nil), ?_⟩
    try dsimp only [cxOf, Cx.nox, Cx.wish]
    refine x_st (σ' := [some _, some _]) rfl ?_
    have hb := slotB_b hs
    obtain ⟨hm, hc, hne⟩ := _root_.id hM
    walk_at "zS2"
    refine x_ixT (TupK.st tk_SLOTS) (slot_at hs) ?_
    walk_at "zS2"
    refine ⟨m, dx, l, μ, _, rfl, hM, fun _ _ _ => ?_, fun z => (z ⟨by omega, by omega⟩).elim, (by intro _ _ z; rw [hup] at z; cases z)⟩
    walk_at "zS2"
    refine x_ne (scal_ov _ _) ?_
    rw [ov_ne]
    walk_at "zS2"
    unfold openW at k
    by_cases hcc : μ.cells.getD (slotB s).toNat none = some 0
    · rw [if_neg (by simpa using hcc)] at k
      refine x_iteF (by rw [decide_eq_true hcc]; rfl) ?_
      walk_at "zS2"
      exact ranX_nil k hM
    · rw [if_pos hcc] at k
      refine x_iteT (by rw [decide_eq_false hcc]; rfl) ?_
      walk_at "zS2"
      refine x_ixT (TupK.st tk_SLOTS) (slot_at hs) ?_
      walk_at "zS2"
      refine use_wr hM hup (by omega) (by omega) (by decide) (by decide) (ranX_end k fun H1 f q => ?_)
      walk_at "zS2"
      exact q
theorem ok_pieces (T : Txt K mg base A) : FnOk P w K mg base CX0 1 A.a_pieces A.d_pieces ["row"] (sp_pieces K) := by
  refine T.F_pieces.ok sc_pieces (fun vs H Q E h => ?_) (fun cdv A_ outer s H0 vs Q E hr h => ?_)
  · obtain ⟨_, h⟩ := h; obtain ⟨_, h⟩ := h; obtain ⟨_, h⟩ := h; obtain ⟨rfl, _⟩ := h; rfl
  · obtain ⟨M, ns, v, rfl, hdom, hv, hz, k⟩ := h
    obtain ⟨p, xs, rfl, hx, hxs⟩ := hv.ex
    have hS : Sy K (b0 H0) M H0 [] [] := Sy.start _ _ _ (fun _ z => nomatch z) (by simp) (fun _ z => nomatch z) hdom
    have hu := hu_of hr
    have hu2 := hu2_of hr
    refine ⟨_, pss_one (ps_ret (pe_lc (own := [("begin", 1)]) (g := gName 1) (by rfl) sc_pieces.nd (pi_range3 (by rfl) T.z_range (pa_cons pe_int (pa_cons (pe_callB (b_len (K := K)) (by rfl) T.z_len (by decide +kernel) (pa_cons (pv 0) pa_nil)) (pa_cons (pe_gi rfl T.c_PIECE) pa_nil)))) (blkOk_by (N := ["row", "begin"]) (sc := defScope s_pieces) (by decide +kernel)) (fun _ _ _ _ _ => pg_name (i := 1) sc_pieces.nd rfl (by first | exact Or.inl rfl | exact Or.inr rfl)) (fun _ _ _ _ _ => pts_nil) (fun _ _ _ _ _ => (pe_callTy (b_tuple (K := K)) (by rfl) T.z_tuple (by decide +kernel) (pa_cons (pe_slice (b_slE (K := K)) (pv 0) (po_some (pv 1)) (po_some (pe_op op_add (pv 1) (pe_gi rfl T.c_PIECE)))) pa_nil))))), ?_⟩
    try dsimp only [cxOf, Cx.nox, Cx.wish]
    refine x_st (σ' := [some _, none]) rfl ?_
    walk_at "zD2"
    have hxl : xs.length = ns.length := by rw [hxs.len, List.length_map]
    rw [hxl]
    refine ⟨0, _, 3, pieceN ns.length, rfl, range3_n (by omega), ?_⟩
    refine lcW_data walk_rangeC' hS (fun _ _ _ _ => trivial) (by unfold pieceN; omega) (fun i => .tuple (((ns.drop (3 * i)).take 3).map .int)) ?_ ?_
    · intro i x D acc Ds' H Q' hi hx hD hS kk
      subst hx
      have hv2 := (hv.cons hD).mono (Fr.wk0 hS.fr)
      walk_at "zS2"
      refine d_slE hS hv2 ?_
      clear hS; intro u H he hS
      obtain ⟨p2, ys, rfl, _, _⟩ := he.ex
      walk_at "zS2"
      refine d_tupleE hS he ?_
      clear hS; intro p3 H ht hS
      rw [cutG_piece, ← List.map_drop, ← List.map_take] at ht
      exact kk _ _ hS ht
    clear hS; intro D H hS
    have e := hS.d 0 rfl
    refine k _ _ hS.fr ?_
    unfold piecesF
    simp only [List.map_map]
    exact e
theorem ok_name (T : Txt K mg base A) : FnOk P w K mg base CX0 2 A.a_name A.d_name ["piece"] (sp_name K) := by
  have G_sums := ok_sums (P := P) (w := w) (base := base) T
  refine T.F_name.ok sc_name (fun vs H Q E h => ?_) (fun cdv A_ outer s H0 vs Q E hr h => ?_)
  · obtain ⟨_, h⟩ := h; obtain ⟨_, h⟩ := h; obtain ⟨rfl, _⟩ := h; rfl
  · obtain ⟨p, xs, rfl, hx, hz, k0, k1⟩ := h
    have hu := hu_of hr
    have hu2 := hu2_of hr
    have hr_sums : Room 1 _ := hr.mono (by decide)
    refine ⟨_, pss_cons (ps_set (i := 1) sc_name.nd rfl (Or.inl rfl) (pe_call G_sums hr_sums (by rfl) T.g_sums T.F_sums.kp T.b_sums .nil pass0 (pa_cons (pv 0) pa_nil)))
      (pss_one (ps_ret (pe_ifExp (pt_cmpR c_isN (pv 1) pe_non (nomark _)) pe_non (pe_op (b_catT (K := K)) (pv 1) (pe_tup (pa_cons (pe_callB (b_len (K := K)) (by rfl) T.z_len (by decide +kernel) (pa_cons (pv 0) pa_nil)) pa_nil)))))), ?_⟩
    try dsimp only [cxOf, Cx.nox, Cx.wish]
    refine x_st (σ' := [some _, none]) rfl ?_
    have hS : Sy K (b0 H0) [] H0 [] [] := Sy.start _ _ _ (fun _ z => nomatch z) (by simp) (fun _ z => nomatch z) (fun _ z => nomatch z)
    walk_at "zS2"
    refine ⟨p, xs, rfl, hx, fun hn => ?_, fun ns t hn ht => ?_⟩
    · walk_at "zS2"
      exact k0 hn _ (Fr.refl _ _)
    · have hS := hS.new (o := .tup [.int (sumsF ns).1, .int (sumsF ns).2]) ht
      (try simp only [List.cons_append, List.nil_append] at hS)
      have hx := hS.fr.sq0 hx
      walk_at "zS2"
      (refine ⟨by simp only [List.length_cons, List.length_nil]; decide, n_al hS ?_⟩; clear hS; intro t2 H t2_n t2_0 hS; simp only [List.cons_append, List.nil_append] at hS)
      refine n_catT (by walk_at "zst") (by walk_at "zst") (by simp) (by simp) (by simp) ?_
      (refine n_al hS ?_; clear hS; intro t3 H t3_n t3_0 hS; simp only [List.cons_append, List.nil_append] at hS)
      refine k1 ns t3 H hn hS.fr t3_0 ?_
      have e := hS.get 2 rfl
      have e2 : (xs.map ov).length = ns.length := by rw [allI_inv hn, List.length_map, List.length_map]
      rw [e2] at e
      exact e
theorem ok_trusted_pieces (T : Txt K mg base A) : FnOk P w K mg base CX0 8 A.a_trusted_pieces A.d_trusted_pieces ["memory"] (sp_trusted_pieces A K) := by
  have G_booked := ok_booked (P := P) (w := w) (base := base) T
  have G_head_of := ok_head_of (P := P) (w := w) (base := base) T
  have G_parts_of := ok_parts_of (P := P) (w := w) (base := base) T
  have G_pieces := ok_pieces (P := P) (w := w) (base := base) T
  have G_name := ok_name (P := P) (w := w) (base := base) T
  refine T.F_trusted_pieces.ok sc_trusted_pieces (fun vs H Q E h => ?_) (fun cdv A_ outer s H0 vs Q E hr h => ?_)
  · obtain ⟨_, h⟩ := h; obtain ⟨_, h⟩ := h; obtain ⟨_, h⟩ := h; obtain ⟨_, h⟩ := h; obtain ⟨_, h⟩ := h; obtain ⟨_, h⟩ := h; obtain ⟨rfl, _⟩ := h; rfl
  · obtain ⟨M, m, dx, l, μ, ks, rfl, hdom, hM, hup, hl, hbo, hw, k⟩ := h
    have hu := hu_of hr
    have hu2 := hu2_of hr
    have cl_Memory := T.cl_Memory; have na_Memory_is_up := T.n_Memory_is_up; have na_Memory_left := T.n_Memory_left; have na_Memory_many := T.n_Memory_many; have na_Memory_torn := T.n_Memory_torn; have na_Memory_worths := T.n_Memory_worths
    have hr_booked : Room 7 _ := hr.mono (by decide)
    have hr_head_of : Room 4 _ := hr.mono (by decide)
    have hr_parts_of : Room 4 _ := hr.mono (by decide)
    have hr_pieces : Room 1 _ := hr.mono (by decide)
    have hr_name : Room 2 _ := hr.mono (by decide)
    refine ⟨_, pss_cons (ps_set (i := 1) sc_trusted_pieces.nd rfl (Or.inl rfl) (pe_ix (b_ixT (K := K)) (pe_call G_booked hr_booked (by rfl) T.g_booked T.F_booked.kp T.b_booked .nil pass0 (pa_cons (pv 0) pa_nil)) pe_int (fun _ _ => rfl)))
      (pss_cons (ps_set (i := 2) sc_trusted_pieces.nd rfl (Or.inl rfl) (pe_call G_parts_of hr_parts_of (by rfl) T.g_parts_of T.F_parts_of.kp T.b_parts_of .nil pass0 (pa_cons (pv 0) (pa_cons (pv 1) (pa_cons (pe_ix (b_ixL (K := K)) (pe_call G_head_of hr_head_of (by rfl) T.g_head_of T.F_head_of.kp T.b_head_of .nil pass0 (pa_cons (pv 0) (pa_cons (pv 1) pa_nil))) pe_int (fun _ _ => rfl)) pa_nil)))))
      (pss_one (ps_ret (pe_callTy (b_dictPT (K := K) rfl hu2) (by rfl) T.z_dict (by decide +kernel) (pa_cons (pe_lc (own := [("piece", 3)]) (g := gName 3) (by rfl) sc_trusted_pieces.nd (b_iL (K := K) (pe_call G_pieces hr_pieces (by rfl) T.g_pieces T.F_pieces.kp T.b_pieces .nil pass0 (pa_cons (pv 2) pa_nil))) (blkOk_by (N := ["memory", "slot", "row", "piece"]) (sc := defScope s_trusted_pieces) (by decide +kernel)) (fun _ _ _ _ _ => pg_name (i := 3) sc_trusted_pieces.nd rfl (by first | exact Or.inl rfl | exact Or.inr rfl)) (fun _ _ _ _ _ => pts_nil) (fun _ _ _ _ _ => (pe_tup (pa_cons (pe_call G_name hr_name (by rfl) T.g_name T.F_name.kp T.b_name .nil pass0 (pa_cons (pv 3) pa_nil)) (pa_cons (pv 3) pa_nil))))) pa_nil))))), ?_⟩
    try dsimp only [cxOf, Cx.nox, Cx.wish]
    refine x_st (σ' := [some _, none, none, none]) rfl ?_
    have hS := Sy.atD (K := K) hdom
    have hM0 := hM
    obtain ⟨hm, hc, hne⟩ := _root_.id hM
    walk_at "zS4"
    refine ⟨M, m, dx, l, μ, rfl, hS.dom, hM, hup, hl, fun v H f hd => ?_⟩
    have hS := (hS.ex f).addD hd
    have hM := hM.ex f
    (try simp only [List.cons_append, List.nil_append] at hS)
    obtain ⟨pb, rfl, stb⟩ := Dt.rec _ hd
    unfold bookOk at hbo
    generalize bookedO μ.cells = b at hbo k hS stb hw
    obtain ⟨t, st, lf⟩ := b
    dsimp only at hbo k stb hw
    obtain ⟨vt, many, one, two, n, sl, nsp, hh, hm1, hm2, hpt, hnl, -⟩ := good_parts hl hbo hw
    have hrow : rowOf μ.cells t = nsp := by
      unfold rowOf
      rw [hh]
      show (allI (partsL μ.cells t many)).getD [] = nsp
      rw [hpt, allI_some]; rfl
    rw [hrow] at k
    walk_at "zS4"
    refine x_ixT stb.1 rfl ?_
    walk_at "zS4"
    refine ⟨m, dx, l, μ, t, rfl, hM, hup, hl, hbo, fun p1 H f hn he => ?_⟩
    have hS := hS.exN f hn he
    have hM := hM.ex f
    rw [hh] at hS
    (try simp only [List.cons_append, List.nil_append] at hS)
    walk_at "zS4"
    refine ⟨m, dx, l, μ, t, many, rfl, hM, hup, hl, hbo, by omega, hm2, fun p2 H f hn he => ?_⟩
    have hp2 := hS.notM hn
    have hS := hS.exN f hn he
    rw [hpt, ← ints_ov] at hS
    (try simp only [List.cons_append, List.nil_append] at hS)
    have hd2 := Dt.lstI (K := K) (M := M) (H := H) (ds := nsp.map .int) ⟨hS.sl 1 rfl, .inl hp2⟩ (DtL.ints.mpr rfl)
    have hS := (hS.sub (L' := []) (by simp)).addD hd2
    (try simp only [List.cons_append, List.nil_append] at hS)
    walk_at "zS4"
    refine use_E nsp hS (.inl (hS.d 1 rfl)) (by omega) ?_
    clear hS; intro v4 H hS
    have h4 := hS.d 2 rfl
    obtain ⟨z4, zs, rfl, s4, r4⟩ : ∃ p xs, v4 = .ref p ∧ SLA K M H p xs ∧ DtL K M H ((piecesF nsp).map fun c => .tuple (c.map .int)) xs := by
      simp only [Dt] at h4; exact h4
    have s41 := s4.1
    walk_at "zS4"
    refine lcW_pairs hS h4 (by unfold piecesF pieceN; rw [List.length_map, List.length_range]; omega) ?_ ?_
    · intro i c a D acc H Q' hc hS kk
      have hcl := piece_len (List.mem_of_getElem? hc)
      have hda : Dt K (D :: M) H (.tuple (c.map .int)) (.ref a) := hS.dat _ (List.mem_append_right _ (List.mem_singleton.mpr rfl))
      walk_at "zS4"
      refine ⟨a, c.map some, rfl, sq_od (Dt.sq (.inr hda)), (by rw [List.length_map]; omega), fun z => (by rw [allI_some] at z; cases z), fun ms t1 H1 hm f ht e => ?_⟩
      rw [allI_some] at hm
      cases hm
      have hS := hS.exN f ht e
      walk_at "zS4"
      refine ⟨by simp only [List.length_cons, List.length_nil]; decide, fun p3 hp3 => ?_⟩
      have hS2 := hS.new (o := .tup [.ref t1, .ref a]) hp3
      exact kk t1 p3 _ hS2 (f.trans (Fr.new hp3))
    · intro D H ps kvs hD hT hS
      walk_at "zS4"
      refine n_dictPT (hS.sub (L' := []) (by simp)) (hS.sl 0 rfl) hT ?_
      intro p3 H3 hp3 hp0 hS3 hDT
      exact k p3 H3 hS3.fr hp0 hDT
theorem ok_asked (T : Txt K mg base A) : FnOk P w K mg base CX0 3 A.a_asked A.d_asked ["stores", "title"] (sp_asked K) := by
  have G_name := ok_name (P := P) (w := w) (base := base) T
  refine T.F_asked.ok sc_asked (fun vs H Q E h => ?_) (fun cdv A_ outer s H0 vs Q E hr h => ?_)
  · exact spD_len h (fun _ => rfl)
  · obtain ⟨M, ⟨ss, t⟩, hdom, hds, ⟨g1, g2, g3⟩, k⟩ := h
    dsimp only at hds g1 g2 g3 k
    have hS := Sy.ofD hdom hds
    simp only [DtL] at hds
    obtain ⟨u, _, rfl, hu0, u2, _, rfl, hu2, rfl⟩ := hds
    obtain ⟨p, xs, rfl, sp, rp⟩ : ∃ p xs, u = .ref p ∧ SLA K M H0 p xs ∧ DtL K M H0 (ss.map storeD) xs := by
      simp only [storesD, Dt] at hu0; exact hu0
    obtain ⟨p2, rfl⟩ := hu2.refT
    have hu := hu_of hr
    have hu2 := hu2_of hr
    have hr_name : Room 2 _ := hr.mono (by decide)
    refine ⟨_, pss_cons (ps_set (i := 2) sc_asked.nd rfl (Or.inl rfl) pe_int)
      (pss_cons (ps_for PassesOwn.never rfl (b_iL (K := K) (pv 0)) (pg_name (i := 3) sc_asked.nd rfl (Or.inl rfl)) (pss_one (ps_for PassesOwn.never rfl (b_iL (K := K) (pv 3)) (pg_tup (by rfl) (pgs_cons (pg_name (i := 4) sc_asked.nd rfl (Or.inl rfl)) (pgs_cons (pg_name (i := 5) sc_asked.nd rfl (Or.inl rfl)) pgs_nil))) (pss_one (ps_if (pt_cmpR (b_eqD (K := K) hr.units) (pv 4) (pv 1) (nomark _)) (pss_cons (ps_set (i := 2) sc_asked.nd rfl (Or.inl rfl) (pe_op op_add (pv 2) pe_int))
      (pss_one (ps_if (pt_cmpR (b_eqD (K := K) hr.units) (pe_call G_name hr_name (by rfl) T.g_name T.F_name.kp T.b_name .nil pass0 (pa_cons (pv 5) pa_nil)) (pv 1) (nomark _)) (pss_one (ps_ret (pe_tup (pa_cons (pe_callTy (b_tuple (K := K)) (by rfl) T.z_tuple (by decide +kernel) (pa_cons (pv 5) pa_nil)) (pa_cons (pv 2) pa_nil))))) pss_nil))) pss_nil)))))
      (pss_one (ps_ret (pe_tup (pa_cons pe_non (pa_cons (pv 2) pa_nil)))))), ?_⟩
    try dsimp only [cxOf, Cx.nox, Cx.wish]
    refine x_st (σ' := [some _, some _, none, none, none, none]) rfl ?_
    walk_at "zS6"
    refine ⟨p, rfl, ⟨_, sp.1⟩, ?_⟩
    refine for_dataL (ds := ss.map storeD) hu0 (fun j σ' H' => ∃ (n : Nat) (v3 v4 v5 : Option V), askF ss t = askR t (ss.drop j).flatten n ∧ Sy K (b0 H0) M H' [] [(storesD ss, .ref p), (tripD t, .ref p2)] ∧ σ' = [some (.ref p), some (.ref p2), some (.int n), v3, v4, v5]) ⟨0, _, _, _, rfl, hS, rfl⟩ (fun j σ' H' ⟨_, _, _, _, _, z, _⟩ => z.fr.wk0) ?_ ?_
    · clear hS
      rintro j d x σ' H' hd hdx ⟨n, v3, v4, v5, hn, hS, rfl⟩
      obtain ⟨st, hst, rfl⟩ := of_map hd
      have hg := g3 st (List.mem_of_getElem? hst)
      have hdr : (ss.drop j).flatten = st ++ (ss.drop (j + 1)).flatten := by
        have hj := (List.getElem?_eq_some_iff.mp hst)
        obtain ⟨hj1, hj2⟩ := hj
        rw [List.drop_eq_getElem_cons hj1, hj2]; rfl
      rw [hdr] at hn
      have hdx : Dt K M H' (.list (st.map rowD)) x := hdx
      obtain ⟨a0, rfl⟩ := hdx.refL
      have hS := hS.addD hdx
      obtain ⟨ys, sy, -⟩ := hdx.lst
      (try simp only [List.cons_append, List.nil_append] at hS)
      walk_at "zS6"
      refine ⟨a0, rfl, ⟨_, sy.1⟩, ?_⟩
      refine for_dataL (ds := st.map rowD) hdx (fun j2 σ' H2 => ∃ (n : Nat) (v4 v5 : Option V), askF ss t = askR t (st.drop j2 ++ (ss.drop (j + 1)).flatten) n ∧ Sy K (b0 H') M H2 [] [(storesD ss, .ref p), (tripD t, .ref p2), (.list (st.map rowD), .ref a0)] ∧ σ' = [some (.ref p), some (.ref p2), some (.int n), some (.ref a0), v4, v5]) ⟨n, _, _, hn, hS.rebase, rfl⟩ (fun j σ' H' ⟨_, _, _, _, z, _⟩ => z.fr.wk0) ?_ ?_
      · have hSo := hS
        clear hS
        rintro j2 d x σ' H2 hd hdx2 ⟨n, v4, v5, hn, hS, rfl⟩
        obtain ⟨⟨kn, pc⟩, hr0, rfl⟩ := of_map hd
        have hb := hg.2 _ (List.mem_of_getElem? hr0)
        have hdr2 : st.drop j2 = (kn, pc) :: st.drop (j2 + 1) := by
          obtain ⟨hj1, hj2⟩ := List.getElem?_eq_some_iff.mp hr0
          rw [List.drop_eq_getElem_cons hj1, hj2]
        rw [hdr2, List.cons_append] at hn
        have hdx2 : Dt K M H2 (.tuple [tripD kn, .tuple (pc.map .int)]) x := hdx2
        obtain ⟨a1, rfl⟩ := hdx2.refT
        refine d_gtup hdx2 (by rfl) ?_
        intro xs hx
        simp only [DtL] at hx
        obtain ⟨u1, _, rfl, h1, u3, _, rfl, h2, rfl⟩ := hx
        obtain ⟨a2, rfl⟩ := h1.refT
        obtain ⟨a3, rfl⟩ := h2.refT
        have hS := (hS.addD h1).addD h2
        (try simp only [List.cons_append, List.nil_append] at hS)
        walk_at "zS6"
        refine d_eqTr (a := kn) (b := t) (hS.d 3 rfl) (hS.d 1 rfl) ?_
        walk_at "zS6"
        by_cases hk : kn = t
        · refine x_iteT (decide_eq_true hk) ?_
          walk_at "zS6"
          have hb2 := hb.2.1
          dsimp only at hb2
          refine du_name hS (.inr (hS.d 4 rfl)) (by omega) ?_
          clear hS; intro t7 H hS
          (try simp only [List.cons_append, List.nil_append] at hS)
          walk_at "zS6"
          refine d_eqTr (a := titleF pc) (b := t) (hS.d 5 rfl) (hS.d 1 rfl) ?_
          walk_at "zS6"
          by_cases hk2 : titleF pc = t
          · rw [askR_good hk hk2] at hn
            refine x_iteT (decide_eq_true hk2) ?_
            walk_at "zS6"
            refine d_tupleT (hS.d 4 rfl) ?_
            walk_at "zS6"
            have hS := hSo.into hS (fun b hb => nomatch hb)
            refine d_tup hS (by simp) (DtL.cons' (hS.d 4 rfl) (DtL.cons' Dt.int' DtL.nil')) ?_
            clear hS; intro t8 H hS
            refine k _ _ hS.fr ?_
            rw [hn]
            have := hS.d 6 rfl
            unfold askD
            rw [show (((n + 1 : Nat) : Int)) = (n : Int) + 1 by push_cast; rfl]
            exact this
          · rw [askR_bad hk hk2] at hn
            refine x_iteF (decide_eq_false hk2) ?_
            walk_at "zS6"
            exact ⟨n + 1, _, _, hn, hS.subD (by simp), by push_cast; rfl⟩
        · rw [askR_other hk] at hn
          refine x_iteF (decide_eq_false hk) ?_
          walk_at "zS6"
          exact ⟨n, _, _, hn, hS.subD (by simp), rfl⟩
      · rintro σ' H2 ⟨n, v4, v5, hn, hS2, rfl⟩
        have hS := hS.into hS2 (fun b hb => nomatch hb)
        rw [List.length_map, List.drop_length, List.nil_append] at hn
        exact ⟨n, _, _, _, hn, hS.subD (by simp), rfl⟩
    · rintro σ' H' ⟨n, v3, v4, v5, hn, hS, rfl⟩
      rw [List.length_map, List.drop_length] at hn
      walk_at "zS6"
      refine d_tup hS (by simp) (DtL.cons' Dt.non' (DtL.cons' Dt.int' DtL.nil')) ?_
      have f0 := hS.fr
      clear hS; intro t1 H1 hS
      refine k _ _ hS.fr ?_
      rw [hn]
      exact hS.d 2 rfl
theorem ok_Memory_put (T : Txt K mg base A) : FnOk P w K mg base (L2.CX P w) 4 A.a_Memory_put A.d_Memory_put ["self", "place", "row"] (sp_Memory_put A K) := by
  have G_Memory_need_cell := ok_Memory_need_cell (P := P) (w := w) (base := base) T
  have G_Memory_read := ok_Memory_read (P := P) (w := w) (base := base) T
  have G_Memory_write := ok_Memory_write (P := P) (w := w) (base := base) T
  refine T.F_Memory_put.okX sc_Memory_put (fun vs H Q E h => ?_) (fun cdv A_ outer s H0 vs Q E hr h => ?_)
  · obtain ⟨_, h⟩ := h; obtain ⟨_, h⟩ := h; obtain ⟨_, h⟩ := h; obtain ⟨_, h⟩ := h; obtain ⟨_, h⟩ := h; obtain ⟨_, h⟩ := h; obtain ⟨_, h⟩ := h; obtain ⟨rfl, _⟩ := h; rfl
  · obtain ⟨m, dx, l, μ, i, row, p, rfl, hM, hp, hst, h0, h1, h2, hrw, kU, kD, kN⟩ := h
    have hu := hu_of hr
    have hu2 := hu2_of hr
    have cl_Memory := T.cl_Memory; have na_Memory_is_up := T.n_Memory_is_up; have na_Memory_left := T.n_Memory_left; have na_Memory_many := T.n_Memory_many; have na_Memory_torn := T.n_Memory_torn; have na_Memory_worths := T.n_Memory_worths
    have hr_Memory_need_cell : Room 2 _ := hr.mono (by decide)
    have hr_Memory_read : Room 2 _ := hr.mono (by decide)
    have hr_Memory_write : Room 3 _ := hr.mono (by decide)
    refine ⟨_, pss_cons (ps_for (passes_of rfl) rfl (pi_range1 (by rfl) T.z_range (pa_cons (pe_callB (b_len (K := K)) (by rfl) T.z_len (by decide +kernel) (pa_cons (pv 2) pa_nil)) pa_nil)) (pg_name (i := 3) sc_Memory_put.nd rfl (Or.inl rfl)) (pss_one (ps_expr (pe_meth (pv 0) T.cl_Memory T.m_Memory_need_cell G_Memory_need_cell hr_Memory_need_cell T.b_Memory_need_cell .nil (passX rfl rfl rfl rfl) (pa_cons (pe_op op_add (pv 1) (pv 3)) (pa_cons (pe_ix (b_ix (K := K)) (pv 2) (pv 3) (fun _ _ => rfl)) pa_nil))))))
      (pss_cons (ps_set (i := 4) sc_Memory_put.nd rfl (Or.inl rfl) pe_int)
      (pss_cons (ps_for (passes_of rfl) rfl (pi_range1 (by rfl) T.z_range (pa_cons (pe_callB (b_len (K := K)) (by rfl) T.z_len (by decide +kernel) (pa_cons (pv 2) pa_nil)) pa_nil)) (pg_name (i := 3) sc_Memory_put.nd rfl (Or.inl rfl)) (pss_one (ps_if (pt_cmpR op_ne (pe_meth (pv 0) T.cl_Memory T.m_Memory_read G_Memory_read hr_Memory_read T.b_Memory_read .nil (passX rfl rfl rfl rfl) (pa_cons (pe_op op_add (pv 1) (pv 3)) pa_nil)) (pe_ix (b_ix (K := K)) (pv 2) (pv 3) (fun _ _ => rfl)) (nomark _)) (pss_cons (ps_expr (pe_meth (pv 0) T.cl_Memory T.m_Memory_write G_Memory_write hr_Memory_write T.b_Memory_write .nil (passX rfl rfl rfl rfl) (pa_cons (pe_op op_add (pv 1) (pv 3)) (pa_cons (pe_ix (b_ix (K := K)) (pv 2) (pv 3) (fun _ _ => rfl)) pa_nil))))
      (pss_one (ps_set (i := 4) sc_Memory_put.nd rfl (Or.inl rfl) (pe_op op_add (pv 4) pe_int)))) pss_nil)))
      (pss_one (ps_ret (pv 4))))), ?_⟩
    try dsimp only [cxOf, Cx.nox, Cx.wish]
    refine x_st (σ' := [some _, some _, some _, none, none]) rfl ?_
    obtain ⟨hm, hc, hne⟩ := _root_.id hM
    walk_at "zS5"
    rw [List.length_map]
    (refine ⟨_, rfl, by omega, by omega, ?_⟩)
    refine for_range (lo := 0) (n := ((row.length : Int)).toNat) (fun j σ' H' => ∃ v3 : Option V, H' = H0 ∧ σ' = [some (.ref m), some (.int i), some (.ref p), v3, none]) ?_ ?_ ?_
    · exact ⟨_, rfl, rfl⟩
    · rintro j σ' H' hj ⟨v3, rfl, rfl⟩
      have hj : j < row.length := by omega
      have hat : atI (row.map V.int) (0 + (j : Int)) = some (.int (row.getD j 0)) := atI_int (by omega) (by rw [List.getElem?_map, show (0 + (j : Int)).toNat = j by omega, List.getElem?_eq_getElem hj, List.getD_eq_getElem?_getD, List.getElem?_eq_getElem hj]; rfl)
      have hrj := hrw (row.getD j 0) (by rw [List.getD_eq_getElem?_getD, List.getElem?_eq_getElem hj]; exact List.getElem_mem _)
      walk_at "zS5"
      refine n_ixE hp hat ?_
      refine ⟨m, dx, l, μ, _, _, rfl, hM, fun _ _ _ _ => ?_, fun z => (z ⟨by omega, by omega⟩).elim, fun _ _ z => (z hrj).elim⟩
      walk_at "zS5"
      exact ⟨_, rfl, rfl⟩
    rintro σ' H ⟨v3, rfl, rfl⟩
    walk_at "zS5"
    rw [List.length_map]
    (refine ⟨_, rfl, by omega, by omega, ?_⟩)
    cases hup : μ.up with
    | false =>
      refine for_range (lo := 0) (n := ((row.length : Int)).toNat) (fun j σ' H' => j = 0 ∧ ∃ v3 : Option V, H' = H ∧ σ' = [some (.ref m), some (.int i), some (.ref p), v3, some (.int 0)]) ?_ ?_ ?_
      · exact ⟨rfl, _, rfl, rfl⟩
      · rintro j σ' H' hj ⟨rfl, v3, rfl, rfl⟩
        have hne' : row ≠ [] := fun z => by rw [z] at hj; simp at hj
        have hr0 : 0 < row.length := List.length_pos_iff.mpr hne'
        walk_at "zS5"
        refine ⟨m, dx, l, μ, _, rfl, hM, (by intro _ _ z; rw [hup] at z; cases z), fun z => (z ⟨by omega, by omega⟩).elim, fun _ _ _ => kD hup hne'⟩
      · rintro σ' H' ⟨hj, v3, rfl, rfl⟩
        have hn : row = [] := List.eq_nil_of_length_eq_zero (by omega)
        walk_at "zS5"
        exact kN hn
    | true =>
      have k := kU hup
      refine for_range (lo := 0) (n := ((row.length : Int)).toNat) (fun j σ' H' => ∃ v3 : Option V, (Mem.run (putU μ.cells i.toNat row j) μ).2 = true ∧ Fr [m, l] H H' ∧ MemAt A.c_Memory H' m dx l (Mem.run (putU μ.cells i.toNat row j) μ).1 ∧ σ' = [some (.ref m), some (.int i), some (.ref p), v3, some (.int ((putU μ.cells i.toNat row j).length : Int))]) ?_ ?_ ?_
      · exact ⟨_, rfl, Fr.refl _ _, hM, rfl⟩
      · rintro j σ' H' hj ⟨v3, hok, hf, hM', rfl⟩
        have hj : j < row.length := by omega
        have hat : atI (row.map V.int) (0 + (j : Int)) = some (.int (row.getD j 0)) := atI_int (by omega) (by rw [List.getElem?_map, show (0 + (j : Int)).toNat = j by omega, List.getElem?_eq_getElem hj, List.getD_eq_getElem?_getD, List.getElem?_eq_getElem hj]; rfl)
        have hrj := hrw (row.getD j 0) (by rw [List.getD_eq_getElem?_getD, List.getElem?_eq_getElem hj]; exact List.getElem_mem _)
        have hp' := rowStays hst hp hf
        have hlen : (Mem.run (putU μ.cells i.toNat row j) μ).1.cells.length = μ.cells.length := run_len _ _
        have hup' : (Mem.run (putU μ.cells i.toNat row j) μ).1.up = true := by rw [run_upT hok]; exact hup
        have hcell : (Mem.run (putU μ.cells i.toNat row j) μ).1.cells.getD (i + (0 + (j : Int))).toNat none = μ.cells.getD (i.toNat + j) none := by
          rw [run_cells hok, show (i + (0 + (j : Int))).toNat = i.toNat + j by omega]
          exact applyW_outD fun q hq => by have := putU_mem hq; omega
        obtain ⟨hm', hc', -⟩ := _root_.id hM'
        walk_at "zS5"
        refine ⟨m, dx, l, _, _, rfl, hM', fun _ _ _ => ?_, fun z => (z ⟨by omega, by omega⟩).elim, fun _ _ z => by rw [hup'] at z; cases z⟩
        rw [hcell]
        walk_at "zS5"
        refine n_ixE hp' hat ?_
        refine x_ne (scal_ov _ _) ?_
        rw [ov_ne]
        walk_at "zS5"
        by_cases hcc : μ.cells.getD (i.toNat + j) none = some (row.getD j 0)
        · refine x_iteF (by rw [decide_eq_true hcc]; rfl) ?_
          walk_at "zS5"
          exact ⟨_, by rw [putU_no hcc]; exact hok, hf, by rw [putU_no hcc]; exact hM', by rw [putU_no hcc]⟩
        · refine x_iteT (by rw [decide_eq_false hcc]; rfl) ?_
          walk_at "zS5"
          refine n_ixE hp' hat ?_
          walk_at "zS5"
          obtain ⟨rr, hrr⟩ := putU_pre μ.cells i.toNat row (show j + 1 ≤ row.length by omega)
          have hy := putU_yes hcc
          refine use_wr hM' hup' (by omega) (by omega) hrj.1 hrj.2 ?_
          rw [show (i + (0 + (j : Int))).toNat = i.toNat + j by omega]
          refine ranX_mid (r := rr) (Q := fun H' => Q (.int ((putW μ.cells i.toNat row).length : Int)) H') ?_ hok hf fun H2 f2 hM2 hok2 => ?_
          · rw [← List.append_assoc, ← hy, ← hrr]; exact k
          · rw [← hy] at hM2 hok2
            walk_at "zS5"
            exact ⟨_, hok2, hf.trans f2, hM2, by rw [hy, List.length_append]; rfl⟩
      · rintro σ' H' ⟨v3, hok, hf, hM', rfl⟩
        rw [Int.toNat_natCast] at hok hM' ⊢
        walk_at "zS5"
        exact (k H' hf hM').1 hok
theorem ok_lay_pieces (T : Txt K mg base A) : FnOk P w K mg base (L2.CX P w) 9 A.a_lay_pieces A.d_lay_pieces ["memory", "slot", "names", "stores"] (sp_lay_pieces A K) := by
  have G_trusted_pieces := ok_trusted_pieces (P := P) (w := w) (base := base) T
  have G_Memory_row := ok_Memory_row (P := P) (w := w) (base := base) T
  have G_name := ok_name (P := P) (w := w) (base := base) T
  have G_asked := ok_asked (P := P) (w := w) (base := base) T
  have G_Memory_put := ok_Memory_put (P := P) (w := w) (base := base) T
  refine T.F_lay_pieces.okX sc_lay_pieces (fun vs H Q E h => ?_) (fun cdv A_ outer s H0 vs Q E hr h => ?_)
  · obtain ⟨_, h⟩ := h; obtain ⟨_, h⟩ := h; obtain ⟨_, h⟩ := h; obtain ⟨_, h⟩ := h; obtain ⟨_, h⟩ := h; obtain ⟨_, h⟩ := h; obtain ⟨_, h⟩ := h; obtain ⟨_, h⟩ := h; obtain ⟨_, h⟩ := h; obtain ⟨_, h⟩ := h; obtain ⟨_, h⟩ := h; obtain ⟨rfl, _⟩ := h; rfl
  · obtain ⟨M, m, dx, l, μ, ks, s, ts, ss, v, u, rfl, hdom, hmM, hlM, hM, hup, hl, hbd, hbo, hw, hs, hv, htl, hfit, hss, gs, k⟩ := h
    have hu := hu_of hr
    have hu2 := hu2_of hr
    have tk_SLOTS := T.l_SLOTS
    have cl_Memory := T.cl_Memory; have na_Memory_is_up := T.n_Memory_is_up; have na_Memory_left := T.n_Memory_left; have na_Memory_many := T.n_Memory_many; have na_Memory_torn := T.n_Memory_torn; have na_Memory_worths := T.n_Memory_worths
    have hr_trusted_pieces : Room 8 _ := hr.mono (by decide)
    have hr_Memory_row : Room 3 _ := hr.mono (by decide)
    have hr_name : Room 2 _ := hr.mono (by decide)
    have hr_asked : Room 3 _ := hr.mono (by decide)
    have hr_Memory_put : Room 4 _ := hr.mono (by decide)
    refine ⟨_, pss_cons (ps_set (i := 4) sc_lay_pieces.nd rfl (Or.inl rfl) (pe_call G_trusted_pieces hr_trusted_pieces (by rfl) T.g_trusted_pieces T.F_trusted_pieces.kp T.b_trusted_pieces .nil pass0 (pa_cons (pv 0) pa_nil)))
      (pss_cons (ps_set (i := 5) sc_lay_pieces.nd rfl (Or.inl rfl) (pe_lst (pa_cons pe_int (pa_cons pe_int (pa_cons pe_int pa_nil)))))
      (pss_cons (ps_set (i := 6) sc_lay_pieces.nd rfl (Or.inl rfl) (pe_op op_add (pe_ix (b_ixT (K := K)) (pe_gt rfl T.g_SLOTS) (pv 1) (fun _ _ => rfl)) (pe_gi rfl T.c_HEAD)))
      (pss_cons (ps_for (passes_of rfl) rfl (pi_range1 (by rfl) T.z_range (pa_cons (pe_callB (b_len (K := K)) (by rfl) T.z_len (by decide +kernel) (pa_cons (pv 2) pa_nil)) pa_nil)) (pg_name (i := 7) sc_lay_pieces.nd rfl (Or.inl rfl)) (pss_cons (ps_set (i := 8) sc_lay_pieces.nd rfl (Or.inl rfl) (pe_ix (b_ixT (K := K)) (pv 2) (pv 7) (fun _ _ => rfl)))
      (pss_cons (ps_set (i := 9) sc_lay_pieces.nd rfl (Or.inl rfl) pe_int)
      (Evl.pss_cut (ps_if (pt_cmpR (b_neD (K := K) hr.units) (pe_call G_name hr_name (by rfl) T.g_name T.F_name.kp T.b_name .nil pass0 (pa_cons (pe_meth (pv 0) T.cl_Memory T.m_Memory_row G_Memory_row hr_Memory_row T.b_Memory_row .nil pass0 (pa_cons (pv 6) (pa_cons (pe_ix (b_ixT (K := K)) (pv 8) pe_int (fun _ _ => rfl)) pa_nil))) pa_nil)) (pv 8) (nomark _)) (pss_cons (ps_set (i := 9) sc_lay_pieces.nd rfl (Or.inl rfl) (pe_ifExp (pt_cmpR (b_inDT (K := K) hu) (pv 8) (pv 4) (by rfl)) pe_int pe_int))
      (pss_cons (ps_set (i := 10) sc_lay_pieces.nd rfl (Or.inl rfl) (pe_ifExp (pt_cmpR op_eq (pv 9) pe_int (nomark _)) (pe_ix (b_ixDT (K := K) hu) (pv 4) (pv 8) (fun _ _ => rfl)) (pe_ix (b_ixT (K := K)) (pe_call G_asked hr_asked (by rfl) T.g_asked T.F_asked.kp T.b_asked .nil pass0 (pa_cons (pv 3) (pa_cons (pv 8) pa_nil))) pe_int (fun _ _ => rfl))))
      (pss_cons (ps_if (pt_cmpR c_isN (pv 10) pe_non (nomark _)) (pss_one (ps_ret (pe_op (b_catT (K := K)) (pe_callTy (b_tuple (K := K)) (by rfl) T.z_tuple (by decide +kernel) (pa_cons (pv 5) pa_nil)) (pe_tup (pa_cons (pv 7) pa_nil))))) pss_nil)
      (pss_one (ps_expr (pe_meth (pv 0) T.cl_Memory T.m_Memory_put G_Memory_put hr_Memory_put T.b_Memory_put .nil (passX rfl rfl rfl rfl) (pa_cons (pv 6) (pa_cons (pv 10) pa_nil)))))))) pss_nil)
      (pss_cons (ps_asg (pe_op op_add (pe_ix (b_ixL (K := K)) (pv 5) (pv 9) (fun _ _ => rfl)) pe_int) (pg_sub (pv 5) (pv 9) set_list))
      (pss_one (ps_set (i := 6) sc_lay_pieces.nd rfl (Or.inl rfl) (pe_op op_add (pv 6) (pe_ix (b_ixT (K := K)) (pv 8) pe_int (fun _ _ => rfl))))))))))
      (pss_one (ps_ret (pe_op (b_catT (K := K)) (pe_callTy (b_tuple (K := K)) (by rfl) T.z_tuple (by decide +kernel) (pa_cons (pv 5) pa_nil)) (pe_tup (pa_cons pe_non pa_nil)))))))), ?_⟩
    try dsimp only [cxOf, Cx.nox, Cx.wish]
    refine x_st (σ' := [some _, some _, some _, some _, none, none, none, none, none, none, none]) rfl ?_
    obtain ⟨hm, hc, hne⟩ := _root_.id hM
    have hml : ∀ a ∈ [m, l], ∃ o, H0 a = some o := fun a ha => by
      simp only [List.mem_cons, List.not_mem_nil, or_false] at ha
      rcases ha with rfl | rfl
      · exact ⟨_, hm⟩
      · exact ⟨_, hc⟩
    have hS : Sy K ⟨H0, [m, l]⟩ M H0 [] [(.tuple (ts.map tripD), v), (storesD ss, u)] := (((Sy.atD (K := K) hdom).addD hv).addD hss).from [m, l] hml
    obtain ⟨nk, rfl⟩ := hv.refT
    obtain ⟨sk, rfl⟩ := hss.refL
    have hso : s = 0 ∨ s = 1 := by rw [hs]; exact (other_slot hbo).1
    have hb := slotB_b hso
    have kb := known_b hbd (bookedO μ.cells).1
    walk_at "zS11"
    refine ⟨M, m, dx, l, μ, ks, rfl, hS.dom, hM, hup, hl, hbo, hw, fun kp H f hkp hDT => ?_⟩
    have kpm : kp ≠ m := fun z => by rw [z, hm] at hkp; cases hkp
    have kpl : kp ≠ l := fun z => by rw [z, hc] at hkp; cases hkp
    have hS := hS.ex f
    have hM := hM.ex f
    have k := ranX_ex k f
    (try simp only [List.cons_append, List.nil_append] at hS)
    generalize piecesF (rowOf μ.cells (bookedO μ.cells).1) = kn at hDT k kb
    have hnb := hS.nom
    obtain ⟨Hb, hHb⟩ : ∃ Hb, Hb = H := ⟨_, rfl⟩
    subst hHb
    have hS := hS.rebase
    obtain ⟨R, hR⟩ : ∃ R, R = (layF ss kn ts (slotB s + 7) μ.cells [0, 0, 0]).2 := ⟨_, rfl⟩
    rw [← hR] at k
    have hkp : ∃ o, Hb kp = some o := by obtain ⟨kvs, e, -⟩ := hDT; exact ⟨_, e⟩
    walk_at "zS11"
    (refine ⟨by simp only [List.length_cons, List.length_nil]; decide, n_alM hS ?_⟩; clear hS; intro cp H cp_n cp_0 hS; simp only [List.cons_append, List.nil_append] at hS)
    have cpk : kp ≠ cp := fun z => by obtain ⟨o, e⟩ := hkp; rw [z, cp_n] at e; cases e
    have kml : kp ∉ [m, l] := by simp [kpm, kpl]
    have hmM' : m ∈ cp :: M := List.mem_cons_of_mem _ hmM
    have hlM' : l ∈ cp :: M := List.mem_cons_of_mem _ hlM
    have hmlM : ∀ d ∈ [m, l], d ∈ cp :: M := fun d hd => by
      simp only [List.mem_cons, List.not_mem_nil, or_false] at hd
      rcases hd with rfl | rfl
      · exact hmM'
      · exact hlM'
    have hDT := (hDT.cons cp_n).ex hS.fr
    have cpm : cp ≠ m := fun z => by rw [z, hM.1] at cp_n; cases cp_n
    have cpl : cp ≠ l := fun z => by rw [z, hM.2.1] at cp_n; cases cp_n
    have hM := hM.ex hS.fr
    have hS := hS.nmore [m, l] hnb
    walk_at "zS11"
    refine x_ixT (TupK.st tk_SLOTS) (slot_at hso) ?_
    walk_at "zS11"
    refine d_lenT (hS.d 0 rfl) ?_
    rw [List.length_map]
    walk_at "zS11"
    (refine ⟨_, rfl, by omega, by omega, ?_⟩)
    refine for_range (lo := 0) (n := ((ts.length : Int)).toNat) (fun j σ' H' => ∃ (μ1 : Mem) (ct : List Int) (pl : Int) (v7 v8 v9 v10 : Option V), Sy K ⟨Hb, [m, l]⟩ (cp :: M) H' [(cp, .lst (ct.map V.int))] [(.tuple (ts.map tripD), .ref nk), (storesD ss, .ref sk)] ∧ MemAt A.c_Memory H' m dx l μ1 ∧ μ1.up = true ∧ μ1.cells.length = 54 ∧ DTAt K (cp :: M) H' kp kn ∧ ct.length = 3 ∧ ct.sum = j ∧ fitsL (ts.drop j) pl ∧ R = (layF ss kn (ts.drop j) pl μ1.cells ct).2 ∧
        ranX A.c_Memory m dx l μ1 (layF ss kn (ts.drop j) pl μ1.cells ct).1 Hb (fun H1 => ∀ u H2, Fr [] H1 H2 → Dt K M H2 (layD R) u → Q u H2) (E (.ref (erF A .stopped)) none) ∧
        σ' = [some (.ref m), some (.int s), some (.ref nk), some (.ref sk), some (.ref kp), some (.ref cp), some (.int pl), v7, v8, v9, v10]) ?_ ?_ ?_
    · exact ⟨μ, [0, 0, 0], _, _, _, _, _, hS, hM, hup, hl, hDT, rfl, rfl, hfit, hR, k, rfl⟩
    · clear hS hDT hM hR k hup hl
      rintro j σ' H' hj ⟨μ1, ct, pl, v7, v8, v9, v10, hS, hM, hup, hl, hDT, hc3, hcs, hfit, hR, k, rfl⟩
      obtain ⟨t, ht⟩ : ∃ t, ts[j]? = some t := ⟨ts[j]'(by omega), List.getElem?_eq_getElem (by omega)⟩
      have hdr : ts.drop j = t :: ts.drop (j + 1) := by
        obtain ⟨h1, h2⟩ := List.getElem?_eq_some_iff.mp ht
        rw [List.drop_eq_getElem_cons h1, h2]
      rw [hdr] at hR k hfit
      obtain ⟨f1, f2, f3, f4, f5⟩ := hfit
      have hat : (ts.map tripD)[j]? = some (tripD t) := by rw [List.getElem?_map, ht]; rfl
      obtain ⟨hm, hc, -⟩ := _root_.id hM
      walk_at "zS11"
      refine d_ixTT hS (hS.d 0 rfl) (atI_int (by omega) (by rw [show ((0 : Int) + (j : Int)).toNat = j by omega]; exact hat)) ?_
      clear hS; intro tp hS
      walk_at "zS11"
      refine ⟨fun σ' H' => ∃ (μ2 : Mem) (w : Nat) (pc : List Int) (v10' : Option V), stepL ss kn μ1.cells pl t = some (w, pc) ∧ Sy K ⟨Hb, [m, l]⟩ (cp :: M) H' [(cp, .lst (ct.map V.int))] [(.tuple (ts.map tripD), .ref nk), (storesD ss, .ref sk), (tripD t, .ref tp)] ∧ MemAt A.c_Memory H' m dx l μ2 ∧ μ2.up = true ∧ μ2.cells = applyW (putW μ1.cells pl.toNat pc) μ1.cells ∧ DTAt K (cp :: M) H' kp kn ∧
        ranX A.c_Memory m dx l μ2 (layF ss kn (ts.drop (j + 1)) (pl + t.2.2) μ2.cells (bumpL ct w)).1 Hb (fun H1 => ∀ u H2, Fr [] H1 H2 → Dt K M H2 (layD R) u → Q u H2) (E (.ref (erF A .stopped)) none) ∧
        σ' = [some (.ref m), some (.int s), some (.ref nk), some (.ref sk), some (.ref kp), some (.ref cp), some (.int pl), some (.int (0 + (j : Int))), some (.ref tp), some (.int w), v10'], ?_, ?_⟩
      · walk_at "zS11"
        refine d_ixTI (hS.d 2 rfl) rfl ?_
        walk_at "zS11"
        refine ⟨m, dx, l, μ1, pl, t.2.2, rfl, hM, hup, f1, f2, by omega, by omega, fun p H f hp ep => ?_⟩
        have hS := hS.exN f hp ep
        have hM := hM.ex f
        have hDT := hDT.ex f
        (try simp only [List.cons_append, List.nil_append] at hS)
        walk_at "zS11"
        refine use_nameO hS (.inl (hS.sl 1 rfl)) (by rw [List.length_take]; omega) ?_
        clear hS; intro tu H f hS
        have hM := hM.ex f
        have hDT := hDT.ex f
        (try simp only [List.cons_append, List.nil_append] at hS)
        walk_at "zS11"
        refine d_neO (hS.d 3 rfl) (hS.d 2 rfl) ?_
        walk_at "zS11"
        by_cases hti : titleO (cutO μ1.cells pl t.2.2) = some t
        · have est := stepL_kept (ss := ss) (kn := kn) hti
          rw [layF_some est] at k
          refine x_iteF (by rw [show decide (titleO (List.take t.2.2.toNat (List.drop pl.toNat μ1.cells)) = some t) = true from decide_eq_true hti]; rfl) ?_
          walk_at "zS11"
          exact ⟨μ1, 0, [], _, est, (hS.sub (L' := [(cp, .lst (ct.map V.int))]) (by simp)).subD (by simp), hM, hup, rfl, hDT, k, rfl⟩
        · refine x_iteT (by rw [show decide (titleO (List.take t.2.2.toNat (List.drop pl.toNat μ1.cells)) = some t) = false from decide_eq_false hti]; rfl) ?_
          have hS := (hS.sub (L' := [(cp, .lst (ct.map V.int))]) (by simp)).subD (Ds' := [(PyData.tuple (List.map tripD ts), V.ref nk), (storesD ss, V.ref sk), (tripD t, V.ref tp)]) (by simp)
          have htq := tr_sqT (hS.d 2 rfl)
          walk_at "zS11"
          obtain ⟨kvs, ekv, hval⟩ := hDT.val t
          refine n_inDT ekv htq ?_
          walk_at "zS11"
          rcases hval with ⟨hkn, hvn⟩ | ⟨pc, pa, hkn, hvn, hpa⟩
          · have est := stepL_asked (ss := ss) (kn := kn) hti hkn
            refine x_iteF (by rw [hvn]; rfl) ?_
            walk_at "zS11"
            refine ⟨cp :: M, (ss, t), hS.dom, DtL.cons' (hS.d 1 rfl) (DtL.cons' (hS.d 2 rfl) DtL.nil'), gs, fun v H f hv => ?_⟩
            have hS := (hS.ex f).addD hv
            have hM := hM.ex f
            have hDT := hDT.ex f
            (try simp only [List.cons_append, List.nil_append] at hS)
            unfold askD at hv
            obtain ⟨vp, rfl⟩ := hv.refT
            walk_at "zS11"
            refine d_ixT hS hv rfl ?_
            clear hS; intro pv hS
            have hpv := hS.d 4 rfl
            cases hq : (askF ss t).1 with
            | none =>
              rw [hq] at est hpv
              simp only [Dt] at hpv
              subst hpv
              rw [layF_none est] at k hR
              have q := ranX_nil (ranX_mono k hS.fr) hM
              have hS := hS.rebase
              walk_at "zS11"
              (refine n_al hS ?_; clear hS; intro c1 H c1_n c1_0 hS; simp only [List.cons_append, List.nil_append] at hS)
              walk_at "zS11"
              (refine ⟨by simp only [List.length_cons, List.length_nil]; decide, n_al hS ?_⟩; clear hS; intro c2 H c2_n c2_0 hS; simp only [List.cons_append, List.nil_append] at hS)
              walk_at "zS11"
              refine n_catT (hS.st 1 rfl) (hS.st 2 rfl) (fun z => by have := congrArg List.length z; rw [List.length_map, hc3] at this; cases this) (by simp) (by rw [List.length_map]; simp only [List.length_cons, List.length_nil]; omega) ?_
              have hdm := hS.dom
              (refine n_al hS ?_; clear hS; intro c3 H c3_n c3_0 hS; simp only [List.cons_append, List.nil_append] at hS)
              refine q _ _ hS.fr ?_
              rw [hR]
              refine Dt.tupI ⟨hS.st 3 rfl, .inl fun z => notM0 hdm c3_n (List.mem_cons_of_mem _ z)⟩ (DtL.append (DtL.ints.mpr rfl) (DtL.cons' ?_ DtL.nil'))
              rw [if_pos rfl, hcs, show (0 : Int) + (j : Int) = j by omega]
              exact Dt.int'
            | some pc =>
              rw [hq] at est hpv
              obtain ⟨pa, rfl⟩ := hpv.refT
              have hpa : Dt K (cp :: M) H (.tuple (pc.map .int)) (.ref pa) := hpv
              rw [layF_some est] at k
              dsimp only at k
              obtain ⟨w3, plen, pwb⟩ := stepL_ok gs kb f2 est
              obtain ⟨psq, pst⟩ := hpa.put hmM' hlM'
              obtain ⟨hm, hc, -⟩ := _root_.id hM
              walk_at "zS11"
              have putE : pc = [] → putW μ1.cells pl.toNat pc = [] := fun z => by rw [z]; rfl
              refine ⟨m, dx, l, μ1, pl, pc, pa, rfl, hM, psq, pst, f1, by omega, by omega, pwb, fun _ => ?_, (by intro z; rw [hup] at z; cases z), fun z => ?_⟩
              · refine ranX_appB k hS.fr fun H1 μ2 f hM2 hcs2 hup2 k2 => ?_
                have hS := hS.awayM f hM2 hmM' hlM' (by simp [cpm.symm]) (by simp [cpl.symm])
                have hDT := hDT.mono f hmlM kml
                rw [← hcs2] at k2
                walk_at "zS11"
                exact ⟨μ2, 2, pc, _, est, hS.subD (by simp), hM2, by rw [hup2]; exact hup, hcs2, hDT, k2, rfl⟩
              · rw [putE z] at k
                walk_at "zS11"
                exact ⟨μ1, 2, pc, _, est, hS.subD (by simp), hM, hup, by rw [putE z]; rfl, hDT, k, rfl⟩
          · have est := stepL_known (ss := ss) hti hkn
            refine x_iteT (by rw [hvn]; rfl) ?_
            walk_at "zS11"
            refine n_ixDT ekv htq hvn ?_
            rw [layF_some est] at k
            dsimp only at k
            obtain ⟨w3, plen, pwb⟩ := stepL_ok gs kb f2 est
            obtain ⟨psq, pst⟩ := hpa.put hmM' hlM'
            obtain ⟨hm, hc, -⟩ := _root_.id hM
            walk_at "zS11"
            have putE : pc = [] → putW μ1.cells pl.toNat pc = [] := fun z => by rw [z]; rfl
            refine ⟨m, dx, l, μ1, pl, pc, pa, rfl, hM, psq, pst, f1, by omega, by omega, pwb, fun _ => ?_, (by intro z; rw [hup] at z; cases z), fun z => ?_⟩
            · refine ranX_appB k hS.fr fun H1 μ2 f hM2 hcs2 hup2 k2 => ?_
              have hS := hS.awayM f hM2 hmM' hlM' (by simp [cpm.symm]) (by simp [cpl.symm])
              have hDT := hDT.mono f hmlM kml
              rw [← hcs2] at k2
              walk_at "zS11"
              exact ⟨μ2, 1, pc, _, est, hS.subD (by simp), hM2, by rw [hup2]; exact hup, hcs2, hDT, k2, rfl⟩
            · rw [putE z] at k
              walk_at "zS11"
              exact ⟨μ1, 1, pc, _, est, hS.subD (by simp), hM, hup, by rw [putE z]; rfl, hDT, k, rfl⟩
      · clear hS hM hDT hup k
        rintro σ' H ⟨μ2, w, pc, v10', est, hS, hM, hup, hcs2, hDT, k, rfl⟩
        rw [layF_some est] at hR
        dsimp only at hR
        rw [← hcs2] at hR
        obtain ⟨w3, plen, pwb⟩ := stepL_ok gs kb f2 est
        obtain ⟨b1, b2⟩ := bumpL_ok hc3 w3
        walk_at "zS11"
        refine x_ixL (hS.sl 0 rfl) (atI_int (by omega) (by rw [Int.toNat_natCast, List.getElem?_map, List.getElem?_eq_getElem (by omega)]; rfl)) ?_
        walk_at "zS11"
        refine x_setF hS 0 rfl ⟨by simp, .inr cp_n⟩ (ixN_int (by omega) (by rw [List.length_map]; omega)) ?_
        clear hS; intro H f hS
        simp only [List.set_cons_zero, List.set_cons_succ] at hS
        rw [Int.toNat_natCast, show (ct.map V.int).set w (.int (ct[w] + 1)) = (bumpL ct w).map V.int by unfold bumpL; rw [List.map_set, List.getD_eq_getElem?_getD, List.getElem?_eq_getElem (by omega)]; rfl] at hS
        have hM := hM.mono f (by simp [cpm.symm]) (by simp [cpl.symm])
        have hDT := hDT.mono f (fun d hd => by rw [List.mem_singleton.mp hd]; simp) (by simp [cpk])
        walk_at "zS11"
        refine d_ixTI (hS.d 2 rfl) rfl ?_
        walk_at "zS11"
        exact ⟨μ2, bumpL ct w, pl + t.2.2, _, _, _, _, hS.subD (by simp), hM, hup, by rw [hcs2, applyW_len]; exact hl, hDT, b1, by rw [b2, hcs]; push_cast; rfl, f5, hR, k, rfl⟩
    · clear hS hDT hM hR k hup hl
      rintro σ' H ⟨μ1, ct, pl, v7, v8, v9, v10, hS, hM, hup, hl, hDT, hc3, hcs, hfit, hR, k, rfl⟩
      rw [show ((ts.length : Int)).toNat = ts.length by omega, List.drop_length] at hR k
      have q := ranX_nil (ranX_mono k hS.fr) hM
      have hS := hS.rebase
      walk_at "zS11"
      (refine n_al hS ?_; clear hS; intro c1 H c1_n c1_0 hS; simp only [List.cons_append, List.nil_append] at hS)
      walk_at "zS11"
      (refine ⟨by simp only [List.length_cons, List.length_nil]; decide, n_al hS ?_⟩; clear hS; intro c2 H c2_n c2_0 hS; simp only [List.cons_append, List.nil_append] at hS)
      walk_at "zS11"
      refine n_catT (hS.st 1 rfl) (hS.st 2 rfl) (fun z => by have := congrArg List.length z; rw [List.length_map, hc3] at this; cases this) (by simp) (by rw [List.length_map]; simp only [List.length_cons, List.length_nil]; omega) ?_
      have hdm := hS.dom
      (refine n_al hS ?_; clear hS; intro c3 H c3_n c3_0 hS; simp only [List.cons_append, List.nil_append] at hS)
      refine q _ _ hS.fr ?_
      rw [hR]
      refine Dt.tupI ⟨hS.st 3 rfl, .inl fun z => notM0 hdm c3_n (List.mem_cons_of_mem _ z)⟩ (DtL.append (DtL.ints.mpr rfl) (DtL.cons' ?_ DtL.nil'))
      exact Dt.non'
theorem ok_close_slot (T : Txt K mg base A) : FnOk P w K mg base (L2.CX P w) 5 A.a_close_slot A.d_close_slot ["memory", "slot", "head"] (sp_close_slot A K) := by
  have G_Memory_put := ok_Memory_put (P := P) (w := w) (base := base) T
  have G_Memory_write := ok_Memory_write (P := P) (w := w) (base := base) T
  refine T.F_close_slot.okX sc_close_slot (fun vs H Q E h => ?_) (fun cdv A_ outer s H0 vs Q E hr h => ?_)
  · obtain ⟨_, h⟩ := h; obtain ⟨_, h⟩ := h; obtain ⟨_, h⟩ := h; obtain ⟨_, h⟩ := h; obtain ⟨_, h⟩ := h; obtain ⟨_, h⟩ := h; obtain ⟨_, h⟩ := h; obtain ⟨rfl, _⟩ := h; rfl
  · obtain ⟨m, dx, l, μ, s, hd, p, rfl, hM, hup, hl, hs, hp, hst, h6, hb, k⟩ := h
    have hu := hu_of hr
    have hu2 := hu2_of hr
    have tk_SLOTS := T.l_SLOTS
    have cl_Memory := T.cl_Memory; have na_Memory_is_up := T.n_Memory_is_up; have na_Memory_left := T.n_Memory_left; have na_Memory_many := T.n_Memory_many; have na_Memory_torn := T.n_Memory_torn; have na_Memory_worths := T.n_Memory_worths
    have hr_Memory_put : Room 4 _ := hr.mono (by decide)
    have hr_Memory_write : Room 3 _ := hr.mono (by decide)
    refine ⟨_, pss_cons (ps_expr (pe_meth (pv 0) T.cl_Memory T.m_Memory_put G_Memory_put hr_Memory_put T.b_Memory_put .nil (passX rfl rfl rfl rfl) (pa_cons (pe_op op_add (pe_ix (b_ixT (K := K)) (pe_gt rfl T.g_SLOTS) (pv 1) (fun _ _ => rfl)) pe_int) (pa_cons (pv 2) pa_nil))))
      (pss_one (ps_expr (pe_meth (pv 0) T.cl_Memory T.m_Memory_write G_Memory_write hr_Memory_write T.b_Memory_write .nil (passX rfl rfl rfl rfl) (pa_cons (pe_ix (b_ixT (K := K)) (pe_gt rfl T.g_SLOTS) (pv 1) (fun _ _ => rfl)) (pa_cons (pe_gi rfl T.c_LAID) pa_nil))))), ?_⟩
    try dsimp only [cxOf, Cx.nox, Cx.wish]
    refine x_st (σ' := [some _, some _, some _]) rfl ?_
    have hbs := slotB_b hs
    obtain ⟨hm, hc, hne⟩ := _root_.id hM
    walk_at "zS3"
    refine x_ixT (TupK.st tk_SLOTS) (slot_at hs) ?_
    walk_at "zS3"
    refine ⟨m, dx, l, μ, _, hd, p, rfl, hM, hp, hst, by omega, by omega, by omega, hb, fun _ => ?_, (by intro z; rw [hup] at z; cases z), (by intro z; rw [z] at h6; cases h6)⟩
    rw [show (slotB s + 1).toNat = (slotB s).toNat + 1 by omega]
    refine ranX_app k fun H1 μ1 f hM1 hcs1 hup1 _ k1 => ?_
    obtain ⟨hm1, hc1, -⟩ := _root_.id hM1
    walk_at "zS3"
    refine x_ixT (TupK.st tk_SLOTS) (slot_at hs) ?_
    walk_at "zS3"
    refine use_wr hM1 (by rw [hup1]; exact hup) (by omega) (by rw [hcs1, applyW_len]; omega) (by decide) (by decide) (ranX_end k1 fun H1 f q => ?_)
    walk_at "zS3"
    exact q
theorem ok_update (T : Txt K mg base A) : FnOk P w K mg base (L2.CX P w) 10 A.a_update A.d_update ["memory", "keys", "tries", "manifest", "stores"] (sp_update A K) := by
  have G_why_refused := ok_why_refused (P := P) (w := w) (base := base) T
  have G_booked := ok_booked (P := P) (w := w) (base := base) T
  have G_note := ok_note (P := P) (w := w) (base := base) T
  have G_open_slot := ok_open_slot (P := P) (w := w) (base := base) T
  have G_lay_pieces := ok_lay_pieces (P := P) (w := w) (base := base) T
  have G_close_slot := ok_close_slot (P := P) (w := w) (base := base) T
  refine T.F_update.okX sc_update (fun vs H Q E h => ?_) (fun cdv A_ outer s H0 vs Q E hr h => ?_)
  · obtain ⟨_, h⟩ := h; obtain ⟨_, h⟩ := h; obtain ⟨_, h⟩ := h; obtain ⟨_, h⟩ := h; obtain ⟨_, h⟩ := h; obtain ⟨_, h⟩ := h; obtain ⟨_, h⟩ := h; obtain ⟨_, h⟩ := h; obtain ⟨_, h⟩ := h; obtain ⟨_, h⟩ := h; obtain ⟨_, h⟩ := h; obtain ⟨_, h⟩ := h; obtain ⟨_, h⟩ := h; obtain ⟨rfl, _⟩ := h; rfl
  · obtain ⟨M, m, dx, l, μ, ks, tries, j, mn, ss, v, u, w, rfl, hdom, hmM, hlM, hM, hup, hl, hbd, hbo, hpg, j0, j1, hv, gg, t1, t3, hmn, gm, hss, gs, k⟩ := h
    have hu := hu_of hr
    have hu2 := hu2_of hr
    have cl_Memory := T.cl_Memory; have na_Memory_is_up := T.n_Memory_is_up; have na_Memory_left := T.n_Memory_left; have na_Memory_many := T.n_Memory_many; have na_Memory_torn := T.n_Memory_torn; have na_Memory_worths := T.n_Memory_worths
    have hr_why_refused : Room 8 _ := hr.mono (by decide)
    have hr_booked : Room 7 _ := hr.mono (by decide)
    have hr_note : Room 6 _ := hr.mono (by decide)
    have hr_open_slot : Room 4 _ := hr.mono (by decide)
    have hr_lay_pieces : Room 9 _ := hr.mono (by decide)
    have hr_close_slot : Room 5 _ := hr.mono (by decide)
    refine ⟨_, pss_cons (ps_set (i := 5) sc_update.nd rfl (Or.inl rfl) (pe_call G_why_refused hr_why_refused (by rfl) T.g_why_refused T.F_why_refused.kp T.b_why_refused .nil pass0 (pa_cons (pv 0) (pa_cons (pv 1) (pa_cons (pv 3) pa_nil)))))
      (pss_cons (ps_if (pt_cmpR op_ne (pv 5) pe_str (nomark _)) (pss_one (ps_ret (pe_tup (pa_cons (pv 5) pa_nil)))) pss_nil)
      (pss_cons (ps_asg (pe_call G_booked hr_booked (by rfl) T.g_booked T.F_booked.kp T.b_booked .nil pass0 (pa_cons (pv 0) pa_nil)) (pg_tup (by rfl) (pgs_cons (pg_name (i := 6) sc_update.nd rfl (Or.inl rfl)) (pgs_cons (pg_name (i := 7) sc_update.nd rfl (Or.inl rfl)) (pgs_cons (pg_name (i := 8) sc_update.nd rfl (Or.inl rfl)) pgs_nil)))))
      (Evl.pss_cut (ps_if (pt_cmpR op_eq (pv 7) (pe_gi rfl T.c_TRIAL) (nomark _)) (pss_one (ps_expr (pe_call G_note hr_note (by rfl) T.g_note T.F_note.kp T.b_note .nil (passX rfl rfl rfl rfl) (pa_cons (pv 0) (pa_cons (pe_gi rfl T.c_BOOK) (pa_cons (pe_tup (pa_cons (pv 6) (pa_cons (pe_gi rfl T.c_STEADY) (pa_cons pe_int pa_nil)))) pa_nil)))))) pss_nil)
      (pss_cons (ps_set (i := 9) sc_update.nd rfl (Or.inl rfl) (pe_op op_sub pe_int (pv 6)))
      (pss_cons (ps_expr (pe_call G_open_slot hr_open_slot (by rfl) T.g_open_slot T.F_open_slot.kp T.b_open_slot .nil (passX rfl rfl rfl rfl) (pa_cons (pv 0) (pa_cons (pv 9) pa_nil))))
      (pss_cons (ps_asg (pe_call G_lay_pieces hr_lay_pieces (by rfl) T.g_lay_pieces T.F_lay_pieces.kp T.b_lay_pieces .nil (passX rfl rfl rfl rfl) (pa_cons (pv 0) (pa_cons (pv 9) (pa_cons (pe_ix (b_ixT (K := K)) (pv 3) pe_int (fun _ _ => rfl)) (pa_cons (pv 4) pa_nil))))) (pg_tup (by rfl) (pgs_cons (pg_name (i := 10) sc_update.nd rfl (Or.inl rfl)) (pgs_cons (pg_name (i := 11) sc_update.nd rfl (Or.inl rfl)) (pgs_cons (pg_name (i := 12) sc_update.nd rfl (Or.inl rfl)) (pgs_cons (pg_name (i := 13) sc_update.nd rfl (Or.inl rfl)) pgs_nil))))))
      (pss_cons (ps_if (pt_cmpR c_notN (pv 13) pe_non (nomark _)) (pss_one (ps_ret (pe_tup (pa_cons pe_str (pa_cons (pv 13) pa_nil))))) pss_nil)
      (pss_cons (ps_expr (pe_call G_close_slot hr_close_slot (by rfl) T.g_close_slot T.F_close_slot.kp T.b_close_slot .nil (passX rfl rfl rfl rfl) (pa_cons (pv 0) (pa_cons (pv 9) (pa_cons (pe_slice (b_slT (K := K)) (pv 3) po_none (po_some pe_int)) pa_nil)))))
      (pss_cons (ps_expr (pe_call G_note hr_note (by rfl) T.g_note T.F_note.kp T.b_note .nil (passX rfl rfl rfl rfl) (pa_cons (pv 0) (pa_cons (pe_gi rfl T.c_BOOK) (pa_cons (pe_tup (pa_cons (pv 6) (pa_cons (pe_gi rfl T.c_TRIAL) (pa_cons (pv 2) pa_nil)))) pa_nil)))))
      (pss_one (ps_ret (pe_tup (pa_cons pe_str (pa_cons (pv 10) (pa_cons (pv 11) (pa_cons (pv 12) pa_nil)))))))))))))))), ?_⟩
    try dsimp only [cxOf, Cx.nox, Cx.wish]
    refine x_st (σ' := [some _, some _, some _, some _, some _, none, none, none, none, none, none, none, none, none]) rfl ?_
    obtain ⟨hm, hc, hne⟩ := _root_.id hM
    have hml : ∀ a ∈ [m, l], ∃ o, H0 a = some o := fun a ha => by
      simp only [List.mem_cons, List.not_mem_nil, or_false] at ha
      rcases ha with rfl | rfl
      · exact ⟨_, hm⟩
      · exact ⟨_, hc⟩
    have hS : Sy K ⟨H0, [m, l]⟩ M H0 [] [(keysD ks, v), (manD mn, u), (storesD ss, w)] := ((((Sy.atD (K := K) hdom).addD hv).addD hmn).addD hss).from [m, l] hml
    obtain ⟨bk, rfl⟩ := hv.refT
    obtain ⟨sk, rfl⟩ := hss.refL
    obtain ⟨pm, tp, zs, rfl, sm, sm2, smr⟩ := man_at hmn
    walk_at "zS14"
    refine ⟨M, m, dx, l, μ, ks, _, mn, _, rfl, hS.dom, hM, hup, hl, hbd, hbo, hS.d 0 rfl, gg, hS.d 1 rfl, gm, fun H f => ?_⟩
    have hS := hS.ex f
    have hM := hM.ex f
    have k := ranX_ex k f
    (try simp only [List.cons_append, List.nil_append] at hS)
    unfold updW updD updWb updDb at k
    unfold refF
    unfold bookOk at hbo
    obtain ⟨b, hb⟩ : ∃ b, b = bookedO μ.cells := ⟨_, rfl⟩
    rw [← hb] at k hbo ⊢
    by_cases hr : refB b.1 μ.cells ks mn = ""
    · have hr0 : ¬ (refB b.1 μ.cells ks mn ≠ "") := fun z => z hr
      rw [if_neg hr0, if_neg hr0] at k
      have hw := refB_good hr
      have hmid := upd_mid (ks := ks) hl hbd hb.symm hbo hpg j0 j1 hw
      have hend := upd_end (ks := ks) (mn := mn) hl hbd hb.symm hbo hpg j0 j1 hw gm gs
      obtain ⟨g1, g2, g3, g4, g5, g6⟩ := hmid
      obtain ⟨e1, e2, e3⟩ := hend
      have h3 := layF_ct gs (known_b hbd b.1) (gm.fits (other_slot hbo).1) (cs := updC b μ.cells) (ct := [0, 0, 0]) rfl
      have hso := (other_slot hbo).1
      walk_at "zS14"
      refine x_iteF (by rw [hr]; simp) ?_
      walk_at "zS14"
      refine ⟨M, m, dx, l, μ, rfl, hS.dom, hM, hup, hl, fun v H f hd => ?_⟩
      have hS := hS.ex f
      have hM := hM.ex f
      have k := ranX_ex k f
      have hd := hd
      (try simp only [List.cons_append, List.nil_append] at hS)
      rw [← hb] at hd
      obtain ⟨pb, rfl, stb⟩ := Dt.rec _ hd
      walk_at "zS14"
      refine x_gtup stb.1 rfl ?_
      walk_at "zS14"
      refine ⟨fun σ' H' => ∃ (μ1 : Mem) (HB : Hp), Sy K ⟨HB, [m, l]⟩ M H' [] [(keysD ks, .ref bk), (manD mn, .ref pm), (storesD ss, .ref sk)] ∧ MemAt A.c_Memory H' m dx l μ1 ∧ μ1.up = true ∧ μ1.cells = applyW (updN b μ.cells) μ.cells ∧
        ranX A.c_Memory m dx l μ1 (openW (1 - b.1) (applyW (updN b μ.cells) μ.cells) ++ ((updR b mn ss μ.cells).1 ++ (if (updR b mn ss μ.cells).2.2 = true then [] else updE b tries mn (applyW (updR b mn ss μ.cells).1 (updC b μ.cells))))) H' (fun H1 => ∀ u H2, Fr [] H1 H2 → Dt K M H2 (if (updR b mn ss μ.cells).2.2 = true then .tuple [.str "lacks", .int (updR b mn ss μ.cells).2.1.sum] else .tuple (.str "laid" :: (updR b mn ss μ.cells).2.1.map .int)) u → Q u H2) (E (.ref (erF A .stopped)) none) ∧
        σ' = [some (.ref m), some (.ref bk), some (.int tries), some (.ref pm), some (.ref sk), some (.str ""), some (.int b.1), some (.int b.2.1), some (.int b.2.2), none, none, none, none, none], ?_, ?_⟩
      · rw [hr]
        walk_at "zS14"
        by_cases hst : b.2.1 = 1
        · have hun : updN b μ.cells = noteW μ.cells 4 (b.1, 0, 0) := if_pos hst
          rw [hun] at k
          refine x_iteT (decide_eq_true (by rw [hst])) ?_
          walk_at "zS14"
          have hdm := hS.dom
          have nb := hS.nom
          have hS := hS.rebase
          (refine ⟨by simp only [List.length_cons, List.length_nil]; decide, n_al hS ?_⟩; clear hS; intro tt H tt_n tt_0 hS; simp only [List.cons_append, List.nil_append] at hS)
          have htm : tt ∉ [m, l] := fun z => by
            simp only [List.mem_cons, List.not_mem_nil, or_false] at z
            rcases z with z | z
            · exact notM0 hdm tt_n (z ▸ hmM)
            · exact notM0 hdm tt_n (z ▸ hlM)
          have hM := hM.ex hS.fr
          have k := ranX_ex k hS.fr
          have hS := hS.nmore [m, l] nb
          refine ⟨m, dx, l, μ, 4, (b.1, 0, 0), _, rfl, hM, hup, ⟨by decide, by omega, by omega⟩, Dt.tupI ⟨hS.st 0 rfl, .inl htm⟩ (DtL.cons' Dt.int' (DtL.cons' Dt.int' (DtL.cons' Dt.int' DtL.nil'))), ⟨by dsimp only; omega, by dsimp only; omega, by dsimp only; omega⟩, by have := next_pgn hpg j0; show (nextO μ.cells 4).2 ≤ 9972; omega, next_nn hbd 4, ?_⟩
          refine ranX_app k fun H1 μ1 f hM1 hcs1 hup1 _ k1 => ?_
          have hS := (hS.sub (L' := []) (by simp)).awayM f hM1 hmM hlM (by simp) (by simp)
          walk_at "zS14"
          exact ⟨μ1, _, hS.subD (by simp), hM1, by rw [hup1]; exact hup, by rw [hun]; exact hcs1, by rw [hun]; exact k1, rfl⟩
        · have hun : updN b μ.cells = [] := if_neg hst
          rw [hun] at k
          refine x_iteF (decide_eq_false (by simpa using hst)) ?_
          walk_at "zS14"
          refine ⟨μ, _, hS.subD (by simp), hM, hup, by rw [hun]; rfl, by rw [hun]; exact k, rfl⟩
      · clear hS hM k hup
        rintro σ' H ⟨μ1, HB, hS, hM, hup, hcs, k, rfl⟩
        obtain ⟨hm, hc, -⟩ := _root_.id hM
        rw [← hcs] at k
        walk_at "zS14"
        refine ⟨m, dx, l, μ1, 1 - b.1, rfl, hM, hup, by rw [hcs, applyW_len]; exact hl, hso, ranX_app k fun H1 μ2 f hM2 hcs2 hup2 _ k2 => ?_⟩
        have hS := hS.awayM f hM2 hmM hlM (by simp) (by simp)
        have hcs2' : μ2.cells = updC b μ.cells := by rw [hcs2, hcs]; rfl
        obtain ⟨hm2, hc2, -⟩ := _root_.id hM2
        obtain ⟨pm', tp', zs', epm, sm, smt, smr⟩ := man_at (hS.d 1 rfl)
        cases epm
        have sm1 := sm.1
        walk_at "zS14"
        refine ⟨M, m, dx, l, μ2, ks, 1 - b.1, mn.ts, ss, .ref tp', _, rfl, hS.dom, hmM, hlM, hM2, by rw [hup2]; exact hup, by rw [hcs2']; exact g1, by rw [hcs2']; exact g2, by unfold bookOk; rw [hcs2', g3]; exact hbo, by rw [hcs2', g3]; exact g4, by rw [hcs2', g3], Dt.tupI smt smr, by have := gm.many'; omega, gm.fits hso, hS.d 2 rfl, gs, ?_⟩
        rw [hcs2', g3, g5]
        refine ranX_app (ws := (updR b mn ss μ.cells).1) k2 fun H3 μ3 f3 hM3 hcs3 hup3 _ k3 => fun u4 H4 f4 hu4 => ?_
        generalize hR : updR b mn ss μ.cells = R at k3 h3 e1 e2 e3 hcs3
        obtain ⟨wsR, ct, lk⟩ := R
        rw [show layF ss (piecesF (rowOf μ.cells b.1)) mn.ts (slotB (1 - b.1) + 7) (updC b μ.cells) [0, 0, 0] = (wsR, ct, lk) from hR] at hu4 h3
        dsimp only at k3 h3 e1 e2 e3 hcs3
        obtain ⟨a0, a1, a2, rfl⟩ : ∃ a b c, ct = [a, b, c] := by
          match ct, h3 with
          | [a, b, c], _ => exact ⟨a, b, c, rfl⟩
        have hS := (hS.awayM f3 hM3 hmM hlM (by simp) (by simp)).ex f4
        have hM3 := hM3.ex f4
        have k3 := ranX_ex k3 f4
        obtain ⟨up, rfl⟩ := hu4.refT
        obtain ⟨pm', tp', zs', epm, sm, smt, smr⟩ := man_at (hS.d 1 rfl)
        cases epm
        have sm1 := sm.1
        refine d_gtup hu4 rfl fun xs hx => ?_
        cases lk with
        | true =>
          simp only [DtL, if_true, Dt] at hx
          obtain ⟨_, _, rfl, rfl, _, _, rfl, rfl, _, _, rfl, rfl, _, _, rfl, rfl, rfl⟩ := hx
          simp only [if_true] at k3
          have q := ranX_nil k3 hM3
          have hS := hS.rebase
          walk_at "zS14"
          refine d_tup hS (by simp) (DtL.cons' Dt.str' (DtL.cons' Dt.int' DtL.nil')) ?_
          clear hS; intro t9 H9 hS
          exact q _ _ hS.fr (hS.d 3 rfl)
        | false =>
          simp only [DtL, if_true, Dt] at hx
          obtain ⟨_, _, rfl, rfl, _, _, rfl, rfl, _, _, rfl, rfl, _, _, rfl, rfl, rfl⟩ := hx
          simp only [Bool.false_eq_true, if_false] at k3
          unfold updE thenW at k3
          rw [← hcs2'] at k3 e1 e2 e3
          rw [← hcs3] at k3 e1 e2 e3
          have hdm := hS.dom
          have nb := hS.nom
          have hS := hS.rebase
          walk_at "zS14"
          refine n_slT sm1 (by simp only [List.length_cons, List.length_nil]; decide) ?_
          (refine n_al hS ?_; clear hS; intro q H q_n q_0 hS; simp only [List.cons_append, List.nil_append] at hS)
          rw [cut7_6] at hS
          have hql : q ∉ [m, l] := fun z => by
            simp only [List.mem_cons, List.not_mem_nil, or_false] at z
            rcases z with z | z
            · exact notM0 hdm q_n (z ▸ hmM)
            · exact notM0 hdm q_n (z ▸ hlM)
          have hM3 := hM3.ex hS.fr
          have k3 := ranX_ex k3 hS.fr
          have hS := hS.nmore [m, l] nb
          walk_at "zS14"
          refine ⟨m, dx, l, μ3, 1 - b.1, mn.h, q, rfl, hM3, by rw [hup3, hup2]; exact hup, e1, hso, .inr (hS.st 0 rfl), .inl hql, rfl, gm.head_b, ranX_app k3 fun H5 μ5 f5 hM5 hcs5 hup5 _ k5 => ?_⟩
          have hS := (hS.sub (L' := []) (by simp)).awayM f5 hM5 hmM hlM (by simp) (by simp)
          rw [← hcs5] at k5 e2 e3
          have e6 : μ5.cells.length = 54 := by rw [hcs5, applyW_len]; exact e1
          have hdm := hS.dom
          have nb := hS.nom
          have hS := hS.rebase
          walk_at "zS14"
          (refine ⟨by simp only [List.length_cons, List.length_nil]; decide, n_al hS ?_⟩; clear hS; intro tt H tt_n tt_0 hS; simp only [List.cons_append, List.nil_append] at hS)
          have htm : tt ∉ [m, l] := fun z => by
            simp only [List.mem_cons, List.not_mem_nil, or_false] at z
            rcases z with z | z
            · exact notM0 hdm tt_n (z ▸ hmM)
            · exact notM0 hdm tt_n (z ▸ hlM)
          have hM5 := hM5.ex hS.fr
          have k5 := ranX_ex k5 hS.fr
          have hS := hS.nmore [m, l] nb
          walk_at "zS14"
          refine ⟨m, dx, l, μ5, 4, (b.1, 1, tries), _, rfl, hM5, by rw [hup5, hup3, hup2]; exact hup, ⟨by decide, by omega, by omega⟩, Dt.tupI ⟨hS.st 0 rfl, .inl htm⟩ (DtL.cons' Dt.int' (DtL.cons' Dt.int' (DtL.cons' Dt.int' DtL.nil'))), ⟨by dsimp only; omega, by dsimp only; omega, by dsimp only; omega⟩, by have := next_pgn e3 (by omega); show (nextO μ5.cells 4).2 ≤ 9972; omega, next_nn e2 4, ?_⟩
          refine ranX_app (ws2 := []) (by rw [List.append_nil]; exact k5) fun H6 μ6 f6 hM6 _ _ _ k6 => ?_
          have q := ranX_nil k6 hM6
          have hS := (hS.sub (L' := []) (by simp)).awayM f6 hM6 hmM hlM (by simp) (by simp)
          have hS := hS.rebase
          walk_at "zS14"
          refine d_tup hS (by simp) (DtL.cons' Dt.str' (DtL.cons' Dt.int' (DtL.cons' Dt.int' (DtL.cons' Dt.int' DtL.nil')))) ?_
          clear hS; intro t9 H9 hS
          exact q _ _ hS.fr (hS.d 3 rfl)
    · rw [if_pos hr, if_pos hr] at k
      have k := ranX_nil k hM
      walk_at "zS14"
      refine x_iteT (by simpa using hr) ?_
      walk_at "zS14"
      refine d_tup hS.rebase (by simp) (DtL.cons' Dt.str' DtL.nil') ?_
      clear hS; intro t1 H1 hS
      exact k _ _ hS.fr (hS.d 3 rfl)
theorem ok_Memory_up (T : Txt K mg base A) : FnOk P w K mg base CX0 1 A.a_Memory_up A.d_Memory_up ["self"] (sp_Memory_up A K) := by
  refine T.F_Memory_up.ok sc_Memory_up (fun vs H Q E h => ?_) (fun cdv A_ outer s H0 vs Q E hr h => ?_)
  · obtain ⟨_, h⟩ := h; obtain ⟨_, h⟩ := h; obtain ⟨_, h⟩ := h; obtain ⟨_, h⟩ := h; obtain ⟨rfl, _⟩ := h; rfl
  · obtain ⟨m, dx, l, ⟨cells, left, torn, up, many⟩, rfl, hM, k⟩ := h
    have hu := hu_of hr
    have hu2 := hu2_of hr
    have cl_Memory := T.cl_Memory; have na_Memory_is_up := T.n_Memory_is_up; have na_Memory_left := T.n_Memory_left; have na_Memory_many := T.n_Memory_many; have na_Memory_torn := T.n_Memory_torn; have na_Memory_worths := T.n_Memory_worths
    refine ⟨_, pss_cons (ps_fld (pv 0) pe_bl rfl)
      (pss_one (ps_fld (pv 0) pe_non rfl)), ?_⟩
    try dsimp only [cxOf, Cx.nox, Cx.wish]
    refine x_st (σ' := [some _]) rfl ?_
    have hS := MemAt.sy (K := K) hM
    obtain ⟨hm, hc, hne⟩ := _root_.id hM
    walk_at "zS1"
    refine n_set hS 0 rfl ⟨by first | assumption | (simp; done) | exact List.mem_cons_of_mem _ (by assumption) | exact List.mem_cons_of_mem _ (List.mem_cons_of_mem _ (by assumption)), by first | exact .inr (by assumption) | exact .inl (by simp)⟩ cl_Memory na_Memory_is_up (by simp [memF]) (memF_pup _) ?_
    clear hS; intro H hS
    simp only [List.set_cons_zero, List.set_cons_succ] at hS
    walk_at "zS1"
    refine n_set hS 0 rfl ⟨by first | assumption | (simp; done) | exact List.mem_cons_of_mem _ (by assumption) | exact List.mem_cons_of_mem _ (List.mem_cons_of_mem _ (by assumption)), by first | exact .inr (by assumption) | exact .inl (by simp)⟩ cl_Memory na_Memory_left (by simp [memF]) (memF_pleft none) ?_
    clear hS; intro H hS
    simp only [List.set_cons_zero, List.set_cons_succ] at hS
    walk_at "zS1"
    exact k H hS.fr ⟨hS.get 0 rfl, hS.get 1 rfl, hne⟩
theorem ok_Memory_cells (T : Txt K mg base A) : FnOk P w K mg base CX0 1 A.a_Memory_cells A.d_Memory_cells ["self"] (sp_Memory_cells A K) := by
  refine T.F_Memory_cells.ok sc_Memory_cells (fun vs H Q E h => ?_) (fun cdv A_ outer s H0 vs Q E hr h => ?_)
  · obtain ⟨_, h⟩ := h; obtain ⟨_, h⟩ := h; obtain ⟨_, h⟩ := h; obtain ⟨_, h⟩ := h; obtain ⟨rfl, _⟩ := h; rfl
  · obtain ⟨m, dx, l, μ, rfl, ⟨hm, hc, hne⟩, k⟩ := h
    have hu := hu_of hr
    have hu2 := hu2_of hr
    have cl_Memory := T.cl_Memory; have na_Memory_is_up := T.n_Memory_is_up; have na_Memory_left := T.n_Memory_left; have na_Memory_many := T.n_Memory_many; have na_Memory_torn := T.n_Memory_torn; have na_Memory_worths := T.n_Memory_worths
    refine ⟨_, pss_one (ps_ret (pe_callTy (b_list (K := K)) (by rfl) T.z_list (by decide +kernel) (pa_cons (b_fld (K := K) (pv 0) rfl) pa_nil))), ?_⟩
    try dsimp only [cxOf, Cx.nox, Cx.wish]
    refine x_st (σ' := [some _]) rfl ?_
    have sl := Dt.memX (K := K) hc
    walk_at "zS1"
    exact fun p hp => k p _ (Fr.new hp) hp upd_same
theorem ok__law_right (T : Txt K mg base A) : FnOk P w K mg base CX0 3 A.a__law_right A.d__law_right ["_law_cells", "_law_slot", "_law_titles"] (sp__law_right K) := by
  have G__law_title := ok__law_title (P := P) (w := w) (base := base) T
  refine T.F__law_right.ok sc__law_right (fun vs H Q E h => ?_) (fun cdv A_ outer s H0 vs Q E hr h => ?_)
  · obtain ⟨_, h⟩ := h; obtain ⟨_, h⟩ := h; obtain ⟨_, h⟩ := h; obtain ⟨_, h⟩ := h; obtain ⟨_, h⟩ := h; obtain ⟨_, h⟩ := h; obtain ⟨rfl, _⟩ := h; rfl
  · obtain ⟨M, p, cs, s, ts, v, rfl, hdom, hp, hl, hs, hv, hfit, k⟩ := h
    have hu := hu_of hr
    have hu2 := hu2_of hr
    have hr__law_title : Room 2 _ := hr.mono (by decide)
    refine ⟨_, pss_cons (ps_set (i := 3) sc__law_right.nd rfl (Or.inl rfl) (pe_op op_add (pe_ix (b_ixL (K := K)) (pe_lst (pa_cons pe_int (pa_cons pe_int pa_nil))) (pv 1) (fun _ _ => rfl)) pe_int))
      (pss_cons (ps_set (i := 4) sc__law_right.nd rfl (Or.inl rfl) pe_int)
      (pss_cons (ps_for PassesOwn.never rfl (b_iT (K := K) (pv 2)) (pg_name (i := 5) sc__law_right.nd rfl (Or.inl rfl)) (pss_cons (ps_if (pt_cmpR (b_neD (K := K) hr.units) (pe_call G__law_title hr__law_title (by rfl) T.g__law_title T.F__law_title.kp T.b__law_title .nil pass0 (pa_cons (pe_slice (b_slL (K := K)) (pv 0) (po_some (pv 3)) (po_some (pe_op op_add (pv 3) (pe_ix (b_ixT (K := K)) (pv 5) pe_int (fun _ _ => rfl))))) pa_nil)) (pv 5) (nomark _)) (pss_one (ps_ret (pv 4))) pss_nil)
      (pss_cons (ps_set (i := 3) sc__law_right.nd rfl (Or.inl rfl) (pe_op op_add (pv 3) (pe_ix (b_ixT (K := K)) (pv 5) pe_int (fun _ _ => rfl))))
      (pss_one (ps_set (i := 4) sc__law_right.nd rfl (Or.inl rfl) (pe_op op_add (pv 4) pe_int))))))
      (pss_one (ps_ret (pv 4))))), ?_⟩
    try dsimp only [cxOf, Cx.nox, Cx.wish]
    refine x_st (σ' := [some _, some _, some _, none, none, none]) rfl ?_
    have hS := (Sy.atD (K := K) hdom).addD hv
    obtain ⟨tp, rfl⟩ := hv.refT
    walk_at "zS6"
    (refine ⟨by simp only [List.length_cons, List.length_nil]; decide, n_al hS ?_⟩; clear hS; intro e1 H e1_n e1_0 hS; simp only [List.cons_append, List.nil_append] at hS)
    walk_at "zS6"
    refine x_ixL (hS.sl 0 rfl) (slot_at hs) ?_
    have hS := hS.sub (L' := []) (by simp)
    have hp1 := hS.fr.sl (fun z => nomatch z) hp
    walk_at "zS6"
    have hv1 := hS.d 0 rfl
    obtain ⟨xs, st, -⟩ := hv1.tup
    obtain ⟨R, hR⟩ : ∃ R, R = rightF cs ts (slotB s + 7) := ⟨_, rfl⟩
    rw [← hR] at k
    have f1 := hS.fr
    refine ⟨tp, rfl, ⟨_, st.1⟩, ?_⟩
    refine for_dataT (ds := ts.map tripD) hv1 (fun j σ' H' => ∃ (pl : Int) (n : Nat) (v5 : Option V), Sy K (b0 H) M H' [] [(.tuple (ts.map tripD), .ref tp)] ∧ fitsL (ts.drop j) pl ∧ R = n + rightF cs (ts.drop j) pl ∧ σ' = [some (.ref p), some (.int s), some (.ref tp), some (.int pl), some (.int (n : Int)), v5]) ?_ ?_ ?_ ?_
    · exact ⟨_, 0, _, hS.rebase, hfit, by rw [hR, List.drop_zero, Nat.zero_add], rfl⟩
    · rintro j σ' H' ⟨_, _, _, z, _⟩
      exact z.fr.wk0
    · rintro j d x σ' H2 hd hdx ⟨pl, n, v5, hS2, hfit, hn, rfl⟩
      obtain ⟨t, ht, rfl⟩ := of_map hd
      obtain ⟨tp2, rfl⟩ := hdx.refT
      have hdr : ts.drop j = t :: ts.drop (j + 1) := by
        obtain ⟨h1, h2⟩ := List.getElem?_eq_some_iff.mp ht
        rw [List.drop_eq_getElem_cons h1, h2]
      rw [hdr] at hn hfit
      obtain ⟨g1, g2, g3, g4, g5⟩ := hfit
      have hp2 := hS2.fr.sl (fun z => nomatch z) hp1
      have hS := hS2.addD hdx
      walk_at "zS6"
      refine d_ixTI (hS.d 1 rfl) rfl ?_
      walk_at "zS6"
      (refine n_al hS ?_; clear hS; intro e2 H e2_n e2_0 hS; simp only [List.cons_append, List.nil_append] at hS)
      rw [cut_in ov cs (by omega) (by omega) (by omega), show (pl + t.2.2 - pl).toNat = t.2.2.toNat by omega] at hS
      walk_at "zS6"
      refine use_titleO hS (.inl (hS.sl 0 rfl)) (by rw [List.length_take]; omega) ?_
      clear hS; intro tu H3 f hS
      walk_at "zS6"
      refine d_neO (hS.d 2 rfl) (hS.d 1 rfl) ?_
      walk_at "zS6"
      by_cases hti : titleO (cutO cs pl t.2.2) = some t
      · have hr : rightF cs (t :: ts.drop (j + 1)) pl = 1 + rightF cs (ts.drop (j + 1)) (pl + t.2.2) := by rw [rightF, if_pos hti]
        rw [hr] at hn
        refine x_iteF (by rw [show decide (titleO (List.take t.2.2.toNat (List.drop pl.toNat cs)) = some t) = true from decide_eq_true hti]; rfl) ?_
        walk_at "zS6"
        refine d_ixTI (hS.d 1 rfl) rfl ?_
        walk_at "zS6"
        exact ⟨pl + t.2.2, n + 1, _, (hS.sub (L' := []) (by simp)).subD (by simp), g5, by omega, by push_cast; rfl⟩
      · have hr : rightF cs (t :: ts.drop (j + 1)) pl = 0 := by rw [rightF, if_neg hti]
        rw [hr, Nat.add_zero] at hn
        refine x_iteT (by rw [show decide (titleO (List.take t.2.2.toNat (List.drop pl.toNat cs)) = some t) = false from decide_eq_false hti]; rfl) ?_
        walk_at "zS6"
        rw [← hn]
        exact k _ (f1.trans hS.fr)
    · rintro σ' H2 ⟨pl, n, v5, hS2, hfit, hn, rfl⟩
      rw [List.length_map, List.drop_length] at hn
      walk_at "zS6"
      have : R = n := hn
      rw [← this]
      exact k _ (f1.trans hS2.fr)
theorem ok__law_book (T : Txt K mg base A) : FnOk P w K mg base CX0 3 A.a__law_book A.d__law_book ["_law_cells"] (sp__law_book K) := by
  have G__law_newest := ok__law_newest (P := P) (w := w) (base := base) T
  refine T.F__law_book.ok sc__law_book (fun vs H Q E h => ?_) (fun cdv A_ outer s H0 vs Q E hr h => ?_)
  · obtain ⟨_, h⟩ := h; obtain ⟨_, h⟩ := h; obtain ⟨_, h⟩ := h; obtain ⟨rfl, _⟩ := h; rfl
  · obtain ⟨M, p, cs, rfl, hdom, hs, hl, hbd, k⟩ := h
    have hu := hu_of hr
    have hu2 := hu2_of hr
    have hr__law_newest : Room 2 _ := hr.mono (by decide)
    refine ⟨_, pss_cons (ps_set (i := 1) sc__law_book.nd rfl (Or.inl rfl) (pe_call G__law_newest hr__law_newest (by rfl) T.g__law_newest T.F__law_newest.kp T.b__law_newest .nil pass0 (pa_cons (pv 0) (pa_cons pe_int pa_nil))))
      (pss_one (ps_ret (pe_ifExp (pt_cmpR c_isN (pv 1) pe_non (nomark _)) (pe_tup (pa_cons pe_int (pa_cons pe_int (pa_cons pe_int pa_nil)))) (pe_ix (b_ixT (K := K)) (pv 1) pe_int (fun _ _ => rfl))))), ?_⟩
    try dsimp only [cxOf, Cx.nox, Cx.wish]
    refine x_st (σ' := [some _, none]) rfl ?_
    have hS := Sy.atD (K := K) hdom
    walk_at "zS2"
    refine use_LI cs hS hs ⟨by decide, by omega, by omega, fun n hn => (hbd n hn).1⟩ ?_
    clear hS; intro v H hS
    (try simp only [List.cons_append, List.nil_append] at hS)
    cases e : newestO cs (4 : Int).toNat with
    | none =>
      rw [e] at hS
      have hd := hS.d 0 rfl
      simp only [newestD, Dt] at hd
      subst hd
      walk_at "zS2"
      refine d_tup hS.rebase (by simp) (DtL.cons' Dt.int' (DtL.cons' Dt.int' (DtL.cons' Dt.int' DtL.nil'))) ?_
      have f0 := hS.fr
      clear hS; intro t1 H1 hS
      have k := k (.ref t1) H1 (f0.trans hS.fr)
      rw [show bookedO cs = (0, 0, 0) by unfold bookedO recordO; rw [show newestO cs 4 = none from e]; rfl] at k
      exact k (hS.d 1 rfl)
    | some r =>
      obtain ⟨wh, nb, rc⟩ := r
      rw [e] at hS
      have hd := hS.d 0 rfl
      simp only [newestD, Dt, DtL] at hd
      obtain ⟨b1, _, rfl, sb, _, _, rfl, rfl, _, _, rfl, rfl, u3, _, rfl, hu3, rfl⟩ := hd
      walk_at "zS2"
      refine x_ixT sb.1 rfl ?_
      walk_at "zS2"
      have k := k u3 H hS.fr
      rw [show bookedO cs = rc by unfold bookedO recordO; rw [show newestO cs 4 = some (wh, nb, rc) from e]; rfl] at k
      exact k hu3
theorem ok_law (T : Txt K mg base A) : FnOk P w K mg base CX0 13 A.a_law A.d_law ["_law_script"] (sp_law A.tb_law K) := by
  have G__law_keys := ok__law_keys (P := P) (w := w) (base := base) T
  have G__law_picture := ok__law_picture (P := P) (w := w) (base := base) T
  have G__law_machine := ok__law_machine (P := P) (w := w) (base := base) T
  have G__law_taken := ok__law_taken (P := P) (w := w) (base := base) T
  have G__law_worth := ok__law_worth (P := P) (w := w) (base := base) T
  have G__law_newer := ok__law_newer (P := P) (w := w) (base := base) T
  have G__law_manifest := ok__law_manifest (P := P) (w := w) (base := base) T
  have G__law_stores := ok__law_stores (P := P) (w := w) (base := base) T
  have G__law_memory := ok__law_memory (P := P) (w := w) (base := base) T
  have G_Memory_cut := ok_Memory_cut (P := P) (w := w) (base := base) T
  have G__law_stop := ok__law_stop (P := P) (w := w) (base := base) T
  have G_update := ok_update (P := P) (w := w) (base := base) T
  have G_Memory_up := ok_Memory_up (P := P) (w := w) (base := base) T
  have G_Memory_cells := ok_Memory_cells (P := P) (w := w) (base := base) T
  have G__law_right := ok__law_right (P := P) (w := w) (base := base) T
  have G__law_pieces := ok__law_pieces (P := P) (w := w) (base := base) T
  have G__law_title := ok__law_title (P := P) (w := w) (base := base) T
  have G_judged := ok_judged (P := P) (w := w) (base := base) T
  have G__law_book := ok__law_book (P := P) (w := w) (base := base) T
  refine T.FC_law.ok sc_law (fun vs H Q E h => ?_) (fun A_ outer s H0 vs Q E hr h => ?_)
  · obtain ⟨_, h⟩ := h; obtain ⟨_, h⟩ := h; obtain ⟨rfl, _⟩ := h; rfl
  · obtain ⟨a, ns, rfl, ha, hl, htb, k⟩ := h
    have hu := hu_of hr
    have hu2 := hu2_of hr
    have hr__law_keys : Room 2 _ := hr.mono (by decide)
    have hr__law_picture : Room 3 _ := hr.mono (by decide)
    have hr__law_machine : Room 4 _ := hr.mono (by decide)
    have hr__law_taken : Room 1 _ := hr.mono (by decide)
    have hr__law_worth : Room 2 _ := hr.mono (by decide)
    have hr__law_newer : Room 3 _ := hr.mono (by decide)
    have hr__law_manifest : Room 3 _ := hr.mono (by decide)
    have hr__law_stores : Room 4 _ := hr.mono (by decide)
    have hr__law_memory : Room 4 _ := hr.mono (by decide)
    have hr_Memory_cut : Room 1 _ := hr.mono (by decide)
    have hr__law_stop : Room 1 _ := hr.mono (by decide)
    have hr_update : Room 10 _ := hr.mono (by decide)
    have hr_Memory_up : Room 1 _ := hr.mono (by decide)
    have hr_Memory_cells : Room 1 _ := hr.mono (by decide)
    have hr__law_right : Room 3 _ := hr.mono (by decide)
    have hr__law_pieces : Room 1 _ := hr.mono (by decide)
    have hr__law_title : Room 2 _ := hr.mono (by decide)
    have hr_judged : Room 7 _ := hr.mono (by decide)
    have hr__law_book : Room 3 _ := hr.mono (by decide)
    have hrl_law : Room (10 + 2) _ := hr.mono (by decide)
    obtain ⟨_, _, _, _, _, _, _, _, _, hfd__law_stop, lk__law_stop, hcg__law_stop⟩ := T.F__law_stop.ex
    rw [hfd__law_stop] at lk__law_stop
    have hb__law_stop := T.b__law_stop
    rw [hfd__law_stop] at hb__law_stop
    refine ⟨_, pss_cons (ps_set (i := 1) sc_law.nd rfl (Or.inl rfl) (pe_lst (pa_cons (pv 0) (pa_cons pe_int (pa_cons pe_int (pa_cons pe_int pa_nil))))))
      (pss_cons (ps_for PassesOwn.never rfl (pi_range1 (by rfl) T.z_range (pa_cons pe_int pa_nil)) (pg_name (i := 2) sc_law.nd rfl (Or.inl rfl)) (pss_cons (ps_set (i := 12) sc_law.nd rfl (Or.inr rfl) (pe_call G__law_keys hr__law_keys (by rfl) T.g__law_keys T.F__law_keys.kp T.b__law_keys .nil pass0 (pa_cons (pv 1) pa_nil)))
      (pss_cons (ps_set (i := 3) sc_law.nd rfl (Or.inl rfl) (pe_call G__law_picture hr__law_picture (by rfl) T.g__law_picture T.F__law_picture.kp T.b__law_picture .nil pass0 (pa_cons (pv 1) (pa_cons (pv 12) (pa_cons pe_int pa_nil)))))
      (pss_cons (ps_set (i := 4) sc_law.nd rfl (Or.inl rfl) (pe_dget hu (pe_call G__law_machine hr__law_machine (by rfl) T.g__law_machine T.F__law_machine.kp T.b__law_machine .nil pass0 (pa_cons (pv 12) (pa_cons pe_int (pa_cons (pv 3) pa_nil)))) pe_str (fun _ _ => rfl)))
      (pss_cons (ps_for PassesOwn.never rfl (pi_range1 (by rfl) T.z_range (pa_cons (pe_call G__law_taken hr__law_taken (by rfl) T.g__law_taken T.F__law_taken.kp T.b__law_taken .nil pass0 (pa_cons (pv 1) (pa_cons pe_int pa_nil))) pa_nil)) (pg_name (i := 5) sc_law.nd rfl (Or.inl rfl)) (pss_one (ps_asg (pe_ix (b_ixL (K := K)) (pe_lst (pa_cons pe_non (pa_cons (pe_call G__law_worth hr__law_worth (by rfl) T.g__law_worth T.F__law_worth.kp T.b__law_worth .nil pass0 (pa_cons (pv 1) pa_nil)) pa_nil))) (pe_call G__law_taken hr__law_taken (by rfl) T.g__law_taken T.F__law_taken.kp T.b__law_taken .nil pass0 (pa_cons (pv 1) (pa_cons pe_int pa_nil))) (fun _ _ => rfl)) (pg_sub (pv 4) (pe_op op_add pe_int (pv 5)) set_list))))
      (pss_cons (ps_set (i := 6) sc_law.nd rfl (Or.inl rfl) (pe_call G__law_newer hr__law_newer (by rfl) T.g__law_newer T.F__law_newer.kp T.b__law_newer .nil pass0 (pa_cons (pv 1) (pa_cons (pv 12) (pa_cons (pv 3) (pa_cons pe_int pa_nil))))))
      (pss_cons (ps_set (i := 13) sc_law.nd rfl (Or.inr rfl) (pe_call G__law_manifest hr__law_manifest (by rfl) T.g__law_manifest T.F__law_manifest.kp T.b__law_manifest .nil pass0 (pa_cons (pv 12) (pa_cons (pv 6) pa_nil))))
      (pss_cons (ps_set (i := 15) sc_law.nd rfl (Or.inr rfl) (pe_call G__law_stores hr__law_stores (by rfl) T.g__law_stores T.F__law_stores.kp T.b__law_stores .nil pass0 (pa_cons (pv 1) (pa_cons (pv 6) (pa_cons pe_bl pa_nil)))))
      (pss_cons (ps_set (i := 14) sc_law.nd rfl (Or.inr rfl) (pe_call G__law_memory hr__law_memory (by rfl) T.g__law_memory T.F__law_memory.kp T.b__law_memory .nil pass0 (pa_cons (pv 4) pa_nil)))
      (pss_cons (ps_set (i := 7) sc_law.nd rfl (Or.inl rfl) pe_int)
      (pss_cons (ps_for PassesOwn.never rfl (pi_range1 (by rfl) T.z_range (pa_cons (pe_call G__law_taken hr__law_taken (by rfl) T.g__law_taken T.F__law_taken.kp T.b__law_taken .nil pass0 (pa_cons (pv 1) (pa_cons pe_int pa_nil))) pa_nil)) (pg_name (i := 8) sc_law.nd rfl (Or.inl rfl)) (pss_cons (ps_expr (pe_meth (pv 14) T.cl_Memory T.m_Memory_cut G_Memory_cut hr_Memory_cut T.b_Memory_cut .nil passL (pa_cons (pe_call G__law_taken hr__law_taken (by rfl) T.g__law_taken T.F__law_taken.kp T.b__law_taken .nil pass0 (pa_cons (pv 1) (pa_cons pe_int pa_nil))) (pa_cons (pe_ix (b_ixL (K := K)) (pe_lst (pa_cons pe_str (pa_cons pe_str (pa_cons pe_str pa_nil)))) (pe_call G__law_taken hr__law_taken (by rfl) T.g__law_taken T.F__law_taken.kp T.b__law_taken .nil pass0 (pa_cons (pv 1) (pa_cons pe_int pa_nil))) (fun _ _ => rfl)) pa_nil))))
      (pss_cons (ps_set (i := 9) sc_law.nd rfl (Or.inl rfl) (LamX.pe_lamcall (T := [(A.tb_law, lamq_law)]) (t := fun E => _) rfl T.g__law_stop T.F__law_stop.kp lk__law_stop hcg__law_stop hb__law_stop sc__law_stop rfl (Or.inl rfl) (stop_gives rfl T.g_Stopped (by decide) (fun _ => rfl)) T.TB_law rfl (List.mem_singleton.mpr rfl) (fun p hp _ => by rw [List.mem_singleton.mp hp]; rfl) hrl_law (LamX.lamS_by (sc := defScope s_law) (by decide +kernel)) rfl (fun _ _ _ _ _ => rfl) (fun AL oL sL HL E fL cL hrL => (pe_call G_update (hrL.mono (by decide)) (by rfl) T.g_update T.F_update.kp T.b_update .nil (passX rfl rfl rfl rfl) (pa_cons (pv 14) (pa_cons (pv 12) (pa_cons pe_int (pa_cons (pv 13) (pa_cons (pv 15) pa_nil)))))))))
      (pss_cons (ps_expr (pe_meth0 (pv 14) T.cl_Memory T.m_Memory_up G_Memory_up hr_Memory_up T.b_Memory_up .nil pass0))
      (pss_cons (ps_set (i := 10) sc_law.nd rfl (Or.inl rfl) (pe_call G__law_right hr__law_right (by rfl) T.g__law_right T.F__law_right.kp T.b__law_right .nil pass0 (pa_cons (pe_meth0 (pv 14) T.cl_Memory T.m_Memory_cells G_Memory_cells hr_Memory_cells T.b_Memory_cells .nil pass0) (pa_cons pe_int (pa_cons (pe_ix (b_ixT (K := K)) (pv 13) pe_int (fun _ _ => rfl)) pa_nil)))))
      (pss_cons (ps_if (PW.pt (pw_or (pt_cmpR op_lt (pv 10) (pv 7) (nomark _)) (pw_or1 (pt_cmpR (b_notIn (K := K)) (pe_ix (b_ixT (K := K)) (pv 9) pe_int (fun _ _ => rfl)) (pe_tup (pa_cons pe_str (pa_cons pe_str pa_nil))) (by rfl))))) (pss_one (ps_ret pe_bl)) pss_nil)
      (pss_one (ps_set (i := 7) sc_law.nd rfl (Or.inl rfl) (pv 10)))))))))
      (pss_cons (ps_set (i := 9) sc_law.nd rfl (Or.inl rfl) (pe_call G_update hr_update (by rfl) T.g_update T.F_update.kp T.b_update .nil passL (pa_cons (pv 14) (pa_cons (pv 12) (pa_cons pe_int (pa_cons (pv 13) (pa_cons (pv 15) pa_nil)))))))
      (pss_cons (ps_if (PW.pt (pw_or (pt_cmpR op_ne (pe_ix (b_ixT (K := K)) (pv 9) pe_int (fun _ _ => rfl)) pe_str (nomark _)) (pw_or (pt_cmpR op_ne (pe_callB (b_sumT (K := K) rfl) (by rfl) T.z_sum (by decide +kernel) (pa_cons (pe_slice (b_slT (K := K)) (pv 9) (po_some pe_int) po_none) pa_nil)) (pe_callB (b_len (K := K)) (by rfl) T.z_len (by decide +kernel) (pa_cons (pe_ix (b_ixT (K := K)) (pv 13) pe_int (fun _ _ => rfl)) pa_nil)) (nomark _)) (pw_or1 (pt_cmpR op_lt (pe_ix (b_ixT (K := K)) (pv 9) pe_int (fun _ _ => rfl)) (pv 7) (nomark _)))))) (pss_one (ps_ret pe_bl)) pss_nil)
      (pss_cons (ps_set (i := 11) sc_law.nd rfl (Or.inl rfl) (pe_call G__law_pieces hr__law_pieces (by rfl) T.g__law_pieces T.F__law_pieces.kp T.b__law_pieces .nil pass0 (pa_cons (pe_slice (b_slL (K := K)) (pe_meth0 (pv 14) T.cl_Memory T.m_Memory_cells G_Memory_cells hr_Memory_cells T.b_Memory_cells .nil pass0) (po_some pe_int) (po_some (pe_op op_add pe_int (pe_callB (b_len (K := K)) (by rfl) T.z_len (by decide +kernel) (pa_cons (pe_ix (b_ixT (K := K)) (pv 6) pe_int (fun _ _ => rfl)) pa_nil))))) pa_nil)))
      (pss_cons (ps_if (pt_cmpR (b_neD (K := K) hr.units) (pe_callTy (b_tuple (K := K)) (by rfl) T.z_tuple (by decide +kernel) (pa_cons (pe_lc (own := [("_law_piece", 16)]) (g := gName 16) (by rfl) sc_law.nd (b_iL (K := K) (pv 11)) (blkOk_by (N := ["_law_script", "_law_row", "_law_turn", "_law_picture_here", "_law_cells", "_law_k", "_law_newer_here", "_law_here", "_law_stop_here", "_law_told", "_law_now", "_law_there", "_law_keys_here", "_law_manifest_here", "_law_memory_here", "_law_stores_here", "_law_piece"]) (sc := defScope s_law) (by decide +kernel)) (fun _ _ _ _ _ => pg_name (i := 16) sc_law.nd rfl (by first | exact Or.inl rfl | exact Or.inr rfl)) (fun _ _ _ _ _ => pts_nil) (fun _ _ _ _ _ => (pe_call G__law_title hr__law_title (by rfl) T.g__law_title T.F__law_title.kp T.b__law_title .nil pass0 (pa_cons (pv 16) pa_nil)))) pa_nil)) (pe_ix (b_ixT (K := K)) (pv 13) pe_int (fun _ _ => rfl)) (nomark _)) (pss_one (ps_ret pe_bl)) pss_nil)
      (pss_cons (ps_if (pt_cmpR (b_neD (K := K) hr.units) (pe_call G_judged hr_judged (by rfl) T.g_judged T.F_judged.kp T.b_judged .nil pass0 (pa_cons (pv 14) (pa_cons (pv 12) (pa_cons pe_int pa_nil)))) (pe_tup (pa_cons pe_str (pa_cons (pe_ix (b_ixT (K := K)) (pv 6) pe_int (fun _ _ => rfl)) pa_nil))) (nomark _)) (pss_one (ps_ret pe_bl)) pss_nil)
      (pss_one (ps_if (pt_cmpR (b_neD (K := K) hr.units) (pe_call G__law_book hr__law_book (by rfl) T.g__law_book T.F__law_book.kp T.b__law_book .nil pass0 (pa_cons (pe_meth0 (pv 14) T.cl_Memory T.m_Memory_cells G_Memory_cells hr_Memory_cells T.b_Memory_cells .nil pass0) pa_nil)) (pe_tup (pa_cons pe_int (pa_cons pe_int (pa_cons pe_int pa_nil)))) (nomark _)) (pss_one (ps_ret pe_bl)) pss_nil))))))))))))))))))
      (pss_one (ps_ret pe_bl))), ?_⟩
    try dsimp only [cxOf, Cx.nox, Cx.wish]
    refine x_st (σ' := [some _, none, none, none, none, none, none, none, none, none, none, none, none, none, none, none, none]) rfl ?_
    have hT0 : LamX.Tabs [(A.tb_law, lamq_law)] H0 := fun p hp => by rw [List.mem_singleton.mp hp]; exact LamX.TabS.nil htb
    have hS : Sy K (b0 H0) [] H0 [] [(script ns, .ref a)] := Sy.start _ _ _ (fun _ z => nomatch z) (by simp) (fun x hx => by rw [List.mem_singleton.mp hx]; exact dt_script.mpr ⟨ha, .inl (by simp)⟩) (fun _ z => nomatch z)
    walk_at "zS17"
    (refine ⟨by simp only [List.length_cons, List.length_nil]; decide, n_alM hS ?_⟩; clear hS; intro r H r_n r_0 hS; simp only [List.cons_append, List.nil_append] at hS)
    walk_at "zS17"
    have hT1 := hT0.ext (fun b o e => hS.fr b o (fun z => nomatch z) e)
    have hn1 : ∀ x ∈ [r], ∃ o, H x = some o ∧ plainO o := fun x hx => by rw [List.mem_singleton.mp hx]; exact ⟨_, hS.get 0 rfl, plain_lst⟩
    have hS := hS.from [r] (fun x hx => by rw [List.mem_singleton.mp hx]; exact ⟨_, hS.get 0 rfl⟩)
    (refine ⟨_, rfl, by omega, by omega, ?_⟩)
    refine for_range (lo := 0) (n := (4 : Int).toNat) (fun j σ' H' => ∃ (Hb : Hp) (q : Rho) (v2 v3 v4 v5 v6 v7 v8 v9 v10 v11 v12 v13 v14 v15 v16 : Option V), LamX.Tabs [(A.tb_law, lamq_law)] Hb ∧ (∀ x ∈ [r], ∃ o, Hb x = some o ∧ plainO o) ∧ q.ok ∧ Sy K ⟨Hb, [r]⟩ [r] H' [(r, rowO a q)] [(script ns, .ref a)] ∧ σ' = [some (.ref a), some (.ref r), v2, v3, v4, v5, v6, v7, v8, v9, v10, v11, v12, v13, v14, v15, v16]) ?_ ?_ ?_
    · exact ⟨_, ⟨0, 0, 0⟩, _, _, _, _, _, _, _, _, _, _, _, _, _, _, _, hT1, hn1, Z.ok0, hS, rfl⟩
    · clear hS hT0 hT1 hn1
      rintro j σ' H' hj ⟨Hb, q, v2, v3, v4, v5, v6, v7, v8, v9, v10, v11, v12, v13, v14, v15, v16, hT, hn, hq, hS, rfl⟩
      walk_at "zS17"
      refine use_DD () hS ⟨by first | assumption | (simp; done) | exact List.mem_cons_of_mem _ (by assumption) | exact List.mem_cons_of_mem _ (List.mem_cons_of_mem _ (by assumption)), by first | exact .inr (by assumption) | exact .inl (by simp)⟩ hq hl DtL.nil' trivial ?_
      clear hS hq; intro d w1 q H hres hq hS
      obtain ⟨ks, rfl, gg⟩ := hres
      (try simp only [List.cons_append, List.nil_append] at hS)
      walk_at "zS17"
      refine use_DD (ks, 9) hS ⟨by first | assumption | (simp; done) | exact List.mem_cons_of_mem _ (by assumption) | exact List.mem_cons_of_mem _ (List.mem_cons_of_mem _ (by assumption)), by first | exact .inr (by assumption) | exact .inl (by simp)⟩ hq hl (DtL.cons' (hS.d 1 rfl) (DtL.cons' Dt.int' DtL.nil')) ⟨gg, by show (1 : Int) ≤ 9; decide, by show (9 : Int) ≤ 999; decide⟩ ?_
      clear hS hq; intro d w2 q H hres hq hS
      obtain ⟨pic, rfl, hp, hp9⟩ := hres
      (try simp only [List.cons_append, List.nil_append] at hS)
      obtain ⟨b, rfl⟩ := (hS.d 1 rfl).refT
      obtain ⟨b2, rfl⟩ := (hS.d 2 rfl).refT
      dsimp only at hp hp9
      walk_at "zS17"
      refine ⟨[r], ks, pic, 2, _, _, rfl, hS.dom, hS.d 1 rfl, hS.d 2 rfl, gg, hp, fun dd c0 H f hd hc hdc ed ec => ?_⟩
      have c00 := hS.free hc
      have hS := Sy.exNM hS f hc ec
      (try simp only [List.cons_append, List.nil_append] at hS)
      walk_at "zS17"
      refine n_dgT 0 ["cells", "keys", "tries", "runs", "left", "torn", "many"] ed rfl rfl (by decide +kernel) ?_
      have hfac := FacC.mach gg hp
      generalize machC ks pic = cs at hfac hS
      clear ec ed hdc hd
      walk_at "zS17"
      (refine use_taken hS ⟨by first | assumption | (simp; done) | exact List.mem_cons_of_mem _ (by assumption) | exact List.mem_cons_of_mem _ (List.mem_cons_of_mem _ (by assumption)), by first | exact .inr (by assumption) | exact .inl (by simp)⟩ hq hl (by omega) (by omega) ?_; clear hS hq; intro n1 q H n1_0 n1_1 hq hS)
      walk_at "zS17"
      (refine ⟨_, rfl, by omega, by omega, ?_⟩)
      refine for_range (lo := 0) (n := n1.toNat) (fun j1 σ' H' => ∃ (q : Rho) (cs : List (Option Int)) (v5 : Option V), q.ok ∧ FacC ks pic cs ∧ Sy K ⟨Hb, [r]⟩ [c0, r] H' [(r, rowO a q), (c0, .lst (cs.map ov))] [(script ns, .ref a), (keysD ks, .ref b), (picD pic, .ref b2)] ∧
        σ' = [some (.ref a), some (.ref r), some (.int (0 + (j : Int))), some (.ref b2), some (.ref c0), v5, v6, v7, v8, v9, v10, v11, some (.ref b), v13, v14, v15, v16]) ?_ ?_ ?_
      · exact ⟨q, cs, v5, hq, hfac, hS, rfl⟩
      · clear hS hq hfac
        rintro j1 σ' H' hj1 ⟨q, cs, v5, hq, hfac, hS, rfl⟩
        have hcl := hfac.left.len
        walk_at "zS17"
        (refine use_draw hS ⟨by first | assumption | (simp; done) | exact List.mem_cons_of_mem _ (by assumption) | exact List.mem_cons_of_mem _ (List.mem_cons_of_mem _ (by assumption)), by first | exact .inr (by assumption) | exact .inl (by simp)⟩ hq hl ?_; clear hS hq; intro wo q H wo_c hq hS)
        walk_at "zS17"
        (refine ⟨by simp only [List.length_cons, List.length_nil]; decide, n_al hS ?_⟩; clear hS; intro e1 H e1_n e1_0 hS; simp only [List.cons_append, List.nil_append] at hS)
        walk_at "zS17"
        (refine use_taken hS ⟨by first | assumption | (simp; done) | exact List.mem_cons_of_mem _ (by assumption) | exact List.mem_cons_of_mem _ (List.mem_cons_of_mem _ (by assumption)), by first | exact .inr (by assumption) | exact .inl (by simp)⟩ hq hl (by omega) (by omega) ?_; clear hS hq; intro x2 q H x2_0 x2_1 hq hS)
        obtain ⟨cw, hcw, hcwb⟩ : ∃ cw : Option Int, atI ([.non, .int wo] : List V) x2 = some (ov cw) ∧ ∀ n, cw = some n → 0 ≤ n ∧ n ≤ 9972 := by
          have : x2 = 0 ∨ x2 = 1 := by omega
          rcases this with rfl | rfl
          · exact ⟨none, rfl, fun n e => by cases e⟩
          · exact ⟨some wo, rfl, fun n e => by cases e; omega⟩
        refine x_ixL (hS.sl 2 rfl) hcw ?_
        have hS := hS.sub (L' := [(r, rowO a q), (c0, .lst (cs.map ov))]) (by walk_at "zsub")
        walk_at "zS17"
        refine x_setS hS 1 rfl ⟨by simp, .inr c00⟩ (ixN_int (by omega) (by rw [List.length_map]; omega)) ?_
        clear hS; intro H hS
        simp only [List.set_cons_zero, List.set_cons_succ] at hS
        rw [← List.map_set] at hS
        walk_at "zS17"
        exact ⟨q, cs.set (35 + (0 + (j1 : Int))).toNat cw, _, hq, hfac.set (by omega) hcwb, hS, rfl⟩
      clear hS hq hfac
      rintro σ' H ⟨q, cs, v5, hq, hfac, hS, rfl⟩
      walk_at "zS17"
      refine use_DD (ks, pic, 1) hS ⟨by first | assumption | (simp; done) | exact List.mem_cons_of_mem _ (by assumption) | exact List.mem_cons_of_mem _ (List.mem_cons_of_mem _ (by assumption)), by first | exact .inr (by assumption) | exact .inl (by simp)⟩ hq hl (DtL.cons' (hS.d 1 rfl) (DtL.cons' (hS.d 2 rfl) (DtL.cons' Dt.int' DtL.nil'))) ⟨gg, hp, by show (-1000 : Int) ≤ 1; decide, by show (1 : Int) ≤ 1000; decide⟩ ?_
      clear hS hq; intro d w3 q H hres hq hS
      obtain ⟨pic2, rfl, hp2, hpn, hpv⟩ := hres
      (try simp only [List.cons_append, List.nil_append] at hS)
      dsimp only at hp2 hpn hpv
      have hpv : pic.v < pic2.v := by have := hp.1; have := hpv (by omega) (by omega); omega
      obtain ⟨b3, rfl⟩ := (hS.d 3 rfl).refT
      walk_at "zS17"
      refine use_D (ks, pic2) hS (DtL.cons' (hS.d 1 rfl) (DtL.cons' (hS.d 3 rfl) DtL.nil')) ⟨gg, hp2⟩ ?_
      clear hS; intro bmv H hS
      dsimp only at hS
      rw [manOf_D] at hS
      have gm := manOf_ok gg hp2
      have href := hfac.ref gg hp2 hpn hpv
      have hpcs := fun {cs : List (Option Int)} {pl : Int} (h1 : cs.length = 54) (h2 : fitsL (manOf ks pic2).ts pl) (h3 : okT cs (manOf ks pic2).ts pl) => okT_pieces h1 h2 gm h3
      have hall0 : (∃ st : List Row, ∃ ss : List (List Row), st ∈ ss ∧ ∀ c ∈ piecesF pic2.cells, (titleF c, c) ∈ st) → True := fun _ => trivial
      have hts : (manOf ks pic2).ts = (piecesF pic2.cells).map titleF := rfl
      have hmv : (manOf ks pic2).v = pic2.v := rfl
      generalize manOf ks pic2 = mn at hS gm href hpcs hts hmv
      obtain ⟨bm, -, -, rfl, -, -, -⟩ := man_at (hS.d 4 rfl)
      walk_at "zS17"
      refine use_DD (pic2, true) hS ⟨by first | assumption | (simp; done) | exact List.mem_cons_of_mem _ (by assumption) | exact List.mem_cons_of_mem _ (List.mem_cons_of_mem _ (by assumption)), by first | exact .inr (by assumption) | exact .inl (by simp)⟩ hq hl (DtL.cons' (hS.d 3 rfl) (DtL.cons' Dt.bl' DtL.nil')) ⟨ks, hp2⟩ ?_
      clear hS hq; intro d w5 q H hres hq hS
      obtain ⟨ss, rfl, gs, hsure⟩ := hres
      have hall : hasAll ss mn.ts := by rw [hts]; exact hasAll_of (hsure rfl)
      obtain ⟨bs, rfl⟩ := (hS.d 5 rfl).refL
      (try simp only [List.cons_append, List.nil_append] at hS)
      have hS : Sy K ⟨Hb, [r]⟩ [r] H [(r, rowO a q), (c0, .lst (cs.map ov))] [(script ns, .ref a), (keysD ks, .ref b), (manD mn, .ref bm), (storesD ss, .ref bs), (picD pic2, .ref b3)] := (hS.subD (by simp)).dropM
      have hle := hfac.left
      have hcl := hle.len
      walk_at "zS17"
      refine ⟨c0, cs, rfl, hS.sl 1 rfl, by omega, by omega, hle.bnd, fun m dx l H f hm hl0 hM => ?_⟩
      have m0 := hS.free hm
      have l0 := hS.free hl0
      have hne := hM.2.2
      have hS := hS.exMem f hm hl0 hM
      (try simp only [List.cons_append, List.nil_append] at hS)
      clear f hm hl0 hM
      walk_at "zS17"
      (refine use_taken hS ⟨by first | assumption | (simp; done) | exact List.mem_cons_of_mem _ (by assumption) | exact List.mem_cons_of_mem _ (List.mem_cons_of_mem _ (by assumption)), by first | exact .inr (by assumption) | exact .inl (by simp)⟩ hq hl (by omega) (by omega) ?_; clear hS hq; intro x4 q H x4_0 x4_1 hq hS)
      walk_at "zS17"
      (refine ⟨_, rfl, by omega, by omega, ?_⟩)
      have hT := tabs_fr hT hS.fr hn
      have hn : ∀ x ∈ [m, l, r], ∃ o, H x = some o ∧ plainO o := fun x hx => by
        simp only [List.mem_cons, List.not_mem_nil, or_false] at hx
        rcases hx with rfl | rfl | rfl
        · exact ⟨_, hS.get 2 rfl, plain_ins⟩
        · exact ⟨_, hS.get 3 rfl, plain_lst⟩
        · exact ⟨_, hS.get 0 rfl, plain_lst⟩
      have hS := hS.rebase.from [m, l, r] (fun x hx => by obtain ⟨o, e, -⟩ := hn x hx; exact ⟨o, e⟩)
      refine for_range (lo := 0) (n := x4.toNat) (fun j2 σ' H' => ∃ (Hb : Hp) (q : Rho) (μ : Mem) (here : Nat) (v8 v9 v10 : Option V), LamX.Tabs [(A.tb_law, lamq_law)] Hb ∧ (∀ x ∈ [m, l, r], ∃ o, Hb x = some o ∧ plainO o) ∧ q.ok ∧ Sy K ⟨Hb, [m, l, r]⟩ [l, m, r] H' [(r, rowO a q), (c0, .lst (cs.map ov)), (m, memO A.c_Memory dx l μ), (l, cellsO μ)] [(script ns, .ref a), (keysD ks, .ref b), (manD mn, .ref bm), (storesD ss, .ref bs), (picD pic2, .ref b3)] ∧ μ.up = true ∧ μ.left = none ∧ Left 0 (9 + 2 * (j2 : Int)) μ.cells ∧ refB 0 μ.cells ks mn = "" ∧ here ≤ rightF μ.cells mn.ts (slotB (1 - 0) + 7) ∧
        σ' = [some (.ref a), some (.ref r), some (.int (0 + (j : Int))), some (.ref b2), some (.ref c0), v5, some (.ref b3), some (.int (here : Int)), v8, v9, v10, v11, some (.ref b), some (.ref bm), some (.ref m), some (.ref bs), v16]) ?_ ?_ ?_
      · exact ⟨_, q, Mem.of cs, 0, _, _, _, hT, hn, hq, hS, rfl, rfl, hle, href, Nat.zero_le _, rfl⟩
      · clear hS hq hT hn hle hfac href
        rintro j2 σ' H' hj2 ⟨Hb, q, μ, here, v8, v9, v10, hT, hn, hq, hS, hup, hleft, hle, href, hhere, rfl⟩
        have hj24 : j2 < 9 := by omega
        walk_at "zS17"
        (refine use_taken hS ⟨by first | assumption | (simp; done) | exact List.mem_cons_of_mem _ (by assumption) | exact List.mem_cons_of_mem _ (List.mem_cons_of_mem _ (by assumption)), by first | exact .inr (by assumption) | exact .inl (by simp)⟩ hq hl (by omega) (by omega) ?_; clear hS hq; intro lf q H lf_0 lf_1 hq hS)
        walk_at "zS17"
        (refine ⟨by simp only [List.length_cons, List.length_nil]; decide, n_al hS ?_⟩; clear hS; intro e1 H e1_n e1_0 hS; simp only [List.cons_append, List.nil_append] at hS)
        walk_at "zS17"
        (refine use_taken hS ⟨by first | assumption | (simp; done) | exact List.mem_cons_of_mem _ (by assumption) | exact List.mem_cons_of_mem _ (List.mem_cons_of_mem _ (by assumption)), by first | exact .inr (by assumption) | exact .inl (by simp)⟩ hq hl (by omega) (by omega) ?_; clear hS hq; intro x6 q H x6_0 x6_1 hq hS)
        obtain ⟨tn, htn, htn3⟩ : ∃ tn : Str, atI ([.str "old", .str "broken", .str "new"] : List V) x6 = some (.str tn) ∧ (tn = "old" ∨ tn = "broken" ∨ tn = "new") := by
          have : x6 = 0 ∨ x6 = 1 ∨ x6 = 2 := by omega
          rcases this with rfl | rfl | rfl
          · exact ⟨"old", rfl, .inl rfl⟩
          · exact ⟨"broken", rfl, .inr (.inl rfl)⟩
          · exact ⟨"new", rfl, .inr (.inr rfl)⟩
        refine x_ixL (hS.sl 4 rfl) htn ?_
        have hS := hS.sub (L' := [(r, rowO a q), (c0, .lst (cs.map ov)), (m, memO A.c_Memory dx l μ), (l, cellsO μ)]) (by walk_at "zsub")
        walk_at "zS17"
        obtain ⟨n, rfl⟩ : ∃ n : Nat, lf = n := ⟨lf.toNat, by omega⟩
        refine ⟨m, dx, l, μ, n, tn, rfl, ⟨hS.get 2 rfl, hS.get 3 rfl, hne⟩, fun _ _ _ H f hM => ?_, fun z => (z ⟨by omega, by omega, htn3⟩).elim⟩
        have hS := hS.memAt (i := 2) (j := 3) rfl rfl (by decide) ⟨by simp, .inl (by simp)⟩ ⟨by simp, .inl (by simp)⟩ f hM
        simp only [List.set_cons_zero, List.set_cons_succ] at hS
        clear f hM
        walk_at "zS17"
        refine x_mid (P := fun Q => LamX.tLam _ _ _ _ _ Q) (fun v H' => ∃ (Hb : Hp) (μ2 : Mem) (p : Addr) (w : Str) (ds : List PyData), v = .ref p ∧ LamX.Tabs [(A.tb_law, lamq_law)] Hb ∧ (∀ x ∈ [m, l, r], ∃ o, Hb x = some o ∧ plainO o) ∧ Sy K ⟨Hb, [m, l, r]⟩ [l, m, r] H' [(r, rowO a q), (c0, .lst (cs.map ov)), (m, memO A.c_Memory dx l μ2), (l, cellsO μ2)] ([(script ns, .ref a), (keysD ks, .ref b), (manD mn, .ref bm), (storesD ss, .ref bs), (picD pic2, .ref b3)] ++ [(.tuple (.str w :: ds), .ref p)]) ∧ (w = "stopped" ∨ w = "laid") ∧ Left 0 (9 + 2 * (j2 : Int) + 2) μ2.cells ∧ refB 0 μ2.cells ks mn = "" ∧ rightF μ.cells mn.ts (slotB (1 - 0) + 7) ≤ rightF μ2.cells mn.ts (slotB (1 - 0) + 7)) (fun Q' hQ' => ?_) ?_
        · refine use_lam [m, l, r] hS hT hn (fun x hx => ?_) (by simp) (by simp) fun H1 hS hT hn => ?_
          · simp only [List.mem_cons, List.not_mem_nil, or_false] at hx
            rcases hx with rfl | rfl | rfl | rfl
            · exact plain_lst
            · exact plain_lst
            · exact plain_ins
            · exact plain_lst
          unfold TTstop
          dsimp only
          walk_at "zS17"
          refine ⟨_, m, dx, l, { μ with left := some (n : Int), torn := tn }, ks, 2, 9 + 2 * (j2 : Int), mn, ss, _, _, _, rfl, hS.dom, by simp, by simp, ⟨hS.get 2 rfl, hS.get 3 rfl, hne⟩, hup, hle.len, hle.bnd, hle.book (.inl rfl), hle.pgn, by omega, by omega, hS.d 1 rfl, gg, by decide, by decide, hS.d 2 rfl, gm, hS.d 3 rfl, gs, fun H2 f2 hM2 => ?_⟩
          obtain ⟨d1, -⟩ := run_due (ws := updW ks 2 mn ss μ.cells) (μ := { μ with left := some (n : Int), torn := tn }) (n := n) rfl
          have hd0 := (upd_due (ks := ks) (tries := 2) (tn := tn) (.inl rfl) hle (by omega) (by omega) gm gs (by decide) (by decide) n).1
          have hd1 := upd_right (ks := ks) (tries := 2) (tn := tn) (.inl rfl) hle gm gs n
          have hfar := (updW_at (ks := ks) (tries := 2) (mn := mn) (ss := ss) hle.len hle.bnd (hle.book (.inl rfl)) hle.pgn (by omega) (by omega) gm gs (by decide) (by decide)).1
          rw [tells_booked hle.tells] at hfar
          have hd2 := ref_due (tn := tn) (n := n) (.inl rfl) hfar href
          obtain ⟨⟨A1, A2, A3, hlaid, -, -⟩, -⟩ := upd_whole (tries := 2) (.inl rfl) hle (by omega) (by omega) gm gs (by decide) (by decide) href hall
          have hS := hS.memAt (i := 2) (j := 3) rfl rfl (by decide) ⟨by simp, .inl (by simp)⟩ ⟨by simp, .inl (by simp)⟩ f2 hM2
          simp only [List.set_cons_zero, List.set_cons_succ] at hS
          have hS : Sy K ⟨H1, [m, l, r]⟩ [l, m, r] H2 [(r, rowO a q), (c0, .lst (cs.map ov)), (m, memO A.c_Memory dx l (Mem.run (updW ks 2 mn ss μ.cells) { μ with left := some (n : Int), torn := tn }).1), (l, cellsO (Mem.run (updW ks 2 mn ss μ.cells) { μ with left := some (n : Int), torn := tn }).1)] [(script ns, .ref a), (keysD ks, .ref b), (manD mn, .ref bm), (storesD ss, .ref bs), (picD pic2, .ref b3)] := hS
          have d1 : (Mem.run (updW ks 2 mn ss μ.cells) { μ with left := some (n : Int), torn := tn }).1.cells = dueF tn n (updW ks 2 mn ss μ.cells) μ.cells := d1
          rw [← d1] at hd0 hd1 hd2
          clear f2 hM2 d1
          dsimp only
          rw [hlaid]
          generalize Mem.run (updW ks 2 mn ss μ.cells) { μ with left := some (n : Int), torn := tn } = μ2 at hS hd0 hd1 hd2 ⊢
          refine ⟨fun _ u3 H3 f3 hu3 => ?_, fun _ => ⟨true, T.e_Stopped_Stopped, fun _ p hp => ?_, fun z => nomatch z⟩⟩
          · obtain ⟨p3, rfl⟩ := hu3.refT
            have hS := (hS.ex f3).addD hu3
            exact hQ' _ _ ⟨H1, μ2.1, p3, "laid", _, rfl, hT, hn, hS, .inr rfl, hd0, hd2, hd1⟩
          · have hp0 := notM0 hS.dom hp
            have hS := hS.new (o := .tup [.str "stopped"]) hp
            have hS := (hS.sub (L' := [(r, rowO a q), (c0, .lst (cs.map ov)), (m, memO A.c_Memory dx l μ2.1), (l, cellsO μ2.1)]) (by walk_at "zsub")).addD (d := .tuple [.str "stopped"]) (v := .ref p) (Dt.tupI ⟨hS.st 4 rfl, .inl hp0⟩ (DtL.cons' Dt.str' DtL.nil'))
            exact hQ' _ _ ⟨H1, μ2.1, p, "stopped", _, rfl, hT, hn, hS, .inl rfl, hd0, hd2, hd1⟩
        clear hS hT hn
        rintro v H ⟨Hb, μ2, p, w, ds, rfl, hT, hn, hS, hw, hle2, href2, hrg⟩
        walk_at "zS17"
        refine ⟨m, dx, l, μ2, rfl, ⟨hS.get 2 rfl, hS.get 3 rfl, hne⟩, fun H f hM => ?_⟩
        have hS := hS.memAt (i := 2) (j := 3) rfl rfl (by decide) ⟨by simp, .inl (by simp)⟩ ⟨by simp, .inl (by simp)⟩ f hM
        simp only [List.set_cons_zero, List.set_cons_succ] at hS
        clear f hM
        obtain ⟨μ3, hμ3⟩ : ∃ μ3 : Mem, μ3 = { μ2 with up := true, left := none } := ⟨_, rfl⟩
        rw [← hμ3] at hS
        have e3 : μ3.cells = μ2.cells := by rw [hμ3]
        have u3 : μ3.up = true := by rw [hμ3]
        have l3 : μ3.left = none := by rw [hμ3]
        rw [← e3] at hle2 href2 hrg
        clear hμ3 e3
        have hl542 := hle2.len
        walk_at "zS17"
        refine ⟨m, dx, l, μ3, rfl, ⟨hS.get 2 rfl, hS.get 3 rfl, hne⟩, fun pc H f hpc epc => ?_⟩
        have hS := hS.exN f hpc epc
        (try simp only [List.cons_append, List.nil_append] at hS)
        clear f hpc epc
        obtain ⟨bm', tp', zs', e', sm, smt, smr⟩ := man_at (hS.d 2 rfl)
        cases e'
        have sm1 := sm.1
        walk_at "zS17"
        refine ⟨[l, m, r], pc, μ3.cells, 1, mn.ts, _, rfl, hS.dom, hS.sl 4 rfl, hl542, .inr rfl, Dt.tupI smt smr, gm.fits (.inr rfl), fun H f => ?_⟩
        have hS := (hS.ex f).sub (L' := [(r, rowO a q), (c0, .lst (cs.map ov)), (m, memO A.c_Memory dx l μ3), (l, cellsO μ3)]) (by walk_at "zsub")
        clear sm sm1 smt smr
        rw [show (1 : Int) - 0 = 1 from rfl] at hrg hhere
        (try simp only [List.cons_append, List.nil_append] at hS)
        walk_at "zS17"
        refine x_iteF (decide_eq_false (by omega)) ?_
        have hdt : Dt K [l, m, r] _ (.tuple (.str w :: ds)) (.ref p) := hS.d 5 rfl
        obtain ⟨xs, st, rx⟩ := hdt.tup
        simp only [DtL, Dt] at rx
        obtain ⟨_, xs2, rfl, rfl, -⟩ := rx
        have hin : inV (.str w) [.str "stopped", .str "laid"] = true := by rcases hw with rfl | rfl <;> decide +kernel
        walk_at "zS17"
        refine x_ixT st.1 (atI_int (by decide) rfl) ?_
        walk_at "zS17"
        (refine ⟨by simp only [List.length_cons, List.length_nil]; decide, n_al hS ?_⟩; clear hS; intro t2 H t2_n t2_0 hS; simp only [List.cons_append, List.nil_append] at hS)
        refine n_in (.inr (hS.st 4 rfl)) rfl rfl ?_
        rw [hin]
        walk_at "zS17"
        have hS := hS.sub (L' := [(r, rowO a q), (c0, .lst (cs.map ov)), (m, memO A.c_Memory dx l μ3), (l, cellsO μ3)]) (by walk_at "zsub")
        exact ⟨Hb, q, μ3, rightF μ3.cells mn.ts (slotB 1 + 7), _, _, _, hT, hn, hq, hS.subD (by simp), u3, l3, by rw [show (9 : Int) + 2 * ((j2 + 1 : Nat) : Int) = 9 + 2 * (j2 : Int) + 2 by omega]; exact hle2, href2, Nat.le_refl _, rfl⟩
      · clear hS hq hT hn hle hfac href
        rintro σ' H ⟨Hb, q, μ, here, v8, v9, v10, hT, hn, hq, hS, hup, hleft, hle, href, hhere, rfl⟩
        walk_at "zS17"
        refine ⟨_, m, dx, l, μ, ks, 2, 9 + 2 * (x4.toNat : Int), mn, ss, _, _, _, rfl, hS.dom, by simp, by simp, ⟨hS.get 2 rfl, hS.get 3 rfl, hne⟩, hup, hle.len, hle.bnd, hle.book (.inl rfl), hle.pgn, by omega, by omega, hS.d 1 rfl, gg, by decide, by decide, hS.d 2 rfl, gm, hS.d 3 rfl, gs, fun H2 f2 hM2 => ?_⟩
        obtain ⟨⟨A1, A2, A3, hlaid, hsum, hA1⟩, hok, hbk, hhd, hwh⟩ := upd_whole (tries := 2) (.inl rfl) hle (by omega) (by omega) gm gs (by decide) (by decide) href hall
        have hl9 := due_last (P := fun c => Left 0 (9 + 2 * (x4.toNat : Int) + 2) c) (t := "old") (fun n => (upd_due (ks := ks) (tries := 2) (mn := mn) (ss := ss) (tn := "old") (.inl rfl) hle (by omega) (by omega) gm gs (by decide) (by decide) n).1)
        have hrun : (Mem.run (updW ks 2 mn ss μ.cells) μ).2 = true := run_free hleft
        have hcs4 := run_cells hrun
        have hup4 := run_upT hrun
        rw [hup] at hup4
        rw [hlaid]
        have hS := hS.memAt (i := 2) (j := 3) rfl rfl (by decide) ⟨by simp, .inl (by simp)⟩ ⟨by simp, .inl (by simp)⟩ f2 hM2
        simp only [List.set_cons_zero, List.set_cons_succ] at hS
        clear f2 hM2
        rw [← hcs4] at hok hbk hhd hwh hl9
        generalize Mem.run (updW ks 2 mn ss μ.cells) μ = μ4 at hS hrun hcs4 hup4 hok hbk hhd hwh hl9 ⊢
        refine ⟨fun _ u3 H3 f3 hu3 => ?_, fun z => by rw [hrun] at z; cases z⟩
        obtain ⟨p3, rfl⟩ := hu3.refT
        have hS := (hS.ex f3).addD hu3
        have hl54 := hl9.len
        obtain ⟨bm', tp', zs', e', sm, smt, smr⟩ := man_at (hS.d 2 rfl)
        cases e'
        have hS := hS.addD (Dt.tupI smt smr)
        clear sm smt smr
        obtain ⟨bm', tp2, zs2, e', sm, smt, smr⟩ := man_at (hS.d 2 rfl)
        cases e'
        have sm1 := sm.1
        obtain ⟨xs, st, rx⟩ := (hS.d 5 rfl).tup
        simp only [DtL, Dt] at rx
        obtain ⟨_, _, rfl, rfl, _, _, rfl, rfl, _, _, rfl, rfl, _, _, rfl, rfl, rfl⟩ := rx
        have st1 := st.1
        walk_at "zS17"
        refine n_slT st1 (by simp only [List.length_cons, List.length_nil]; decide) ?_
        (refine n_al hS ?_; clear hS; intro s1 H s1_n s1_0 hS; simp only [List.cons_append, List.nil_append] at hS)
        rw [cut4_1] at hS
        walk_at "zS17"
        refine n_sumT (ns := [A1, A2, A3]) (hS.st 4 rfl) ?_
        clear sm sm1 smt smr st st1
        obtain ⟨bm', tp3, zs3, e', sm, smt, smr⟩ := man_at (hS.d 2 rfl)
        cases e'
        have sm1 := sm.1
        obtain ⟨xs, st, rx⟩ := (hS.d 5 rfl).tup
        simp only [DtL, Dt] at rx
        obtain ⟨_, _, rfl, rfl, _, _, rfl, rfl, _, _, rfl, rfl, _, _, rfl, rfl, rfl⟩ := rx
        have st1 := st.1
        walk_at "zS17"
        refine d_lenT (Dt.tupI smt smr) ?_
        rw [List.length_map]
        walk_at "zS17"
        refine x_iteF (nd_int (by simp; omega)) ?_
        walk_at "zS17"
        refine x_iteF (decide_eq_false (by rw [show (1 : Int) - 0 = 1 from rfl] at hA1 hhere; omega)) ?_
        walk_at "zS17"
        obtain ⟨nsx, hx1, hx2, hx3⟩ := hpcs hl54 (gm.fits (.inr rfl)) hok
        have hx1 : (μ4.1.cells.drop (42 : Int).toNat).take pic2.cells.length = nsx.map some := hx1
        have hc12 := hp2.2.2.2.1
        refine ⟨m, dx, l, μ4.1, rfl, ⟨hS.get 2 rfl, hS.get 3 rfl, hne⟩, fun pc H f hpc epc => ?_⟩
        have hS := (hS.sub (L' := [(r, rowO a q), (c0, .lst (cs.map ov)), (m, memO A.c_Memory dx l μ4.1), (l, cellsO μ4.1)]) (by walk_at "zsub")).exN f hpc epc
        clear sm sm1 smt smr st st1
        (try simp only [List.cons_append, List.nil_append] at hS)
        clear f hpc epc
        walk_at "zS17"
        refine d_ixTT hS (hS.d 4 rfl) rfl ?_
        clear hS; intro bcell hS
        walk_at "zS17"
        refine d_lenT (hS.d 7 rfl) ?_
        rw [List.length_map]
        have hdm := hS.dom
        walk_at "zS17"
        (refine n_al hS ?_; clear hS; intro s2 H s2_n s2_0 hS; simp only [List.cons_append, List.nil_append] at hS)
        have hs2 := notM0 hdm s2_n
        rw [cut_in ov μ4.1.cells (by decide) (by omega) (by omega), show (42 + (pic2.cells.length : Int) - 42).toNat = pic2.cells.length by omega, hx1, ← ints_ov] at hS
        have hd2 := Dt.lstI (K := K) (M := [l, m, r]) (H := H) (ds := nsx.map .int) ⟨hS.sl 5 rfl, .inl hs2⟩ (DtL.ints.mpr rfl)
        have hS := (hS.sub (L' := [(r, rowO a q), (c0, .lst (cs.map ov)), (m, memO A.c_Memory dx l μ4.1), (l, cellsO μ4.1)]) (by walk_at "zsub")).addD hd2
        clear hd2
        (try simp only [List.cons_append, List.nil_append] at hS)
        walk_at "zS17"
        refine use_E nsx hS (.inl (hS.d 8 rfl)) (by omega) ?_
        clear hS; intro v4 H hS
        have h4 := hS.d 9 rfl
        obtain ⟨z4, zs4, rfl, s4, r4⟩ : ∃ p xs, v4 = .ref p ∧ SLA K [l, m, r] H p xs ∧ DtL K [l, m, r] H ((piecesF nsx).map fun c => .tuple (c.map .int)) xs := by
          simp only [Dt] at h4; exact h4
        have s41 := s4.1
        walk_at "zS17"
        refine lcD_data hS h4 (by rw [List.length_map]; unfold piecesF pieceN; rw [List.length_map, List.length_range]; omega) (fun i => tripD (titleF ((piecesF nsx).getD i []))) ?_ ?_
        · intro i dd x Dd acc Ds' H Q' hd w0 w hS kk
          obtain ⟨pcx, hpcx, rfl⟩ := of_map hd
          obtain ⟨wp, rfl⟩ := w.refT
          walk_at "zS17"
          have hpl := piece_len (List.mem_of_getElem? hpcx)
          refine du_title hS (.inr w) (by omega) ?_
          clear hS; intro tx H hS
          have e : (piecesF nsx).getD i [] = pcx := by simp [hpcx]
          refine kk _ _ (hS.subD (fun x hx => List.mem_append_left _ hx)) ?_
          rw [e]
          exact hS.dat _ (List.mem_append_right _ (List.mem_singleton.mpr rfl))
        clear hS s41 s4 r4 h4; intro Dd H hS
        rw [List.length_map, range_map_get (fun c => tripD (titleF c)) (piecesF nsx) [], show ((piecesF nsx).map fun c => tripD (titleF c)) = mn.ts.map tripD by rw [← hx2, List.map_map]; rfl] at hS
        walk_at "zS17"
        refine d_tupleL hS (hS.d 10 rfl) ?_
        clear hS; intro tq H hS
        obtain ⟨bm', tp4, zs4, e', sm, smt, smr⟩ := man_at (hS.d 2 rfl)
        cases e'
        have sm1 := sm.1
        walk_at "zS17"
        refine d_neS (d := .tuple (mn.ts.map tripD)) (hS.d 11 rfl) (Dt.tupI smt smr) (sh_names _) ?_
        walk_at "zS17"
        refine ⟨[l, m, r], m, dx, l, μ4.1, ks, _, 1, rfl, hS.dom, ⟨hS.get 2 rfl, hS.get 3 rfl, hne⟩, hup4, hl54, hl9.bnd, hS.d 1 rfl, gg, .inr rfl, fun ju H f hu => ?_⟩
        have hju : judgedD μ4.1.cells ks 1 = .tuple [.str "good", .int mn.v] := judged_is (.inr rfl) hwh hhd
        have hsh := judged_shaped μ4.1.cells ks (.inr rfl : (1 : Int) = 0 ∨ (1 : Int) = 1)
        rw [hju] at hu hsh
        have hS := (hS.ex f).addD hu
        clear sm sm1 smt smr
        (try simp only [List.cons_append, List.nil_append] at hS)
        walk_at "zS17"
        refine d_ixTI (hS.d 4 rfl) rfl ?_
        walk_at "zS17"
        rw [← hmv]
        refine d_tup hS (by simp) (DtL.cons' Dt.str' (DtL.cons' Dt.int' DtL.nil')) ?_
        clear hS; intro tg H hS
        refine d_neS (d := .tuple [.str "good", .int mn.v]) (hS.d 12 rfl) (hS.d 13 rfl) hsh ?_
        walk_at "zS17"
        refine ⟨m, dx, l, μ4.1, rfl, ⟨hS.get 2 rfl, hS.get 3 rfl, hne⟩, fun pc2 H f hpc epc => ?_⟩
        have hS := hS.exN f hpc epc
        (try simp only [List.cons_append, List.nil_append] at hS)
        clear f hpc epc
        walk_at "zS17"
        refine ⟨[l, m, r], pc2, μ4.1.cells, rfl, hS.dom, hS.sl 4 rfl, hl54, hl9.bnd, fun bv H f hb => ?_⟩
        rw [hbk] at hb
        have hS := (hS.ex f).addD hb
        (try simp only [List.cons_append, List.nil_append] at hS)
        walk_at "zS17"
        refine d_tup hS (by simp) (DtL.cons' Dt.int' (DtL.cons' Dt.int' (DtL.cons' Dt.int' DtL.nil'))) ?_
        clear hS; intro tb2 H hS
        refine d_neS (d := .tuple [.int 0, .int 1, .int 2]) (hS.d 14 rfl) (hS.d 15 rfl) (sh_intsT [0, 1, 2]) ?_
        walk_at "zS17"
        have hT := tabs_fr hT hS.fr hn
        have hS := (hS.sub (L' := [(r, rowO a q)]) (by walk_at "zsub")).dropM.dropM
        have hn : ∀ x ∈ [r], ∃ o, H x = some o ∧ plainO o := fun x hx => by rw [List.mem_singleton.mp hx]; exact ⟨_, hS.get 0 rfl, plain_lst⟩
        have hS := hS.rebase.from [r] (fun x hx => by rw [List.mem_singleton.mp hx]; exact ⟨_, hS.get 0 rfl⟩)
        exact ⟨H, q, _, _, _, _, _, _, _, _, _, _, _, _, _, _, _, hT, hn, hq, hS.subD (by simp), rfl⟩
    · clear hS hT0 hT1 hn1
      rintro σ' H ⟨Hb, q, v2, v3, v4, v5, v6, v7, v8, v9, v10, v11, v12, v13, v14, v15, v16, hT, hn, hq, hS, rfl⟩
      walk_at "zS17"
      exact k H
end
/-! ### the end -/
theorem all_mk {l : PySem.W.OpenLaw} {w : World} {K : PySem.W.Frag} {h : Heap} {mg : Str → Option Value} {fa f0 f1 f2 f3 f4 f5 f6 f7 f8 f9 f10 f11 f12 f13 f14 f15 f16 f17 f18 f19 f20 f21 f22 f23 f24 f25 f26 f27 f28 f29 f30 f31 f32 f33 f34 f35 f36 f37 f38 f39 f40 f41 f42 f43 f44 f45 f46 f47 f48 f49 f50 f51 f52 f53 f54 f55 f56 C_BadCut C_BadPlace C_BadSize C_BadWorth C_FRESH C_Memory C_SLOTS C_Stopped C_TORNS : Addr} (X : K.In h) (G : h.Ns mainGlobals mg) (hfa : mg "law" = some (.ref fa)) (own : LamX.OwnTab K fa h)
    {od0 an0 od1 an1 od2 an2 od3 an3 od4 an4 od5 an5 od6 an6 od7 an7 od8 an8 od9 an9 od10 an10 od11 an11 od12 an12 od13 an13 od14 an14 od15 an15 od16 an16 od17 an17 od18 an18 od19 an19 od20 an20 od21 an21 od22 an22 od23 an23 od24 an24 od25 an25 od26 an26 od27 an27 od28 an28 od29 an29 od30 an30 od31 an31 od32 an32 od33 an33 od34 an34 od35 an35 od36 an36 od37 an37 od38 an38 od39 an39 od40 an40 od41 an41 od42 an42 od43 an43 od44 an44 od45 an45 od46 an46 od47 an47 od48 an48 od49 an49 od50 an50 od51 an51 od52 an52 od53 an53 od54 an54 od55 an55 od56 an56 : Option Addr} {sl0 sl1 sl2 sl3 sl4 sl5 sl6 sl7 sl8 sl9 sl10 sl11 sl12 sl13 sl14 sl15 sl16 sl17 sl18 sl19 sl20 sl21 sl22 sl23 sl24 sl25 sl26 sl27 sl28 sl29 sl30 sl31 sl32 sl33 sl34 sl35 sl36 sl37 sl38 sl39 sl40 sl41 sl42 sl43 sl44 sl45 sl46 sl47 sl48 sl49 sl50 sl51 sl52 sl53 sl54 sl55 sl56 : Array (Option Value)} {oc0 kV0 dc0 pm0 cd0 ct0 oc1 kV1 dc1 pm1 cd1 ct1 oc2 kV2 dc2 pm2 cd2 ct2 oc3 kV3 dc3 pm3 cd3 ct3 oc4 kV4 dc4 pm4 cd4 ct4 oc5 kV5 dc5 pm5 cd5 ct5 oc6 kV6 dc6 pm6 cd6 ct6 oc7 kV7 dc7 pm7 cd7 ct7 oc8 kV8 dc8 pm8 cd8 ct8 oc9 kV9 dc9 pm9 cd9 ct9 oc10 kV10 dc10 pm10 cd10 ct10 oc11 kV11 dc11 pm11 cd11 ct11 oc12 kV12 dc12 pm12 cd12 ct12 oc13 kV13 dc13 pm13 cd13 ct13 oc14 kV14 dc14 pm14 cd14 ct14 oc15 kV15 dc15 pm15 cd15 ct15 oc16 kV16 dc16 pm16 cd16 ct16 oc17 kV17 dc17 pm17 cd17 ct17 oc18 kV18 dc18 pm18 cd18 ct18 oc19 kV19 dc19 pm19 cd19 ct19 oc20 kV20 dc20 pm20 cd20 ct20 oc21 kV21 dc21 pm21 cd21 ct21 oc22 kV22 dc22 pm22 cd22 ct22 oc23 kV23 dc23 pm23 cd23 ct23 oc24 kV24 dc24 pm24 cd24 ct24 oc25 kV25 dc25 pm25 cd25 ct25 oc26 kV26 dc26 pm26 cd26 ct26 oc27 kV27 dc27 pm27 cd27 ct27 oc28 kV28 dc28 pm28 cd28 ct28 oc29 kV29 dc29 pm29 cd29 ct29 oc30 kV30 dc30 pm30 cd30 ct30 oc31 kV31 dc31 pm31 cd31 ct31 oc32 kV32 dc32 pm32 cd32 ct32 oc33 kV33 dc33 pm33 cd33 ct33 oc34 kV34 dc34 pm34 cd34 ct34 oc35 kV35 dc35 pm35 cd35 ct35 oc36 kV36 dc36 pm36 cd36 ct36 oc37 kV37 dc37 pm37 cd37 ct37 oc38 kV38 dc38 pm38 cd38 ct38 oc39 kV39 dc39 pm39 cd39 ct39 oc40 kV40 dc40 pm40 cd40 ct40 oc41 kV41 dc41 pm41 cd41 ct41 oc42 kV42 dc42 pm42 cd42 ct42 oc43 kV43 dc43 pm43 cd43 ct43 oc44 kV44 dc44 pm44 cd44 ct44 oc45 kV45 dc45 pm45 cd45 ct45 oc46 kV46 dc46 pm46 cd46 ct46 oc47 kV47 dc47 pm47 cd47 ct47 oc48 kV48 dc48 pm48 cd48 ct48 oc49 kV49 dc49 pm49 cd49 ct49 oc50 kV50 dc50 pm50 cd50 ct50 oc51 kV51 dc51 pm51 cd51 ct51 oc52 kV52 dc52 pm52 cd52 ct52 oc53 kV53 dc53 pm53 cd53 ct53 oc54 kV54 dc54 pm54 cd54 ct54 oc55 kV55 dc55 pm55 cd55 ct55 oc56 kV56 dc56 pm56 cd56 ct56 : Value} {cL_law tL_law : Addr} {t_BOOK t_CELLS t_FLOOR t_HEAD t_KEY_FLOOR t_LAID t_MOST_CELLS t_MOST_MANY t_MOST_PARTS t_MOST_WORTH t_PAGE t_PIECE t_PRIME t_RECORD t_STEADY t_TRIAL : Tok}
    (n0 : PySem.W.nsIn K mainGlobals "_law_taken" = some (some (.ref f0)))
    (l0 : K.lookup f0 = some ⟨oc0, od0, .func (PySem.W.fnOf "_law_taken" "_law_taken" (defArgs s__law_taken) (defBody s__law_taken) (defScope s__law_taken) .none kV0 dc0 pm0 an0 cd0 ct0), sl0⟩) (c0 : PySem.W.codeIn K cd0 "_law_taken" = true) (k0 : PySem.W.keepIn K (.ref f0) = true)
    (n1 : PySem.W.nsIn K mainGlobals "_law_keys" = some (some (.ref f1)))
    (l1 : K.lookup f1 = some ⟨oc1, od1, .func (PySem.W.fnOf "_law_keys" "_law_keys" (defArgs s__law_keys) (defBody s__law_keys) (defScope s__law_keys) .none kV1 dc1 pm1 an1 cd1 ct1), sl1⟩) (c1 : PySem.W.codeIn K cd1 "_law_keys" = true) (k1 : PySem.W.keepIn K (.ref f1) = true)
    (n2 : PySem.W.nsIn K mainGlobals "_law_worth" = some (some (.ref f2)))
    (l2 : K.lookup f2 = some ⟨oc2, od2, .func (PySem.W.fnOf "_law_worth" "_law_worth" (defArgs s__law_worth) (defBody s__law_worth) (defScope s__law_worth) .none kV2 dc2 pm2 an2 cd2 ct2), sl2⟩) (c2 : PySem.W.codeIn K cd2 "_law_worth" = true) (k2 : PySem.W.keepIn K (.ref f2) = true)
    (n3 : PySem.W.nsIn K mainGlobals "_law_picture" = some (some (.ref f3)))
    (l3 : K.lookup f3 = some ⟨oc3, od3, .func (PySem.W.fnOf "_law_picture" "_law_picture" (defArgs s__law_picture) (defBody s__law_picture) (defScope s__law_picture) .none kV3 dc3 pm3 an3 cd3 ct3), sl3⟩) (c3 : PySem.W.codeIn K cd3 "_law_picture" = true) (k3 : PySem.W.keepIn K (.ref f3) = true)
    (n4 : PySem.W.nsIn K mainGlobals "_law_sums" = some (some (.ref f4)))
    (l4 : K.lookup f4 = some ⟨oc4, od4, .func (PySem.W.fnOf "_law_sums" "_law_sums" (defArgs s__law_sums) (defBody s__law_sums) (defScope s__law_sums) .none kV4 dc4 pm4 an4 cd4 ct4), sl4⟩) (c4 : PySem.W.codeIn K cd4 "_law_sums" = true) (k4 : PySem.W.keepIn K (.ref f4) = true)
    (n5 : PySem.W.nsIn K mainGlobals "_law_newest" = some (some (.ref f5)))
    (l5 : K.lookup f5 = some ⟨oc5, od5, .func (PySem.W.fnOf "_law_newest" "_law_newest" (defArgs s__law_newest) (defBody s__law_newest) (defScope s__law_newest) .none kV5 dc5 pm5 an5 cd5 ct5), sl5⟩) (c5 : PySem.W.codeIn K cd5 "_law_newest" = true) (k5 : PySem.W.keepIn K (.ref f5) = true)
    (n6 : PySem.W.nsIn K mainGlobals "_law_noted" = some (some (.ref f6)))
    (l6 : K.lookup f6 = some ⟨oc6, od6, .func (PySem.W.fnOf "_law_noted" "_law_noted" (defArgs s__law_noted) (defBody s__law_noted) (defScope s__law_noted) .none kV6 dc6 pm6 an6 cd6 ct6), sl6⟩) (c6 : PySem.W.codeIn K cd6 "_law_noted" = true) (k6 : PySem.W.keepIn K (.ref f6) = true)
    (n7 : PySem.W.nsIn K mainGlobals "_law_seal" = some (some (.ref f7)))
    (l7 : K.lookup f7 = some ⟨oc7, od7, .func (PySem.W.fnOf "_law_seal" "_law_seal" (defArgs s__law_seal) (defBody s__law_seal) (defScope s__law_seal) .none kV7 dc7 pm7 an7 cd7 ct7), sl7⟩) (c7 : PySem.W.codeIn K cd7 "_law_seal" = true) (k7 : PySem.W.keepIn K (.ref f7) = true)
    (n8 : PySem.W.nsIn K mainGlobals "_law_head" = some (some (.ref f8)))
    (l8 : K.lookup f8 = some ⟨oc8, od8, .func (PySem.W.fnOf "_law_head" "_law_head" (defArgs s__law_head) (defBody s__law_head) (defScope s__law_head) .none kV8 dc8 pm8 an8 cd8 ct8), sl8⟩) (c8 : PySem.W.codeIn K cd8 "_law_head" = true) (k8 : PySem.W.keepIn K (.ref f8) = true)
    (n9 : PySem.W.nsIn K mainGlobals "_law_machine" = some (some (.ref f9)))
    (l9 : K.lookup f9 = some ⟨oc9, od9, .func (PySem.W.fnOf "_law_machine" "_law_machine" (defArgs s__law_machine) (defBody s__law_machine) (defScope s__law_machine) .none kV9 dc9 pm9 an9 cd9 ct9), sl9⟩) (c9 : PySem.W.codeIn K cd9 "_law_machine" = true) (k9 : PySem.W.keepIn K (.ref f9) = true)
    (n10 : PySem.W.nsIn K mainGlobals "_law_newer" = some (some (.ref f10)))
    (l10 : K.lookup f10 = some ⟨oc10, od10, .func (PySem.W.fnOf "_law_newer" "_law_newer" (defArgs s__law_newer) (defBody s__law_newer) (defScope s__law_newer) .none kV10 dc10 pm10 an10 cd10 ct10), sl10⟩) (c10 : PySem.W.codeIn K cd10 "_law_newer" = true) (k10 : PySem.W.keepIn K (.ref f10) = true)
    (n11 : PySem.W.nsIn K mainGlobals "_law_pieces" = some (some (.ref f11)))
    (l11 : K.lookup f11 = some ⟨oc11, od11, .func (PySem.W.fnOf "_law_pieces" "_law_pieces" (defArgs s__law_pieces) (defBody s__law_pieces) (defScope s__law_pieces) .none kV11 dc11 pm11 an11 cd11 ct11), sl11⟩) (c11 : PySem.W.codeIn K cd11 "_law_pieces" = true) (k11 : PySem.W.keepIn K (.ref f11) = true)
    (n12 : PySem.W.nsIn K mainGlobals "_law_title" = some (some (.ref f12)))
    (l12 : K.lookup f12 = some ⟨oc12, od12, .func (PySem.W.fnOf "_law_title" "_law_title" (defArgs s__law_title) (defBody s__law_title) (defScope s__law_title) .none kV12 dc12 pm12 an12 cd12 ct12), sl12⟩) (c12 : PySem.W.codeIn K cd12 "_law_title" = true) (k12 : PySem.W.keepIn K (.ref f12) = true)
    (n13 : PySem.W.nsIn K mainGlobals "_law_manifest" = some (some (.ref f13)))
    (l13 : K.lookup f13 = some ⟨oc13, od13, .func (PySem.W.fnOf "_law_manifest" "_law_manifest" (defArgs s__law_manifest) (defBody s__law_manifest) (defScope s__law_manifest) .none kV13 dc13 pm13 an13 cd13 ct13), sl13⟩) (c13 : PySem.W.codeIn K cd13 "_law_manifest" = true) (k13 : PySem.W.keepIn K (.ref f13) = true)
    (n14 : PySem.W.nsIn K mainGlobals "_law_store" = some (some (.ref f14)))
    (l14 : K.lookup f14 = some ⟨oc14, od14, .func (PySem.W.fnOf "_law_store" "_law_store" (defArgs s__law_store) (defBody s__law_store) (defScope s__law_store) .none kV14 dc14 pm14 an14 cd14 ct14), sl14⟩) (c14 : PySem.W.codeIn K cd14 "_law_store" = true) (k14 : PySem.W.keepIn K (.ref f14) = true)
    (n15 : PySem.W.nsIn K mainGlobals "_law_stores" = some (some (.ref f15)))
    (l15 : K.lookup f15 = some ⟨oc15, od15, .func (PySem.W.fnOf "_law_stores" "_law_stores" (defArgs s__law_stores) (defBody s__law_stores) (defScope s__law_stores) .none kV15 dc15 pm15 an15 cd15 ct15), sl15⟩) (c15 : PySem.W.codeIn K cd15 "_law_stores" = true) (k15 : PySem.W.keepIn K (.ref f15) = true)
    (n16 : PySem.W.findIn K (.ref C_Memory) "__init__" = some (some (.ref f16))) (i16 : PySem.W.isFn K (.ref f16) = true)
    (l16 : K.lookup f16 = some ⟨oc16, od16, .func (PySem.W.fnOf "__init__" "Memory.__init__" (defArgs s_Memory___init__) (defBody s_Memory___init__) (defScope s_Memory___init__) .none kV16 dc16 pm16 an16 cd16 ct16), sl16⟩) (c16 : PySem.W.codeIn K cd16 "Memory.__init__" = true) (k16 : PySem.W.keepIn K (.ref f16) = true)
    (n17 : PySem.W.findIn K (.ref C_Memory) "need_place" = some (some (.ref f17))) (i17 : PySem.W.isFn K (.ref f17) = true)
    (l17 : K.lookup f17 = some ⟨oc17, od17, .func (PySem.W.fnOf "need_place" "Memory.need_place" (defArgs s_Memory_need_place) (defBody s_Memory_need_place) (defScope s_Memory_need_place) .none kV17 dc17 pm17 an17 cd17 ct17), sl17⟩) (c17 : PySem.W.codeIn K cd17 "Memory.need_place" = true) (k17 : PySem.W.keepIn K (.ref f17) = true)
    (n18 : PySem.W.findIn K (.ref C_Memory) "need_cell" = some (some (.ref f18))) (i18 : PySem.W.isFn K (.ref f18) = true)
    (l18 : K.lookup f18 = some ⟨oc18, od18, .func (PySem.W.fnOf "need_cell" "Memory.need_cell" (defArgs s_Memory_need_cell) (defBody s_Memory_need_cell) (defScope s_Memory_need_cell) .none kV18 dc18 pm18 an18 cd18 ct18), sl18⟩) (c18 : PySem.W.codeIn K cd18 "Memory.need_cell" = true) (k18 : PySem.W.keepIn K (.ref f18) = true)
    (n19 : PySem.W.findIn K (.ref C_Memory) "spoil" = some (some (.ref f19))) (i19 : PySem.W.isFn K (.ref f19) = true)
    (l19 : K.lookup f19 = some ⟨oc19, od19, .func (PySem.W.fnOf "spoil" "Memory.spoil" (defArgs s_Memory_spoil) (defBody s_Memory_spoil) (defScope s_Memory_spoil) .none kV19 dc19 pm19 an19 cd19 ct19), sl19⟩) (c19 : PySem.W.codeIn K cd19 "Memory.spoil" = true) (k19 : PySem.W.keepIn K (.ref f19) = true)
    (n20 : PySem.W.nsIn K mainGlobals "_law_memory" = some (some (.ref f20)))
    (l20 : K.lookup f20 = some ⟨oc20, od20, .func (PySem.W.fnOf "_law_memory" "_law_memory" (defArgs s__law_memory) (defBody s__law_memory) (defScope s__law_memory) .none kV20 dc20 pm20 an20 cd20 ct20), sl20⟩) (c20 : PySem.W.codeIn K cd20 "_law_memory" = true) (k20 : PySem.W.keepIn K (.ref f20) = true)
    (n21 : PySem.W.findIn K (.ref C_Memory) "cut" = some (some (.ref f21))) (i21 : PySem.W.isFn K (.ref f21) = true)
    (l21 : K.lookup f21 = some ⟨oc21, od21, .func (PySem.W.fnOf "cut" "Memory.cut" (defArgs s_Memory_cut) (defBody s_Memory_cut) (defScope s_Memory_cut) .none kV21 dc21 pm21 an21 cd21 ct21), sl21⟩) (c21 : PySem.W.codeIn K cd21 "Memory.cut" = true) (k21 : PySem.W.keepIn K (.ref f21) = true)
    (n22 : PySem.W.nsIn K mainGlobals "_law_stop" = some (some (.ref f22)))
    (l22 : K.lookup f22 = some ⟨oc22, od22, .func (PySem.W.fnOf "_law_stop" "_law_stop" (defArgs s__law_stop) (defBody s__law_stop) (defScope s__law_stop) .none kV22 dc22 pm22 an22 cd22 ct22), sl22⟩) (c22 : PySem.W.codeIn K cd22 "_law_stop" = true) (k22 : PySem.W.keepIn K (.ref f22) = true)
    (n23 : PySem.W.findIn K (.ref C_Memory) "need_power" = some (some (.ref f23))) (i23 : PySem.W.isFn K (.ref f23) = true)
    (l23 : K.lookup f23 = some ⟨oc23, od23, .func (PySem.W.fnOf "need_power" "Memory.need_power" (defArgs s_Memory_need_power) (defBody s_Memory_need_power) (defScope s_Memory_need_power) .none kV23 dc23 pm23 an23 cd23 ct23), sl23⟩) (c23 : PySem.W.codeIn K cd23 "Memory.need_power" = true) (k23 : PySem.W.keepIn K (.ref f23) = true)
    (n24 : PySem.W.findIn K (.ref C_Memory) "read" = some (some (.ref f24))) (i24 : PySem.W.isFn K (.ref f24) = true)
    (l24 : K.lookup f24 = some ⟨oc24, od24, .func (PySem.W.fnOf "read" "Memory.read" (defArgs s_Memory_read) (defBody s_Memory_read) (defScope s_Memory_read) .none kV24 dc24 pm24 an24 cd24 ct24), sl24⟩) (c24 : PySem.W.codeIn K cd24 "Memory.read" = true) (k24 : PySem.W.keepIn K (.ref f24) = true)
    (n25 : PySem.W.findIn K (.ref C_Memory) "row" = some (some (.ref f25))) (i25 : PySem.W.isFn K (.ref f25) = true)
    (l25 : K.lookup f25 = some ⟨oc25, od25, .func (PySem.W.fnOf "row" "Memory.row" (defArgs s_Memory_row) (defBody s_Memory_row) (defScope s_Memory_row) .none kV25 dc25 pm25 an25 cd25 ct25), sl25⟩) (c25 : PySem.W.codeIn K cd25 "Memory.row" = true) (k25 : PySem.W.keepIn K (.ref f25) = true)
    (n26 : PySem.W.nsIn K mainGlobals "sums" = some (some (.ref f26)))
    (l26 : K.lookup f26 = some ⟨oc26, od26, .func (PySem.W.fnOf "sums" "sums" (defArgs s_sums) (defBody s_sums) (defScope s_sums) .none kV26 dc26 pm26 an26 cd26 ct26), sl26⟩) (c26 : PySem.W.codeIn K cd26 "sums" = true) (k26 : PySem.W.keepIn K (.ref f26) = true)
    (n27 : PySem.W.nsIn K mainGlobals "page" = some (some (.ref f27)))
    (l27 : K.lookup f27 = some ⟨oc27, od27, .func (PySem.W.fnOf "page" "page" (defArgs s_page) (defBody s_page) (defScope s_page) .none kV27 dc27 pm27 an27 cd27 ct27), sl27⟩) (c27 : PySem.W.codeIn K cd27 "page" = true) (k27 : PySem.W.keepIn K (.ref f27) = true)
    (n28 : PySem.W.nsIn K mainGlobals "newest" = some (some (.ref f28)))
    (l28 : K.lookup f28 = some ⟨oc28, od28, .func (PySem.W.fnOf "newest" "newest" (defArgs s_newest) (defBody s_newest) (defScope s_newest) .none kV28 dc28 pm28 an28 cd28 ct28), sl28⟩) (c28 : PySem.W.codeIn K cd28 "newest" = true) (k28 : PySem.W.keepIn K (.ref f28) = true)
    (n29 : PySem.W.nsIn K mainGlobals "record" = some (some (.ref f29)))
    (l29 : K.lookup f29 = some ⟨oc29, od29, .func (PySem.W.fnOf "record" "record" (defArgs s_record) (defBody s_record) (defScope s_record) .none kV29 dc29 pm29 an29 cd29 ct29), sl29⟩) (c29 : PySem.W.codeIn K cd29 "record" = true) (k29 : PySem.W.keepIn K (.ref f29) = true)
    (n30 : PySem.W.nsIn K mainGlobals "booked" = some (some (.ref f30)))
    (l30 : K.lookup f30 = some ⟨oc30, od30, .func (PySem.W.fnOf "booked" "booked" (defArgs s_booked) (defBody s_booked) (defScope s_booked) .none kV30 dc30 pm30 an30 cd30 ct30), sl30⟩) (c30 : PySem.W.codeIn K cd30 "booked" = true) (k30 : PySem.W.keepIn K (.ref f30) = true)
    (n31 : PySem.W.nsIn K mainGlobals "head_of" = some (some (.ref f31)))
    (l31 : K.lookup f31 = some ⟨oc31, od31, .func (PySem.W.fnOf "head_of" "head_of" (defArgs s_head_of) (defBody s_head_of) (defScope s_head_of) .none kV31 dc31 pm31 an31 cd31 ct31), sl31⟩) (c31 : PySem.W.codeIn K cd31 "head_of" = true) (k31 : PySem.W.keepIn K (.ref f31) = true)
    (n32 : PySem.W.nsIn K mainGlobals "parts_of" = some (some (.ref f32)))
    (l32 : K.lookup f32 = some ⟨oc32, od32, .func (PySem.W.fnOf "parts_of" "parts_of" (defArgs s_parts_of) (defBody s_parts_of) (defScope s_parts_of) .none kV32 dc32 pm32 an32 cd32 ct32), sl32⟩) (c32 : PySem.W.codeIn K cd32 "parts_of" = true) (k32 : PySem.W.keepIn K (.ref f32) = true)
    (n33 : PySem.W.nsIn K mainGlobals "count" = some (some (.ref f33)))
    (l33 : K.lookup f33 = some ⟨oc33, od33, .func (PySem.W.fnOf "count" "count" (defArgs s_count) (defBody s_count) (defScope s_count) .none kV33 dc33 pm33 an33 cd33 ct33), sl33⟩) (c33 : PySem.W.codeIn K cd33 "count" = true) (k33 : PySem.W.keepIn K (.ref f33) = true)
    (n34 : PySem.W.nsIn K mainGlobals "floor_of" = some (some (.ref f34)))
    (l34 : K.lookup f34 = some ⟨oc34, od34, .func (PySem.W.fnOf "floor_of" "floor_of" (defArgs s_floor_of) (defBody s_floor_of) (defScope s_floor_of) .none kV34 dc34 pm34 an34 cd34 ct34), sl34⟩) (c34 : PySem.W.codeIn K cd34 "floor_of" = true) (k34 : PySem.W.keepIn K (.ref f34) = true)
    (n35 : PySem.W.nsIn K mainGlobals "seal" = some (some (.ref f35)))
    (l35 : K.lookup f35 = some ⟨oc35, od35, .func (PySem.W.fnOf "seal" "seal" (defArgs s_seal) (defBody s_seal) (defScope s_seal) .none kV35 dc35 pm35 an35 cd35 ct35), sl35⟩) (c35 : PySem.W.codeIn K cd35 "seal" = true) (k35 : PySem.W.keepIn K (.ref f35) = true)
    (n36 : PySem.W.nsIn K mainGlobals "why_not" = some (some (.ref f36)))
    (l36 : K.lookup f36 = some ⟨oc36, od36, .func (PySem.W.fnOf "why_not" "why_not" (defArgs s_why_not) (defBody s_why_not) (defScope s_why_not) .none kV36 dc36 pm36 an36 cd36 ct36), sl36⟩) (c36 : PySem.W.codeIn K cd36 "why_not" = true) (k36 : PySem.W.keepIn K (.ref f36) = true)
    (n37 : PySem.W.nsIn K mainGlobals "judged" = some (some (.ref f37)))
    (l37 : K.lookup f37 = some ⟨oc37, od37, .func (PySem.W.fnOf "judged" "judged" (defArgs s_judged) (defBody s_judged) (defScope s_judged) .none kV37 dc37 pm37 an37 cd37 ct37), sl37⟩) (c37 : PySem.W.codeIn K cd37 "judged" = true) (k37 : PySem.W.keepIn K (.ref f37) = true)
    (n38 : PySem.W.nsIn K mainGlobals "why_refused" = some (some (.ref f38)))
    (l38 : K.lookup f38 = some ⟨oc38, od38, .func (PySem.W.fnOf "why_refused" "why_refused" (defArgs s_why_refused) (defBody s_why_refused) (defScope s_why_refused) .none kV38 dc38 pm38 an38 cd38 ct38), sl38⟩) (c38 : PySem.W.codeIn K cd38 "why_refused" = true) (k38 : PySem.W.keepIn K (.ref f38) = true)
    (n39 : PySem.W.nsIn K mainGlobals "page_row" = some (some (.ref f39)))
    (l39 : K.lookup f39 = some ⟨oc39, od39, .func (PySem.W.fnOf "page_row" "page_row" (defArgs s_page_row) (defBody s_page_row) (defScope s_page_row) .none kV39 dc39 pm39 an39 cd39 ct39), sl39⟩) (c39 : PySem.W.codeIn K cd39 "page_row" = true) (k39 : PySem.W.keepIn K (.ref f39) = true)
    (n40 : PySem.W.findIn K (.ref C_Memory) "go_down" = some (some (.ref f40))) (i40 : PySem.W.isFn K (.ref f40) = true)
    (l40 : K.lookup f40 = some ⟨oc40, od40, .func (PySem.W.fnOf "go_down" "Memory.go_down" (defArgs s_Memory_go_down) (defBody s_Memory_go_down) (defScope s_Memory_go_down) .none kV40 dc40 pm40 an40 cd40 ct40), sl40⟩) (c40 : PySem.W.codeIn K cd40 "Memory.go_down" = true) (k40 : PySem.W.keepIn K (.ref f40) = true)
    (n41 : PySem.W.findIn K (.ref C_Memory) "write" = some (some (.ref f41))) (i41 : PySem.W.isFn K (.ref f41) = true)
    (l41 : K.lookup f41 = some ⟨oc41, od41, .func (PySem.W.fnOf "write" "Memory.write" (defArgs s_Memory_write) (defBody s_Memory_write) (defScope s_Memory_write) .none kV41 dc41 pm41 an41 cd41 ct41), sl41⟩) (c41 : PySem.W.codeIn K cd41 "Memory.write" = true) (k41 : PySem.W.keepIn K (.ref f41) = true)
    (n42 : PySem.W.nsIn K mainGlobals "note" = some (some (.ref f42)))
    (l42 : K.lookup f42 = some ⟨oc42, od42, .func (PySem.W.fnOf "note" "note" (defArgs s_note) (defBody s_note) (defScope s_note) .none kV42 dc42 pm42 an42 cd42 ct42), sl42⟩) (c42 : PySem.W.codeIn K cd42 "note" = true) (k42 : PySem.W.keepIn K (.ref f42) = true)
    (n43 : PySem.W.nsIn K mainGlobals "open_slot" = some (some (.ref f43)))
    (l43 : K.lookup f43 = some ⟨oc43, od43, .func (PySem.W.fnOf "open_slot" "open_slot" (defArgs s_open_slot) (defBody s_open_slot) (defScope s_open_slot) .none kV43 dc43 pm43 an43 cd43 ct43), sl43⟩) (c43 : PySem.W.codeIn K cd43 "open_slot" = true) (k43 : PySem.W.keepIn K (.ref f43) = true)
    (n44 : PySem.W.nsIn K mainGlobals "pieces" = some (some (.ref f44)))
    (l44 : K.lookup f44 = some ⟨oc44, od44, .func (PySem.W.fnOf "pieces" "pieces" (defArgs s_pieces) (defBody s_pieces) (defScope s_pieces) .none kV44 dc44 pm44 an44 cd44 ct44), sl44⟩) (c44 : PySem.W.codeIn K cd44 "pieces" = true) (k44 : PySem.W.keepIn K (.ref f44) = true)
    (n45 : PySem.W.nsIn K mainGlobals "name" = some (some (.ref f45)))
    (l45 : K.lookup f45 = some ⟨oc45, od45, .func (PySem.W.fnOf "name" "name" (defArgs s_name) (defBody s_name) (defScope s_name) .none kV45 dc45 pm45 an45 cd45 ct45), sl45⟩) (c45 : PySem.W.codeIn K cd45 "name" = true) (k45 : PySem.W.keepIn K (.ref f45) = true)
    (n46 : PySem.W.nsIn K mainGlobals "trusted_pieces" = some (some (.ref f46)))
    (l46 : K.lookup f46 = some ⟨oc46, od46, .func (PySem.W.fnOf "trusted_pieces" "trusted_pieces" (defArgs s_trusted_pieces) (defBody s_trusted_pieces) (defScope s_trusted_pieces) .none kV46 dc46 pm46 an46 cd46 ct46), sl46⟩) (c46 : PySem.W.codeIn K cd46 "trusted_pieces" = true) (k46 : PySem.W.keepIn K (.ref f46) = true)
    (n47 : PySem.W.nsIn K mainGlobals "asked" = some (some (.ref f47)))
    (l47 : K.lookup f47 = some ⟨oc47, od47, .func (PySem.W.fnOf "asked" "asked" (defArgs s_asked) (defBody s_asked) (defScope s_asked) .none kV47 dc47 pm47 an47 cd47 ct47), sl47⟩) (c47 : PySem.W.codeIn K cd47 "asked" = true) (k47 : PySem.W.keepIn K (.ref f47) = true)
    (n48 : PySem.W.findIn K (.ref C_Memory) "put" = some (some (.ref f48))) (i48 : PySem.W.isFn K (.ref f48) = true)
    (l48 : K.lookup f48 = some ⟨oc48, od48, .func (PySem.W.fnOf "put" "Memory.put" (defArgs s_Memory_put) (defBody s_Memory_put) (defScope s_Memory_put) .none kV48 dc48 pm48 an48 cd48 ct48), sl48⟩) (c48 : PySem.W.codeIn K cd48 "Memory.put" = true) (k48 : PySem.W.keepIn K (.ref f48) = true)
    (n49 : PySem.W.nsIn K mainGlobals "lay_pieces" = some (some (.ref f49)))
    (l49 : K.lookup f49 = some ⟨oc49, od49, .func (PySem.W.fnOf "lay_pieces" "lay_pieces" (defArgs s_lay_pieces) (defBody s_lay_pieces) (defScope s_lay_pieces) .none kV49 dc49 pm49 an49 cd49 ct49), sl49⟩) (c49 : PySem.W.codeIn K cd49 "lay_pieces" = true) (k49 : PySem.W.keepIn K (.ref f49) = true)
    (n50 : PySem.W.nsIn K mainGlobals "close_slot" = some (some (.ref f50)))
    (l50 : K.lookup f50 = some ⟨oc50, od50, .func (PySem.W.fnOf "close_slot" "close_slot" (defArgs s_close_slot) (defBody s_close_slot) (defScope s_close_slot) .none kV50 dc50 pm50 an50 cd50 ct50), sl50⟩) (c50 : PySem.W.codeIn K cd50 "close_slot" = true) (k50 : PySem.W.keepIn K (.ref f50) = true)
    (n51 : PySem.W.nsIn K mainGlobals "update" = some (some (.ref f51)))
    (l51 : K.lookup f51 = some ⟨oc51, od51, .func (PySem.W.fnOf "update" "update" (defArgs s_update) (defBody s_update) (defScope s_update) .none kV51 dc51 pm51 an51 cd51 ct51), sl51⟩) (c51 : PySem.W.codeIn K cd51 "update" = true) (k51 : PySem.W.keepIn K (.ref f51) = true)
    (n52 : PySem.W.findIn K (.ref C_Memory) "up" = some (some (.ref f52))) (i52 : PySem.W.isFn K (.ref f52) = true)
    (l52 : K.lookup f52 = some ⟨oc52, od52, .func (PySem.W.fnOf "up" "Memory.up" (defArgs s_Memory_up) (defBody s_Memory_up) (defScope s_Memory_up) .none kV52 dc52 pm52 an52 cd52 ct52), sl52⟩) (c52 : PySem.W.codeIn K cd52 "Memory.up" = true) (k52 : PySem.W.keepIn K (.ref f52) = true)
    (n53 : PySem.W.findIn K (.ref C_Memory) "cells" = some (some (.ref f53))) (i53 : PySem.W.isFn K (.ref f53) = true)
    (l53 : K.lookup f53 = some ⟨oc53, od53, .func (PySem.W.fnOf "cells" "Memory.cells" (defArgs s_Memory_cells) (defBody s_Memory_cells) (defScope s_Memory_cells) .none kV53 dc53 pm53 an53 cd53 ct53), sl53⟩) (c53 : PySem.W.codeIn K cd53 "Memory.cells" = true) (k53 : PySem.W.keepIn K (.ref f53) = true)
    (n54 : PySem.W.nsIn K mainGlobals "_law_right" = some (some (.ref f54)))
    (l54 : K.lookup f54 = some ⟨oc54, od54, .func (PySem.W.fnOf "_law_right" "_law_right" (defArgs s__law_right) (defBody s__law_right) (defScope s__law_right) .none kV54 dc54 pm54 an54 cd54 ct54), sl54⟩) (c54 : PySem.W.codeIn K cd54 "_law_right" = true) (k54 : PySem.W.keepIn K (.ref f54) = true)
    (n55 : PySem.W.nsIn K mainGlobals "_law_book" = some (some (.ref f55)))
    (l55 : K.lookup f55 = some ⟨oc55, od55, .func (PySem.W.fnOf "_law_book" "_law_book" (defArgs s__law_book) (defBody s__law_book) (defScope s__law_book) .none kV55 dc55 pm55 an55 cd55 ct55), sl55⟩) (c55 : PySem.W.codeIn K cd55 "_law_book" = true) (k55 : PySem.W.keepIn K (.ref f55) = true)
    (n56 : PySem.W.nsIn K mainGlobals "law" = some (some (.ref f56)))
    (l56 : K.lookup f56 = some ⟨oc56, od56, .func (PySem.W.fnOf "law" "law" (defArgs s_law) (defBody s_law) (defScope s_law) .none kV56 dc56 pm56 an56 (.ref cL_law) ct56), sl56⟩) (c56 : PySem.W.codeIn K (.ref cL_law) "law" = true) (k56 : PySem.W.keepIn K (.ref f56) = true)
    (g_Memory : PySem.W.nsIn K mainGlobals "Memory" = some (some (.ref C_Memory))) (pg_Memory : PySem.W.plainGet K C_Memory Str.empty = true) (hd_Memory : PySem.W.hasDictIn K C_Memory = true) (po_Memory : PySem.W.plainOver K C_Memory = true) (sa_Memory : PySem.W.findIn K (.ref C_Memory) "__setattr__" = some (some (.builtin "object.__setattr__"))) (mk_Memory : PySem.W.makesIn K C_Memory = true) (kc_Memory : PySem.W.keepIn K (.ref C_Memory) = true)
    (g_BadCut : PySem.W.nsIn K mainGlobals "BadCut" = some (some (.ref C_BadCut)))
    (g_BadPlace : PySem.W.nsIn K mainGlobals "BadPlace" = some (some (.ref C_BadPlace)))
    (g_BadSize : PySem.W.nsIn K mainGlobals "BadSize" = some (some (.ref C_BadSize)))
    (g_BadWorth : PySem.W.nsIn K mainGlobals "BadWorth" = some (some (.ref C_BadWorth)))
    (g_FRESH : PySem.W.nsIn K mainGlobals "FRESH" = some (some (.ref C_FRESH)))
    (g_SLOTS : PySem.W.nsIn K mainGlobals "SLOTS" = some (some (.ref C_SLOTS)))
    (g_Stopped : PySem.W.nsIn K mainGlobals "Stopped" = some (some (.ref C_Stopped)))
    (g_TORNS : PySem.W.nsIn K mainGlobals "TORNS" = some (some (.ref C_TORNS)))
    (x_BadCut : PySem.W.excIn K C_BadCut [.type "ValueError", .type "Exception", .type "BaseException", .type "object"] "ValueError.__new__" = true) (k_BadCut : PySem.W.keepIn K (.ref C_BadCut) = true) (b_BadCut : PySem.W.subIn K (.ref C_BadCut) (.type "BaseException") = some true) (t_BadCut : PySem.W.typeIn K (.ref C_BadCut) = some (.type "type"))
    (x_BadPlace : PySem.W.excIn K C_BadPlace [.type "ValueError", .type "Exception", .type "BaseException", .type "object"] "ValueError.__new__" = true) (k_BadPlace : PySem.W.keepIn K (.ref C_BadPlace) = true) (b_BadPlace : PySem.W.subIn K (.ref C_BadPlace) (.type "BaseException") = some true) (t_BadPlace : PySem.W.typeIn K (.ref C_BadPlace) = some (.type "type"))
    (x_BadSize : PySem.W.excIn K C_BadSize [.type "ValueError", .type "Exception", .type "BaseException", .type "object"] "ValueError.__new__" = true) (k_BadSize : PySem.W.keepIn K (.ref C_BadSize) = true) (b_BadSize : PySem.W.subIn K (.ref C_BadSize) (.type "BaseException") = some true) (t_BadSize : PySem.W.typeIn K (.ref C_BadSize) = some (.type "type"))
    (x_BadWorth : PySem.W.excIn K C_BadWorth [.type "ValueError", .type "Exception", .type "BaseException", .type "object"] "ValueError.__new__" = true) (k_BadWorth : PySem.W.keepIn K (.ref C_BadWorth) = true) (b_BadWorth : PySem.W.subIn K (.ref C_BadWorth) (.type "BaseException") = some true) (t_BadWorth : PySem.W.typeIn K (.ref C_BadWorth) = some (.type "type"))
    (x_Stopped : PySem.W.excIn K C_Stopped [.type "ValueError", .type "Exception", .type "BaseException", .type "object"] "ValueError.__new__" = true) (k_Stopped : PySem.W.keepIn K (.ref C_Stopped) = true) (b_Stopped : PySem.W.subIn K (.ref C_Stopped) (.type "BaseException") = some true) (t_Stopped : PySem.W.typeIn K (.ref C_Stopped) = some (.type "type"))
    {tu_FRESH0 tu_FRESH1 tu_FRESH2 : Tok} {ud_FRESH : Option Addr} {un_FRESH : Nat} {us_FRESH : Array (Option Value)} (l_FRESH : K.lookup C_FRESH = some ⟨.type "tuple", ud_FRESH, .seq #[.int 0 tu_FRESH0, .int 0 tu_FRESH1, .int 0 tu_FRESH2] un_FRESH, us_FRESH⟩)
    {tu_SLOTS0 tu_SLOTS1 : Tok} {ud_SLOTS : Option Addr} {un_SLOTS : Nat} {us_SLOTS : Array (Option Value)} (l_SLOTS : K.lookup C_SLOTS = some ⟨.type "tuple", ud_SLOTS, .seq #[.int 16 tu_SLOTS0, .int 35 tu_SLOTS1] un_SLOTS, us_SLOTS⟩)
    {tu_TORNS0 tu_TORNS1 tu_TORNS2 : Tok} {ud_TORNS : Option Addr} {un_TORNS : Nat} {us_TORNS : Array (Option Value)} (l_TORNS : K.lookup C_TORNS = some ⟨.type "tuple", ud_TORNS, .seq #[.str "old" tu_TORNS0, .str "broken" tu_TORNS1, .str "new" tu_TORNS2] un_TORNS, us_TORNS⟩)
    (i_Stopped : PySem.W.isClsIn K C_Stopped = true)
    (s_Stopped_Stopped : PySem.W.subIn K (.ref C_Stopped) (.ref C_Stopped) = some true)
    (na_Memory_is_up : PySem.W.findIn K (.ref C_Memory) "is_up" = some none)
    (na_Memory_left : PySem.W.findIn K (.ref C_Memory) "left" = some none)
    (na_Memory_many : PySem.W.findIn K (.ref C_Memory) "many" = some none)
    (na_Memory_torn : PySem.W.findIn K (.ref C_Memory) "torn" = some none)
    (na_Memory_worths : PySem.W.findIn K (.ref C_Memory) "worths" = some none)
    (z_dict : PySem.W.nsIn K mainGlobals "dict" = some none)
    (z_int : PySem.W.nsIn K mainGlobals "int" = some none)
    (z_len : PySem.W.nsIn K mainGlobals "len" = some none)
    (z_list : PySem.W.nsIn K mainGlobals "list" = some none)
    (z_max : PySem.W.nsIn K mainGlobals "max" = some none)
    (z_min : PySem.W.nsIn K mainGlobals "min" = some none)
    (z_range : PySem.W.nsIn K mainGlobals "range" = some none)
    (z_reversed : PySem.W.nsIn K mainGlobals "reversed" = some none)
    (z_sum : PySem.W.nsIn K mainGlobals "sum" = some none)
    (z_tuple : PySem.W.nsIn K mainGlobals "tuple" = some none)
    (c_BOOK : PySem.W.nsIn K mainGlobals "BOOK" = some (some (.int 4 t_BOOK)))
    (c_CELLS : PySem.W.nsIn K mainGlobals "CELLS" = some (some (.int 2 t_CELLS)))
    (c_FLOOR : PySem.W.nsIn K mainGlobals "FLOOR" = some (some (.int 0 t_FLOOR)))
    (c_HEAD : PySem.W.nsIn K mainGlobals "HEAD" = some (some (.int 7 t_HEAD)))
    (c_KEY_FLOOR : PySem.W.nsIn K mainGlobals "KEY_FLOOR" = some (some (.int 2 t_KEY_FLOOR)))
    (c_LAID : PySem.W.nsIn K mainGlobals "LAID" = some (some (.int 1 t_LAID)))
    (c_MOST_CELLS : PySem.W.nsIn K mainGlobals "MOST_CELLS" = some (some (.int 400 t_MOST_CELLS)))
    (c_MOST_MANY : PySem.W.nsIn K mainGlobals "MOST_MANY" = some (some (.int 100000 t_MOST_MANY)))
    (c_MOST_PARTS : PySem.W.nsIn K mainGlobals "MOST_PARTS" = some (some (.int 12 t_MOST_PARTS)))
    (c_MOST_WORTH : PySem.W.nsIn K mainGlobals "MOST_WORTH" = some (some (.int 9972 t_MOST_WORTH)))
    (c_PAGE : PySem.W.nsIn K mainGlobals "PAGE" = some (some (.int 6 t_PAGE)))
    (c_PIECE : PySem.W.nsIn K mainGlobals "PIECE" = some (some (.int 3 t_PIECE)))
    (c_PRIME : PySem.W.nsIn K mainGlobals "PRIME" = some (some (.int 9973 t_PRIME)))
    (c_RECORD : PySem.W.nsIn K mainGlobals "RECORD" = some (some (.int 3 t_RECORD)))
    (c_STEADY : PySem.W.nsIn K mainGlobals "STEADY" = some (some (.int 0 t_STEADY)))
    (c_TRIAL : PySem.W.nsIn K mainGlobals "TRIAL" = some (some (.int 1 t_TRIAL)))
    (tP_law : Z.tabOf K cL_law = some tL_law) (hP_law : PySem.W.codeHdIn K cL_law tL_law = true) (nP_law : K.lookup tL_law = none) :
    LamX.LawAtS l w K L2.CX0 13 63 "_law_script" mg fa h := by
  have e := hfa.symm.trans (PySem.W.mg_of X G n56)
  cases e
  have T : ∀ base : Heap, LamX.TabB base mg cL_law tL_law → Txt K mg base ⟨f0, PySem.W.fnOf "_law_taken" "_law_taken" (defArgs s__law_taken) (defBody s__law_taken) (defScope s__law_taken) .none kV0 dc0 pm0 an0 cd0 ct0, f1, PySem.W.fnOf "_law_keys" "_law_keys" (defArgs s__law_keys) (defBody s__law_keys) (defScope s__law_keys) .none kV1 dc1 pm1 an1 cd1 ct1, f2, PySem.W.fnOf "_law_worth" "_law_worth" (defArgs s__law_worth) (defBody s__law_worth) (defScope s__law_worth) .none kV2 dc2 pm2 an2 cd2 ct2, f3, PySem.W.fnOf "_law_picture" "_law_picture" (defArgs s__law_picture) (defBody s__law_picture) (defScope s__law_picture) .none kV3 dc3 pm3 an3 cd3 ct3, f4, PySem.W.fnOf "_law_sums" "_law_sums" (defArgs s__law_sums) (defBody s__law_sums) (defScope s__law_sums) .none kV4 dc4 pm4 an4 cd4 ct4, f5, PySem.W.fnOf "_law_newest" "_law_newest" (defArgs s__law_newest) (defBody s__law_newest) (defScope s__law_newest) .none kV5 dc5 pm5 an5 cd5 ct5, f6, PySem.W.fnOf "_law_noted" "_law_noted" (defArgs s__law_noted) (defBody s__law_noted) (defScope s__law_noted) .none kV6 dc6 pm6 an6 cd6 ct6, f7, PySem.W.fnOf "_law_seal" "_law_seal" (defArgs s__law_seal) (defBody s__law_seal) (defScope s__law_seal) .none kV7 dc7 pm7 an7 cd7 ct7, f8, PySem.W.fnOf "_law_head" "_law_head" (defArgs s__law_head) (defBody s__law_head) (defScope s__law_head) .none kV8 dc8 pm8 an8 cd8 ct8, f9, PySem.W.fnOf "_law_machine" "_law_machine" (defArgs s__law_machine) (defBody s__law_machine) (defScope s__law_machine) .none kV9 dc9 pm9 an9 cd9 ct9, f10, PySem.W.fnOf "_law_newer" "_law_newer" (defArgs s__law_newer) (defBody s__law_newer) (defScope s__law_newer) .none kV10 dc10 pm10 an10 cd10 ct10, f11, PySem.W.fnOf "_law_pieces" "_law_pieces" (defArgs s__law_pieces) (defBody s__law_pieces) (defScope s__law_pieces) .none kV11 dc11 pm11 an11 cd11 ct11, f12, PySem.W.fnOf "_law_title" "_law_title" (defArgs s__law_title) (defBody s__law_title) (defScope s__law_title) .none kV12 dc12 pm12 an12 cd12 ct12, f13, PySem.W.fnOf "_law_manifest" "_law_manifest" (defArgs s__law_manifest) (defBody s__law_manifest) (defScope s__law_manifest) .none kV13 dc13 pm13 an13 cd13 ct13, f14, PySem.W.fnOf "_law_store" "_law_store" (defArgs s__law_store) (defBody s__law_store) (defScope s__law_store) .none kV14 dc14 pm14 an14 cd14 ct14, f15, PySem.W.fnOf "_law_stores" "_law_stores" (defArgs s__law_stores) (defBody s__law_stores) (defScope s__law_stores) .none kV15 dc15 pm15 an15 cd15 ct15, f16, PySem.W.fnOf "__init__" "Memory.__init__" (defArgs s_Memory___init__) (defBody s_Memory___init__) (defScope s_Memory___init__) .none kV16 dc16 pm16 an16 cd16 ct16, f17, PySem.W.fnOf "need_place" "Memory.need_place" (defArgs s_Memory_need_place) (defBody s_Memory_need_place) (defScope s_Memory_need_place) .none kV17 dc17 pm17 an17 cd17 ct17, f18, PySem.W.fnOf "need_cell" "Memory.need_cell" (defArgs s_Memory_need_cell) (defBody s_Memory_need_cell) (defScope s_Memory_need_cell) .none kV18 dc18 pm18 an18 cd18 ct18, f19, PySem.W.fnOf "spoil" "Memory.spoil" (defArgs s_Memory_spoil) (defBody s_Memory_spoil) (defScope s_Memory_spoil) .none kV19 dc19 pm19 an19 cd19 ct19, f20, PySem.W.fnOf "_law_memory" "_law_memory" (defArgs s__law_memory) (defBody s__law_memory) (defScope s__law_memory) .none kV20 dc20 pm20 an20 cd20 ct20, f21, PySem.W.fnOf "cut" "Memory.cut" (defArgs s_Memory_cut) (defBody s_Memory_cut) (defScope s_Memory_cut) .none kV21 dc21 pm21 an21 cd21 ct21, f22, PySem.W.fnOf "_law_stop" "_law_stop" (defArgs s__law_stop) (defBody s__law_stop) (defScope s__law_stop) .none kV22 dc22 pm22 an22 cd22 ct22, f23, PySem.W.fnOf "need_power" "Memory.need_power" (defArgs s_Memory_need_power) (defBody s_Memory_need_power) (defScope s_Memory_need_power) .none kV23 dc23 pm23 an23 cd23 ct23, f24, PySem.W.fnOf "read" "Memory.read" (defArgs s_Memory_read) (defBody s_Memory_read) (defScope s_Memory_read) .none kV24 dc24 pm24 an24 cd24 ct24, f25, PySem.W.fnOf "row" "Memory.row" (defArgs s_Memory_row) (defBody s_Memory_row) (defScope s_Memory_row) .none kV25 dc25 pm25 an25 cd25 ct25, f26, PySem.W.fnOf "sums" "sums" (defArgs s_sums) (defBody s_sums) (defScope s_sums) .none kV26 dc26 pm26 an26 cd26 ct26, f27, PySem.W.fnOf "page" "page" (defArgs s_page) (defBody s_page) (defScope s_page) .none kV27 dc27 pm27 an27 cd27 ct27, f28, PySem.W.fnOf "newest" "newest" (defArgs s_newest) (defBody s_newest) (defScope s_newest) .none kV28 dc28 pm28 an28 cd28 ct28, f29, PySem.W.fnOf "record" "record" (defArgs s_record) (defBody s_record) (defScope s_record) .none kV29 dc29 pm29 an29 cd29 ct29, f30, PySem.W.fnOf "booked" "booked" (defArgs s_booked) (defBody s_booked) (defScope s_booked) .none kV30 dc30 pm30 an30 cd30 ct30, f31, PySem.W.fnOf "head_of" "head_of" (defArgs s_head_of) (defBody s_head_of) (defScope s_head_of) .none kV31 dc31 pm31 an31 cd31 ct31, f32, PySem.W.fnOf "parts_of" "parts_of" (defArgs s_parts_of) (defBody s_parts_of) (defScope s_parts_of) .none kV32 dc32 pm32 an32 cd32 ct32, f33, PySem.W.fnOf "count" "count" (defArgs s_count) (defBody s_count) (defScope s_count) .none kV33 dc33 pm33 an33 cd33 ct33, f34, PySem.W.fnOf "floor_of" "floor_of" (defArgs s_floor_of) (defBody s_floor_of) (defScope s_floor_of) .none kV34 dc34 pm34 an34 cd34 ct34, f35, PySem.W.fnOf "seal" "seal" (defArgs s_seal) (defBody s_seal) (defScope s_seal) .none kV35 dc35 pm35 an35 cd35 ct35, f36, PySem.W.fnOf "why_not" "why_not" (defArgs s_why_not) (defBody s_why_not) (defScope s_why_not) .none kV36 dc36 pm36 an36 cd36 ct36, f37, PySem.W.fnOf "judged" "judged" (defArgs s_judged) (defBody s_judged) (defScope s_judged) .none kV37 dc37 pm37 an37 cd37 ct37, f38, PySem.W.fnOf "why_refused" "why_refused" (defArgs s_why_refused) (defBody s_why_refused) (defScope s_why_refused) .none kV38 dc38 pm38 an38 cd38 ct38, f39, PySem.W.fnOf "page_row" "page_row" (defArgs s_page_row) (defBody s_page_row) (defScope s_page_row) .none kV39 dc39 pm39 an39 cd39 ct39, f40, PySem.W.fnOf "go_down" "Memory.go_down" (defArgs s_Memory_go_down) (defBody s_Memory_go_down) (defScope s_Memory_go_down) .none kV40 dc40 pm40 an40 cd40 ct40, f41, PySem.W.fnOf "write" "Memory.write" (defArgs s_Memory_write) (defBody s_Memory_write) (defScope s_Memory_write) .none kV41 dc41 pm41 an41 cd41 ct41, f42, PySem.W.fnOf "note" "note" (defArgs s_note) (defBody s_note) (defScope s_note) .none kV42 dc42 pm42 an42 cd42 ct42, f43, PySem.W.fnOf "open_slot" "open_slot" (defArgs s_open_slot) (defBody s_open_slot) (defScope s_open_slot) .none kV43 dc43 pm43 an43 cd43 ct43, f44, PySem.W.fnOf "pieces" "pieces" (defArgs s_pieces) (defBody s_pieces) (defScope s_pieces) .none kV44 dc44 pm44 an44 cd44 ct44, f45, PySem.W.fnOf "name" "name" (defArgs s_name) (defBody s_name) (defScope s_name) .none kV45 dc45 pm45 an45 cd45 ct45, f46, PySem.W.fnOf "trusted_pieces" "trusted_pieces" (defArgs s_trusted_pieces) (defBody s_trusted_pieces) (defScope s_trusted_pieces) .none kV46 dc46 pm46 an46 cd46 ct46, f47, PySem.W.fnOf "asked" "asked" (defArgs s_asked) (defBody s_asked) (defScope s_asked) .none kV47 dc47 pm47 an47 cd47 ct47, f48, PySem.W.fnOf "put" "Memory.put" (defArgs s_Memory_put) (defBody s_Memory_put) (defScope s_Memory_put) .none kV48 dc48 pm48 an48 cd48 ct48, f49, PySem.W.fnOf "lay_pieces" "lay_pieces" (defArgs s_lay_pieces) (defBody s_lay_pieces) (defScope s_lay_pieces) .none kV49 dc49 pm49 an49 cd49 ct49, f50, PySem.W.fnOf "close_slot" "close_slot" (defArgs s_close_slot) (defBody s_close_slot) (defScope s_close_slot) .none kV50 dc50 pm50 an50 cd50 ct50, f51, PySem.W.fnOf "update" "update" (defArgs s_update) (defBody s_update) (defScope s_update) .none kV51 dc51 pm51 an51 cd51 ct51, f52, PySem.W.fnOf "up" "Memory.up" (defArgs s_Memory_up) (defBody s_Memory_up) (defScope s_Memory_up) .none kV52 dc52 pm52 an52 cd52 ct52, f53, PySem.W.fnOf "cells" "Memory.cells" (defArgs s_Memory_cells) (defBody s_Memory_cells) (defScope s_Memory_cells) .none kV53 dc53 pm53 an53 cd53 ct53, f54, PySem.W.fnOf "_law_right" "_law_right" (defArgs s__law_right) (defBody s__law_right) (defScope s__law_right) .none kV54 dc54 pm54 an54 cd54 ct54, f55, PySem.W.fnOf "_law_book" "_law_book" (defArgs s__law_book) (defBody s__law_book) (defScope s__law_book) .none kV55 dc55 pm55 an55 cd55 ct55, fa, PySem.W.fnOf "law" "law" (defArgs s_law) (defBody s_law) (defScope s_law) .none kV56 dc56 pm56 an56 (.ref cL_law) ct56, C_BadCut, C_BadPlace, C_BadSize, C_BadWorth, C_FRESH, C_Memory, C_SLOTS, C_Stopped, C_TORNS, cL_law, tL_law⟩ := fun base TB_law => {
    FC_law := ⟨_, _, _, _, _, _, _, _, rfl, l56, c56⟩
    TB_law := TB_law
    F__law_taken := fun_mk (st := s__law_taken) l0 c0 k0
    b__law_taken := (fun_mk (st := s__law_taken) l0 c0 k0).binds (ps := ["_law_row", "_law_many"]) fun _ _ _ _ _ _ us hl => match us, hl with | [_, _], _ => rfl
    g__law_taken := PySem.W.mg_of X G n0
    F__law_keys := fun_mk (st := s__law_keys) l1 c1 k1
    b__law_keys := (fun_mk (st := s__law_keys) l1 c1 k1).binds (ps := ["_law_row"]) fun _ _ _ _ _ _ us hl => match us, hl with | [_], _ => rfl
    g__law_keys := PySem.W.mg_of X G n1
    F__law_worth := fun_mk (st := s__law_worth) l2 c2 k2
    b__law_worth := (fun_mk (st := s__law_worth) l2 c2 k2).binds (ps := ["_law_row"]) fun _ _ _ _ _ _ us hl => match us, hl with | [_], _ => rfl
    g__law_worth := PySem.W.mg_of X G n2
    F__law_picture := fun_mk (st := s__law_picture) l3 c3 k3
    b__law_picture := (fun_mk (st := s__law_picture) l3 c3 k3).binds (ps := ["_law_row", "_law_keys_here", "_law_most"]) fun _ _ _ _ _ _ us hl => match us, hl with | [_, _, _], _ => rfl
    g__law_picture := PySem.W.mg_of X G n3
    F__law_sums := fun_mk (st := s__law_sums) l4 c4 k4
    b__law_sums := (fun_mk (st := s__law_sums) l4 c4 k4).binds (ps := ["_law_some"]) fun _ _ _ _ _ _ us hl => match us, hl with | [_], _ => rfl
    g__law_sums := PySem.W.mg_of X G n4
    F__law_newest := fun_mk (st := s__law_newest) l5 c5 k5
    b__law_newest := (fun_mk (st := s__law_newest) l5 c5 k5).binds (ps := ["_law_cells", "_law_place"]) fun _ _ _ _ _ _ us hl => match us, hl with | [_, _], _ => rfl
    g__law_newest := PySem.W.mg_of X G n5
    F__law_noted := fun_mk (st := s__law_noted) l6 c6 k6
    b__law_noted := (fun_mk (st := s__law_noted) l6 c6 k6).binds (ps := ["_law_cells", "_law_place", "_law_three"]) fun _ _ _ _ _ _ us hl => match us, hl with | [_, _, _], _ => rfl
    g__law_noted := PySem.W.mg_of X G n6
    F__law_seal := fun_mk (st := s__law_seal) l7 c7 k7
    b__law_seal := (fun_mk (st := s__law_seal) l7 c7 k7).binds (ps := ["_law_key", "_law_some"]) fun _ _ _ _ _ _ us hl => match us, hl with | [_, _], _ => rfl
    g__law_seal := PySem.W.mg_of X G n7
    F__law_head := fun_mk (st := s__law_head) l8 c8 k8
    b__law_head := (fun_mk (st := s__law_head) l8 c8 k8).binds (ps := ["_law_keys_here", "_law_picture_here"]) fun _ _ _ _ _ _ us hl => match us, hl with | [_, _], _ => rfl
    g__law_head := PySem.W.mg_of X G n8
    F__law_machine := fun_mk (st := s__law_machine) l9 c9 k9
    b__law_machine := (fun_mk (st := s__law_machine) l9 c9 k9).binds (ps := ["_law_keys_here", "_law_tries", "_law_picture_here"]) fun _ _ _ _ _ _ us hl => match us, hl with | [_, _, _], _ => rfl
    g__law_machine := PySem.W.mg_of X G n9
    F__law_newer := fun_mk (st := s__law_newer) l10 c10 k10
    b__law_newer := (fun_mk (st := s__law_newer) l10 c10 k10).binds (ps := ["_law_row", "_law_keys_here", "_law_picture_here", "_law_more"]) fun _ _ _ _ _ _ us hl => match us, hl with | [_, _, _, _], _ => rfl
    g__law_newer := PySem.W.mg_of X G n10
    F__law_pieces := fun_mk (st := s__law_pieces) l11 c11 k11
    b__law_pieces := (fun_mk (st := s__law_pieces) l11 c11 k11).binds (ps := ["_law_some"]) fun _ _ _ _ _ _ us hl => match us, hl with | [_], _ => rfl
    g__law_pieces := PySem.W.mg_of X G n11
    F__law_title := fun_mk (st := s__law_title) l12 c12 k12
    b__law_title := (fun_mk (st := s__law_title) l12 c12 k12).binds (ps := ["_law_piece"]) fun _ _ _ _ _ _ us hl => match us, hl with | [_], _ => rfl
    g__law_title := PySem.W.mg_of X G n12
    F__law_manifest := fun_mk (st := s__law_manifest) l13 c13 k13
    b__law_manifest := (fun_mk (st := s__law_manifest) l13 c13 k13).binds (ps := ["_law_keys_here", "_law_picture_here"]) fun _ _ _ _ _ _ us hl => match us, hl with | [_, _], _ => rfl
    g__law_manifest := PySem.W.mg_of X G n13
    F__law_store := fun_mk (st := s__law_store) l14 c14 k14
    b__law_store := (fun_mk (st := s__law_store) l14 c14 k14).binds (ps := ["_law_row", "_law_picture_here", "_law_often"]) fun _ _ _ _ _ _ us hl => match us, hl with | [_, _, _], _ => rfl
    g__law_store := PySem.W.mg_of X G n14
    F__law_stores := fun_mk (st := s__law_stores) l15 c15 k15
    b__law_stores := (fun_mk (st := s__law_stores) l15 c15 k15).binds (ps := ["_law_row", "_law_picture_here", "_law_sure"]) fun _ _ _ _ _ _ us hl => match us, hl with | [_, _, _], _ => rfl
    g__law_stores := PySem.W.mg_of X G n15
    F_Memory___init__ := fun_mk (st := s_Memory___init__) l16 c16 k16
    b_Memory___init__ := (fun_mk (st := s_Memory___init__) l16 c16 k16).binds (ps := ["self", "size"]) fun _ _ _ _ _ _ us hl => match us, hl with | [_, _], _ => rfl
    m_Memory___init__ := ⟨n16, i16, k16⟩
    F_Memory_need_place := fun_mk (st := s_Memory_need_place) l17 c17 k17
    b_Memory_need_place := (fun_mk (st := s_Memory_need_place) l17 c17 k17).binds (ps := ["self", "place"]) fun _ _ _ _ _ _ us hl => match us, hl with | [_, _], _ => rfl
    m_Memory_need_place := ⟨n17, i17, k17⟩
    F_Memory_need_cell := fun_mk (st := s_Memory_need_cell) l18 c18 k18
    b_Memory_need_cell := (fun_mk (st := s_Memory_need_cell) l18 c18 k18).binds (ps := ["self", "place", "worth"]) fun _ _ _ _ _ _ us hl => match us, hl with | [_, _, _], _ => rfl
    m_Memory_need_cell := ⟨n18, i18, k18⟩
    F_Memory_spoil := fun_mk (st := s_Memory_spoil) l19 c19 k19
    b_Memory_spoil := (fun_mk (st := s_Memory_spoil) l19 c19 k19).binds (ps := ["self", "place", "worth"]) fun _ _ _ _ _ _ us hl => match us, hl with | [_, _, _], _ => rfl
    m_Memory_spoil := ⟨n19, i19, k19⟩
    F__law_memory := fun_mk (st := s__law_memory) l20 c20 k20
    b__law_memory := (fun_mk (st := s__law_memory) l20 c20 k20).binds (ps := ["_law_cells"]) fun _ _ _ _ _ _ us hl => match us, hl with | [_], _ => rfl
    g__law_memory := PySem.W.mg_of X G n20
    F_Memory_cut := fun_mk (st := s_Memory_cut) l21 c21 k21
    b_Memory_cut := (fun_mk (st := s_Memory_cut) l21 c21 k21).binds (ps := ["self", "many", "torn"]) fun _ _ _ _ _ _ us hl => match us, hl with | [_, _, _], _ => rfl
    m_Memory_cut := ⟨n21, i21, k21⟩
    F__law_stop := fun_mk (st := s__law_stop) l22 c22 k22
    b__law_stop := (fun_mk (st := s__law_stop) l22 c22 k22).binds (ps := ["_law_work"]) fun _ _ _ _ _ _ us hl => match us, hl with | [_], _ => rfl
    g__law_stop := PySem.W.mg_of X G n22
    F_Memory_need_power := fun_mk (st := s_Memory_need_power) l23 c23 k23
    b_Memory_need_power := (fun_mk (st := s_Memory_need_power) l23 c23 k23).binds (ps := ["self"]) fun _ _ _ _ _ _ us hl => match us, hl with | [_], _ => rfl
    m_Memory_need_power := ⟨n23, i23, k23⟩
    F_Memory_read := fun_mk (st := s_Memory_read) l24 c24 k24
    b_Memory_read := (fun_mk (st := s_Memory_read) l24 c24 k24).binds (ps := ["self", "place"]) fun _ _ _ _ _ _ us hl => match us, hl with | [_, _], _ => rfl
    m_Memory_read := ⟨n24, i24, k24⟩
    F_Memory_row := fun_mk (st := s_Memory_row) l25 c25 k25
    b_Memory_row := (fun_mk (st := s_Memory_row) l25 c25 k25).binds (ps := ["self", "place", "many"]) fun _ _ _ _ _ _ us hl => match us, hl with | [_, _, _], _ => rfl
    m_Memory_row := ⟨n25, i25, k25⟩
    F_sums := fun_mk (st := s_sums) l26 c26 k26
    b_sums := (fun_mk (st := s_sums) l26 c26 k26).binds (ps := ["row"]) fun _ _ _ _ _ _ us hl => match us, hl with | [_], _ => rfl
    g_sums := PySem.W.mg_of X G n26
    F_page := fun_mk (st := s_page) l27 c27 k27
    b_page := (fun_mk (st := s_page) l27 c27 k27).binds (ps := ["memory", "place"]) fun _ _ _ _ _ _ us hl => match us, hl with | [_, _], _ => rfl
    g_page := PySem.W.mg_of X G n27
    F_newest := fun_mk (st := s_newest) l28 c28 k28
    b_newest := (fun_mk (st := s_newest) l28 c28 k28).binds (ps := ["memory", "place"]) fun _ _ _ _ _ _ us hl => match us, hl with | [_, _], _ => rfl
    g_newest := PySem.W.mg_of X G n28
    F_record := fun_mk (st := s_record) l29 c29 k29
    b_record := (fun_mk (st := s_record) l29 c29 k29).binds (ps := ["memory", "place"]) fun _ _ _ _ _ _ us hl => match us, hl with | [_, _], _ => rfl
    g_record := PySem.W.mg_of X G n29
    F_booked := fun_mk (st := s_booked) l30 c30 k30
    b_booked := (fun_mk (st := s_booked) l30 c30 k30).binds (ps := ["memory"]) fun _ _ _ _ _ _ us hl => match us, hl with | [_], _ => rfl
    g_booked := PySem.W.mg_of X G n30
    F_head_of := fun_mk (st := s_head_of) l31 c31 k31
    b_head_of := (fun_mk (st := s_head_of) l31 c31 k31).binds (ps := ["memory", "slot"]) fun _ _ _ _ _ _ us hl => match us, hl with | [_, _], _ => rfl
    g_head_of := PySem.W.mg_of X G n31
    F_parts_of := fun_mk (st := s_parts_of) l32 c32 k32
    b_parts_of := (fun_mk (st := s_parts_of) l32 c32 k32).binds (ps := ["memory", "slot", "many"]) fun _ _ _ _ _ _ us hl => match us, hl with | [_, _, _], _ => rfl
    g_parts_of := PySem.W.mg_of X G n32
    F_count := fun_mk (st := s_count) l33 c33 k33
    b_count := (fun_mk (st := s_count) l33 c33 k33).binds (ps := ["memory", "place"]) fun _ _ _ _ _ _ us hl => match us, hl with | [_, _], _ => rfl
    g_count := PySem.W.mg_of X G n33
    F_floor_of := fun_mk (st := s_floor_of) l34 c34 k34
    b_floor_of := (fun_mk (st := s_floor_of) l34 c34 k34).binds (ps := ["memory", "place"]) fun _ _ _ _ _ _ us hl => match us, hl with | [_, _], _ => rfl
    g_floor_of := PySem.W.mg_of X G n34
    F_seal := fun_mk (st := s_seal) l35 c35 k35
    b_seal := (fun_mk (st := s_seal) l35 c35 k35).binds (ps := ["key", "head"]) fun _ _ _ _ _ _ us hl => match us, hl with | [_, _], _ => rfl
    g_seal := PySem.W.mg_of X G n35
    F_why_not := fun_mk (st := s_why_not) l36 c36 k36
    b_why_not := (fun_mk (st := s_why_not) l36 c36 k36).binds (ps := ["memory", "keys", "slot"]) fun _ _ _ _ _ _ us hl => match us, hl with | [_, _, _], _ => rfl
    g_why_not := PySem.W.mg_of X G n36
    F_judged := fun_mk (st := s_judged) l37 c37 k37
    b_judged := (fun_mk (st := s_judged) l37 c37 k37).binds (ps := ["memory", "keys", "slot"]) fun _ _ _ _ _ _ us hl => match us, hl with | [_, _, _], _ => rfl
    g_judged := PySem.W.mg_of X G n37
    F_why_refused := fun_mk (st := s_why_refused) l38 c38 k38
    b_why_refused := (fun_mk (st := s_why_refused) l38 c38 k38).binds (ps := ["memory", "keys", "manifest"]) fun _ _ _ _ _ _ us hl => match us, hl with | [_, _, _], _ => rfl
    g_why_refused := PySem.W.mg_of X G n38
    F_page_row := fun_mk (st := s_page_row) l39 c39 k39
    b_page_row := (fun_mk (st := s_page_row) l39 c39 k39).binds (ps := ["number", "row"]) fun _ _ _ _ _ _ us hl => match us, hl with | [_, _], _ => rfl
    g_page_row := PySem.W.mg_of X G n39
    F_Memory_go_down := fun_mk (st := s_Memory_go_down) l40 c40 k40
    b_Memory_go_down := (fun_mk (st := s_Memory_go_down) l40 c40 k40).binds (ps := ["self", "place", "worth"]) fun _ _ _ _ _ _ us hl => match us, hl with | [_, _, _], _ => rfl
    m_Memory_go_down := ⟨n40, i40, k40⟩
    F_Memory_write := fun_mk (st := s_Memory_write) l41 c41 k41
    b_Memory_write := (fun_mk (st := s_Memory_write) l41 c41 k41).binds (ps := ["self", "place", "worth"]) fun _ _ _ _ _ _ us hl => match us, hl with | [_, _, _], _ => rfl
    m_Memory_write := ⟨n41, i41, k41⟩
    F_note := fun_mk (st := s_note) l42 c42 k42
    b_note := (fun_mk (st := s_note) l42 c42 k42).binds (ps := ["memory", "place", "row"]) fun _ _ _ _ _ _ us hl => match us, hl with | [_, _, _], _ => rfl
    g_note := PySem.W.mg_of X G n42
    F_open_slot := fun_mk (st := s_open_slot) l43 c43 k43
    b_open_slot := (fun_mk (st := s_open_slot) l43 c43 k43).binds (ps := ["memory", "slot"]) fun _ _ _ _ _ _ us hl => match us, hl with | [_, _], _ => rfl
    g_open_slot := PySem.W.mg_of X G n43
    F_pieces := fun_mk (st := s_pieces) l44 c44 k44
    b_pieces := (fun_mk (st := s_pieces) l44 c44 k44).binds (ps := ["row"]) fun _ _ _ _ _ _ us hl => match us, hl with | [_], _ => rfl
    g_pieces := PySem.W.mg_of X G n44
    F_name := fun_mk (st := s_name) l45 c45 k45
    b_name := (fun_mk (st := s_name) l45 c45 k45).binds (ps := ["piece"]) fun _ _ _ _ _ _ us hl => match us, hl with | [_], _ => rfl
    g_name := PySem.W.mg_of X G n45
    F_trusted_pieces := fun_mk (st := s_trusted_pieces) l46 c46 k46
    b_trusted_pieces := (fun_mk (st := s_trusted_pieces) l46 c46 k46).binds (ps := ["memory"]) fun _ _ _ _ _ _ us hl => match us, hl with | [_], _ => rfl
    g_trusted_pieces := PySem.W.mg_of X G n46
    F_asked := fun_mk (st := s_asked) l47 c47 k47
    b_asked := (fun_mk (st := s_asked) l47 c47 k47).binds (ps := ["stores", "title"]) fun _ _ _ _ _ _ us hl => match us, hl with | [_, _], _ => rfl
    g_asked := PySem.W.mg_of X G n47
    F_Memory_put := fun_mk (st := s_Memory_put) l48 c48 k48
    b_Memory_put := (fun_mk (st := s_Memory_put) l48 c48 k48).binds (ps := ["self", "place", "row"]) fun _ _ _ _ _ _ us hl => match us, hl with | [_, _, _], _ => rfl
    m_Memory_put := ⟨n48, i48, k48⟩
    F_lay_pieces := fun_mk (st := s_lay_pieces) l49 c49 k49
    b_lay_pieces := (fun_mk (st := s_lay_pieces) l49 c49 k49).binds (ps := ["memory", "slot", "names", "stores"]) fun _ _ _ _ _ _ us hl => match us, hl with | [_, _, _, _], _ => rfl
    g_lay_pieces := PySem.W.mg_of X G n49
    F_close_slot := fun_mk (st := s_close_slot) l50 c50 k50
    b_close_slot := (fun_mk (st := s_close_slot) l50 c50 k50).binds (ps := ["memory", "slot", "head"]) fun _ _ _ _ _ _ us hl => match us, hl with | [_, _, _], _ => rfl
    g_close_slot := PySem.W.mg_of X G n50
    F_update := fun_mk (st := s_update) l51 c51 k51
    b_update := (fun_mk (st := s_update) l51 c51 k51).binds (ps := ["memory", "keys", "tries", "manifest", "stores"]) fun _ _ _ _ _ _ us hl => match us, hl with | [_, _, _, _, _], _ => rfl
    g_update := PySem.W.mg_of X G n51
    F_Memory_up := fun_mk (st := s_Memory_up) l52 c52 k52
    b_Memory_up := (fun_mk (st := s_Memory_up) l52 c52 k52).binds (ps := ["self"]) fun _ _ _ _ _ _ us hl => match us, hl with | [_], _ => rfl
    m_Memory_up := ⟨n52, i52, k52⟩
    F_Memory_cells := fun_mk (st := s_Memory_cells) l53 c53 k53
    b_Memory_cells := (fun_mk (st := s_Memory_cells) l53 c53 k53).binds (ps := ["self"]) fun _ _ _ _ _ _ us hl => match us, hl with | [_], _ => rfl
    m_Memory_cells := ⟨n53, i53, k53⟩
    F__law_right := fun_mk (st := s__law_right) l54 c54 k54
    b__law_right := (fun_mk (st := s__law_right) l54 c54 k54).binds (ps := ["_law_cells", "_law_slot", "_law_titles"]) fun _ _ _ _ _ _ us hl => match us, hl with | [_, _, _], _ => rfl
    g__law_right := PySem.W.mg_of X G n54
    F__law_book := fun_mk (st := s__law_book) l55 c55 k55
    b__law_book := (fun_mk (st := s__law_book) l55 c55 k55).binds (ps := ["_law_cells"]) fun _ _ _ _ _ _ us hl => match us, hl with | [_], _ => rfl
    g__law_book := PySem.W.mg_of X G n55
    F_law := fun_mk (st := s_law) l56 c56 k56
    b_law := (fun_mk (st := s_law) l56 c56 k56).binds (ps := ["_law_script"]) fun _ _ _ _ _ _ us hl => match us, hl with | [_], _ => rfl
    g_law := PySem.W.mg_of X G n56
    g_Memory := PySem.W.mg_of X G g_Memory
    cl_Memory := ⟨pg_Memory, hd_Memory, po_Memory, sa_Memory⟩
    mk_Memory := ⟨mk_Memory, n16, i16, kc_Memory⟩
    g_BadCut := PySem.W.mg_of X G g_BadCut
    g_BadPlace := PySem.W.mg_of X G g_BadPlace
    g_BadSize := PySem.W.mg_of X G g_BadSize
    g_BadWorth := PySem.W.mg_of X G g_BadWorth
    g_FRESH := PySem.W.mg_of X G g_FRESH
    g_SLOTS := PySem.W.mg_of X G g_SLOTS
    g_Stopped := PySem.W.mg_of X G g_Stopped
    g_TORNS := PySem.W.mg_of X G g_TORNS
    x_BadCut := x_BadCut
    k_BadCut := k_BadCut
    b_BadCut := b_BadCut
    t_BadCut := t_BadCut
    x_BadPlace := x_BadPlace
    k_BadPlace := k_BadPlace
    b_BadPlace := b_BadPlace
    t_BadPlace := t_BadPlace
    x_BadSize := x_BadSize
    k_BadSize := k_BadSize
    b_BadSize := b_BadSize
    t_BadSize := t_BadSize
    x_BadWorth := x_BadWorth
    k_BadWorth := k_BadWorth
    b_BadWorth := b_BadWorth
    t_BadWorth := t_BadWorth
    x_Stopped := x_Stopped
    k_Stopped := k_Stopped
    b_Stopped := b_Stopped
    t_Stopped := t_Stopped
    l_FRESH := ⟨_, _, _, l_FRESH, rfl, rfl, by rw [sizeLine_eq]; show 3 ≤ 16777216; decide, .cons ⟨_, rfl⟩ (.cons ⟨_, rfl⟩ (.cons ⟨_, rfl⟩ (.nil)))⟩
    l_SLOTS := ⟨_, _, _, l_SLOTS, rfl, rfl, by rw [sizeLine_eq]; show 2 ≤ 16777216; decide, .cons ⟨_, rfl⟩ (.cons ⟨_, rfl⟩ (.nil))⟩
    l_TORNS := ⟨_, _, _, l_TORNS, rfl, rfl, by rw [sizeLine_eq]; show 3 ≤ 16777216; decide, .cons ⟨_, rfl⟩ (.cons ⟨_, rfl⟩ (.cons ⟨_, rfl⟩ (.nil)))⟩
    e_Stopped_Stopped := exm_mk b_Stopped i_Stopped t_Stopped s_Stopped_Stopped
    n_Memory_is_up := na_Memory_is_up
    n_Memory_left := na_Memory_left
    n_Memory_many := na_Memory_many
    n_Memory_torn := na_Memory_torn
    n_Memory_worths := na_Memory_worths
    z_dict := PySem.W.mg_none_of X G z_dict
    z_int := PySem.W.mg_none_of X G z_int
    z_len := PySem.W.mg_none_of X G z_len
    z_list := PySem.W.mg_none_of X G z_list
    z_max := PySem.W.mg_none_of X G z_max
    z_min := PySem.W.mg_none_of X G z_min
    z_range := PySem.W.mg_none_of X G z_range
    z_reversed := PySem.W.mg_none_of X G z_reversed
    z_sum := PySem.W.mg_none_of X G z_sum
    z_tuple := PySem.W.mg_none_of X G z_tuple
    c_BOOK := ⟨_, PySem.W.mg_of X G c_BOOK⟩
    c_CELLS := ⟨_, PySem.W.mg_of X G c_CELLS⟩
    c_FLOOR := ⟨_, PySem.W.mg_of X G c_FLOOR⟩
    c_HEAD := ⟨_, PySem.W.mg_of X G c_HEAD⟩
    c_KEY_FLOOR := ⟨_, PySem.W.mg_of X G c_KEY_FLOOR⟩
    c_LAID := ⟨_, PySem.W.mg_of X G c_LAID⟩
    c_MOST_CELLS := ⟨_, PySem.W.mg_of X G c_MOST_CELLS⟩
    c_MOST_MANY := ⟨_, PySem.W.mg_of X G c_MOST_MANY⟩
    c_MOST_PARTS := ⟨_, PySem.W.mg_of X G c_MOST_PARTS⟩
    c_MOST_WORTH := ⟨_, PySem.W.mg_of X G c_MOST_WORTH⟩
    c_PAGE := ⟨_, PySem.W.mg_of X G c_PAGE⟩
    c_PIECE := ⟨_, PySem.W.mg_of X G c_PIECE⟩
    c_PRIME := ⟨_, PySem.W.mg_of X G c_PRIME⟩
    c_RECORD := ⟨_, PySem.W.mg_of X G c_RECORD⟩
    c_STEADY := ⟨_, PySem.W.mg_of X G c_STEADY⟩
    c_TRIAL := ⟨_, PySem.W.mg_of X G c_TRIAL⟩
  }
  obtain ⟨e1, e2, e3, e4, e5, e6⟩ := Z.tabOf_inv tP_law
  refine ⟨PySem.W.fnOf "law" "law" (defArgs s_law) (defBody s_law) (defScope s_law) .none kV56 dc56 pm56 an56 (.ref cL_law) ct56, [(cL_law, tL_law)], sp_law tL_law K, fun p hp => ?_, fun p hp => ?_, fun p hp => ?_, fun s v => .of_eq rfl, fun H a ns hl _ hH hS => ⟨a, ns, rfl, hS, hl, hH _ (List.mem_singleton.mpr rfl), fun _ => rfl⟩, fun base _ _ hT => ok_law (T base (hT _ (List.mem_singleton.mpr rfl)))⟩ <;> rw [List.mem_singleton.mp hp]
  · exact own cL_law tL_law _ _ e1 e2 e3 e4 l56 rfl rfl e5 e6
  · exact nP_law
  · exact PySem.W.codeHd_of_K X hP_law
end ZL
open PySem PySem.W PyProof.Rows
set_option maxRecDepth 100000 in
set_option maxHeartbeats 0 in
theorem PySem.Challenge.cw_twoimages_k26_whole_asked_again_it_goes_holds : PySem.Challenge.rw_twoimages_k26_whole_asked_again_it_goes.Holds := by
  w_on; o_law; k_head; (case hw => w_witness2)
  k_fill
  refine LamX.walk_ofOwn (l := PySem.Challenge.rw_twoimages_k26_whole_asked_again_it_goes) (n := 63) (k := 13) (x := "_law_script") (CX := fun _ => L2.CX0) rfl (by decide) rfl ⟨rfl, by decide, by decide⟩ (by first | rfl | decide +kernel) (fun w h Y => by first | exact PySem.W.kIn_of Y | exact PySem.W.km_in_of Y) ?F (fun _ _ _ _ _ h => h)
  case F =>
    intro w mg fa h Y0 KX G hmg own
    refine' ZL.all_mk KX G hmg own ?n0 ?l0 ?c0 ?k0 ?n1 ?l1 ?c1 ?k1 ?n2 ?l2 ?c2 ?k2 ?n3 ?l3 ?c3 ?k3 ?n4 ?l4 ?c4 ?k4 ?n5 ?l5 ?c5 ?k5 ?n6 ?l6 ?c6 ?k6 ?n7 ?l7 ?c7 ?k7 ?n8 ?l8 ?c8 ?k8 ?n9 ?l9 ?c9 ?k9 ?n10 ?l10 ?c10 ?k10 ?n11 ?l11 ?c11 ?k11 ?n12 ?l12 ?c12 ?k12 ?n13 ?l13 ?c13 ?k13 ?n14 ?l14 ?c14 ?k14 ?n15 ?l15 ?c15 ?k15 ?n16 ?i16 ?l16 ?c16 ?k16 ?n17 ?i17 ?l17 ?c17 ?k17 ?n18 ?i18 ?l18 ?c18 ?k18 ?n19 ?i19 ?l19 ?c19 ?k19 ?n20 ?l20 ?c20 ?k20 ?n21 ?i21 ?l21 ?c21 ?k21 ?n22 ?l22 ?c22 ?k22 ?n23 ?i23 ?l23 ?c23 ?k23 ?n24 ?i24 ?l24 ?c24 ?k24 ?n25 ?i25 ?l25 ?c25 ?k25 ?n26 ?l26 ?c26 ?k26 ?n27 ?l27 ?c27 ?k27 ?n28 ?l28 ?c28 ?k28 ?n29 ?l29 ?c29 ?k29 ?n30 ?l30 ?c30 ?k30 ?n31 ?l31 ?c31 ?k31 ?n32 ?l32 ?c32 ?k32 ?n33 ?l33 ?c33 ?k33 ?n34 ?l34 ?c34 ?k34 ?n35 ?l35 ?c35 ?k35 ?n36 ?l36 ?c36 ?k36 ?n37 ?l37 ?c37 ?k37 ?n38 ?l38 ?c38 ?k38 ?n39 ?l39 ?c39 ?k39 ?n40 ?i40 ?l40 ?c40 ?k40 ?n41 ?i41 ?l41 ?c41 ?k41 ?n42 ?l42 ?c42 ?k42 ?n43 ?l43 ?c43 ?k43 ?n44 ?l44 ?c44 ?k44 ?n45 ?l45 ?c45 ?k45 ?n46 ?l46 ?c46 ?k46 ?n47 ?l47 ?c47 ?k47 ?n48 ?i48 ?l48 ?c48 ?k48 ?n49 ?l49 ?c49 ?k49 ?n50 ?l50 ?c50 ?k50 ?n51 ?l51 ?c51 ?k51 ?n52 ?i52 ?l52 ?c52 ?k52 ?n53 ?i53 ?l53 ?c53 ?k53 ?n54 ?l54 ?c54 ?k54 ?n55 ?l55 ?c55 ?k55 ?n56 ?l56 ?c56 ?k56 ?g_Memory ?pg_Memory ?hd_Memory ?po_Memory ?sa_Memory ?mk_Memory ?kc_Memory ?g_BadCut ?g_BadPlace ?g_BadSize ?g_BadWorth ?g_FRESH ?g_SLOTS ?g_Stopped ?g_TORNS ?x_BadCut ?k_BadCut ?b_BadCut ?t_BadCut ?x_BadPlace ?k_BadPlace ?b_BadPlace ?t_BadPlace ?x_BadSize ?k_BadSize ?b_BadSize ?t_BadSize ?x_BadWorth ?k_BadWorth ?b_BadWorth ?t_BadWorth ?x_Stopped ?k_Stopped ?b_Stopped ?t_Stopped ?l_FRESH ?l_SLOTS ?l_TORNS ?i_Stopped ?s_Stopped_Stopped ?na_Memory_is_up ?na_Memory_left ?na_Memory_many ?na_Memory_torn ?na_Memory_worths ?z_dict ?z_int ?z_len ?z_list ?z_max ?z_min ?z_range ?z_reversed ?z_sum ?z_tuple ?c_BOOK ?c_CELLS ?c_FLOOR ?c_HEAD ?c_KEY_FLOOR ?c_LAID ?c_MOST_CELLS ?c_MOST_MANY ?c_MOST_PARTS ?c_MOST_WORTH ?c_PAGE ?c_PIECE ?c_PRIME ?c_RECORD ?c_STEADY ?c_TRIAL ?tP_law ?hP_law ?nP_law
    (case g_Memory => k_is); (case g_BadCut => k_is); (case g_BadPlace => k_is); (case g_BadSize => k_is); (case g_BadWorth => k_is); (case g_FRESH => k_is); (case g_SLOTS => k_is); (case g_Stopped => k_is); (case g_TORNS => k_is); (case n0 => k_is); (case l0 => k_is); (case c0 => k_is); (case k0 => k_is); (case n1 => k_is); (case l1 => k_is); (case c1 => k_is); (case k1 => k_is); (case n2 => k_is); (case l2 => k_is); (case c2 => k_is); (case k2 => k_is); (case n3 => k_is); (case l3 => k_is); (case c3 => k_is); (case k3 => k_is); (case n4 => k_is); (case l4 => k_is); (case c4 => k_is); (case k4 => k_is); (case n5 => k_is); (case l5 => k_is); (case c5 => k_is); (case k5 => k_is); (case n6 => k_is); (case l6 => k_is); (case c6 => k_is); (case k6 => k_is); (case n7 => k_is); (case l7 => k_is); (case c7 => k_is); (case k7 => k_is); (case n8 => k_is); (case l8 => k_is); (case c8 => k_is); (case k8 => k_is); (case n9 => k_is); (case l9 => k_is); (case c9 => k_is); (case k9 => k_is); (case n10 => k_is); (case l10 => k_is); (case c10 => k_is); (case k10 => k_is); (case n11 => k_is); (case l11 => k_is); (case c11 => k_is); (case k11 => k_is); (case n12 => k_is); (case l12 => k_is); (case c12 => k_is); (case k12 => k_is); (case n13 => k_is); (case l13 => k_is); (case c13 => k_is); (case k13 => k_is); (case n14 => k_is); (case l14 => k_is); (case c14 => k_is); (case k14 => k_is); (case n15 => k_is); (case l15 => k_is); (case c15 => k_is); (case k15 => k_is); (case n16 => k_is); (case i16 => k_is); (case l16 => k_is); (case c16 => k_is); (case k16 => k_is); (case n17 => k_is); (case i17 => k_is); (case l17 => k_is); (case c17 => k_is); (case k17 => k_is); (case n18 => k_is); (case i18 => k_is); (case l18 => k_is); (case c18 => k_is); (case k18 => k_is); (case n19 => k_is); (case i19 => k_is); (case l19 => k_is); (case c19 => k_is); (case k19 => k_is); (case n20 => k_is); (case l20 => k_is); (case c20 => k_is); (case k20 => k_is); (case n21 => k_is); (case i21 => k_is); (case l21 => k_is); (case c21 => k_is); (case k21 => k_is); (case n22 => k_is); (case l22 => k_is); (case c22 => k_is); (case k22 => k_is); (case n23 => k_is); (case i23 => k_is); (case l23 => k_is); (case c23 => k_is); (case k23 => k_is); (case n24 => k_is); (case i24 => k_is); (case l24 => k_is); (case c24 => k_is); (case k24 => k_is); (case n25 => k_is); (case i25 => k_is); (case l25 => k_is); (case c25 => k_is); (case k25 => k_is); (case n26 => k_is); (case l26 => k_is); (case c26 => k_is); (case k26 => k_is); (case n27 => k_is); (case l27 => k_is); (case c27 => k_is); (case k27 => k_is); (case n28 => k_is); (case l28 => k_is); (case c28 => k_is); (case k28 => k_is); (case n29 => k_is); (case l29 => k_is); (case c29 => k_is); (case k29 => k_is); (case n30 => k_is); (case l30 => k_is); (case c30 => k_is); (case k30 => k_is); (case n31 => k_is); (case l31 => k_is); (case c31 => k_is); (case k31 => k_is); (case n32 => k_is); (case l32 => k_is); (case c32 => k_is); (case k32 => k_is); (case n33 => k_is); (case l33 => k_is); (case c33 => k_is); (case k33 => k_is); (case n34 => k_is); (case l34 => k_is); (case c34 => k_is); (case k34 => k_is); (case n35 => k_is); (case l35 => k_is); (case c35 => k_is); (case k35 => k_is); (case n36 => k_is); (case l36 => k_is); (case c36 => k_is); (case k36 => k_is); (case n37 => k_is); (case l37 => k_is); (case c37 => k_is); (case k37 => k_is); (case n38 => k_is); (case l38 => k_is); (case c38 => k_is); (case k38 => k_is); (case n39 => k_is); (case l39 => k_is); (case c39 => k_is); (case k39 => k_is); (case n40 => k_is); (case i40 => k_is); (case l40 => k_is); (case c40 => k_is); (case k40 => k_is); (case n41 => k_is); (case i41 => k_is); (case l41 => k_is); (case c41 => k_is); (case k41 => k_is); (case n42 => k_is); (case l42 => k_is); (case c42 => k_is); (case k42 => k_is); (case n43 => k_is); (case l43 => k_is); (case c43 => k_is); (case k43 => k_is); (case n44 => k_is); (case l44 => k_is); (case c44 => k_is); (case k44 => k_is); (case n45 => k_is); (case l45 => k_is); (case c45 => k_is); (case k45 => k_is); (case n46 => k_is); (case l46 => k_is); (case c46 => k_is); (case k46 => k_is); (case n47 => k_is); (case l47 => k_is); (case c47 => k_is); (case k47 => k_is); (case n48 => k_is); (case i48 => k_is); (case l48 => k_is); (case c48 => k_is); (case k48 => k_is); (case n49 => k_is); (case l49 => k_is); (case c49 => k_is); (case k49 => k_is); (case n50 => k_is); (case l50 => k_is); (case c50 => k_is); (case k50 => k_is); (case n51 => k_is); (case l51 => k_is); (case c51 => k_is); (case k51 => k_is); (case n52 => k_is); (case i52 => k_is); (case l52 => k_is); (case c52 => k_is); (case k52 => k_is); (case n53 => k_is); (case i53 => k_is); (case l53 => k_is); (case c53 => k_is); (case k53 => k_is); (case n54 => k_is); (case l54 => k_is); (case c54 => k_is); (case k54 => k_is); (case n55 => k_is); (case l55 => k_is); (case c55 => k_is); (case k55 => k_is); (case n56 => k_is); (case l56 => k_is); (case c56 => k_is); (case k56 => k_is); (case pg_Memory => k_is); (case hd_Memory => k_is); (case po_Memory => k_is); (case sa_Memory => k_is); (case mk_Memory => k_is); (case kc_Memory => k_is); (case x_BadCut => k_exc); (case k_BadCut => k_is); (case b_BadCut => k_is); (case t_BadCut => k_is); (case x_BadPlace => k_exc); (case k_BadPlace => k_is); (case b_BadPlace => k_is); (case t_BadPlace => k_is); (case x_BadSize => k_exc); (case k_BadSize => k_is); (case b_BadSize => k_is); (case t_BadSize => k_is); (case x_BadWorth => k_exc); (case k_BadWorth => k_is); (case b_BadWorth => k_is); (case t_BadWorth => k_is); (case x_Stopped => k_exc); (case k_Stopped => k_is); (case b_Stopped => k_is); (case t_Stopped => k_is); (case l_FRESH => k_is); (case l_SLOTS => k_is); (case l_TORNS => k_is); (case i_Stopped => k_is); (case s_Stopped_Stopped => first | rfl | k_is); (case na_Memory_is_up => k_is); (case na_Memory_left => k_is); (case na_Memory_many => k_is); (case na_Memory_torn => k_is); (case na_Memory_worths => k_is); (case z_dict => k_is); (case z_int => k_is); (case z_len => k_is); (case z_list => k_is); (case z_max => k_is); (case z_min => k_is); (case z_range => k_is); (case z_reversed => k_is); (case z_sum => k_is); (case z_tuple => k_is); (case c_BOOK => k_is); (case c_CELLS => k_is); (case c_FLOOR => k_is); (case c_HEAD => k_is); (case c_KEY_FLOOR => k_is); (case c_LAID => k_is); (case c_MOST_CELLS => k_is); (case c_MOST_MANY => k_is); (case c_MOST_PARTS => k_is); (case c_MOST_WORTH => k_is); (case c_PAGE => k_is); (case c_PIECE => k_is); (case c_PRIME => k_is); (case c_RECORD => k_is); (case c_STEADY => k_is); (case c_TRIAL => k_is); (case tP_law => first | rfl | with_unfolding_all rfl); (case hP_law => first | rfl | with_unfolding_all rfl); (case nP_law => first | rfl | with_unfolding_all rfl)
    all_goals exact Value.none
