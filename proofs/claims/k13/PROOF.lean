import PyProof.Rows.All
import HandS.Lambda
import HandS.EndTab
import HandS.EndOwn
import Wide.All
import OpenK.AllK
import Wide.FinOn
import HandS.ForMost
import HandS.Evl
import HandS.Wide
import HandS.IsInst
import HandS.Rev
import HandS.Walk
import HandS.TupAny
import HandS.Flow
import HandS.Exc
import HandS.TryOnly
import HandS.ExcOwn
import HandS.WordsExc
import HandS.Conv
import HandS.More
import KE.KDictPairs
import HandS.HotCalls
import HandS.SuiteRaise
import HandS.ExcInit
import HandS.ExcField
import KE.KExcIs
import KE.RegKIsAll
import PySem.Challenge.RW_twoimages_k13_stores_that_hand_out_piece
set_option Elab.async false
set_option linter.all false
set_option maxRecDepth 100000
set_option maxHeartbeats 4000000
namespace Z
open PySem L2

/-! ### frames: all that was tracked outside M stays -/
def Fr (M : List Addr) (H H' : Hp) : Prop := ∀ b o, b ∉ M → H b = some o → H' b = some o
section
variable {K : PySem.W.Frag} {M N : List Addr} {H H0 H1 H2 H' : Hp} {p a : Addr} {o o' : HO} {xs : List V}
theorem Fr.refl (M : List Addr) (H : Hp) : Fr M H H := fun _ _ _ e => e
theorem Fr.trans (f : Fr M H H1) (g : Fr M H1 H2) : Fr M H H2 := fun x o n e => g x o n (f x o n e)
theorem Fr.wk (f : Fr N H H') (h : ∀ a, a ∈ N → a ∈ M) : Fr M H H' := fun x o n e => f x o (fun z => n (h x z)) e
theorem Fr.wk0 (f : Fr [] H H') : Fr M H H' := fun x o _ e => f x o (fun z => nomatch z) e
theorem Fr.new (h : H p = none) : Fr M H (upd H p o) := fun b u _ e => by
  rw [upd_ne (ne_of_none e h)]; exact e
theorem Fr.set (h : p ∈ M) : Fr M H (upd H p o) := fun b u n e => by
  rw [upd_ne (fun z => n (by rw [z]; exact h))]; exact e
theorem Fr.drop (f : Fr (p :: M) H H') (h : H p = none) : Fr M H H' := fun b o n e => f b o (fun z => by
  cases List.mem_cons.mp z with
  | inl z => exact ne_of_none e h z
  | inr z => exact n z) e
theorem Fr.free (f : Fr M H H') (n : p ∉ M) (h : H' p = none) : H p = none := by
  cases q : H p with
  | none => rfl
  | some o => rw [f p o n q] at h; cases h
theorem Fr.ne (f : Fr [] H H') (h : H' p = none) : H p = none := f.free (fun z => nomatch z) h
theorem Fr.rd {u : HO} (f : Fr M H H') (n : a ∉ M) (h : Rd H a u) : Rd H' a u := by
  rcases h with h | ⟨o, h⟩
  · exact .inl (f _ _ n h)
  · exact .inr ⟨o, f _ _ n h⟩
theorem Fr.sl (f : Fr M H H') (n : a ∉ M) (h : SqL K H a xs) : SqL K H' a xs := by
  rcases h with h | h
  · exact .inl (f.rd n h)
  · exact .inr h
theorem Fr.st (f : Fr M H H') (n : a ∉ M) (h : SqT K H a xs) : SqT K H' a xs := by
  rcases h with h | h
  · exact .inl (f.rd n h)
  · exact .inr h
theorem Fr.same (f : Fr [] H H') : Same H H' := fun b o e => f b o (fun z => nomatch z) e
end

/-! ### data of any depth that stands clear of the mutable addresses M -/
def SLA (K : PySem.W.Frag) (M : List Addr) (H : Hp) (a : Addr) (xs : List V) : Prop := SqL K H a xs ∧ (a ∉ M ∨ ∀ H', SqL K H' a xs)
def STA (K : PySem.W.Frag) (M : List Addr) (H : Hp) (a : Addr) (xs : List V) : Prop := SqT K H a xs ∧ (a ∉ M ∨ ∀ H', SqT K H' a xs)
mutual
def Dt (K : PySem.W.Frag) (M : List Addr) (H : Hp) : PyData → V → Prop
  | .none, v => v = .non
  | .bool b, v => v = .bl b
  | .int i, v => v = .int i
  | .str s, v => v = .str s
  | .list ds, v => ∃ a xs, v = .ref a ∧ SLA K M H a xs ∧ DtL K M H ds xs
  | .tuple ds, v => ∃ a xs, v = .ref a ∧ STA K M H a xs ∧ DtL K M H ds xs
  | .dict _, _ => False
def DtL (K : PySem.W.Frag) (M : List Addr) (H : Hp) : List PyData → List V → Prop
  | [], vs => vs = []
  | d :: ds, vs => ∃ v r, vs = v :: r ∧ Dt K M H d v ∧ DtL K M H ds r
end
section
variable {K : PySem.W.Frag} {M N : List Addr} {H H' : Hp}
theorem SLA.mono {a : Addr} {xs : List V} (h : SLA K M H a xs) (f : Fr M H H') : SLA K M H' a xs := by
  rcases h with ⟨h, n | n⟩
  · exact ⟨f.sl n h, .inl n⟩
  · exact ⟨n H', .inr n⟩
theorem STA.mono {a : Addr} {xs : List V} (h : STA K M H a xs) (f : Fr M H H') : STA K M H' a xs := by
  rcases h with ⟨h, n | n⟩
  · exact ⟨f.st n h, .inl n⟩
  · exact ⟨n H', .inr n⟩
theorem SLA.wk {a : Addr} {xs : List V} (h : SLA K M H a xs) (f : ∀ a, a ∈ N → a ∈ M) : SLA K N H a xs := by
  rcases h with ⟨h, n | n⟩
  · exact ⟨h, .inl fun z => n (f _ z)⟩
  · exact ⟨h, .inr n⟩
theorem STA.wk {a : Addr} {xs : List V} (h : STA K M H a xs) (f : ∀ a, a ∈ N → a ∈ M) : STA K N H a xs := by
  rcases h with ⟨h, n | n⟩
  · exact ⟨h, .inl fun z => n (f _ z)⟩
  · exact ⟨h, .inr n⟩
theorem SLA.cons {a p : Addr} {xs : List V} (h : SLA K M H a xs) (n : H p = none) : SLA K (p :: M) H a xs := by
  rcases h with ⟨(h | ⟨o, h⟩) | h, k⟩
  · rcases k with k | k
    · exact ⟨.inl (.inl h), .inl fun z => by cases List.mem_cons.mp z with | inl z => exact ne_of_none h n z | inr z => exact k z⟩
    · exact ⟨k H, .inr k⟩
  · rcases k with k | k
    · exact ⟨.inl (.inr ⟨o, h⟩), .inl fun z => by cases List.mem_cons.mp z with | inl z => exact ne_of_none h n z | inr z => exact k z⟩
    · exact ⟨k H, .inr k⟩
  · exact ⟨.inr h, .inr fun _ => .inr h⟩
theorem STA.cons {a p : Addr} {xs : List V} (h : STA K M H a xs) (n : H p = none) : STA K (p :: M) H a xs := by
  rcases h with ⟨(h | ⟨o, h⟩) | h, k⟩
  · rcases k with k | k
    · exact ⟨.inl (.inl h), .inl fun z => by cases List.mem_cons.mp z with | inl z => exact ne_of_none h n z | inr z => exact k z⟩
    · exact ⟨k H, .inr k⟩
  · rcases k with k | k
    · exact ⟨.inl (.inr ⟨o, h⟩), .inl fun z => by cases List.mem_cons.mp z with | inl z => exact ne_of_none h n z | inr z => exact k z⟩
    · exact ⟨k H, .inr k⟩
  · exact ⟨.inr h, .inr fun _ => .inr h⟩
mutual
theorem Dt.mapM {N : List Addr} (hl : ∀ a xs, SLA K M H a xs → SLA K N H' a xs) (ht : ∀ a xs, STA K M H a xs → STA K N H' a xs) : ∀ {d : PyData} {v : V}, Dt K M H d v → Dt K N H' d v
  | .none, _, h => by simp only [Dt] at h ⊢; exact h
  | .bool _, _, h => by simp only [Dt] at h ⊢; exact h
  | .int _, _, h => by simp only [Dt] at h ⊢; exact h
  | .str _, _, h => by simp only [Dt] at h ⊢; exact h
  | .list ds, v, h => by
    simp only [Dt] at h ⊢
    obtain ⟨a, xs, e, s, r⟩ := h
    exact ⟨a, xs, e, hl _ _ s, DtL.mapM hl ht r⟩
  | .tuple ds, v, h => by
    simp only [Dt] at h ⊢
    obtain ⟨a, xs, e, s, r⟩ := h
    exact ⟨a, xs, e, ht _ _ s, DtL.mapM hl ht r⟩
  | .dict _, _, h => by simp only [Dt] at h
theorem DtL.mapM {N : List Addr} (hl : ∀ a xs, SLA K M H a xs → SLA K N H' a xs) (ht : ∀ a xs, STA K M H a xs → STA K N H' a xs) : ∀ {ds : List PyData} {vs : List V}, DtL K M H ds vs → DtL K N H' ds vs
  | [], _, h => by simp only [DtL] at h ⊢; exact h
  | d :: ds, vs, h => by
    simp only [DtL] at h ⊢
    obtain ⟨v, r, e, h1, h2⟩ := h
    exact ⟨v, r, e, Dt.mapM hl ht h1, DtL.mapM hl ht h2⟩
end
theorem Dt.mono {d : PyData} {v : V} (h : Dt K M H d v) (f : Fr M H H') : Dt K M H' d v := h.mapM (fun _ _ s => s.mono f) (fun _ _ s => s.mono f)
theorem Dt.wk {d : PyData} {v : V} (h : Dt K M H d v) (f : ∀ a, a ∈ N → a ∈ M) : Dt K N H d v := h.mapM (fun _ _ s => s.wk f) (fun _ _ s => s.wk f)
theorem Dt.cons {d : PyData} {v : V} {p : Addr} (h : Dt K M H d v) (n : H p = none) : Dt K (p :: M) H d v := h.mapM (fun _ _ s => s.cons n) (fun _ _ s => s.cons n)
theorem DtL.mono {ds : List PyData} {vs : List V} (h : DtL K M H ds vs) (f : Fr M H H') : DtL K M H' ds vs := h.mapM (fun _ _ s => s.mono f) (fun _ _ s => s.mono f)
theorem DtL.wk {ds : List PyData} {vs : List V} (h : DtL K M H ds vs) (f : ∀ a, a ∈ N → a ∈ M) : DtL K N H ds vs := h.mapM (fun _ _ s => s.wk f) (fun _ _ s => s.wk f)
mutual
theorem Dt.dp : ∀ {d : PyData} {v : V}, Dt K M H d v → Dp K H v d
  | .none, _, h => by simp only [Dt] at h; subst h; exact .non
  | .bool _, _, h => by simp only [Dt] at h; subst h; exact .bl _
  | .int _, _, h => by simp only [Dt] at h; subst h; exact .int _
  | .str _, _, h => by simp only [Dt] at h; subst h; exact .str _
  | .list ds, v, h => by
    simp only [Dt] at h
    obtain ⟨a, xs, rfl, s, r⟩ := h
    exact .lst s.1 (DtL.dp r)
  | .tuple ds, v, h => by
    simp only [Dt] at h
    obtain ⟨a, xs, rfl, s, r⟩ := h
    exact .tup s.1 (DtL.dp r)
  | .dict _, _, h => by simp only [Dt] at h
theorem DtL.dp : ∀ {ds : List PyData} {vs : List V}, DtL K M H ds vs → DpAll K H vs ds
  | [], _, h => by simp only [DtL] at h; subst h; exact .nil
  | d :: ds, vs, h => by
    simp only [DtL] at h
    obtain ⟨v, r, rfl, h1, h2⟩ := h
    exact .cons (Dt.dp h1) (DtL.dp h2)
end
theorem DtL.len : ∀ {ds : List PyData} {vs : List V}, DtL K M H ds vs → vs.length = ds.length
  | [], _, h => by simp only [DtL] at h; subst h; rfl
  | d :: ds, vs, h => by
    simp only [DtL] at h
    obtain ⟨v, r, rfl, h1, h2⟩ := h
    simp only [List.length_cons, DtL.len h2]
theorem DtL.at : ∀ {ds : List PyData} {vs : List V} {i : Nat} {d : PyData}, DtL K M H ds vs → ds[i]? = some d → ∃ v, vs[i]? = some v ∧ Dt K M H d v
  | [], _, _, _, _, e => by simp at e
  | d :: ds, vs, i, x, h, e => by
    simp only [DtL] at h
    obtain ⟨v, r, rfl, h1, h2⟩ := h
    cases i with
    | zero => simp at e; subst e; exact ⟨v, rfl, h1⟩
    | succ i => simp at e; obtain ⟨u, e1, e2⟩ := DtL.at h2 e; exact ⟨u, by simpa using e1, e2⟩
theorem DtL.of_at : ∀ {ds : List PyData} {vs : List V}, vs.length = ds.length → (∀ (i : Nat) (d : PyData) (v : V), ds[i]? = some d → vs[i]? = some v → Dt K M H d v) → DtL K M H ds vs
  | [], [], _, _ => by simp only [DtL]
  | [], v :: vs, e, _ => by simp at e
  | d :: ds, [], e, _ => by simp at e
  | d :: ds, v :: vs, e, h => by
    simp only [DtL]
    exact ⟨v, vs, rfl, h 0 d v rfl rfl, DtL.of_at (by simpa using e) (fun i d' v' h1 h2 => h (i + 1) d' v' (by simpa using h1) (by simpa using h2))⟩
theorem DtL.append {ds es : List PyData} {vs us : List V} : DtL K M H ds vs → DtL K M H es us → DtL K M H (ds ++ es) (vs ++ us) := by
  induction ds generalizing vs with
  | nil => intro h g; simp only [DtL] at h; subst h; simpa using g
  | cons d ds ih =>
    intro h g
    simp only [DtL] at h
    obtain ⟨v, r, rfl, h1, h2⟩ := h
    simp only [List.cons_append, DtL]
    exact ⟨v, _, rfl, h1, ih h2 g⟩
theorem DtL.ints : ∀ {ns : List Int} {vs : List V}, DtL K M H (ns.map PyData.int) vs ↔ vs = ns.map V.int
  | [], vs => by simp only [List.map_nil, DtL]
  | n :: ns, vs => by
    simp only [List.map_cons, DtL, Dt]
    constructor
    · rintro ⟨v, r, rfl, rfl, h⟩; rw [DtL.ints.mp h]
    · rintro rfl; exact ⟨_, _, rfl, rfl, DtL.ints.mpr rfl⟩
end

/-! ### what is known of the heap: the entries L (each by its object), data Ds clear of M; H0 the heap at the call -/
structure Bs where
  h : Hp
  n : List Addr
instance : CoeFun Bs (fun _ => Addr → Option HO) := ⟨Bs.h⟩
/-- from the heap H on nothing that was known may change -/
abbrev b0 (H : Hp) : Bs := ⟨H, []⟩
/-- a may be changed: it is of those, or it is new -/
def Bs.may (B : Bs) (a : Addr) : Prop := a ∈ B.n ∨ B.h a = none
structure Sy (K : PySem.W.Frag) (H0 : Bs) (M : List Addr) (H : Hp) (L : List (Addr × HO)) (Ds : List (PyData × V)) : Prop where
  fr : Fr H0.n H0.h H
  ent : ∀ x ∈ L, H x.1 = some x.2
  nd : (L.map (·.1)).Nodup
  dat : ∀ x ∈ Ds, Dt K M H x.1 x.2
  dom : ∀ a ∈ M, ∃ o, H a = some o
  nom : ∀ a ∈ H0.n, ∃ o, H a = some o
section
variable {K : PySem.W.Frag} {M N : List Addr} {H H1 H' : Hp} {H0 : Bs} {p a : Addr} {o o' : HO} {xs : List V} {L L' : List (Addr × HO)} {Ds Ds' : List (PyData × V)}
theorem Sy.get (S : Sy K H0 M H L Ds) (i : Nat) (h : L[i]? = some (a, o)) : H a = some o := S.ent _ (List.mem_of_getElem? h)
theorem Sy.sl (S : Sy K H0 M H L Ds) (i : Nat) (h : L[i]? = some (a, .lst xs)) : SqL K H a xs := .inl (.inl (S.get i h))
theorem Sy.slf {ob : Obj} (S : Sy K H0 M H L Ds) (i : Nat) (h : L[i]? = some (a, .frz ob (.lst xs))) : SqL K H a xs := .inl (.inr ⟨_, S.get i h⟩)
theorem Sy.st (S : Sy K H0 M H L Ds) (i : Nat) (h : L[i]? = some (a, .tup xs)) : SqT K H a xs := .inl (.inl (S.get i h))
theorem Sy.d (S : Sy K H0 M H L Ds) (i : Nat) {d : PyData} {v : V} (h : Ds[i]? = some (d, v)) : Dt K M H d v := S.dat _ (List.mem_of_getElem? h)
theorem Sy.start {N : List Addr} (M : List Addr) (L : List (Addr × HO)) (Ds : List (PyData × V)) (h1 : ∀ x ∈ L, H x.1 = some x.2) (h2 : (L.map (·.1)).Nodup) (h3 : ∀ x ∈ Ds, Dt K M H x.1 x.2) (h4 : ∀ a ∈ M, ∃ o, H a = some o) (h5 : ∀ a ∈ N, ∃ o, H a = some o := by exact fun _ z => nomatch z) : Sy K ⟨H, N⟩ M H L Ds :=
  ⟨Fr.refl _ _, h1, h2, h3, h4, h5⟩
theorem nd_new (h1 : ∀ x ∈ L, H x.1 = some x.2) (h2 : (L.map (·.1)).Nodup) (h : H p = none) : ((L ++ [(p, o)]).map (·.1)).Nodup := by
  rw [List.map_append, List.nodup_append]
  refine ⟨h2, by simp, ?_⟩
  intro x hx y hy e
  simp at hy
  obtain ⟨z, hz, rfl⟩ := List.mem_map.mp hx
  subst hy
  have := h1 z hz
  rw [e, h] at this
  cases this
theorem Sy.new (S : Sy K H0 M H L Ds) (h : H p = none) : Sy K H0 M (upd H p o) (L ++ [(p, o)]) Ds :=
  ⟨S.fr.trans (Fr.new h), fun x hx => by
    rcases List.mem_append.mp hx with hx | hx
    · exact Fr.new (M := []) h _ _ (fun z => nomatch z) (S.ent x hx)
    · rw [List.mem_singleton.mp hx]; exact upd_same, nd_new S.ent S.nd h, fun x hx => (S.dat x hx).mono (Fr.new h), fun a ha => by
    obtain ⟨o, e⟩ := S.dom a ha
    exact ⟨o, Fr.new (M := []) h _ _ (fun z => nomatch z) e⟩, fun a ha => by
    obtain ⟨o, e⟩ := S.nom a ha
    exact ⟨o, Fr.new (M := []) h _ _ (fun z => nomatch z) e⟩⟩
theorem Fr.free' {N : List Addr} (f : Fr N H1 H) (hn : ∀ a ∈ N, ∃ o, H a = some o) (h : H p = none) : H1 p = none := f.free (fun z => by
  obtain ⟨o, e⟩ := hn p z
  rw [h] at e; cases e) h
theorem Sy.free (S : Sy K H0 M H L Ds) (h : H p = none) : H0 p = none := S.fr.free' S.nom h
theorem Sy.newM (S : Sy K H0 M H L Ds) (h : H p = none) : Sy K H0 (p :: M) (upd H p o) (L ++ [(p, o)]) Ds := by
  have T := S.new (o := o) h
  refine ⟨T.fr, T.ent, T.nd, fun x hx => ((S.dat x hx).cons h).mono (Fr.new h), fun a ha => ?_, T.nom⟩
  cases List.mem_cons.mp ha with
  | inl z => exact ⟨o, by rw [z]; exact upd_same⟩
  | inr z => exact T.dom a z
theorem nd_set (i : Nat) (h : L[i]? = some (a, o)) (h2 : (L.map (·.1)).Nodup) : ((L.set i (a, o')).map (·.1)).Nodup := by
  have e : (L.set i (a, o')).map (·.1) = L.map (·.1) := by
    rw [List.map_set]
    apply List.ext_getElem?
    intro j
    rw [List.getElem?_set]
    split
    · rename_i e; subst e
      simp [h]
      have := (List.getElem?_eq_some_iff.mp h).1
      simp [this]
    · rfl
  rw [e]; exact h2
theorem ent_set (S : Sy K H0 M H L Ds) (i : Nat) (h : L[i]? = some (a, o)) {x : Addr × HO} (hx : x ∈ L.set i (a, o')) : x = (a, o') ∨ (x ∈ L ∧ x.1 ≠ a) := by
  obtain ⟨j, hj⟩ := List.getElem?_of_mem hx
  rw [List.getElem?_set] at hj
  split at hj
  · rename_i e
    split at hj
    · exact .inl (Option.some.inj hj).symm
    · cases hj
  · rename_i e
    refine .inr ⟨List.mem_of_getElem? hj, fun z => ?_⟩
    have h1 : (L.map (·.1))[i]? = some a := by rw [List.getElem?_map, h]; rfl
    have h2 : (L.map (·.1))[j]? = some a := by rw [List.getElem?_map, hj, ← z]; rfl
    obtain ⟨b1, e1⟩ := List.getElem?_eq_some_iff.mp h1
    obtain ⟨b2, e2⟩ := List.getElem?_eq_some_iff.mp h2
    exact e ((List.getElem_inj S.nd).mp (e1.trans e2.symm))
theorem Bs.fr {B : Bs} (m : B.may a) (f : Fr B.n B.h H) (g : Fr [a] H H') : Fr B.n B.h H' := fun b o n e => by
  refine g b o (fun z => ?_) (f b o n e)
  rw [List.mem_singleton] at z; subst z
  rcases m with m | m
  · exact n m
  · rw [m] at e; cases e
theorem keepS (f : Fr [a] H H') (e : H' a = some o') {b : Addr} (h : ∃ u, H b = some u) : ∃ u, H' b = some u := by
  obtain ⟨u, hu⟩ := h
  by_cases z : b = a
  · subst z; exact ⟨_, e⟩
  · exact ⟨u, f _ _ (fun q => z (List.mem_singleton.mp q)) hu⟩
/-- one known object, mutable, is another; all else stays -/
theorem Sy.put (S : Sy K H0 M H L Ds) (i : Nat) (h : L[i]? = some (a, o)) (m : a ∈ M ∧ H0.may a) (f : Fr [a] H H') (e : H' a = some o') : Sy K H0 M H' (L.set i (a, o')) Ds := by
  have fM : Fr M H H' := f.wk fun b hb => by rw [List.mem_singleton.mp hb]; exact m.1
  refine ⟨Bs.fr m.2 S.fr f, fun x hx => ?_, nd_set i h S.nd, fun x hx => (S.dat x hx).mono fM, fun b hb => keepS f e (S.dom b hb), fun b hb => keepS f e (S.nom b hb)⟩
  rcases ent_set S i h hx with rfl | ⟨hx, n⟩
  · exact e
  · exact f _ _ (fun z => n (List.mem_singleton.mp z)) (S.ent x hx)
theorem Sy.set (S : Sy K H0 M H L Ds) (i : Nat) (h : L[i]? = some (a, o)) (m : a ∈ M ∧ H0.may a) : Sy K H0 M (upd H a o') (L.set i (a, o')) Ds :=
  S.put i h m (Fr.set (List.mem_singleton.mpr rfl)) upd_same
theorem keep0 (f : Fr [] H H') {b : Addr} (h : ∃ u, H b = some u) : ∃ u, H' b = some u := by
  obtain ⟨u, hu⟩ := h
  exact ⟨u, f _ _ (fun z => nomatch z) hu⟩
/-- nothing known is changed -/
theorem Sy.ex (S : Sy K H0 M H L Ds) (f : Fr [] H H') : Sy K H0 M H' L Ds :=
  ⟨S.fr.trans f.wk0, fun x hx => f _ _ (fun z => nomatch z) (S.ent x hx), S.nd, fun x hx => (S.dat x hx).mono f.wk0, fun b hb => keep0 f (S.dom b hb), fun b hb => keep0 f (S.nom b hb)⟩
theorem Sy.exN (S : Sy K H0 M H L Ds) (f : Fr [] H H') (h : H p = none) (e : H' p = some o) : Sy K H0 M H' (L ++ [(p, o)]) Ds := by
  have T := S.ex f
  refine ⟨T.fr, fun x hx => ?_, nd_new S.ent S.nd h, T.dat, T.dom, T.nom⟩
  rcases List.mem_append.mp hx with hx | hx
  · exact T.ent x hx
  · rw [List.mem_singleton.mp hx]; exact e
theorem Sy.addD (S : Sy K H0 M H L Ds) {d : PyData} {v : V} (h : Dt K M H d v) : Sy K H0 M H L (Ds ++ [(d, v)]) :=
  ⟨S.fr, S.ent, S.nd, fun x hx => by
    rcases List.mem_append.mp hx with hx | hx
    · exact S.dat x hx
    · rw [List.mem_singleton.mp hx]; exact h, S.dom, S.nom⟩
theorem Sy.sub (S : Sy K H0 M H L Ds) (h : L'.Sublist L) : Sy K H0 M H L' Ds :=
  ⟨S.fr, fun x hx => S.ent x (h.subset hx), (h.map _).nodup S.nd, S.dat, S.dom, S.nom⟩
theorem Sy.subD (S : Sy K H0 M H L Ds) (h : ∀ x ∈ Ds', x ∈ Ds) : Sy K H0 M H L Ds' := ⟨S.fr, S.ent, S.nd, fun x hx => S.dat x (h x hx), S.dom, S.nom⟩
theorem Sy.dropM (S : Sy K H0 (p :: M) H L Ds) : Sy K H0 M H L Ds :=
  ⟨S.fr, S.ent, S.nd, fun x hx => (S.dat x hx).wk fun _ z => List.mem_cons_of_mem _ z, fun a ha => S.dom a (List.mem_cons_of_mem _ ha), S.nom⟩
/-- the frame counted from here on, nothing known to be changed -/
theorem Sy.rebase (S : Sy K H0 M H L Ds) : Sy K (b0 H) M H L Ds := ⟨Fr.refl _ _, S.ent, S.nd, S.dat, S.dom, fun _ z => nomatch z⟩
end

/-! ### readings, step by step -/
section
variable {K : PySem.W.Frag} {σ σ' : St} {H : Hp} {i : Nat} {v x y : V} {ta tb te tc : TE} {tr tA : TA} {Q : VK} {r r' : R2} {c t u : TT} {D : Ends} {g : TG} {ts tu : TS}
theorem x_var (h : σ[i]? = some (some v)) (q : Q v H) : tVar i σ H Q := ⟨v, h, q⟩
theorem x_c (q : Q v H) : tC v σ H Q := q
theorem x_op (q : ta σ H fun x H1 => tb σ H1 fun y H2 => r x y H2 Q) : tOp r ta tb σ H Q := q
theorem x_un {r : V → Hp → VK → Prop} (q : ta σ H fun x H1 => r x H1 Q) : tUn r ta σ H Q := q
theorem x_I0 {f : Int → Int → V} {i j : Int} (q : Q (f i j) H) : rI0 f (.int i) (.int j) H Q := ⟨i, j, rfl, rfl, q⟩
theorem x_I {C : Int → Int → Prop} {f : Int → Int → V} {i j : Int} (c : C i j) (q : Q (f i j) H) : rI C f (.int i) (.int j) H Q := ⟨i, j, rfl, rfl, c, q⟩
theorem x_U {f : Int → V} {i : Int} (q : Q (f i) H) : rU f (.int i) H Q := ⟨i, rfl, q⟩
theorem x_eq (h : scal x y = true) (q : Q (.bl (decide (x = y))) H) : rEq x y H Q := ⟨h, q⟩
theorem x_ne (h : scal x y = true) (q : Q (.bl (!decide (x = y))) H) : rNe x y H Q := ⟨h, q⟩
theorem x_nil {Q : List V → Hp → Prop} (q : Q [] H) : tNil σ H Q := q
theorem x_cons {Q : List V → Hp → Prop} (q : ta σ H fun x H1 => tr σ H1 fun xs H2 => Q (x :: xs) H2) : tCons ta tr σ H Q := q
theorem x_asg (q : te σ H fun x H1 => g x σ H1 D.nx) : tAsg te g D σ H := q
theorem x_name {Q : St → Hp → Prop} (h : σ.set i (some v) = σ') (q : Q σ' H) : gName i v σ H Q := by subst h; exact q
theorem x_seq (q : ts { D with nx := tu D } σ H) : tSeq ts tu D σ H := q
theorem x_st {ts : TS} (h : σ = σ') (q : ts D σ' H) : ts D σ H := by subst h; exact q
theorem x_next (q : D.nx σ H) : tNext D σ H := q
theorem x_ret (q : te σ H D.rt) : tRet te D σ H := q
theorem x_retN (q : D.rt .non H) : tRetN D σ H := q
theorem x_drop (q : te σ H fun _ H1 => D.nx σ H1) : tDrop te D σ H := q
theorem x_ifs (q : c σ H fun b H1 => if b = true then ts D σ H1 else tu D σ H1) : tIfS c ts tu D σ H := q
theorem x_if (q : c σ H fun b H1 => if b = true then ta σ H1 Q else tb σ H1 Q) : tIf c ta tb σ H Q := q
theorem x_test {Q : Bool → Hp → Prop} (q : te σ H fun x H' => ∃ k, x = .bl k ∧ Q k H') : tTest te σ H Q := q
theorem x_B {Q : Bool → Hp → Prop} (q : te σ H fun x H' => ∃ k, x = .bl k ∧ Q k H') : tB te σ H Q := q
theorem x_k {P : Bool → Prop} {b : Bool} (q : P b) : ∃ k, V.bl b = .bl k ∧ P k := ⟨b, rfl, q⟩
theorem x_and {Q : Bool → Hp → Prop} (q : t σ H fun c H1 => if c = true then u σ H1 Q else Q false H1) : tAnd t u σ H Q := q
theorem x_or {Q : Bool → Hp → Prop} (q : t σ H fun c H1 => if c = true then Q true H1 else u σ H1 Q) : tOr t u σ H Q := q
theorem x_not {Q : Bool → Hp → Prop} (q : t σ H fun c H1 => Q (!c) H1) : tNot t σ H Q := q
theorem x_chain (q : ta σ H fun x H1 => tb σ H1 fun y H2 => r x y H2 fun z H3 => ∃ k, z = .bl k ∧ (if k = true then tc σ H3 fun w' H4 => r' y w' H4 Q else Q (.bl false) H3)) : tChain r r' ta tb tc σ H Q := q
theorem x_yes {Q : Bool → Hp → Prop} (q : Q true H) : tYes σ H Q := q
theorem x_tup (q : tA σ H fun xs H1 => xs.length ≤ sizeLine ∧ ∀ p, H1 p = none → Q (.ref p) (upd H1 p (.tup xs))) : tTup tA σ H Q := q
theorem x_lst (q : tA σ H fun xs H1 => xs.length ≤ sizeLine ∧ ∀ p, H1 p = none → Q (.ref p) (upd H1 p (.lst xs))) : tLst tA σ H Q := q
theorem x_call {sp : Sp} {dvs : List V} {E : XK} (q : tA σ H fun vs H1 => sp (vs ++ dvs) H1 Q E) : tCall sp dvs E tA σ H Q := q
theorem x_cb {r : List V → Hp → VK → Prop} (q : tA σ H fun vs H1 => r vs H1 Q) : tCB r tA σ H Q := q
theorem x_sub {to ti : TE} {tt : TSet} {Q : St → Hp → Prop} (q : to σ H fun o H1 => ti σ H1 fun i H2 => tt o i v H2 fun H3 => Q σ H3) : gSub to ti tt v σ H Q := q
theorem x_isN {x : V} (q : Q (.bl (decide (x = .non))) H) : (fun (x y : V) (H : Hp) (Q : VK) => y = .non ∧ Q (.bl (decide (x = .non))) H) x .non H Q := ⟨rfl, q⟩
theorem x_ite {c : Bool} {A B : Prop} (h1 : c = true → A) (h2 : c = false → B) : if c = true then A else B := by
  cases c with
  | true => exact h1 rfl
  | false => exact h2 rfl
theorem x_iteT {c : Bool} {A B : Prop} (h : c = true) (q : A) : if c = true then A else B := by rw [if_pos h]; exact q
theorem x_iteF {c : Bool} {A B : Prop} (h : c = false) (q : B) : if c = true then A else B := by rw [h, if_neg Bool.false_ne_true]; exact q
theorem x_ixL {p : Addr} {xs : List V} {i : Int} (h : SqL K H p xs) (ha : atI xs i = some v) (q : Q v H) : rIxL K (.ref p) (.int i) H Q := ⟨p, xs, i, v, rfl, rfl, h, ha, q⟩
theorem x_ixT {p : Addr} {xs : List V} {i : Int} (h : SqT K H p xs) (ha : atI xs i = some v) (q : Q v H) : rIxT K (.ref p) (.int i) H Q := ⟨p, xs, i, v, rfl, rfl, h, ha, q⟩
theorem x_setL {p : Addr} {xs : List V} {k : Int} {j : Nat} {Q : Hp → Prop} (h : H p = some (.lst xs)) (e : ixN xs.length k = some j) (q : Q (upd H p (.lst (xs.set j v)))) : rSetL (.ref p) (.int k) v H Q := ⟨p, xs, k, j, rfl, rfl, h, e, q⟩
theorem x_setR {p : Addr} {x0 x1 x2 x3 y0 y1 y2 y3 : V} {k : Int} {j : Nat} {Q : Hp → Prop} (h : H p = some (.lst [x0, x1, x2, x3])) (e : ixN 4 k = some j) (e2 : [x0, x1, x2, x3].set j v = [y0, y1, y2, y3]) (q : Q (upd H p (.lst [y0, y1, y2, y3]))) : rSetL (.ref p) (.int k) v H Q := ⟨p, _, k, j, rfl, rfl, h, e, by rw [e2]; exact q⟩
theorem pe_gi {X : Cx} {x : Str} {pos : Pos} {i : Int} (hg : Gl X x) (h : ∃ t, X.mg x = some (.int i t)) (hd : (x == ("__debug__" : Str)) = false := by decide) (hn : (x == ("__classdict__" : Str)) = false := by decide) : PE X (.Name x pos) (tC (.int i)) := by
  obtain ⟨t, e⟩ := h
  exact pe_glob hg e ⟨t, rfl⟩ hd
end
theorem sz (n : Nat) (h : n ≤ 16777216 := by decide) : n ≤ sizeLine := by rw [sizeLine_eq]; exact h
theorem szl {n : Nat} (h : n < 16777216) : n < sizeLine := by rw [sizeLine_eq]; exact h
theorem szL {n : Nat} (h : n ≤ 16777216) : n ≤ sizeLine := by rw [sizeLine_eq]; exact h
theorem ixN_nat {n j : Nat} (hj : j < n) : ixN n (j : Int) = some j := by
  unfold ixN
  rw [if_pos (by omega), if_pos (by omega)]
  simp
theorem ixN_int {n : Nat} {k : Int} (h0 : 0 ≤ k) (h : k < n) : ixN n k = some k.toNat := by
  unfold ixN
  rw [if_pos h0, if_pos h]
theorem atI_int {α : Type} {xs : List α} {k : Int} {v : α} (h0 : 0 ≤ k) (h : xs[k.toNat]? = some v) : atI xs k = some v := by
  have e : k = (k.toNat : Int) := by omega
  rw [e]; exact atI_nat h
theorem at_map {α β : Type} {f : α → β} {xs : List α} {i : Nat} {x : α} (h : xs[i]? = some x) : (xs.map f)[i]? = some (f x) := by rw [List.getElem?_map, h]; rfl
theorem of_map {α β : Type} {f : α → β} {xs : List α} {i : Nat} {y : β} (h : (xs.map f)[i]? = some y) : ∃ x, xs[i]? = some x ∧ y = f x := by
  rw [List.getElem?_map] at h
  cases e : xs[i]? with
  | none => rw [e] at h; cases h
  | some x => rw [e] at h; exact ⟨x, rfl, (Option.some.inj h).symm⟩
theorem at_lt {α : Type} {xs : List α} {i : Nat} (h : i < xs.length) : ∃ x, xs[i]? = some x := ⟨xs[i], List.getElem?_eq_getElem h⟩
theorem take_more {α : Type} {l : List α} {i : Nat} {x : α} (h : l[i]? = some x) : l.take (i + 1) = l.take i ++ [x] := by
  rw [List.take_add_one, h]; rfl
theorem dec_int' {i j : Int} : decide (V.int i = V.int j) = decide (i = j) := by
  rw [Bool.eq_iff_iff]; simp

/-! ### the drawn numbers: a row of the script, how many are taken, the mixed one, a great one's rest -/
structure Rho where
  i : Int
  x : Int
  g : Int
structure Rho.ok (q : Rho) : Prop where
  i0 : 0 ≤ q.i
  x0 : 0 ≤ q.x
  x1 : q.x < 2147483647
  g0 : 0 ≤ q.g
def rowO (a : Addr) (q : Rho) : HO := .lst [.ref a, .int q.i, .int q.x, .int q.g]
theorem ok0 : Rho.ok ⟨0, 0, 0⟩ := ⟨by decide, by decide, by decide, by decide⟩
/-- _law_taken(row, many): a number below many; the row alone changes -/
def spTaken (K : PySem.W.Frag) : Sp := fun vs H Q _ => ∃ (r a : Addr) (m : Int) (q : Rho) (ns : List Int), vs = [.ref r, .int m] ∧ 0 < m ∧ m < 1000000000 ∧ H r = some (rowO a q) ∧ q.ok ∧ SLA K [r] H a (ns.map V.int) ∧ ns.length ≤ 63 ∧
  ∀ (x : Int) (q' : Rho), 0 ≤ x → x < m → q'.ok → Q (.int x) (upd H r (rowO a q'))
/-! ### a list or a tuple -/
section
variable {X : Cx} {tg l : Expr} {tl : TE} {K : PySem.W.Frag} {H H' : Hp} {H0 : Bs} {M : List Addr} {a p r : Addr} {xs : List V}
def SqE (K : PySem.W.Frag) (H : Hp) (a : Addr) (xs : List V) : Prop := SqL K H a xs ∨ SqT K H a xs
def iEi (K : PySem.W.Frag) (tl : TE) : TI := fun σ H R => iList K tl σ H R ∨ iTup K tl σ H R
theorem pi_ei (hl : PE X l tl) : PI X tg l (iEi X.K tl) := ⟨fun pins s σ H R I h => h.elim ((pi_list hl).run pins s σ H R I) ((pi_tup hl).run pins s σ H R I)⟩
theorem SqE.ofL (h : SqL K H a xs) : SqE K H a xs := .inl h
theorem SqE.ofT (h : SqT K H a xs) : SqE K H a xs := .inr h
theorem Fr.sq (f : Fr M H H') (n : a ∉ M) (h : SqE K H a xs) : SqE K H' a xs := h.elim (fun h => .inl (f.sl n h)) (fun h => .inr (f.st n h))
theorem Fr.sq0 (f : Fr [] H H') (h : SqE K H a xs) : SqE K H' a xs := f.sq (fun z => nomatch z) h
end
section
variable {K : PySem.W.Frag} {H : Hp} {a : Addr} {xs : List V} {σ : L2.St} {i : Nat} {g : TG} {tb : TS} {D : Ends} {n lo : Int}
/-- for .. in a name that holds a list or a tuple -/
theorem x_forE (hv : σ[i]? = some (some (.ref a))) (h : SqE K H a xs) (Pv : Nat → L2.St → Hp → Prop) (h0 : Pv 0 σ H) (hl : ∀ j σ' H', Pv j σ' H' → SqE K H a xs → (SqL K H a xs → SqL K H' a xs) ∧ (SqT K H a xs → SqT K H' a xs))
    (hs : ∀ j x σ' H', xs[j]? = some x → Pv j σ' H' → g x σ' H' fun σ2 H2 => tb { D with nx := Pv (j + 1), ct := Pv (j + 1), bk := D.nx } σ2 H2) (hd : ∀ σ' H', Pv xs.length σ' H' → D.nx σ' H') : tFor (iEi K (tVar i)) g tb D σ H := by
  rcases h with h | h
  · exact .inl ⟨_, hv, a, rfl, ⟨_, h⟩, for_list Pv h0 (fun j σ' H' _ q => (hl j σ' H' q (.inl h)).1 h) hs hd⟩
  · exact .inr ⟨_, hv, a, rfl, ⟨_, h⟩, for_tup Pv h0 (fun j σ' H' _ q => (hl j σ' H' q (.inr h)).2 h) hs hd⟩
theorem x_forL (hv : σ[i]? = some (some (.ref a))) (h : SqL K H a xs) (Pv : Nat → L2.St → Hp → Prop) (h0 : Pv 0 σ H) (hl : ∀ j σ' H', j ≤ xs.length → Pv j σ' H' → SqL K H' a xs)
    (hs : ∀ j x σ' H', xs[j]? = some x → Pv j σ' H' → g x σ' H' fun σ2 H2 => tb { D with nx := Pv (j + 1), ct := Pv (j + 1), bk := D.nx } σ2 H2) (hd : ∀ σ' H', Pv xs.length σ' H' → D.nx σ' H') : tFor (iList K (tVar i)) g tb D σ H :=
  ⟨_, hv, a, rfl, ⟨_, h⟩, for_list Pv h0 hl hs hd⟩
theorem x_forT (hv : σ[i]? = some (some (.ref a))) (h : SqT K H a xs) (Pv : Nat → L2.St → Hp → Prop) (h0 : Pv 0 σ H) (hl : ∀ j σ' H', j ≤ xs.length → Pv j σ' H' → SqT K H' a xs)
    (hs : ∀ j x σ' H', xs[j]? = some x → Pv j σ' H' → g x σ' H' fun σ2 H2 => tb { D with nx := Pv (j + 1), ct := Pv (j + 1), bk := D.nx } σ2 H2) (hd : ∀ σ' H', Pv xs.length σ' H' → D.nx σ' H') : tFor (iTup K (tVar i)) g tb D σ H :=
  ⟨_, hv, a, rfl, ⟨_, h⟩, for_tup Pv h0 hl hs hd⟩
/-- what stands behind «for .. in range(e)», e's value being n -/
theorem x_rng1 {R : It → Hp → Prop} {H : Hp} (h0 : 0 ≤ n) (h1 : n ≤ 1000000) (q : R (Itr 0 n.toNat) H) : ∃ j : Int, [V.int n] = [.int j] ∧ -(2 ^ 62) ≤ j ∧ j < 2 ^ 62 ∧ R (Itr 0 j.toNat) H := ⟨n, rfl, by omega, by omega, q⟩
theorem x_rng2 {R : It → Hp → Prop} {H : Hp} (h0 : -1000000 ≤ lo) (h1 : lo ≤ 1000000) (h2 : -1000000 ≤ n) (h3 : n ≤ 1000000) (q : R (Itr lo (n - lo).toNat) H) : ∃ i j : Int, [V.int lo, V.int n] = [.int i, .int j] ∧ (-(2 ^ 62) ≤ i ∧ i < 2 ^ 62 ∧ -(2 ^ 62) ≤ j ∧ j < 2 ^ 62) ∧ R (Itr i (j - i).toNat) H := ⟨lo, n, rfl, ⟨by omega, by omega, by omega, by omega⟩, q⟩
theorem x_for {wi : TI} (q : wi σ H fun J H1 => ∃ W : Nat → Nat → L2.St → Hp → Prop, (∃ m, W 0 m σ H1) ∧ ∀ i m σ H, W i m σ H →
    (J.stop i H ∧ D.nx σ H) ∨ (J.go i H ∧ ∃ N : L2.St → Hp → Prop, (∀ σ' H', N σ' H' → ∃ m', m' < m ∧ W (i + 1) m' σ' H') ∧ ∀ x H', J.yld i H x H' → g x σ H' fun σ2 H2 => tb { D with nx := N, ct := N, bk := D.nx } σ2 H2)) : tFor wi g tb D σ H := q
theorem x_iR1 {ta : TA} {R : It → Hp → Prop} (q : ta σ H fun vs H1 => ∃ j : Int, vs = [.int j] ∧ -(2 ^ 62) ≤ j ∧ j < 2 ^ 62 ∧ R (Itr 0 j.toNat) H1) : iRng1 ta σ H R := q
theorem x_iR2 {ta : TA} {R : It → Hp → Prop} (q : ta σ H fun vs H1 => ∃ i j : Int, vs = [.int i, .int j] ∧ (-(2 ^ 62) ≤ i ∧ i < 2 ^ 62 ∧ -(2 ^ 62) ≤ j ∧ j < 2 ^ 62) ∧ R (Itr i (j - i).toNat) H1) : iRng2 ta σ H R := q
end

/-! ### sums of a row, some cells broken -/
def ov : Option Int → V
  | none => .non
  | some i => .int i
def sstep (s : Int × Int) (n : Int) : Int × Int := ((s.1 + n + 1) % 9973, (s.2 + (s.1 + n + 1) % 9973) % 9973)
def sumsF (ns : List Int) : Int × Int := ns.foldl sstep (0, 0)
def allI : List (Option Int) → Option (List Int)
  | [] => some []
  | none :: _ => none
  | some i :: r => (allI r).map (i :: ·)
theorem allI_some : ∀ ns : List Int, allI (ns.map some) = some ns
  | [] => rfl
  | n :: r => by simp [allI, allI_some r]
theorem allI_inv : ∀ {xs : List (Option Int)} {ns : List Int}, allI xs = some ns → xs = ns.map some
  | [], ns, h => by simp [allI] at h; subst h; rfl
  | none :: r, ns, h => by simp [allI] at h
  | some i :: r, ns, h => by
    simp only [allI, Option.map_eq_some_iff] at h
    obtain ⟨m, h1, rfl⟩ := h
    rw [allI_inv h1]; rfl
theorem allI_none : ∀ {xs : List (Option Int)}, allI xs = none ↔ none ∈ xs
  | [] => by simp [allI]
  | none :: r => by simp [allI]
  | some i :: r => by simp [allI, allI_none (xs := r)]
theorem ints_ov (ns : List Int) : ns.map V.int = (ns.map some).map ov := by rw [List.map_map]; rfl
theorem sumsF_more (ns : List Int) (n : Int) : sumsF (ns ++ [n]) = sstep (sumsF ns) n := by unfold sumsF; rw [List.foldl_append]; rfl
def spSums (K : PySem.W.Frag) : Sp := fun vs H Q _ => ∃ (p : Addr) (xs : List (Option Int)), vs = [.ref p] ∧ SqE K H p (xs.map ov) ∧ (allI xs = none → Q .non H) ∧
  (∀ ns t, allI xs = some ns → H t = none → Q (.ref t) (upd H t (.tup [.int (sumsF ns).1, .int (sumsF ns).2])))
def kstep (key : Int) (s n : Int) : Int := (s * key + n + 1) % 9973
def sealF (key : Int) (ns : List Int) : Int := ns.foldl (kstep key) key
theorem sealF_more (key : Int) (ns : List Int) (n : Int) : sealF key (ns ++ [n]) = kstep key (sealF key ns) n := by unfold sealF; rw [List.foldl_append]; rfl
theorem sealF_lt (key : Int) (ns : List Int) (h0 : 0 ≤ key) (h1 : key < 9973) : 0 ≤ sealF key ns ∧ sealF key ns < 9973 := by
  have : ∀ (l : List Int) (s : Int), 0 ≤ s → s < 9973 → 0 ≤ l.foldl (kstep key) s ∧ l.foldl (kstep key) s < 9973 := by
    intro l
    induction l with
    | nil => intro s a b; exact ⟨a, b⟩
    | cons n r ih => intro s _ _; exact ih _ (Int.emod_nonneg _ (by decide)) (Int.emod_lt_of_pos _ (by decide))
  exact this ns key h0 h1
def spSeal (K : PySem.W.Frag) : Sp := fun vs H Q _ => ∃ (key : Int) (p : Addr) (ns : List Int), vs = [.int key, .ref p] ∧ 0 ≤ key ∧ key < 9973 ∧ SqE K H p (ns.map V.int) ∧ Q (.int (sealF key ns)) H

/-! ### the row of drawn numbers, in hand -/
def script (ns : List Int) : PyData := .list (ns.map .int)
def RowAt (K : PySem.W.Frag) (H : Hp) (r a : Addr) (q : Rho) (ns : List Int) : Prop := H r = some (rowO a q) ∧ q.ok ∧ SLA K [r] H a (ns.map V.int) ∧ ns.length ≤ 63
section
variable {K : PySem.W.Frag} {H H' : Hp} {H0 : Bs} {M : List Addr} {a p r : Addr} {q : Rho} {ns : List Int} {L : List (Addr × HO)} {Ds : List (PyData × V)} {Q : VK} {E : XK}
theorem dt_script : Dt K M H (script ns) (.ref a) ↔ SLA K M H a (ns.map V.int) := by
  unfold script
  simp only [Dt]
  constructor
  · rintro ⟨b, xs, e, h, g⟩
    cases e
    rw [DtL.ints.mp g] at h
    exact h
  · intro h
    exact ⟨a, _, rfl, h, DtL.ints.mpr rfl⟩
theorem RowAt.sy (h : RowAt K H r a q ns) : Sy K ⟨H, [r]⟩ [r] H [(r, rowO a q)] [(script ns, .ref a)] :=
  Sy.start _ _ _ (fun x hx => by rw [List.mem_singleton.mp hx]; exact h.1) (by simp) (fun x hx => by rw [List.mem_singleton.mp hx]; exact dt_script.mpr h.2.2.1) (fun b hb => by rw [List.mem_singleton.mp hb]; exact ⟨_, h.1⟩) (fun b hb => by rw [List.mem_singleton.mp hb]; exact ⟨_, h.1⟩)
theorem Sy.row (S : Sy K H0 M H ((r, rowO a q) :: L) ((script ns, .ref a) :: Ds)) (hM : r ∈ M) (hq : q.ok) (hl : ns.length ≤ 63) : RowAt K H r a q ns :=
  ⟨S.get 0 rfl, hq, (dt_script.mp (S.d 0 rfl)).wk fun b hb => by rw [List.mem_singleton.mp hb]; exact hM, hl⟩
/-- a draw: the row is another one, all else stays -/
theorem Sy.drawn (S : Sy K H0 M H ((r, rowO a q) :: L) Ds) (hM : r ∈ M ∧ H0.may r) (f : Fr [r] H H') {q' : Rho} (e : H' r = some (rowO a q')) : Sy K H0 M H' ((r, rowO a q') :: L) Ds := S.put 0 rfl hM f e
theorem use_taken {m : Int} (S : Sy K H0 M H ((r, rowO a q) :: L) ((script ns, .ref a) :: Ds)) (hM : r ∈ M ∧ H0.may r) (hq : q.ok) (hl : ns.length ≤ 63) (hm : 0 < m) (hm2 : m < 1000000000)
    (k : ∀ (x : Int) (q' : Rho) (H' : Hp), 0 ≤ x → x < m → q'.ok → Sy K H0 M H' ((r, rowO a q') :: L) ((script ns, .ref a) :: Ds) → Q (.int x) H') : spTaken K [.ref r, .int m] H Q E := by
  obtain ⟨h1, h2, h3, h4⟩ := S.row hM.1 hq hl
  exact ⟨r, a, m, q, ns, rfl, hm, hm2, h1, h2, h3, h4, fun x q' x0 x1 ok => k x q' _ x0 x1 ok (S.drawn hM (Fr.set (List.mem_singleton.mpr rfl)) upd_same)⟩
/-- what draws by a row: a number that keeps C -/
def spDraw (C : Int → Prop) (K : PySem.W.Frag) : Sp := fun vs H Q _ => ∃ (r a : Addr) (q : Rho) (ns : List Int), vs = [.ref r] ∧ RowAt K H r a q ns ∧
  ∀ (x : Int) (q' : Rho) (H' : Hp), C x → q'.ok → Fr [r] H H' → H' r = some (rowO a q') → Q (.int x) H'
theorem use_draw {C : Int → Prop} (S : Sy K H0 M H ((r, rowO a q) :: L) ((script ns, .ref a) :: Ds)) (hM : r ∈ M ∧ H0.may r) (hq : q.ok) (hl : ns.length ≤ 63)
    (k : ∀ (x : Int) (q' : Rho) (H' : Hp), C x → q'.ok → Sy K H0 M H' ((r, rowO a q') :: L) ((script ns, .ref a) :: Ds) → Q (.int x) H') : spDraw C K [.ref r] H Q E :=
  ⟨r, a, q, ns, rfl, S.row hM.1 hq hl, fun x q' H' c ok f e => k x q' H' c ok (S.drawn hM f e)⟩
end

/-! ### new objects -/
section
variable {K : PySem.W.Frag} {H : Hp} {H0 : Bs} {M : List Addr} {o : HO} {L : List (Addr × HO)} {Ds : List (PyData × V)} {Q : VK} {n : Prop}
theorem x_al (S : Sy K H0 M H L Ds) (q : ∀ p H', H p = none → Sy K H0 M H' (L ++ [(p, o)]) Ds → Q (.ref p) H') : ∀ p, H p = none → Q (.ref p) (upd H p o) := fun p hp => q p _ hp (S.new hp)
theorem x_alM (S : Sy K H0 M H L Ds) (q : ∀ p H', H p = none → H0 p = none → Sy K H0 (p :: M) H' (L ++ [(p, o)]) Ds → Q (.ref p) H') : ∀ p, H p = none → Q (.ref p) (upd H p o) := fun p hp => q p _ hp (S.free hp) (S.newM hp)
theorem x_new (S : Sy K H0 M H L Ds) (hl : n) (q : ∀ p H', H p = none → Sy K H0 M H' (L ++ [(p, o)]) Ds → Q (.ref p) H') : n ∧ ∀ p, H p = none → Q (.ref p) (upd H p o) := ⟨hl, x_al S q⟩
theorem x_newM (S : Sy K H0 M H L Ds) (hl : n) (q : ∀ p H', H p = none → H0 p = none → Sy K H0 (p :: M) H' (L ++ [(p, o)]) Ds → Q (.ref p) H') : n ∧ ∀ p, H p = none → Q (.ref p) (upd H p o) := ⟨hl, x_alM S q⟩
theorem x_setS {p : Addr} {xs : List V} {k : Int} {j : Nat} {v : V} {Q : Hp → Prop} (S : Sy K H0 M H L Ds) (i : Nat) (h : L[i]? = some (p, .lst xs)) (m : p ∈ M ∧ H0.may p) (e : ixN xs.length k = some j) (q : ∀ H', Sy K H0 M H' (L.set i (p, .lst (xs.set j v))) Ds → Q H') : rSetL (.ref p) (.int k) v H Q :=
  x_setL (S.get i h) e (q _ (S.set i h m))
theorem x_app {p : Addr} {xs : List V} {v : V} {Q : VK} (S : Sy K H0 M H L Ds) (i : Nat) (h : L[i]? = some (p, .lst xs)) (m : p ∈ M ∧ H0.may p) (hz : xs.length < 16777216) (q : ∀ H', Sy K H0 M H' (L.set i (p, .lst (xs ++ [v]))) Ds → Q .non H') : rAppend (.ref p) [v] H Q :=
  ⟨p, xs, v, rfl, rfl, S.get i h, szl hz, q _ (S.set i h m)⟩
end

/-! ### a list of drawn numbers: [f(row) for k in range(n)] -/
def LcO (g : TG) (tt : TT) (te : TE) (vs : List Nat) (σ : L2.St) (Q : VK) (J : It) (H1 : Hp) : Prop := ∀ D, H1 D = none → ∃ W : Nat → Nat → Hp → Prop, (∃ m, W 0 m (upd H1 D (.lst []))) ∧ ∀ i m H, W i m H →
    (J.stop i H ∧ Q (.ref D) H) ∨ (J.go i H ∧ ∃ Nx : Hp → Prop, (∀ H', Nx H' → ∃ m', m' < m ∧ W (i + 1) m' H') ∧ ∀ x H', J.yld i H x H' → g x (wipe σ vs) H' fun σ2 H2 => wipe σ2 vs = wipe σ vs ∧ tt σ2 H2 fun b H3 =>
      if b = true then te σ2 H3 fun y H4 => ∃ acc, H4 D = some (.lst acc) ∧ acc.length < sizeLine ∧ Nx (upd H4 D (.lst (acc ++ [y]))) else Nx H3)
section
variable {K : PySem.W.Frag} {H : Hp} {H0 : Bs} {M : List Addr} {a r : Addr} {q : Rho} {ns : List Int} {L : List (Addr × HO)} {Ds : List (PyData × V)} {Q : VK} {σ : L2.St} {te : TE} {j n : Nat} {C : Int → Prop}
theorem lc_draw (S : Sy K H0 M H ((r, rowO a q) :: L) Ds) (hM : r ∈ M ∧ H0.may r) (hq : q.ok) (hn : n ≤ 10000)
    (hte : ∀ (v : V) (M' : List Addr) (H' : Hp) (q' : Rho) (L' : List (Addr × HO)) (Q' : VK), r ∈ M' ∧ H0.may r → q'.ok → Sy K H0 M' H' ((r, rowO a q') :: L') Ds →
      (∀ (x : Int) (q'' : Rho) (H'' : Hp), C x → q''.ok → Sy K H0 M' H'' ((r, rowO a q'') :: L') Ds → Q' (.int x) H'') → te ((σ.set j none).set j (some v)) H' Q')
    (k : ∀ (D : Addr) (xs : List Int) (q' : Rho) (H' : Hp), H D = none → xs.length = n → (∀ x ∈ xs, C x) → q'.ok → Sy K H0 M H' ((r, rowO a q') :: (L ++ [(D, .lst (xs.map V.int))])) Ds → Q (.ref D) H') :
    LcO (gName j) tYes te [j] σ Q (Itr 0 n) H := by
  intro D hD
  have DF := S.free hD
  refine lc_range (lo := 0) (n := n) (fun i H' => i ≤ n ∧ ∃ (xs : List Int) (q' : Rho), xs.length = i ∧ (∀ x ∈ xs, C x) ∧ q'.ok ∧ Sy K H0 (D :: M) H' ((r, rowO a q') :: (L ++ [(D, .lst (xs.map V.int))])) Ds) ?_ ?_ ?_
  · exact ⟨Nat.zero_le _, [], q, rfl, (fun _ h => nomatch h), hq, S.newM hD⟩
  · rintro i H' hi ⟨_, xs, q', hx, hC, ok, S'⟩
    have e1 : wipe ((wipe σ [j]).set j (some (V.int (0 + (i : Int))))) [j] = wipe σ [j] := by
      show ((((σ.set j none).set j _)).set j none) = σ.set j none
      rw [List.set_set, List.set_set]
    refine ⟨e1, ?_⟩
    refine hte (.int (0 + (i : Int))) (D :: M) H' q' _ _ ⟨List.mem_cons_of_mem _ hM.1, hM.2⟩ ok S' fun x q'' H'' c ok' S'' => ?_
    have gD : ((r, rowO a q'') :: (L ++ [(D, HO.lst (xs.map V.int))]))[L.length + 1]? = some (D, .lst (xs.map V.int)) := by simp
    refine ⟨xs.map V.int, S''.get (L.length + 1) gD, ?_, ?_⟩
    · rw [List.length_map, hx]; exact szl (by omega)
    · refine ⟨by omega, xs ++ [x], q'', by simp [hx], ?_, ok', ?_⟩
      · intro y hy
        rcases List.mem_append.mp hy with hy | hy
        · exact hC y hy
        · rw [List.mem_singleton.mp hy]; exact c
      · have T := S''.set (o' := .lst (xs.map V.int ++ [V.int x])) (L.length + 1) gD ⟨List.mem_cons_self .., .inr DF⟩
        rw [show (((r, rowO a q'') :: (L ++ [(D, HO.lst (xs.map V.int))])).set (L.length + 1) (D, .lst (xs.map V.int ++ [V.int x]))) = ((r, rowO a q'') :: (L ++ [(D, .lst ((xs ++ [x]).map V.int))])) by
          simp] at T
        exact T
  · rintro H' ⟨_, xs, q', hx, hC, ok, S'⟩
    exact k D xs q' H' hD hx hC ok S'.dropM
end

/-! ### the sums by weights; another number gives other sums -/
def oneR (ns : List Int) : Int := match ns with
  | [] => 0
  | n :: r => (n + 1) + oneR r
def twoR (ns : List Int) : Int := match ns with
  | [] => 0
  | n :: r => ((r.length : Int) + 1) * (n + 1) + twoR r
theorem sums_raw (ns : List Int) : ∀ s : Int × Int, 0 ≤ s.1 → s.1 < 9973 → 0 ≤ s.2 → s.2 < 9973 → ns.foldl sstep s = ((s.1 + oneR ns) % 9973, (s.2 + (ns.length : Int) * s.1 + twoR ns) % 9973) := by
  induction ns with
  | nil =>
    intro s h1 h2 h3 h4
    simp only [List.foldl_nil, oneR, twoR, List.length_nil]
    ext
    · simp only; omega
    · simp only; omega
  | cons n r ih =>
    intro s h1 h2 h3 h4
    rw [List.foldl_cons, ih (sstep s n) (Int.emod_nonneg _ (by decide)) (Int.emod_lt_of_pos _ (by decide)) (Int.emod_nonneg _ (by decide)) (Int.emod_lt_of_pos _ (by decide))]
    unfold sstep
    simp only [oneR, twoR, List.length_cons]
    ext
    · simp only; omega
    · simp only
      have e : ∀ (x y z w : Int), ((x % 9973) + y * (z % 9973) + w) % 9973 = (x + y * z + w) % 9973 := by
        intro x y z w
        have a : (y * (z % 9973)) % 9973 = (y * z) % 9973 := by rw [Int.mul_emod y (z % 9973), Int.emod_emod_of_dvd _ (Int.dvd_refl _), ← Int.mul_emod]
        generalize y * (z % 9973) = u at *
        generalize y * z = u' at *
        omega
      have e2 : ∀ (x z : Int), (x + z % 9973) % 9973 = (x + z) % 9973 := by intro x z; omega
      rw [e2 s.2, e]
      congr 1
      push_cast
      grind
theorem sums_is (ns : List Int) : sumsF ns = (oneR ns % 9973, twoR ns % 9973) := by
  unfold sumsF
  rw [sums_raw ns (0, 0) (by decide) (by decide) (by decide) (by decide)]
  simp
theorem oneR_set : ∀ {ns : List Int} {i : Nat} {n : Int} (x : Int), ns[i]? = some n → oneR (ns.set i x) = oneR ns + (x - n)
  | [], _, _, _, h => by simp at h
  | m :: r, 0, n, x, h => by
    simp at h; subst h
    simp only [List.set_cons_zero, oneR]; omega
  | m :: r, i + 1, n, x, h => by
    simp only [List.set_cons_succ, oneR]
    rw [oneR_set x (by simpa using h)]; omega
theorem twoR_set : ∀ {ns : List Int} {i : Nat} {n : Int} (x : Int), ns[i]? = some n → twoR (ns.set i x) = twoR ns + ((ns.length : Int) - i) * (x - n)
  | [], _, _, _, h => by simp at h
  | m :: r, 0, n, x, h => by
    simp at h; subst h
    simp only [List.set_cons_zero, twoR, List.length_cons]
    push_cast
    have : ((r.length : Int) + 1) * (x + 1) = ((r.length : Int) + 1) * (m + 1) + ((r.length : Int) + 1) * (x - m) := by rw [← Int.mul_add]; congr 1; omega
    rw [this]; simp; omega
  | m :: r, i + 1, n, x, h => by
    simp only [List.set_cons_succ, twoR, List.length_set, List.length_cons]
    rw [twoR_set x (by simpa using h)]
    push_cast
    rw [show ((r.length : Int) + 1 - ((i : Int) + 1)) = (r.length : Int) - i by omega]; omega
theorem prime_small : ∀ d : Nat, d < 100 → 2 ≤ d → ¬ d ∣ 9973 := by decide +kernel
theorem coprime_of {c : Nat} (h0 : 0 < c) (h1 : c < 9973) : Nat.Coprime 9973 c := by
  have hg : Nat.gcd 9973 c ∣ 9973 := Nat.gcd_dvd_left _ _
  have hc : Nat.gcd 9973 c ≤ c := Nat.le_of_dvd h0 (Nat.gcd_dvd_right _ _)
  have hpos : 0 < Nat.gcd 9973 c := Nat.gcd_pos_of_pos_left _ (by decide)
  obtain ⟨e, he⟩ := hg
  unfold Nat.Coprime
  generalize Nat.gcd 9973 c = g at *
  by_cases h : g = 1
  · exact h
  · exfalso
    by_cases hg : g < 100
    · exact prime_small g hg (by omega) ⟨e, he⟩
    · have he1 : e < 100 := by
        rcases Nat.lt_or_ge e 100 with z | z
        · exact z
        · have := Nat.mul_le_mul (show 100 ≤ g by omega) z
          omega
      have he2 : 2 ≤ e := by
        rcases Nat.lt_or_ge e 2 with z | z
        · have : e = 0 ∨ e = 1 := by omega
          rcases this with rfl | rfl
          · simp at he
          · simp at he; omega
        · exact z
      exact prime_small e he1 he2 ⟨g, by rw [Nat.mul_comm]; exact he⟩
/-- 9973 is a prime -/
theorem pmul {c d : Int} (h0 : c % 9973 ≠ 0) (h : (c * d) % 9973 = 0) : d % 9973 = 0 := by
  have h1 : (9973 : Int) ∣ c * d := Int.dvd_of_emod_eq_zero h
  have h2 : (9973 : Nat) ∣ c.natAbs * d.natAbs := by
    rw [← Int.natAbs_mul]
    exact Int.ofNat_dvd_left.mp h1
  have hcop : Nat.Coprime 9973 c.natAbs := by
    have a1 : 0 < c.natAbs % 9973 := by omega
    have a2 : c.natAbs % 9973 < 9973 := Nat.mod_lt _ (by decide)
    have := coprime_of a1 a2
    unfold Nat.Coprime at *
    rw [Nat.gcd_rec, Nat.gcd_comm]
    exact this
  have h3 := hcop.dvd_of_dvd_mul_left h2
  have h4 : (9973 : Int) ∣ d := Int.ofNat_dvd_left.mpr h3
  exact Int.emod_eq_zero_of_dvd h4
theorem kstep_inj {key s t n : Int} (hk : key % 9973 ≠ 0) (s0 : 0 ≤ s) (s1 : s < 9973) (t0 : 0 ≤ t) (t1 : t < 9973) (h : kstep key s n = kstep key t n) : s = t := by
  unfold kstep at h
  have h1 : (key * (s - t)) % 9973 = 0 := by
    rw [Int.mul_sub, Int.mul_comm key s, Int.mul_comm key t]
    generalize s * key = u at *
    generalize t * key = v at *
    omega
  have := pmul hk h1
  omega
theorem kfold_inj {key : Int} (hk : key % 9973 ≠ 0) : ∀ (r : List Int) {s t : Int}, 0 ≤ s → s < 9973 → 0 ≤ t → t < 9973 → r.foldl (kstep key) s = r.foldl (kstep key) t → s = t
  | [], s, t, _, _, _, _, h => h
  | n :: r, s, t, s0, s1, t0, t1, h => by
    have := kfold_inj hk r (s := kstep key s n) (t := kstep key t n) (Int.emod_nonneg _ (by decide)) (Int.emod_lt_of_pos _ (by decide)) (Int.emod_nonneg _ (by decide)) (Int.emod_lt_of_pos _ (by decide)) h
    exact kstep_inj hk s0 s1 t0 t1 this
theorem seal_set {key : Int} (hk0 : 0 < key) (hk1 : key < 9973) : ∀ {ns : List Int} {i : Nat} {n x : Int} {s : Int}, ns[i]? = some n → 0 ≤ n → n < 9973 → 0 ≤ x → x < 9973 → x ≠ n → 0 ≤ s → s < 9973 → (ns.set i x).foldl (kstep key) s ≠ ns.foldl (kstep key) s
  | [], _, _, _, _, h, _, _, _, _, _, _, _ => by simp at h
  | m :: r, 0, n, x, s, h, n0, n1, x0, x1, ne, s0, s1 => by
    simp at h; subst h
    simp only [List.set_cons_zero, List.foldl_cons]
    intro e
    have := kfold_inj (by omega) r (Int.emod_nonneg _ (by decide)) (Int.emod_lt_of_pos _ (by decide)) (Int.emod_nonneg _ (by decide)) (Int.emod_lt_of_pos _ (by decide)) e
    unfold kstep at this
    generalize s * key = u at *
    omega
  | m :: r, i + 1, n, x, s, h, n0, n1, x0, x1, ne, s0, s1 => by
    simp only [List.set_cons_succ, List.foldl_cons]
    exact seal_set hk0 hk1 (by simpa using h) n0 n1 x0 x1 ne (Int.emod_nonneg _ (by decide)) (Int.emod_lt_of_pos _ (by decide))

/-! ### the built-ins' readings by names -/
def NewO (H : Hp) (o : HO) (Q : VK) : Prop := ∀ p, H p = none → Q (.ref p) (upd H p o)
def rLen (K : PySem.W.Frag) : List V → Hp → VK → Prop := fun xs H Q => ∃ p ys, xs = [.ref p] ∧ (SqL K H p ys ∨ SqT K H p ys) ∧ Q (.int ys.length) H
def rListOf (K : PySem.W.Frag) : List V → Hp → VK → Prop := fun xs H Q => ∃ p ys, xs = [.ref p] ∧ (SqL K H p ys ∨ SqT K H p ys) ∧ ∀ l, H l = none → Q (.ref l) (upd H l (.lst ys))
def rTupOf (K : PySem.W.Frag) : List V → Hp → VK → Prop := fun xs H Q => ∃ p ys, xs = [.ref p] ∧ ((SqL K H p ys ∧ ∀ l, H l = none → Q (.ref l) (upd H l (.tup ys))) ∨ (SqT K H p ys ∧ Q (.ref p) H))
def rInt1 : List V → Hp → VK → Prop := fun xs H Q => (∃ i, xs = [.int i] ∧ Q (.int i) H) ∨ ∃ k, xs = [.bl k] ∧ Q (.int (if k then 1 else 0)) H
def rMin2 : List V → Hp → VK → Prop := fun xs H Q => ∃ i j, xs = [.int i, .int j] ∧ Q (.int (if j < i then j else i)) H
def rMax2 : List V → Hp → VK → Prop := fun xs H Q => ∃ i j, xs = [.int i, .int j] ∧ Q (.int (if j > i then j else i)) H
def rIsN : R2 := fun x y H Q => y = .non ∧ Q (.bl (decide (x = .non))) H
def rNotN : R2 := fun x y H Q => y = .non ∧ Q (.bl (!decide (x = .non))) H
section
variable {X : Cx}
theorem c_len : CallR X (.builtin "len") (rLen X.K) := call_len_seq
theorem c_list : CallR X (.type "list") (rListOf X.K) := call_list_of
theorem c_tuple : CallR X (.type "tuple") (rTupOf X.K) := call_tuple_of
theorem c_int : CallR X (.type "int") rInt1 := call_int1
theorem c_min2 (hc : X.calm = true) : CallR X (.builtin "min") rMin2 := call_min2 hc
theorem c_max2 (hc : X.calm = true) : CallR X (.builtin "max") rMax2 := call_max2 hc
theorem c_isN : OpR X (compareOp .Is) rIsN := op_isN
theorem c_notN : OpR X (compareOp .IsNot) rNotN := op_notN
end
section
variable {K : PySem.W.Frag} {σ : L2.St} {H : Hp} {H0 : Bs} {M : List Addr} {o : HO} {L : List (Addr × HO)} {Ds : List (PyData × V)} {Q : VK} {n : Prop} {p : Addr} {xs ys : List V} {tA : TA} {te : TE} {tl th : TO} {x : V} {i j : Int} {b : Bool}
theorem n_al (S : Sy K H0 M H L Ds) (q : ∀ p H', H p = none → H0 p = none → Sy K H0 M H' (L ++ [(p, o)]) Ds → Q (.ref p) H') : NewO H o Q := fun p hp => q p _ hp (S.free hp) (S.new hp)
theorem n_alM (S : Sy K H0 M H L Ds) (q : ∀ p H', H p = none → H0 p = none → Sy K H0 (p :: M) H' (L ++ [(p, o)]) Ds → Q (.ref p) H') : NewO H o Q := x_alM S q
theorem n_tup (q : tA σ H fun xs H1 => xs.length ≤ sizeLine ∧ NewO H1 (.tup xs) Q) : tTup tA σ H Q := q
theorem n_lst (q : tA σ H fun xs H1 => xs.length ≤ sizeLine ∧ NewO H1 (.lst xs) Q) : tLst tA σ H Q := q
theorem n_len (h : SqE K H p xs) (q : Q (.int xs.length) H) : rLen K [.ref p] H Q := ⟨p, xs, rfl, h, q⟩
theorem n_list (h : SqE K H p xs) (q : NewO H (.lst xs) Q) : rListOf K [.ref p] H Q := ⟨p, xs, rfl, h, q⟩
theorem n_tupleL (h : SqL K H p xs) (q : NewO H (.tup xs) Q) : rTupOf K [.ref p] H Q := ⟨p, xs, rfl, .inl ⟨h, q⟩⟩
theorem n_tupleT (h : SqT K H p xs) (q : Q (.ref p) H) : rTupOf K [.ref p] H Q := ⟨p, xs, rfl, .inr ⟨h, q⟩⟩
theorem n_intI (q : Q (.int i) H) : rInt1 [.int i] H Q := .inl ⟨i, rfl, q⟩
theorem n_intB (q : Q (.int (if b then 1 else 0)) H) : rInt1 [.bl b] H Q := .inr ⟨b, rfl, q⟩
theorem n_min2 (q : Q (.int (if j < i then j else i)) H) : rMin2 [.int i, .int j] H Q := ⟨i, j, rfl, q⟩
theorem n_max2 (q : Q (.int (if j > i then j else i)) H) : rMax2 [.int i, .int j] H Q := ⟨i, j, rfl, q⟩
theorem n_isN (q : Q (.bl (decide (x = .non))) H) : rIsN x .non H Q := ⟨rfl, q⟩
theorem n_notN (q : Q (.bl (!decide (x = .non))) H) : rNotN x .non H Q := ⟨rfl, q⟩
theorem n_sl {r : V → Option Int → Option Int → Hp → VK → Prop} (q : te σ H fun x H1 => tl σ H1 fun l H2 => th σ H2 fun u H3 => r x l u H3 Q) : tSl r te tl th σ H Q := q
theorem n_slL {lo hi : Option Int} (h : SqL K H p xs) (q : NewO H (.lst (cutV xs lo hi)) Q) : rSlL K (.ref p) lo hi H Q := ⟨p, xs, rfl, h, q⟩
theorem n_noPart {Q : Option Int → Hp → Prop} (q : Q none H) : tNoPart σ H Q := q
theorem n_part {Q : Option Int → Hp → Prop} (q : te σ H fun x H1 => ∃ i, x = .int i ∧ Q (some i) H1) : tPart te σ H Q := q
theorem n_i {P : Int → Prop} (q : P i) : ∃ j, V.int i = .int j ∧ P j := ⟨i, rfl, q⟩
theorem n_cat {a : Addr} (h1 : H p = some (.lst xs)) (h2 : H a = some (.lst ys)) (hz : xs.length + ys.length ≤ 16777216) (q : NewO H (.lst (xs ++ ys)) Q) : rCat (.ref p) (.ref a) H Q := ⟨p, a, xs, ys, rfl, rfl, h1, h2, szL hz, q⟩
theorem n_rep (h1 : H p = some (.lst xs)) (k0 : -(2 ^ 63) ≤ i) (k1 : i < 2 ^ 63) (hz : xs.length * i.toNat ≤ 16777216) (q : NewO H (.lst (List.replicate i.toNat xs).flatten) Q) : rRep (.ref p) (.int i) H Q := ⟨p, i, xs, rfl, rfl, h1, k0, k1, szL hz, q⟩
theorem n_catT {a : Addr} (h1 : SqT K H p xs) (h2 : SqT K H a ys) (hn : xs ≠ []) (hn2 : ys ≠ []) (hz : xs.length + ys.length ≤ 16777216) (q : NewO H (.tup (xs ++ ys)) Q) : rCatT K (.ref p) (.ref a) H Q := by
  refine ⟨p, a, xs, ys, rfl, rfl, h1, h2, hn, szL hz, ?_⟩
  first
    | exact ⟨fun z => absurd z hn2, fun _ => q⟩
    | exact ⟨fun z => absurd z hn2, q⟩
    | (refine ite2 (fun z => absurd z hn2) (fun _ => q))
theorem n_app (S : Sy K H0 M H L Ds) (i : Nat) {v : V} (h : L[i]? = some (p, .lst xs)) (m : p ∈ M ∧ H0.may p) (hz : xs.length < 16777216) (q : ∀ H', Sy K H0 M H' (L.set i (p, .lst (xs ++ [v]))) Ds → Q .non H') : rAppend (.ref p) [v] H Q := x_app S i h m hz q
theorem n_bm {T : String} {r : V → List V → Hp → VK → Prop} (q : te σ H fun x H1 => tyV K T x H1 ∧ tA σ H1 fun xs H2 => r x xs H2 Q) : tBM K T r te tA σ H Q := q
theorem ty_list (h : SqL K H p xs) : tyV K "list" (.ref p) H := .inl ⟨rfl, _, h⟩
theorem n_eqD {d e : PyData} {v u : V} (h1 : Dp K H v d) (h2 : Dp K H u e) (s1 : SeqAt.shaped d = true) (s2 : SeqAt.shaped e = true) (q : Q (.bl (PyData.eqv d e)) H) : rEqD K v u H Q := ⟨d, e, h1, h2, s1, s2, q⟩
theorem n_neD {d e : PyData} {v u : V} (h1 : Dp K H v d) (h2 : Dp K H u e) (s1 : SeqAt.shaped d = true) (s2 : SeqAt.shaped e = true) (q : Q (.bl (!PyData.eqv d e)) H) : rNeD K v u H Q := ⟨d, e, h1, h2, s1, s2, q⟩
theorem dpa_ints : ∀ ns : List Int, DpAll K H (ns.map V.int) (ns.map PyData.int)
  | [] => .nil
  | n :: r => .cons (.int n) (dpa_ints r)
end

/-! ### == of flat lists -/
def od : Option Int → PyData
  | none => .none
  | some i => .int i
theorem eqvAll_ints : ∀ ns ms : List Int, PyData.eqvAll (ns.map .int) (ms.map .int) = decide (ns = ms)
  | [], [] => by simp [PyData.eqvAll]
  | [], m :: r => by simp [PyData.eqvAll]
  | n :: r, [] => by simp [PyData.eqvAll]
  | n :: r, m :: t => by
    simp only [List.map_cons, PyData.eqvAll, PyData.eqv, eqvAll_ints r t, List.cons.injEq, Bool.decide_and]
    rw [show (n == m) = decide (n = m) by rfl]
theorem eqvAll_od : ∀ ns ms : List (Option Int), PyData.eqvAll (ns.map od) (ms.map od) = decide (ns = ms)
  | [], [] => by simp [PyData.eqvAll]
  | [], m :: r => by simp [PyData.eqvAll]
  | n :: r, [] => by simp [PyData.eqvAll]
  | n :: r, m :: t => by
    simp only [List.map_cons, PyData.eqvAll, eqvAll_od r t, List.cons.injEq, Bool.decide_and]
    congr 1
    cases n <;> cases m <;> simp [od, PyData.eqv]
    rfl
theorem lay_ints : ∀ ns : List Int, PyData.canLayAll0 (ns.map .int) = true
  | [] => by simp [PyData.canLayAll0]
  | n :: r => by simp [PyData.canLayAll0, PyData.canLay0, lay_ints r]
theorem dep_ints : ∀ ns : List Int, PyData.depthAll (ns.map .int) = 0
  | [] => by simp [PyData.depthAll]
  | n :: r => by simp [PyData.depthAll, PyData.depth, dep_ints r]
theorem lay_od : ∀ ns : List (Option Int), PyData.canLayAll0 (ns.map od) = true
  | [] => by simp [PyData.canLayAll0]
  | n :: r => by cases n <;> simp [PyData.canLayAll0, PyData.canLay0, lay_od r, od]
theorem dep_od : ∀ ns : List (Option Int), PyData.depthAll (ns.map od) = 0
  | [] => by simp [PyData.depthAll]
  | n :: r => by cases n <;> simp [PyData.depthAll, PyData.depth, dep_od r, od]
theorem sh_ints (ns : List Int) : SeqAt.shaped (.list (ns.map .int)) = true := by simp [SeqAt.shaped, PyData.canLay0, PyData.depth, lay_ints, dep_ints]
theorem sh_intsT (ns : List Int) : SeqAt.shaped (.tuple (ns.map .int)) = true := by simp [SeqAt.shaped, PyData.canLay0, PyData.depth, lay_ints, dep_ints]
theorem sh_od (ns : List (Option Int)) : SeqAt.shaped (.list (ns.map od)) = true := by simp [SeqAt.shaped, PyData.canLay0, PyData.depth, lay_od, dep_od]
section
variable {K : PySem.W.Frag} {H : Hp} {Q : VK} {a b : Addr}
theorem dpa_od : ∀ ns : List (Option Int), DpAll K H (ns.map ov) (ns.map od)
  | [] => .nil
  | none :: r => .cons .non (dpa_od r)
  | some n :: r => .cons (.int n) (dpa_od r)
/-- two lists of ints compared, two tuples -/
theorem n_eqLL {ns ms : List Int} (h1 : SqL K H a (ns.map V.int)) (h2 : SqL K H b (ms.map V.int)) (q : Q (.bl (decide (ns = ms))) H) : rEqD K (.ref a) (.ref b) H Q := by
  refine n_eqD (.lst h1 (dpa_ints ns)) (.lst h2 (dpa_ints ms)) (sh_ints ns) (sh_ints ms) ?_
  simp only [PyData.eqv, eqvAll_ints]; exact q
theorem n_neLL {ns ms : List Int} (h1 : SqL K H a (ns.map V.int)) (h2 : SqL K H b (ms.map V.int)) (q : Q (.bl (!decide (ns = ms))) H) : rNeD K (.ref a) (.ref b) H Q := by
  refine n_neD (.lst h1 (dpa_ints ns)) (.lst h2 (dpa_ints ms)) (sh_ints ns) (sh_ints ms) ?_
  simp only [PyData.eqv, eqvAll_ints]; exact q
theorem n_eqTT {ns ms : List Int} (h1 : SqT K H a (ns.map V.int)) (h2 : SqT K H b (ms.map V.int)) (q : Q (.bl (decide (ns = ms))) H) : rEqD K (.ref a) (.ref b) H Q := by
  refine n_eqD (.tup h1 (dpa_ints ns)) (.tup h2 (dpa_ints ms)) (sh_intsT ns) (sh_intsT ms) ?_
  simp only [PyData.eqv, eqvAll_ints]; exact q
theorem n_neTT {ns ms : List Int} (h1 : SqT K H a (ns.map V.int)) (h2 : SqT K H b (ms.map V.int)) (q : Q (.bl (!decide (ns = ms))) H) : rNeD K (.ref a) (.ref b) H Q := by
  refine n_neD (.tup h1 (dpa_ints ns)) (.tup h2 (dpa_ints ms)) (sh_intsT ns) (sh_intsT ms) ?_
  simp only [PyData.eqv, eqvAll_ints]; exact q
theorem n_eqOO {ns ms : List (Option Int)} (h1 : SqL K H a (ns.map ov)) (h2 : SqL K H b (ms.map ov)) (q : Q (.bl (decide (ns = ms))) H) : rEqD K (.ref a) (.ref b) H Q := by
  refine n_eqD (.lst h1 (dpa_od ns)) (.lst h2 (dpa_od ms)) (sh_od ns) (sh_od ms) ?_
  simp only [PyData.eqv, eqvAll_od]; exact q
theorem n_neOO {ns ms : List (Option Int)} (h1 : SqL K H a (ns.map ov)) (h2 : SqL K H b (ms.map ov)) (q : Q (.bl (!decide (ns = ms))) H) : rNeD K (.ref a) (.ref b) H Q := by
  refine n_neD (.lst h1 (dpa_od ns)) (.lst h2 (dpa_od ms)) (sh_od ns) (sh_od ms) ?_
  simp only [PyData.eqv, eqvAll_od]; exact q
/-- sums of a list of whole numbers -/
theorem use_sums {H0 : Bs} {M : List Addr} {L : List (Addr × HO)} {Ds : List (PyData × V)} {E : XK} {ns : List Int} (S : Sy K H0 M H L Ds) (h : SqE K H a (ns.map V.int))
    (k : ∀ t H', H t = none → Sy K H0 M H' (L ++ [(t, .tup [.int (sumsF ns).1, .int (sumsF ns).2])]) Ds → Q (.ref t) H') : spSums K [.ref a] H Q E := by
  refine ⟨a, ns.map some, rfl, by rw [← ints_ov]; exact h, fun z => ?_, fun ms t hm ht => ?_⟩
  · rw [allI_some] at z; cases z
  · rw [allI_some] at hm; cases hm
    exact k t _ ht (S.new ht)
theorem use_seal {E : XK} {key : Int} {ns : List Int} (h : SqE K H a (ns.map V.int)) (k0 : 0 ≤ key) (k1 : key < 9973) (k : Q (.int (sealF key ns)) H) : spSeal K [.int key, .ref a] H Q E := ⟨key, a, ns, rfl, k0, k1, h, k⟩
end

/-! ### comprehensions, targets -/
section
variable {K : PySem.W.Frag} {σ : L2.St} {H : Hp} {H0 : Bs} {M : List Addr} {L : List (Addr × HO)} {Ds : List (PyData × V)} {Q : VK} {wi : TI} {g : TG} {gs : TGs} {tt : TT} {te tl : TE} {vs : List Nat} {a p : Addr} {xs : List V} {v : V} {n j : Nat}
theorem x_lc (q : wi σ H (LcO g tt te vs σ Q)) : tLc wi g tt te vs σ H Q := q
theorem x_iL {R : It → Hp → Prop} (q : tl σ H fun x H1 => ∃ a, x = .ref a ∧ (∃ xs, SqL K H1 a xs) ∧ R (Itl K a) H1) : iList K tl σ H R := q
theorem x_iLa {R : It → Hp → Prop} (h : SqL K H a xs) (q : R (Itl K a) H) : ∃ b, V.ref a = .ref b ∧ (∃ xs, SqL K H b xs) ∧ R (Itl K b) H := ⟨a, rfl, ⟨xs, h⟩, q⟩
theorem x_iT {R : It → Hp → Prop} (q : tl σ H fun x H1 => ∃ a, x = .ref a ∧ (∃ xs, SqT K H1 a xs) ∧ R (Itt K a) H1) : iTup K tl σ H R := q
theorem x_iTa {R : It → Hp → Prop} (h : SqT K H a xs) (q : R (Itt K a) H) : ∃ b, V.ref a = .ref b ∧ (∃ xs, SqT K H b xs) ∧ R (Itt K b) H := ⟨a, rfl, ⟨xs, h⟩, q⟩
theorem x_gtup {Q : L2.St → Hp → Prop} (h : SqT K H a xs) (e : xs.length = n) (q : gs xs σ H Q) : gTup K n gs (.ref a) σ H Q := ⟨a, xs, rfl, h, e, q⟩
theorem x_gcons {Q : L2.St → Hp → Prop} (q : g v σ H fun σ' H' => gs xs σ' H' Q) : gCons g gs (v :: xs) σ H Q := ⟨v, xs, rfl, q⟩
theorem x_gnil {Q : L2.St → Hp → Prop} (q : Q σ H) : gNil [] σ H Q := ⟨rfl, q⟩
theorem wipe_one (x : Option V) : wipe ((wipe σ [j]).set j x) [j] = wipe σ [j] := by
  show ((((σ.set j none).set j _)).set j none) = σ.set j none
  rw [List.set_set, List.set_set]
/-- a comprehension over a list none of whose items is kept -/
theorem lc_none (S : Sy K H0 M H L Ds) (i : Nat) (hx : L[i]? = some (p, .lst xs))
    (ht : ∀ (j' : Nat) (x : V) (D : Addr) (H' : Hp) (Q' : Bool → Hp → Prop), xs[j']? = some x → Sy K H0 (D :: M) H' (L ++ [(D, .lst [])]) Ds → (∀ H'', Sy K H0 (D :: M) H'' (L ++ [(D, .lst [])]) Ds → Q' false H'') → tt ((σ.set j none).set j (some x)) H' Q')
    (k : ∀ D H', H D = none → Sy K H0 M H' (L ++ [(D, .lst [])]) Ds → Q (.ref D) H') :
    LcO (gName j) tt te [j] σ Q (Itl K p) H := by
  intro D hD
  have DF := S.free hD
  have hx' : (L ++ [(D, HO.lst [])])[i]? = some (p, .lst xs) := by
    rw [List.getElem?_append_left (List.getElem?_eq_some_iff.mp hx).1]; exact hx
  refine lc_list (xs := xs) (fun _ H' => Sy K H0 (D :: M) H' (L ++ [(D, .lst [])]) Ds) (S.newM hD) (fun _ H' _ S' => S'.sl i hx') ?_ ?_
  · intro i' x H' hi S'
    refine ⟨wipe_one _, ?_⟩
    refine ht i' x D H' _ hi S' fun H'' S'' => ?_
    refine x_iteF rfl S''
  · intro H' S'
    exact k D H' hD S'.dropM
theorem n_eqS {s t : Int × Int} {b : Addr} (h1 : SqT K H a [.int s.1, .int s.2]) (h2 : SqT K H b [.int t.1, .int t.2]) (q : Q (.bl (decide (s = t))) H) : rEqD K (.ref a) (.ref b) H Q := by
  refine n_eqTT (ns := [s.1, s.2]) (ms := [t.1, t.2]) h1 h2 ?_
  have e : decide (([s.1, s.2] : List Int) = [t.1, t.2]) = decide (s = t) := by
    rw [Bool.eq_iff_iff]; simp only [decide_eq_true_eq, List.cons.injEq, and_true]
    exact ⟨fun z => Prod.ext z.1 z.2, fun z => by rw [z]; exact ⟨rfl, rfl⟩⟩
  rw [e]; exact q
theorem n_neS {s t : Int × Int} {b : Addr} (h1 : SqT K H a [.int s.1, .int s.2]) (h2 : SqT K H b [.int t.1, .int t.2]) (q : Q (.bl (!decide (s = t))) H) : rNeD K (.ref a) (.ref b) H Q := by
  refine n_neTT (ns := [s.1, s.2]) (ms := [t.1, t.2]) h1 h2 ?_
  have e : decide (([s.1, s.2] : List Int) = [t.1, t.2]) = decide (s = t) := by
    rw [Bool.eq_iff_iff]; simp only [decide_eq_true_eq, List.cons.injEq, and_true]
    exact ⟨fun z => Prod.ext z.1 z.2, fun z => by rw [z]; exact ⟨rfl, rfl⟩⟩
  rw [e]; exact q
end

/-! ### the rules that name the written part, K said -/
section
variable {X : Cx} {K : PySem.W.Frag} {e l a b : Expr} {ta tb tl : TE} {tA : TA} {tg : Expr} {pos : Pos}
theorem b_eqD (hu : X.A.units + 64 < cLine) (e : X.K = K := by rfl) : OpR X (compareOp .Eq) (rEqD K) := by subst e; exact op_eqD hu
theorem b_neD (hu : X.A.units + 64 < cLine) (e : X.K = K := by rfl) : OpR X (compareOp .NotEq) (rNeD K) := by subst e; exact op_neD hu
theorem b_ixL (e : X.K = K := by rfl) : IxR X (rIxL K) := by subst e; exact ix_list
theorem b_ixT (e : X.K = K := by rfl) : IxR X (rIxT K) := by subst e; exact ix_tup
theorem b_in (e : X.K = K := by rfl) : OpR X (compareOp .In) (rIn K false) := by subst e; exact op_in_seq
theorem b_notIn (e : X.K = K := by rfl) : OpR X (compareOp .NotIn) (rIn K true) := by subst e; exact op_notIn_seq
theorem b_len (e : X.K = K := by rfl) : CallR X (.builtin "len") (rLen K) := by subst e; exact c_len
theorem b_list (e : X.K = K := by rfl) : CallR X (.type "list") (rListOf K) := by subst e; exact c_list
theorem b_tuple (e : X.K = K := by rfl) : CallR X (.type "tuple") (rTupOf K) := by subst e; exact c_tuple
theorem b_slL (e : X.K = K := by rfl) : SlR X (rSlL K) := by subst e; exact sl_list
theorem b_slT (e : X.K = K := by rfl) : SlR X (rSlT K) := by subst e; exact sl_tup
theorem b_catT (e : X.K = K := by rfl) : OpR X (binaryOp .Add) (rCatT K) := by subst e; exact op_catT
theorem b_sum (hc : X.calm = true) (e : X.K = K := by rfl) : CallR X (.builtin "sum") (rSum K) := by subst e; exact cr_sum hc
theorem b_max (hc : X.calm = true) (e : X.K = K := by rfl) : CallR X (.builtin "max") (rMax K) := by subst e; exact cr_max hc
theorem b_min (hc : X.calm = true) (e : X.K = K := by rfl) : CallR X (.builtin "min") (rMin K) := by subst e; exact cr_min hc
theorem b_iL (hl : PE X l tl) (e : X.K = K := by rfl) : PI X tg l (iList K tl) := by subst e; exact pi_list hl
theorem b_iT (hl : PE X l tl) (e : X.K = K := by rfl) : PI X tg l (iTup K tl) := by subst e; exact pi_tup hl
theorem b_iE (hl : PE X l tl) (e : X.K = K := by rfl) : PI X tg l (iEi K tl) := by subst e; exact pi_ei hl
end

/-! ### kinds of data; isinstance; subscripts of a list or a tuple -/
def pyTy : PyData → String
  | .none => "NoneType"
  | .bool _ => "bool"
  | .int _ => "int"
  | .str _ => "str"
  | .list _ => "list"
  | .tuple _ => "tuple"
  | .dict _ => "dict"
section
variable {X : Cx} {K : PySem.W.Frag} {M : List Addr} {H : Hp} {d : PyData} {v : V} {Q : VK} {a p : Addr} {xs : List V} {n : String} {b : Bool}
theorem tyx_l (h : SqL K H a xs) : TyX K H (.ref a) (.type "list") := by
  rcases h with (h | ⟨o, h⟩) | ⟨o, its, n, h, c, _⟩
  · exact .base (.lst h)
  · exact .base (.frz h)
  · exact .kList h c
theorem tyx_t (h : SqT K H a xs) : TyX K H (.ref a) (.type "tuple") := by
  rcases h with (h | ⟨o, h⟩) | ⟨o, its, n, h, c, _⟩
  · exact .base (.tup h)
  · exact .fTuple h
  · exact .kTuple h c
theorem tyx_of (h : Dt K M H d v) : TyX K H v (.type (pyTy d)) := by
  cases d with
  | none => simp only [Dt] at h; subst h; exact .base .non
  | bool b => simp only [Dt] at h; subst h; exact .base (.bl b)
  | int i => simp only [Dt] at h; subst h; exact .base (.int i)
  | str s => simp only [Dt] at h; subst h; exact .base (.str s)
  | list ds => simp only [Dt] at h; obtain ⟨a, xs, rfl, s, _⟩ := h; exact tyx_l s.1
  | tuple ds => simp only [Dt] at h; obtain ⟨a, xs, rfl, s, _⟩ := h; exact tyx_t s.1
  | dict kvs => simp only [Dt] at h
theorem b_isi (e : X.K = K := by rfl) : CallR X (.builtin "isinstance") (rIsi K) := by subst e; exact call_isi
theorem b_isiT (e : X.K = K := by rfl) : CallR X (.builtin "isinstance") (rIsiT K) := by subst e; exact call_isiT
theorem b_ix (e : X.K = K := by rfl) : IxR X (rIx K) := by subst e; exact ix_seq
theorem n_isi (h : Dt K M H d v) (e : kitB (pyTy d) n = some b) (q : Q (.bl b) H) : rIsi K [v, .ty n] H Q := ⟨v, .ty n, _, .type n, b, rfl, .ty n, tyx_of h, kit_ty e, q⟩
theorem n_isiT2 {n1 n2 : String} {b1 b2 : Bool} (h : Dt K M H d v) (hp : H p = some (.tup [.ty n1, .ty n2])) (e1 : kitB (pyTy d) n1 = some b1) (e2 : kitB (pyTy d) n2 = some b2) (q : Q (.bl (b1 || b2)) H) : rIsiT K [v, .ref p] H Q := by
  refine ⟨v, p, [.ty n1, .ty n2], _, [.type n1, .type n2], b1 || b2, rfl, hp, .cons (.ty n1) (.cons (.ty n2) .nil), tyx_of h, ?_, q⟩
  refine kitAny_cons (kit_ty e1) (fun z => ?_) (fun z => by rw [z]; rfl)
  subst z
  refine kitAny_cons (kit_ty e2) (fun z => ?_) (fun z => by rw [z]; rfl)
  subst z
  exact kitAny_nil
theorem n_ixE {i : Int} (h : SqE K H p xs) (ha : atI xs i = some v) (q : Q v H) : rIx K (.ref p) (.int i) H Q := by
  rcases h with h | h
  · exact .inl ⟨p, xs, i, v, rfl, rfl, h, ha, q⟩
  · exact .inr (.inl ⟨p, xs, i, v, rfl, rfl, h, ha, q⟩)
end
/-! ### data alike -/
def okD : PyData → Bool
  | .list ds => decide (ds.length ≤ 100000) && okDL ds
  | .tuple ds => decide (ds.length ≤ 100000) && okDL ds
  | .dict _ => false
  | _ => true
where okDL : List PyData → Bool
  | [] => true
  | d :: r => okD d && okDL r
theorem okDL_at : ∀ {ds : List PyData} {i : Nat} {d : PyData}, okD.okDL ds = true → ds[i]? = some d → okD d = true
  | [], _, _, _, e => by simp at e
  | d :: r, 0, x, h, e => by
    simp at e; subst e
    simp only [okD.okDL, Bool.and_eq_true] at h
    exact h.1
  | d :: r, i + 1, x, h, e => by
    simp only [okD.okDL, Bool.and_eq_true] at h
    exact okDL_at h.2 (by simpa using e)
theorem dep_at : ∀ {ds : List PyData} {i : Nat} {d : PyData}, ds[i]? = some d → d.depth ≤ PyData.depthAll ds
  | [], _, _, e => by simp at e
  | d :: r, 0, x, e => by
    simp at e; subst e
    simp only [PyData.depthAll]; omega
  | d :: r, i + 1, x, e => by
    simp only [PyData.depthAll]
    have := dep_at (ds := r) (i := i) (d := x) (by simpa using e)
    omega
def spAlike : Nat → PySem.W.Frag → Sp
  | 0, _ => fun _ _ _ _ => False
  | n + 1, K => fun vs H Q _ => ∃ (v u : V) (d : PyData), vs = [v, u] ∧ Dt K [] H d v ∧ Dt K [] H d u ∧ d.depth ≤ n ∧ okD d = true ∧ ∀ H', Fr [] H H' → Q (.bl true) H'
theorem fn_never {P : Program} {w : World} {K : PySem.W.Frag} {mg : Str → Option Value} {base : Heap} {CX : CXT} {k : Nat} {f : Addr} {fd : FuncData} {ps : List Str} : FnOk P w K mg base CX k f fd ps (fun _ _ _ _ => False) :=
  ⟨fun _ _ _ _ h => h.elim, fun _ _ _ _ _ _ _ _ _ _ _ _ _ h => h.elim⟩

/-! ### more comprehensions -/
section
variable {K : PySem.W.Frag} {σ : L2.St} {H : Hp} {H0 : Bs} {M : List Addr} {L : List (Addr × HO)} {Ds : List (PyData × V)} {Q : VK} {tt : TT} {te : TE} {p : Addr} {xs : List V} {n j : Nat}
theorem lc_noneR (S : Sy K H0 M H L Ds)
    (ht : ∀ (i : Nat) (D : Addr) (H' : Hp) (Q' : Bool → Hp → Prop), i < n → Sy K H0 (D :: M) H' (L ++ [(D, .lst [])]) Ds → (∀ H'', Sy K H0 (D :: M) H'' (L ++ [(D, .lst [])]) Ds → Q' false H'') → tt ((σ.set j none).set j (some (.int (0 + (i : Int))))) H' Q')
    (k : ∀ D H', H D = none → Sy K H0 M H' (L ++ [(D, .lst [])]) Ds → Q (.ref D) H') : LcO (gName j) tt te [j] σ Q (Itr 0 n) H := by
  intro D hD
  have DF := S.free hD
  refine lc_range (lo := 0) (n := n) (fun _ H' => Sy K H0 (D :: M) H' (L ++ [(D, .lst [])]) Ds) (S.newM hD) ?_ ?_
  · intro i H' hi S'
    refine ⟨wipe_one _, ?_⟩
    refine ht i D H' _ hi S' fun H'' S'' => ?_
    exact x_iteF rfl S''
  · intro H' S'
    exact k D H' hD S'.dropM
/-- [e for x in list], e's value f i, nothing else changed -/
theorem lc_mapL (S : Sy K H0 M H L Ds) (hx : ∀ (D : Addr) (acc : List V) (H' : Hp), Sy K H0 (D :: M) H' (L ++ [(D, .lst acc)]) Ds → SqL K H' p xs) (hz : xs.length ≤ 100000) (f : Nat → V)
    (hte : ∀ (i : Nat) (x : V) (D : Addr) (acc : List V) (H' : Hp) (Q' : VK), xs[i]? = some x → Sy K H0 (D :: M) H' (L ++ [(D, .lst acc)]) Ds → (∀ H'', Sy K H0 (D :: M) H'' (L ++ [(D, .lst acc)]) Ds → Q' (f i) H'') → te ((σ.set j none).set j (some x)) H' Q')
    (k : ∀ D H', H D = none → Sy K H0 M H' (L ++ [(D, .lst ((List.range xs.length).map f))]) Ds → Q (.ref D) H') : LcO (gName j) tYes te [j] σ Q (Itl K p) H := by
  intro D hD
  have DF := S.free hD
  refine lc_list (xs := xs) (fun i H' => i ≤ xs.length ∧ Sy K H0 (D :: M) H' (L ++ [(D, .lst ((List.range i).map f))]) Ds) ⟨Nat.zero_le _, S.newM hD⟩ (fun i H' _ S' => hx _ _ _ S'.2) ?_ ?_
  · rintro i x H' hi ⟨_, S'⟩
    refine ⟨wipe_one _, ?_⟩
    refine hte i x D _ H' _ hi S' fun H'' S'' => ?_
    have hlt := (List.getElem?_eq_some_iff.mp hi).1
    have gD : (L ++ [(D, HO.lst ((List.range i).map f))])[L.length]? = some (D, .lst ((List.range i).map f)) := by simp
    refine ⟨_, S''.get L.length gD, ?_, by omega, ?_⟩
    · rw [List.length_map, List.length_range]; exact szl (by omega)
    · have T := S''.set (o' := .lst ((List.range i).map f ++ [f i])) L.length gD ⟨List.mem_cons_self .., .inr DF⟩
      rw [show (L ++ [(D, HO.lst ((List.range i).map f))]).set L.length (D, .lst ((List.range i).map f ++ [f i])) = L ++ [(D, .lst ((List.range (i + 1)).map f))] by
        simp [List.range_succ]] at T
      exact T
  · rintro H' ⟨_, S'⟩
    exact k D H' hD S'.dropM
theorem lc_mapR (S : Sy K H0 M H L Ds) (hz : n ≤ 100000) (f : Nat → V)
    (hte : ∀ (i : Nat) (D : Addr) (acc : List V) (H' : Hp) (Q' : VK), i < n → Sy K H0 (D :: M) H' (L ++ [(D, .lst acc)]) Ds → (∀ H'', Sy K H0 (D :: M) H'' (L ++ [(D, .lst acc)]) Ds → Q' (f i) H'') → te ((σ.set j none).set j (some (.int (0 + (i : Int))))) H' Q')
    (k : ∀ D H', H D = none → Sy K H0 M H' (L ++ [(D, .lst ((List.range n).map f))]) Ds → Q (.ref D) H') : LcO (gName j) tYes te [j] σ Q (Itr 0 n) H := by
  intro D hD
  have DF := S.free hD
  refine lc_range (lo := 0) (n := n) (fun i H' => i ≤ n ∧ Sy K H0 (D :: M) H' (L ++ [(D, .lst ((List.range i).map f))]) Ds) ⟨Nat.zero_le _, S.newM hD⟩ ?_ ?_
  · rintro i H' hi ⟨_, S'⟩
    refine ⟨wipe_one _, ?_⟩
    refine hte i D _ H' _ hi S' fun H'' S'' => ?_
    have gD : (L ++ [(D, HO.lst ((List.range i).map f))])[L.length]? = some (D, .lst ((List.range i).map f)) := by simp
    refine ⟨_, S''.get L.length gD, ?_, by omega, ?_⟩
    · rw [List.length_map, List.length_range]; exact szl (by omega)
    · have T := S''.set (o' := .lst ((List.range i).map f ++ [f i])) L.length gD ⟨List.mem_cons_self .., .inr DF⟩
      rw [show (L ++ [(D, HO.lst ((List.range i).map f))]).set L.length (D, .lst ((List.range i).map f ++ [f i])) = L ++ [(D, .lst ((List.range (i + 1)).map f))] by
        simp [List.range_succ]] at T
      exact T
  · rintro H' ⟨_, S'⟩
    exact k D H' hD S'.dropM
theorem range_map_get {α β : Type} (f : α → β) : ∀ (xs : List α) (d : α), (List.range xs.length).map (fun i => f (xs.getD i d)) = xs.map f
  | [], d => rfl
  | x :: r, d => by
    rw [List.length_cons, List.range_succ_eq_map, List.map_cons, List.map_map]
    have ih := range_map_get f r d
    show f x :: List.map (fun i => f (r.getD i d)) (List.range r.length) = f x :: r.map f
    rw [ih]
theorem n_sum {ns : List Int} (h : SqL K H p (ns.map V.int)) (q : Q (.int ns.sum) H) : rSum K [.ref p] H Q := ⟨p, ns, rfl, h, q⟩
theorem n_in {x : V} {neg : Bool} (h : SqE K H p xs) (h1 : flatV x = true) (h2 : xs.all flatV = true) (q : Q (.bl (if neg then !inV x xs else inV x xs)) H) : rIn K neg x (.ref p) H Q := ⟨p, xs, rfl, h, h1, h2, q⟩
end
theorem flat_ov (xs : List (Option Int)) : (xs.map ov).all flatV = true := by
  simp only [List.all_map, List.all_eq_true]
  intro x _
  cases x <;> rfl
theorem inV_none (xs : List (Option Int)) : inV .non (xs.map ov) = decide (none ∈ xs) := by
  induction xs with
  | nil => rfl
  | cons x r ih =>
    unfold inV at *
    rw [List.map_cons, List.any_cons, ih]
    cases x <;> simp [ov, eqV]
/-! ### the sums by weights, the seal from its end, sums of rows one behind the other -/
theorem one_sum (ns : List Int) : (ns.map (· + 1)).sum = oneR ns := by
  induction ns with
  | nil => rfl
  | cons n r ih => simp only [List.map_cons, List.sum_cons, oneR, ih]
theorem two_sum (ns : List Int) : ((List.range ns.length).map fun (k : Nat) => ((ns.length : Int) - k) * (ns.getD k 0 + 1)).sum = twoR ns := by
  induction ns with
  | nil => rfl
  | cons n r ih =>
    rw [List.length_cons, List.range_succ_eq_map, List.map_cons, List.map_map, List.sum_cons, twoR, ← ih]
    have e1 : (List.range r.length).map ((fun (k : Nat) => (((r.length + 1 : Nat) : Int) - k) * ((n :: r).getD k 0 + 1)) ∘ Nat.succ) = (List.range r.length).map fun (k : Nat) => ((r.length : Int) - k) * (r.getD k 0 + 1) := by
      apply List.map_congr_left
      intro k _
      show (((r.length + 1 : Nat) : Int) - ((k + 1 : Nat) : Int)) * ((n :: r).getD (k + 1) 0 + 1) = _
      rw [List.getD_cons_succ, show (((r.length + 1 : Nat) : Int) - ((k + 1 : Nat) : Int)) = (r.length : Int) - k by omega]
    rw [e1]
    have e2 : (((r.length + 1 : Nat) : Int) - ((0 : Nat) : Int)) * ((n :: r).getD 0 0 + 1) = ((r.length : Int) + 1) * (n + 1) := by
      rw [List.getD_cons_zero]
      congr 1
    rw [e2]
theorem oneR_app (a b : List Int) : oneR (a ++ b) = oneR a + oneR b := by
  induction a with
  | nil => simp [oneR]
  | cons n r ih => simp only [List.cons_append, oneR, ih]; omega
theorem twoR_app (a b : List Int) : twoR (a ++ b) = twoR a + (b.length : Int) * oneR a + twoR b := by
  induction a with
  | nil => simp [twoR, oneR]
  | cons n r ih =>
    simp only [List.cons_append, twoR, oneR, ih, List.length_append]
    push_cast
    grind
def jstep (s : Int × Int) (t : Int × Int × Int) : Int × Int := ((s.1 + t.1) % 9973, (s.2 + t.2.1 + t.2.2 * s.1) % 9973)
def joinF (ts : List (Int × Int × Int)) : Int × Int := ts.foldl jstep (0, 0)
def titleF (ns : List Int) : Int × Int × Int := ((sumsF ns).1, (sumsF ns).2, ns.length)
theorem joinF_more (ts : List (Int × Int × Int)) (t : Int × Int × Int) : joinF (ts ++ [t]) = jstep (joinF ts) t := by unfold joinF; rw [List.foldl_append]; rfl
theorem sums_app (a b : List Int) : sumsF (a ++ b) = jstep (sumsF a) (titleF b) := by
  unfold jstep titleF
  rw [sums_is, sums_is, sums_is, oneR_app, twoR_app]
  ext
  · simp only; omega
  · simp only
    have e : ((b.length : Int) * (oneR a % 9973)) % 9973 = ((b.length : Int) * oneR a) % 9973 := by rw [Int.mul_emod (b.length : Int) (oneR a % 9973), Int.emod_emod_of_dvd _ (Int.dvd_refl _), ← Int.mul_emod]
    generalize (b.length : Int) * (oneR a % 9973) = u at *
    generalize (b.length : Int) * oneR a = u' at *
    omega
theorem join_titles (cs : List (List Int)) : joinF (cs.map titleF) = sumsF cs.flatten := by
  have : ∀ (cs : List (List Int)) (a : List Int), (cs.map titleF).foldl jstep (sumsF a) = sumsF (a ++ cs.flatten) := by
    intro cs
    induction cs with
    | nil => intro a; simp
    | cons c r ih =>
      intro a
      rw [List.map_cons, List.foldl_cons, ← sums_app, ih, List.flatten_cons, List.append_assoc]
  exact this cs []
def tailR (key : Int) (ns : List Int) : Int := match ns with
  | [] => 0
  | n :: r => tailR key r + (n + 1) * key ^ r.length
theorem seal_raw (key : Int) (ns : List Int) : ∀ s : Int, (ns.foldl (kstep key) s) % 9973 = (s * key ^ ns.length + tailR key ns) % 9973 := by
  induction ns with
  | nil => intro s; simp [tailR]
  | cons n r ih =>
    intro s
    rw [List.foldl_cons, ih]
    unfold kstep
    simp only [tailR, List.length_cons]
    have e : ∀ (x y z : Int), ((x % 9973) * y + z) % 9973 = (x * y + z) % 9973 := by
      intro x y z
      have a : ((x % 9973) * y) % 9973 = (x * y) % 9973 := by rw [Int.mul_emod (x % 9973) y, Int.emod_emod_of_dvd _ (Int.dvd_refl _), ← Int.mul_emod]
      generalize (x % 9973) * y = u at *
      generalize x * y = u' at *
      omega
    rw [e]
    congr 1
    grind
theorem seal_is (key : Int) (ns : List Int) (k0 : 0 ≤ key) (k1 : key < 9973) : sealF key ns = (tailR key ns + key * key ^ ns.length) % 9973 := by
  have h := seal_raw key ns key
  have b := sealF_lt key ns k0 k1
  unfold sealF at *
  rw [Int.emod_eq_of_lt b.1 b.2] at h
  rw [h]
  congr 1
  omega
theorem tail_more (key : Int) {ns : List Int} {i : Nat} {n : Int} (h : ns[ns.length - 1 - i]? = some n) (hi : i < ns.length) : tailR key (ns.drop (ns.length - (i + 1))) = tailR key (ns.drop (ns.length - i)) + (n + 1) * key ^ i := by
  have e : ns.drop (ns.length - (i + 1)) = n :: ns.drop (ns.length - i) := by
    rw [show ns.length - (i + 1) = ns.length - 1 - i by omega]
    obtain ⟨h1, h2⟩ := List.getElem?_eq_some_iff.mp h
    rw [List.drop_eq_getElem_cons h1, h2]
    congr 2
    omega
  rw [e]
  simp only [tailR, List.length_drop]
  rw [show ns.length - (ns.length - i) = i by omega]
theorem pow_nat {key : Int} (k0 : 0 ≤ key) (k1 : key < 16384) : ∀ i : Nat, (key ^ i).natAbs < 2 ^ (14 * i + 1)
  | 0 => by simp
  | i + 1 => by
    have ih := pow_nat k0 k1 i
    rw [Int.pow_succ, Int.natAbs_mul]
    have h2 : key.natAbs < 2 ^ 14 := by omega
    have := Nat.mul_lt_mul'' ih h2
    rw [← Nat.pow_add] at this
    rw [show 14 * (i + 1) + 1 = 14 * i + 1 + 14 by omega]
    exact this
/-- what name tells -/
def spName (K : PySem.W.Frag) : Sp := fun vs H Q _ => ∃ (p : Addr) (xs : List (Option Int)), vs = [.ref p] ∧ SqE K H p (xs.map ov) ∧ xs.length ≤ 100000 ∧ (allI xs = none → ∀ H', Fr [] H H' → Q .non H') ∧
  (∀ ns t H', allI xs = some ns → Fr [] H H' → H t = none → H' t = some (.tup [.int (titleF ns).1, .int (titleF ns).2.1, .int (titleF ns).2.2]) → Q (.ref t) H')
abbrev tripD (t : Int × Int × Int) : PyData := .tuple [.int t.1, .int t.2.1, .int t.2.2]
def spJoined (K : PySem.W.Frag) : Sp := fun vs H Q _ => ∃ (p : Addr) (xs : List V) (ts : List (Int × Int × Int)), vs = [.ref p] ∧ SqE K H p xs ∧ DtL K [] H (ts.map tripD) xs ∧ (∀ t ∈ ts, 0 ≤ t.2.2 ∧ t.2.2 ≤ 100000) ∧
  (∀ t H', Fr [] H H' → H t = none → H' t = some (.tup [.int (joinF ts).1, .int (joinF ts).2]) → Q (.ref t) H')

/-! ### isinstance by the value at hand -/
theorem kb_NoneType_tuple : kitB "NoneType" "tuple" = some false := by decide +kernel
theorem kb_NoneType_list : kitB "NoneType" "list" = some false := by decide +kernel
theorem kb_NoneType_bool : kitB "NoneType" "bool" = some false := by decide +kernel
theorem kb_NoneType_str : kitB "NoneType" "str" = some false := by decide +kernel
theorem kb_NoneType_int : kitB "NoneType" "int" = some false := by decide +kernel
theorem kb_bool_tuple : kitB "bool" "tuple" = some false := by decide +kernel
theorem kb_bool_list : kitB "bool" "list" = some false := by decide +kernel
theorem kb_bool_bool : kitB "bool" "bool" = some true := by decide +kernel
theorem kb_bool_str : kitB "bool" "str" = some false := by decide +kernel
theorem kb_bool_int : kitB "bool" "int" = some true := by decide +kernel
theorem kb_int_tuple : kitB "int" "tuple" = some false := by decide +kernel
theorem kb_int_list : kitB "int" "list" = some false := by decide +kernel
theorem kb_int_bool : kitB "int" "bool" = some false := by decide +kernel
theorem kb_int_str : kitB "int" "str" = some false := by decide +kernel
theorem kb_int_int : kitB "int" "int" = some true := by decide +kernel
theorem kb_str_tuple : kitB "str" "tuple" = some false := by decide +kernel
theorem kb_str_list : kitB "str" "list" = some false := by decide +kernel
theorem kb_str_bool : kitB "str" "bool" = some false := by decide +kernel
theorem kb_str_str : kitB "str" "str" = some true := by decide +kernel
theorem kb_str_int : kitB "str" "int" = some false := by decide +kernel
theorem kb_list_tuple : kitB "list" "tuple" = some false := by decide +kernel
theorem kb_list_list : kitB "list" "list" = some true := by decide +kernel
theorem kb_list_bool : kitB "list" "bool" = some false := by decide +kernel
theorem kb_list_str : kitB "list" "str" = some false := by decide +kernel
theorem kb_list_int : kitB "list" "int" = some false := by decide +kernel
theorem kb_tuple_tuple : kitB "tuple" "tuple" = some true := by decide +kernel
theorem kb_tuple_list : kitB "tuple" "list" = some false := by decide +kernel
theorem kb_tuple_bool : kitB "tuple" "bool" = some false := by decide +kernel
theorem kb_tuple_str : kitB "tuple" "str" = some false := by decide +kernel
theorem kb_tuple_int : kitB "tuple" "int" = some false := by decide +kernel
section
variable {K : PySem.W.Frag} {H : Hp} {Q : VK} {a p : Addr} {xs : List V} {n n1 n2 t : String} {b b1 b2 : Bool} {v : V} {i : Int} {c : Bool} {s : Str}
theorem n_isiX (h : TyX K H v (.type t)) (e : kitB t n = some b) (q : Q (.bl b) H) : rIsi K [v, .ty n] H Q := ⟨v, .ty n, _, .type n, b, rfl, .ty n, h, kit_ty e, q⟩
theorem n_isiN (e : kitB "NoneType" n = some b) (q : Q (.bl b) H) : rIsi K [.non, .ty n] H Q := n_isiX (.base .non) e q
theorem n_isiB (e : kitB "bool" n = some b) (q : Q (.bl b) H) : rIsi K [.bl c, .ty n] H Q := n_isiX (.base (.bl c)) e q
theorem n_isiI (e : kitB "int" n = some b) (q : Q (.bl b) H) : rIsi K [.int i, .ty n] H Q := n_isiX (.base (.int i)) e q
theorem n_isiS (e : kitB "str" n = some b) (q : Q (.bl b) H) : rIsi K [.str s, .ty n] H Q := n_isiX (.base (.str s)) e q
theorem n_isiL (h : SqL K H a xs) (e : kitB "list" n = some b) (q : Q (.bl b) H) : rIsi K [.ref a, .ty n] H Q := n_isiX (tyx_l h) e q
theorem n_isiT (h : SqT K H a xs) (e : kitB "tuple" n = some b) (q : Q (.bl b) H) : rIsi K [.ref a, .ty n] H Q := n_isiX (tyx_t h) e q
theorem n_isi2 (h : TyX K H v (.type t)) (hp : H p = some (.tup [.ty n1, .ty n2])) (e1 : kitB t n1 = some b1) (e2 : kitB t n2 = some b2) (q : Q (.bl (b1 || b2)) H) : rIsiT K [v, .ref p] H Q := by
  refine ⟨v, p, [.ty n1, .ty n2], _, [.type n1, .type n2], b1 || b2, rfl, hp, .cons (.ty n1) (.cons (.ty n2) .nil), h, ?_, q⟩
  refine kitAny_cons (kit_ty e1) (fun z => ?_) (fun z => by rw [z]; rfl)
  subst z
  refine kitAny_cons (kit_ty e2) (fun z => ?_) (fun z => by rw [z]; rfl)
  subst z
  exact kitAny_nil
theorem atI0 {i : Nat} (h : xs[i]? = some v) : atI xs (0 + (i : Int)) = some v := by rw [Int.zero_add]; exact atI_nat h
theorem b_rev {X : Cx} {tg e : Expr} {ta : TA} {p pos : Pos} (hg : Gl X "reversed") (hm : X.mg "reversed" = none) (ha : PA X [e] ta) (eK : X.K = K := by rfl) (hs : starEach [e] X.env = [(false, eval e X.env)] := by rfl) : PI X tg (.Call (.Name "reversed" p) [e] [] pos) (iRev K ta) := by subst eK; exact pi_reversed hg hm ha hs
theorem x_iRev {σ : L2.St} {ta : TA} {R : It → Hp → Prop} (q : ta σ H fun vs H1 => ∃ (a : Addr) (xs : List V), vs = [.ref a] ∧ SqL K H1 a xs ∧ R (Itv K a xs.length) H1) : iRev K ta σ H R := q
end
section
variable {σ : L2.St} {H : Hp} {ta tb : TE} {Q : VK}
theorem x_andV (q : ta σ H fun x H1 => ∃ c, x = .bl c ∧ if c = true then tb σ H1 Q else Q (.bl false) H1) : tAndV ta tb σ H Q := q
theorem x_orV (q : ta σ H fun x H1 => ∃ c, x = .bl c ∧ if c = true then Q (.bl true) H1 else tb σ H1 Q) : tOrV ta tb σ H Q := q
theorem x_notV (q : ta σ H fun x H1 => ∃ c, x = .bl c ∧ Q (.bl (!c)) H1) : tNotV ta σ H Q := q
theorem nd_self {α : Type} [DecidableEq α] {a : α} : (!decide (a = a)) = false := by simp
end
/-- an entry that stands ahead of the new list -/
theorem Sy.slA {K : PySem.W.Frag} {M : List Addr} {H : Hp} {H0 : Bs} {L : List (Addr × HO)} {Ds : List (PyData × V)} {p : Addr} {xs : List V} {e : Addr × HO} (S : Sy K H0 M H (L ++ [e]) Ds) (i : Nat) (h : L[i]? = some (p, .lst xs)) : SqL K H p xs :=
  S.sl i (by rw [List.getElem?_append_left (List.getElem?_eq_some_iff.mp h).1]; exact h)
theorem q_int {Q : VK} {H : Hp} {i j : Int} (e : i = j) (q : Q (.int j) H) : Q (.int i) H := e ▸ q
theorem getD_at {ns : List Int} {i : Nat} {n : Int} (h : ns[i]? = some n) : ns.getD i 0 = n := by simp [h]
/-- the law's own sums: of a list of whole numbers, a new tuple -/
def spLSums (K : PySem.W.Frag) : Sp := fun vs H Q _ => ∃ (p : Addr) (ns : List Int), vs = [.ref p] ∧ SqL K H p (ns.map V.int) ∧ ns.length ≤ 10000 ∧
  ∀ t H', Fr [] H H' → H t = none → H' t = some (.tup [.int (sumsF ns).1, .int (sumsF ns).2]) → Q (.ref t) H'
def spLTitle (K : PySem.W.Frag) : Sp := fun vs H Q _ => ∃ (p : Addr) (ns : List Int), vs = [.ref p] ∧ SqL K H p (ns.map V.int) ∧ ns.length ≤ 10000 ∧
  ∀ t H', Fr [] H H' → H t = none → H' t = some (.tup [.int (titleF ns).1, .int (titleF ns).2.1, .int (titleF ns).2.2]) → Q (.ref t) H'
def spLSeal (K : PySem.W.Frag) : Sp := fun vs H Q _ => ∃ (key : Int) (p : Addr) (ns : List Int), vs = [.int key, .ref p] ∧ 0 ≤ key ∧ key < 9973 ∧ SqL K H p (ns.map V.int) ∧ ns.length ≤ 1000 ∧ (∀ n ∈ ns, 0 ≤ n ∧ n < 9973) ∧ Q (.int (sealF key ns)) H
/-! ### slices, calls in hand -/
theorem cut_take {α : Type} (f : α → V) (xs : List α) {k : Int} (h : 0 ≤ k) : cutV (xs.map f) none (some k) = (xs.take k.toNat).map f := by
  obtain ⟨n, rfl⟩ := Int.eq_ofNat_of_zero_le h
  unfold cutV
  rw [HT.sIx_none, HT.sIx_nat]
  simp only [Int.toNat_natCast, List.length_map, Nat.sub_zero, List.drop_zero]
  rw [← List.map_take]
  congr 1
  rw [Nat.min_def]
  split
  · rfl
  · rw [List.take_of_length_le (Nat.le_refl _), List.take_of_length_le (by omega)]
theorem cut_drop {α : Type} (f : α → V) (xs : List α) {k : Int} (h : 0 ≤ k) : cutV (xs.map f) (some k) none = (xs.drop k.toNat).map f := by
  obtain ⟨n, rfl⟩ := Int.eq_ofNat_of_zero_le h
  unfold cutV
  rw [HT.sIx_none, HT.sIx_nat]
  simp only [Int.toNat_natCast, List.length_map]
  rw [← List.map_drop, ← List.map_take]
  congr 1
  rw [Nat.min_def]
  split
  · rw [List.take_of_length_le (by rw [List.length_drop]; omega)]
  · rw [List.drop_of_length_le (Nat.le_refl _), List.drop_of_length_le (by omega)]
    simp
section
variable {K : PySem.W.Frag} {H : Hp} {H0 : Bs} {M : List Addr} {L : List (Addr × HO)} {Ds : List (PyData × V)} {Q : VK} {E : XK} {a b p : Addr} {o o' : HO} {ns : List Int} {xs : List (Option Int)} {d : PyData} {v u : V} {n : Nat} {key : Int}
theorem Sy.ne (S : Sy K H0 M H L Ds) (i j : Nat) (h1 : L[i]? = some (a, o)) (h2 : L[j]? = some (b, o')) (hij : i ≠ j) : a ≠ b := by
  intro z
  have e1 : (L.map (·.1))[i]? = some a := by rw [List.getElem?_map, h1]; rfl
  have e2 : (L.map (·.1))[j]? = some a := by rw [List.getElem?_map, h2, z]; rfl
  obtain ⟨b1, f1⟩ := List.getElem?_eq_some_iff.mp e1
  obtain ⟨b2, f2⟩ := List.getElem?_eq_some_iff.mp e2
  exact hij ((List.getElem_inj S.nd).mp (f1.trans f2.symm))
theorem dt_T {xs : List Int} (h : SqT K H p (xs.map V.int)) (n : p ∉ M) : Dt K M H (.tuple (xs.map .int)) (.ref p) := by
  simp only [Dt]
  exact ⟨p, _, rfl, ⟨h, .inl n⟩, DtL.ints.mpr rfl⟩
theorem dt_L {xs : List Int} (h : SqL K H p (xs.map V.int)) (n : p ∉ M) : Dt K M H (.list (xs.map .int)) (.ref p) := by
  simp only [Dt]
  exact ⟨p, _, rfl, ⟨h, .inl n⟩, DtL.ints.mpr rfl⟩
theorem use_lsums (S : Sy K H0 M H L Ds) (h : SqL K H p (ns.map V.int)) (hz : ns.length ≤ 10000)
    (k : ∀ t H', H t = none → H0 t = none → Sy K H0 M H' (L ++ [(t, .tup [.int (sumsF ns).1, .int (sumsF ns).2])]) Ds → Q (.ref t) H') : spLSums K [.ref p] H Q E :=
  ⟨p, ns, rfl, h, hz, fun t H' f ht e => k t H' ht (S.free ht) (S.exN f ht e)⟩
theorem use_ltitle (S : Sy K H0 M H L Ds) (h : SqL K H p (ns.map V.int)) (hz : ns.length ≤ 10000)
    (k : ∀ t H', H t = none → H0 t = none → Sy K H0 M H' (L ++ [(t, .tup [.int (titleF ns).1, .int (titleF ns).2.1, .int (titleF ns).2.2])]) Ds → Q (.ref t) H') : spLTitle K [.ref p] H Q E :=
  ⟨p, ns, rfl, h, hz, fun t H' f ht e => k t H' ht (S.free ht) (S.exN f ht e)⟩
theorem use_name (S : Sy K H0 M H L Ds) (h : SqE K H p (ns.map V.int)) (hz : ns.length ≤ 10000)
    (k : ∀ t H', H t = none → H0 t = none → Sy K H0 M H' (L ++ [(t, .tup [.int (titleF ns).1, .int (titleF ns).2.1, .int (titleF ns).2.2])]) Ds → Q (.ref t) H') : spName K [.ref p] H Q E := by
  refine ⟨p, ns.map some, rfl, by rw [← ints_ov]; exact h, by rw [List.length_map]; omega, fun z => ?_, fun ms t H' hm f ht e => ?_⟩
  · rw [allI_some] at z; cases z
  · rw [allI_some] at hm; cases hm
    exact k t H' ht (S.free ht) (S.exN f ht e)
theorem use_nameN (S : Sy K H0 M H L Ds) (h : SqE K H p (xs.map ov)) (hz : xs.length ≤ 10000) (hn : none ∈ xs)
    (k : ∀ H', Sy K H0 M H' L Ds → Q .non H') : spName K [.ref p] H Q E := by
  refine ⟨p, xs, rfl, h, by omega, fun _ H' f => k H' (S.ex f), fun ms t H' hm f ht e => ?_⟩
  rw [allI_none.mpr hn] at hm; cases hm
theorem use_sumsN (h : SqE K H p (xs.map ov)) (hn : none ∈ xs) (k : Q .non H) : spSums K [.ref p] H Q E := by
  refine ⟨p, xs, rfl, h, fun _ => k, fun ms t hm ht => ?_⟩
  rw [allI_none.mpr hn] at hm; cases hm
theorem use_lseal (h : SqL K H p (ns.map V.int)) (k0 : 0 ≤ key) (k1 : key < 9973) (hz : ns.length ≤ 1000) (hb : ∀ n ∈ ns, 0 ≤ n ∧ n < 9973) (k : Q (.int (sealF key ns)) H) : spLSeal K [.int key, .ref p] H Q E :=
  ⟨key, p, ns, rfl, k0, k1, h, hz, hb, k⟩
theorem use_alike (S : Sy K H0 M H L Ds) (d : PyData) (h1 : Dt K [] H d v) (h2 : Dt K [] H d u) (hd : d.depth ≤ n) (ho : okD d = true) (k : ∀ H', Sy K H0 M H' L Ds → Q (.bl true) H') : spAlike (n + 1) K [v, u] H Q E :=
  ⟨v, u, d, rfl, h1, h2, hd, ho, fun H' f => k H' (S.ex f)⟩
theorem use_joined {xs : List V} {ts : List (Int × Int × Int)} (S : Sy K H0 M H L Ds) (h : SqE K H p xs) (hd : DtL K [] H (ts.map tripD) xs) (hb : ∀ t ∈ ts, 0 ≤ t.2.2 ∧ t.2.2 ≤ 100000)
    (k : ∀ t H', H t = none → H0 t = none → Sy K H0 M H' (L ++ [(t, .tup [.int (joinF ts).1, .int (joinF ts).2])]) Ds → Q (.ref t) H') : spJoined K [.ref p] H Q E :=
  ⟨p, xs, ts, rfl, h, hd, hb, fun t H' f ht e => k t H' ht (S.free ht) (S.exN f ht e)⟩
end
/-- a while, by its word -/
theorem x_while {c : TT} {tb : TS} {D : Ends} {σ : L2.St} {H : Hp} (W : Nat → L2.St → Hp → Prop) (m : Nat) (h0 : W m σ H)
    (hs : ∀ m σ' H', W m σ' H' → c σ' H' fun b H1 => if b = true then ∃ N : L2.St → Hp → Prop, (∀ σ2 H2, N σ2 H2 → ∃ m', m' < m ∧ W m' σ2 H2) ∧ tb { D with nx := N, ct := N, bk := D.nx } σ' H1 else D.nx σ' H1) : tWhile c tb D σ H := ⟨W, ⟨m, h0⟩, hs⟩
theorem zip_more {α β : Type} {xs : List α} {ys : List β} (h : xs.length = ys.length) (x : α) (y : β) : (xs ++ [x]).zip (ys ++ [y]) = xs.zip ys ++ [(x, y)] := by
  rw [List.zip_append h]; rfl
theorem DtL.of_zip {K : PySem.W.Frag} {M : List Addr} {H : Hp} {ds : List PyData} {vs : List V} (h : ds.length = vs.length) (hz : ∀ x ∈ ds.zip vs, Dt K M H x.1 x.2) : DtL K M H ds vs :=
  DtL.of_at h.symm fun i d v h1 h2 => hz (d, v) (List.mem_of_getElem? (i := i) (by rw [List.getElem?_zip_eq_some]; exact ⟨h1, h2⟩))

/-! ### data, step by step: what is made is known by its data -/
section
variable {K : PySem.W.Frag} {M : List Addr} {H H' : Hp} {H0 : Bs} {L : List (Addr × HO)} {Ds : List (PyData × V)} {Q : VK} {d : PyData} {ds es : List PyData} {v : V} {vs xs ys : List V} {p a : Addr} {i : Int} {n j : Nat} {σ : L2.St} {te : TE} {tt : TT} {J : It} {G : Hp → Prop} {g : Nat → PyData} {y : Nat → V → Prop}
theorem Dt.int' : Dt K M H (.int i) (.int i) := by simp only [Dt]
theorem Dt.non' : Dt K M H .none .non := by simp only [Dt]
theorem Dt.bl' {b : Bool} : Dt K M H (.bool b) (.bl b) := by simp only [Dt]
theorem Dt.str' {s : Str} : Dt K M H (.str s) (.str s) := by simp only [Dt]
theorem DtL.nil' : DtL K M H [] [] := by simp only [DtL]
theorem DtL.cons' (h : Dt K M H d v) (r : DtL K M H ds vs) : DtL K M H (d :: ds) (v :: vs) := by
  simp only [DtL]; exact ⟨v, vs, rfl, h, r⟩
theorem Dt.tupI (h : STA K M H p xs) (r : DtL K M H ds xs) : Dt K M H (.tuple ds) (.ref p) := by
  simp only [Dt]; exact ⟨p, xs, rfl, h, r⟩
theorem Dt.lstI (h : SLA K M H p xs) (r : DtL K M H ds xs) : Dt K M H (.list ds) (.ref p) := by
  simp only [Dt]; exact ⟨p, xs, rfl, h, r⟩
theorem Dt.tup (h : Dt K M H (.tuple ds) (.ref p)) : ∃ xs, STA K M H p xs ∧ DtL K M H ds xs := by
  simp only [Dt] at h
  obtain ⟨a, xs, e, s, r⟩ := h
  cases e; exact ⟨xs, s, r⟩
theorem Dt.lst (h : Dt K M H (.list ds) (.ref p)) : ∃ xs, SLA K M H p xs ∧ DtL K M H ds xs := by
  simp only [Dt] at h
  obtain ⟨a, xs, e, s, r⟩ := h
  cases e; exact ⟨xs, s, r⟩
theorem Sy.notM (S : Sy K H0 M H L Ds) (h : H p = none) : p ∉ M := fun z => by
  obtain ⟨o, e⟩ := S.dom p z
  rw [h] at e; cases e
/-- a new tuple, a new list, as data -/
theorem d_newT (S : Sy K H0 M H L Ds) (r : DtL K M H ds xs) (q : ∀ p H', Sy K H0 M H' L (Ds ++ [(.tuple ds, .ref p)]) → Q (.ref p) H') : NewO H (.tup xs) Q := fun p hp => by
  refine q p _ ?_
  have T := (S.ex (Fr.new (o := .tup xs) hp))
  exact T.addD (Dt.tupI ⟨.inl (.inl upd_same), .inl (S.notM hp)⟩ (r.mono (Fr.new hp)))
theorem d_newL (S : Sy K H0 M H L Ds) (r : DtL K M H ds xs) (q : ∀ p H', Sy K H0 M H' L (Ds ++ [(.list ds, .ref p)]) → Q (.ref p) H') : NewO H (.lst xs) Q := fun p hp => by
  refine q p _ ?_
  have T := (S.ex (Fr.new (o := .lst xs) hp))
  exact T.addD (Dt.lstI ⟨.inl (.inl upd_same), .inl (S.notM hp)⟩ (r.mono (Fr.new hp)))
theorem d_tup (S : Sy K H0 M H L Ds) (hz : xs.length ≤ 100000) (r : DtL K M H ds xs) (q : ∀ p H', Sy K H0 M H' L (Ds ++ [(.tuple ds, .ref p)]) → Q (.ref p) H') : xs.length ≤ sizeLine ∧ NewO H (.tup xs) Q := ⟨szL (by omega), d_newT S r q⟩
theorem d_lst (S : Sy K H0 M H L Ds) (hz : xs.length ≤ 100000) (r : DtL K M H ds xs) (q : ∀ p H', Sy K H0 M H' L (Ds ++ [(.list ds, .ref p)]) → Q (.ref p) H') : xs.length ≤ sizeLine ∧ NewO H (.lst xs) Q := ⟨szL (by omega), d_newL S r q⟩
/-- an item -/
theorem d_ixTI {n' : Int} (h : Dt K M H (.tuple ds) (.ref p)) (e : atI ds i = some (.int n')) (q : Q (.int n') H) : rIxT K (.ref p) (.int i) H Q := by
  obtain ⟨xs, s, r⟩ := h.tup
  unfold atI at e
  cases hj : ixN ds.length i with
  | none => rw [hj] at e; cases e
  | some j =>
    rw [hj] at e
    obtain ⟨u, hu, w⟩ := r.at e
    simp only [Dt] at w; subst w
    exact ⟨p, xs, i, _, rfl, rfl, s.1, by unfold atI; rw [r.len, hj]; exact hu, q⟩
theorem d_ixT (S : Sy K H0 M H L Ds) (h : Dt K M H (.tuple ds) (.ref p)) (e : atI ds i = some d) (q : ∀ u, Sy K H0 M H L (Ds ++ [(d, u)]) → Q u H) : rIxT K (.ref p) (.int i) H Q := by
  obtain ⟨xs, s, r⟩ := h.tup
  unfold atI at e
  cases hj : ixN ds.length i with
  | none => rw [hj] at e; cases e
  | some j =>
    rw [hj] at e
    obtain ⟨u, hu, w⟩ := r.at e
    exact ⟨p, xs, i, u, rfl, rfl, s.1, by unfold atI; rw [r.len, hj]; exact hu, q u (S.addD w)⟩
theorem d_ixLI {n' : Int} (h : Dt K M H (.list ds) (.ref p)) (e : atI ds i = some (.int n')) (q : Q (.int n') H) : rIxL K (.ref p) (.int i) H Q := by
  obtain ⟨xs, s, r⟩ := h.lst
  unfold atI at e
  cases hj : ixN ds.length i with
  | none => rw [hj] at e; cases e
  | some j =>
    rw [hj] at e
    obtain ⟨u, hu, w⟩ := r.at e
    simp only [Dt] at w; subst w
    exact ⟨p, xs, i, _, rfl, rfl, s.1, by unfold atI; rw [r.len, hj]; exact hu, q⟩
theorem d_ixL (S : Sy K H0 M H L Ds) (h : Dt K M H (.list ds) (.ref p)) (e : atI ds i = some d) (q : ∀ u, Sy K H0 M H L (Ds ++ [(d, u)]) → Q u H) : rIxL K (.ref p) (.int i) H Q := by
  obtain ⟨xs, s, r⟩ := h.lst
  unfold atI at e
  cases hj : ixN ds.length i with
  | none => rw [hj] at e; cases e
  | some j =>
    rw [hj] at e
    obtain ⟨u, hu, w⟩ := r.at e
    exact ⟨p, xs, i, u, rfl, rfl, s.1, by unfold atI; rw [r.len, hj]; exact hu, q u (S.addD w)⟩
theorem d_lenT (h : Dt K M H (.tuple ds) (.ref p)) (q : Q (.int ds.length) H) : rLen K [.ref p] H Q := by
  obtain ⟨xs, s, r⟩ := h.tup
  exact n_len (.inr s.1) (by rw [r.len]; exact q)
theorem d_lenL (h : Dt K M H (.list ds) (.ref p)) (q : Q (.int ds.length) H) : rLen K [.ref p] H Q := by
  obtain ⟨xs, s, r⟩ := h.lst
  exact n_len (.inl s.1) (by rw [r.len]; exact q)
theorem d_catT {a : Addr} (S : Sy K H0 M H L Ds) (h1 : Dt K M H (.tuple ds) (.ref p)) (h2 : Dt K M H (.tuple es) (.ref a)) (n1 : ds ≠ []) (n2 : es ≠ []) (hz : ds.length + es.length ≤ 100000)
    (q : ∀ p H', Sy K H0 M H' L (Ds ++ [(.tuple (ds ++ es), .ref p)]) → Q (.ref p) H') : rCatT K (.ref p) (.ref a) H Q := by
  obtain ⟨xs, s, r⟩ := h1.tup
  obtain ⟨ys, s2, r2⟩ := h2.tup
  have l1 := r.len
  have l2 := r2.len
  refine n_catT s.1 s2.1 (fun z => ?_) (fun z => ?_) (by omega) (d_newT S (r.append r2) q)
  · subst z; exact n1 (List.eq_nil_of_length_eq_zero l1.symm)
  · subst z; exact n2 (List.eq_nil_of_length_eq_zero l2.symm)
theorem d_tupleL (S : Sy K H0 M H L Ds) (h : Dt K M H (.list ds) (.ref p)) (q : ∀ p H', Sy K H0 M H' L (Ds ++ [(.tuple ds, .ref p)]) → Q (.ref p) H') : rTupOf K [.ref p] H Q := by
  obtain ⟨xs, s, r⟩ := h.lst
  exact n_tupleL s.1 (d_newT S r q)
theorem d_tupleT (h : Dt K M H (.tuple ds) (.ref p)) (q : Q (.ref p) H) : rTupOf K [.ref p] H Q := by
  obtain ⟨xs, s, r⟩ := h.tup
  exact n_tupleT s.1 q
theorem d_listL (S : Sy K H0 M H L Ds) (h : Dt K M H (.list ds) (.ref p)) (q : ∀ p H', Sy K H0 M H' L (Ds ++ [(.list ds, .ref p)]) → Q (.ref p) H') : rListOf K [.ref p] H Q := by
  obtain ⟨xs, s, r⟩ := h.lst
  exact n_list (.inl s.1) (d_newL S r q)
theorem d_listT (S : Sy K H0 M H L Ds) (h : Dt K M H (.tuple ds) (.ref p)) (q : ∀ p H', Sy K H0 M H' L (Ds ++ [(.list ds, .ref p)]) → Q (.ref p) H') : rListOf K [.ref p] H Q := by
  obtain ⟨xs, s, r⟩ := h.tup
  exact n_list (.inr s.1) (d_newL S r q)
/-- slices -/
def cutG {α : Type} (xs : List α) (lo hi : Option Int) : List α := (xs.drop (HT.sIx xs.length 0 lo)).take (HT.sIx xs.length xs.length hi - HT.sIx xs.length 0 lo)
theorem DtL.drop : ∀ {ds : List PyData} {vs : List V} (n : Nat), DtL K M H ds vs → DtL K M H (ds.drop n) (vs.drop n)
  | _, _, 0, h => h
  | [], vs, n + 1, h => by simp only [DtL] at h; subst h; simp [DtL]
  | d :: ds, vs, n + 1, h => by
    simp only [DtL] at h
    obtain ⟨v, r, rfl, _, h2⟩ := h
    exact DtL.drop n h2
theorem DtL.take : ∀ {ds : List PyData} {vs : List V} (n : Nat), DtL K M H ds vs → DtL K M H (ds.take n) (vs.take n)
  | _, _, 0, h => by simp [DtL]
  | [], vs, n + 1, h => by simp only [DtL] at h; subst h; simp [DtL]
  | d :: ds, vs, n + 1, h => by
    simp only [DtL] at h
    obtain ⟨v, r, rfl, h1, h2⟩ := h
    exact DtL.cons' h1 (DtL.take n h2)
theorem DtL.cut {lo hi : Option Int} (h : DtL K M H ds vs) : DtL K M H (cutG ds lo hi) (cutV vs lo hi) := by
  unfold cutG cutV
  rw [h.len]
  exact (h.drop _).take _
theorem d_slL {lo hi : Option Int} (S : Sy K H0 M H L Ds) (h : Dt K M H (.list ds) (.ref p)) (q : ∀ p H', Sy K H0 M H' L (Ds ++ [(.list (cutG ds lo hi), .ref p)]) → Q (.ref p) H') : rSlL K (.ref p) lo hi H Q := by
  obtain ⟨xs, s, r⟩ := h.lst
  exact n_slL s.1 (d_newL S r.cut q)
/-- what stands still through a comprehension -/
theorem SLA.still (h : SLA K M H p xs) : ∀ (D : Addr) (H' : Hp), H D = none → Fr (D :: M) H H' → SqL K H' p xs := fun _ _ hD f => ((h.cons hD).mono f).1
theorem STA.still (h : STA K M H p xs) : ∀ (D : Addr) (H' : Hp), H D = none → Fr (D :: M) H H' → SqT K H' p xs := fun _ _ hD f => ((h.cons hD).mono f).1
theorem Sy.over (S : Sy K H0 M H L Ds) {N : List Addr} {H1 : Hp} {L' : List (Addr × HO)} {Ds' : List (PyData × V)} (T : Sy K (b0 H) N H1 L' Ds') : Sy K H0 N H1 L' Ds' := ⟨S.fr.trans (Fr.wk0 T.fr), T.ent, T.nd, T.dat, T.dom, fun b hb => keep0 T.fr (S.nom b hb)⟩
/-- [e for x in ..]: each e's value is data; the list is data -/
theorem lcW_data (w : Walk J n G (fun i H x H' => H' = H ∧ y i x)) (S : Sy K H0 M H L Ds) (hG : ∀ (D : Addr) (H' : Hp), H D = none → Fr [] H H' → G H') (hn : n ≤ 100000) (g : Nat → PyData)
    (hte : ∀ (i : Nat) (x : V) (D : Addr) (acc : List V) (Ds' : List (PyData × V)) (H' : Hp) (Q' : VK), i < n → y i x → H D = none → Sy K (b0 H) (D :: M) H' (L ++ [(D, .lst acc)]) (Ds ++ Ds') →
      (∀ (u : V) (H'' : Hp), Sy K (b0 H) (D :: M) H'' (L ++ [(D, .lst acc)]) (Ds ++ Ds') → Dt K (D :: M) H'' (g i) u → Q' u H'') → te ((σ.set j none).set j (some x)) H' Q')
    (k : ∀ D H', Sy K H0 M H' L (Ds ++ [(.list ((List.range n).map g), .ref D)]) → Q (.ref D) H') : LcO (gName j) tYes te [j] σ Q J H := by
  intro D hD
  have DF := hD
  have S1 : Sy K (b0 H) M H L Ds := S.rebase
  refine lc_it w (fun i H' => i ≤ n ∧ ∃ vs : List V, vs.length = i ∧ Sy K (b0 H) (D :: M) H' (L ++ [(D, .lst vs)]) (Ds ++ ((List.range i).map g).zip vs)) ⟨Nat.zero_le _, [], rfl, by rw [List.range_zero, List.map_nil, List.zip_nil_left, List.append_nil]; exact S1.newM hD⟩ (fun i H' _ S' => by
    obtain ⟨_, vs, _, T⟩ := S'
    exact hG D H' hD T.fr) ?_ ?_
  · rintro i x H2 H' hi ⟨_, vs, hl, T⟩ ⟨rfl, hy⟩
    refine ⟨wipe_one _, ?_⟩
    refine hte i x D vs _ H' _ hi hy hD T fun u H'' T2 hu => ?_
    have gD : (L ++ [(D, HO.lst vs)])[L.length]? = some (D, .lst vs) := by simp
    refine ⟨vs, T2.get L.length gD, szl (by omega), by omega, vs ++ [u], by simp [hl], ?_⟩
    have T3 := (T2.addD hu).set (o' := .lst (vs ++ [u])) L.length gD ⟨List.mem_cons_self .., .inr DF⟩
    rw [show (L ++ [(D, HO.lst vs)]).set L.length (D, .lst (vs ++ [u])) = L ++ [(D, .lst (vs ++ [u]))] by simp] at T3
    rw [List.range_succ, List.map_append, List.map_singleton, zip_more (by simp [hl]), ← List.append_assoc]
    exact T3
  · rintro H' ⟨_, vs, hl, T⟩
    have T1 : Sy K (b0 H) (D :: M) H' L Ds := (T.sub (List.sublist_append_left _ _)).subD (fun x hx => List.mem_append_left _ hx)
    have T2 := (S.over T1).dropM
    refine k D H' (T2.addD ?_)
    have gD : (L ++ [(D, HO.lst vs)])[L.length]? = some (D, .lst vs) := by simp
    have hd : DtL K M H' ((List.range n).map g) vs := (DtL.of_zip (by simp [hl]) fun x hx => T.dat x (List.mem_append_right _ hx)).wk fun _ z => List.mem_cons_of_mem _ z
    exact Dt.lstI ⟨T.sl L.length gD, .inl (S.notM hD)⟩ hd
theorem lcW_none (w : Walk J n G (fun i H x H' => H' = H ∧ y i x)) (S : Sy K H0 M H L Ds) (hG : ∀ (D : Addr) (H' : Hp), H D = none → Fr [] H H' → G H')
    (ht : ∀ (i : Nat) (x : V) (D : Addr) (H' : Hp) (Q' : Bool → Hp → Prop), i < n → y i x → Sy K (b0 H) (D :: M) H' (L ++ [(D, .lst [])]) Ds → (∀ H'', Sy K (b0 H) (D :: M) H'' (L ++ [(D, .lst [])]) Ds → Q' false H'') → tt ((σ.set j none).set j (some x)) H' Q')
    (k : ∀ D H', Sy K H0 M H' L (Ds ++ [(.list [], .ref D)]) → Q (.ref D) H') : LcO (gName j) tt te [j] σ Q J H := by
  intro D hD
  have DF := hD
  refine lc_it w (fun _ H' => Sy K (b0 H) (D :: M) H' (L ++ [(D, .lst [])]) Ds) (S.rebase.newM hD) (fun i H' _ T => hG D H' hD T.fr) ?_ ?_
  · rintro i x H2 H' hi T ⟨rfl, hy⟩
    refine ⟨wipe_one _, ?_⟩
    refine ht i x D H' _ hi hy T fun H'' T2 => ?_
    exact x_iteF rfl T2
  · intro H' T
    have T1 : Sy K (b0 H) (D :: M) H' L Ds := T.sub (List.sublist_append_left _ _)
    have T2 := (S.over T1).dropM
    refine k D H' (T2.addD ?_)
    have gD : (L ++ [(D, HO.lst [])])[L.length]? = some (D, .lst []) := by simp
    exact Dt.lstI ⟨T.sl L.length gD, .inl (S.notM hD)⟩ DtL.nil'
theorem x_iEw {R : It → Hp → Prop} {m : Nat} (hv : σ[m]? = some (some (.ref p))) (h : Dt K M H (.list ds) (.ref p) ∨ Dt K M H (.tuple ds) (.ref p))
    (q : ∀ J G xs, DtL K M H ds xs → Walk J ds.length G (fun i H x H' => H' = H ∧ xs[i]? = some x) → (∀ (D : Addr) (H' : Hp), H D = none → Fr [] H H' → G H') → R J H) : iEi K (tVar m) σ H R := by
  rcases h with h | h
  · obtain ⟨xs, s, r⟩ := h.lst
    exact .inl ⟨_, hv, p, rfl, ⟨xs, s.1⟩, q _ _ xs r (by rw [← r.len]; exact walk_list) (fun D H' hD f => s.still D H' hD (Fr.wk0 f))⟩
  · obtain ⟨xs, s, r⟩ := h.tup
    exact .inr ⟨_, hv, p, rfl, ⟨xs, s.1⟩, q _ _ xs r (by rw [← r.len]; exact walk_tup) (fun D H' hD f => s.still D H' hD (Fr.wk0 f))⟩
/-- over a list that is data, a range, a range by steps -/
theorem lcD_data (S : Sy K H0 M H L Ds) (h : Dt K M H (.list ds) (.ref p)) (hn : ds.length ≤ 100000) (g : Nat → PyData)
    (hte : ∀ (i : Nat) (d : PyData) (x : V) (D : Addr) (acc : List V) (Ds' : List (PyData × V)) (H' : Hp) (Q' : VK), ds[i]? = some d → Dt K M H d x → Dt K (D :: M) H' d x → Sy K (b0 H) (D :: M) H' (L ++ [(D, .lst acc)]) (Ds ++ Ds') →
      (∀ (u : V) (H'' : Hp), Sy K (b0 H) (D :: M) H'' (L ++ [(D, .lst acc)]) (Ds ++ Ds') → Dt K (D :: M) H'' (g i) u → Q' u H'') → te ((σ.set j none).set j (some x)) H' Q')
    (k : ∀ D H', Sy K H0 M H' L (Ds ++ [(.list ((List.range ds.length).map g), .ref D)]) → Q (.ref D) H') : LcO (gName j) tYes te [j] σ Q (Itl K p) H := by
  obtain ⟨xs, s, r⟩ := h.lst
  have hl := r.len
  refine lcW_data (y := fun i x => xs[i]? = some x) (n := ds.length) (by rw [← hl]; exact walk_list) S (fun D H' hD f => s.still D H' hD (Fr.wk0 f)) hn g (fun i x D acc Ds' H' Q' hi hx hDn S' kk => ?_) k
  obtain ⟨d, hd⟩ := at_lt hi
  obtain ⟨u, hu, w⟩ := r.at hd
  rw [hx] at hu; cases hu
  exact hte i d x D acc Ds' H' Q' hd w ((w.cons hDn).mono (Fr.wk0 S'.fr)) S' kk
/-- for k in range(0, n, 3): one turn a piece -/
def pieceN (n : Nat) : Nat := (n + 2) / 3
theorem range3_n {n : Nat} (h : n ≤ 1000000) : RgC 0 (n : Int) 3 (pieceN n) := by
  have e : Builtin.Range.rangeSize 0 (n : Int) 3 = (pieceN n : Int) := by
    unfold Builtin.Range.rangeSize pieceN
    rw [if_pos (by decide)]
    split <;> omega
  refine ⟨by decide, by decide, ?_, e⟩
  unfold Builtin.Range.small
  rw [e]
  have hb : (pieceN n : Int) ≤ 400000 ∧ 0 ≤ (pieceN n : Int) := by unfold pieceN; omega
  have hn : (0 : Int) ≤ (n : Int) ∧ (n : Int) ≤ 1000000 := ⟨by omega, by omega⟩
  clear e
  generalize (pieceN n : Int) = m at *
  generalize (n : Int) = n' at *
  have f : ∀ x : Int, -10000000 ≤ x → x ≤ 10000000 → Builtin.Range.rangeFitsLong x = true := fun x h1 h2 => by
    unfold Builtin.Range.rangeFitsLong
    rw [Bool.and_eq_true]
    exact ⟨decide_eq_true (by omega), decide_eq_true (by omega)⟩
  rw [f 0 (by omega) (by omega), f n' (by omega) (by omega), f 3 (by omega) (by omega)]
  rw [f m (by omega) (by omega), f (n' + (3 - 1)) (by omega) (by omega), if_pos (by decide)]
  simp
theorem x_iR3 {ta : TA} {R : It → Hp → Prop} (q : ta σ H fun vs H1 => ∃ (i j c : Int) (n : Nat), vs = [.int i, .int j, .int c] ∧ RgC i j c n ∧ R (Itc i c n) H1) : iRng3 ta σ H R := q
theorem walk_rangeC' {lo c : Int} {n : Nat} : Walk (Itc lo c n) n (fun _ => True) (fun i H x H' => H' = H ∧ x = .int (lo + (i : Nat) * c)) := walk_rangeC
theorem walk_range' {lo : Int} {n : Nat} : Walk (Itr lo n) n (fun _ => True) (fun i H x H' => H' = H ∧ x = .int (lo + i)) := walk_range
end

/-! ### defs on data: what is handed in is data clear of M, so is what comes out; nothing else is changed -/
def spD {α : Type} (args : α → List PyData) (pre : α → Prop) (res : α → PyData) (K : PySem.W.Frag) : Sp := fun vs H Q _ => ∃ (M : List Addr) (x : α), (∀ a ∈ M, ∃ o, H a = some o) ∧ DtL K M H (args x) vs ∧ pre x ∧
  ∀ v H', Fr [] H H' → Dt K M H' (res x) v → Q v H'
section
variable {α : Type} {args : α → List PyData} {pre : α → Prop} {res : α → PyData} {K : PySem.W.Frag} {M : List Addr} {H : Hp} {H0 : Bs} {L : List (Addr × HO)} {Ds : List (PyData × V)} {Q : VK} {E : XK} {vs : List V} {ds : List PyData} {σ : L2.St} {p : Addr} {n : Nat} {gs : TGs}
theorem spD_len {m : Nat} (h : spD args pre res K vs H Q E) (e : ∀ x, (args x).length = m) : vs.length = m := by
  obtain ⟨M, x, _, hd, _⟩ := h
  rw [hd.len, e]
theorem use_D (x : α) (S : Sy K H0 M H L Ds) (hd : DtL K M H (args x) vs) (hp : pre x) (k : ∀ v H', Sy K H0 M H' L (Ds ++ [(res x, v)]) → Q v H') : spD args pre res K vs H Q E :=
  ⟨M, x, S.dom, hd, hp, fun v H' f hv => k v H' ((S.ex f).addD hv)⟩
theorem Sy.ofD (hdom : ∀ a ∈ M, ∃ o, H a = some o) (hd : DtL K M H ds vs) : Sy K (b0 H) M H [] (ds.zip vs) :=
  Sy.start _ _ _ (fun _ z => nomatch z) (by simp) (fun x hx => by
    obtain ⟨i, hi⟩ := List.getElem?_of_mem hx
    rw [List.getElem?_zip_eq_some] at hi
    obtain ⟨v, hv, w⟩ := hd.at hi.1
    rw [hi.2] at hv; cases hv; exact w) hdom
theorem d_gtup {Q : L2.St → Hp → Prop} (h : Dt K M H (.tuple ds) (.ref p)) (e : ds.length = n) (q : ∀ xs, DtL K M H ds xs → gs xs σ H Q) : gTup K n gs (.ref p) σ H Q := by
  obtain ⟨xs, s, r⟩ := h.tup
  exact ⟨p, xs, rfl, s.1, by rw [r.len, e], q xs r⟩
theorem Dt.sq {ns : List Int} (h : Dt K M H (.list (ns.map .int)) (.ref p) ∨ Dt K M H (.tuple (ns.map .int)) (.ref p)) : SqE K H p (ns.map V.int) := by
  rcases h with h | h
  · obtain ⟨xs, s, r⟩ := h.lst
    rw [DtL.ints.mp r] at s; exact .inl s.1
  · obtain ⟨xs, s, r⟩ := h.tup
    rw [DtL.ints.mp r] at s; exact .inr s.1
theorem du_sums {ns : List Int} (S : Sy K H0 M H L Ds) (h : Dt K M H (.list (ns.map .int)) (.ref p) ∨ Dt K M H (.tuple (ns.map .int)) (.ref p))
    (k : ∀ t H', Sy K H0 M H' L (Ds ++ [(.tuple [.int (sumsF ns).1, .int (sumsF ns).2], .ref t)]) → Q (.ref t) H') : spSums K [.ref p] H Q E := by
  refine ⟨p, ns.map some, rfl, by rw [← ints_ov]; exact Dt.sq h, fun z => ?_, fun ms t hm ht => ?_⟩
  · rw [allI_some] at z; cases z
  · rw [allI_some] at hm; cases hm
    exact d_newT S (DtL.cons' Dt.int' (DtL.cons' Dt.int' DtL.nil')) k t ht
theorem du_seal {ns : List Int} {key : Int} (h : Dt K M H (.list (ns.map .int)) (.ref p) ∨ Dt K M H (.tuple (ns.map .int)) (.ref p)) (k0 : 0 ≤ key) (k1 : key < 9973) (k : Q (.int (sealF key ns)) H) : spSeal K [.int key, .ref p] H Q E :=
  ⟨key, p, ns, rfl, k0, k1, Dt.sq h, k⟩
theorem du_name {ns : List Int} (S : Sy K H0 M H L Ds) (h : Dt K M H (.list (ns.map .int)) (.ref p) ∨ Dt K M H (.tuple (ns.map .int)) (.ref p)) (hz : ns.length ≤ 10000)
    (k : ∀ t H', Sy K H0 M H' L (Ds ++ [(tripD (titleF ns), .ref t)]) → Q (.ref t) H') : spName K [.ref p] H Q E := by
  refine ⟨p, ns.map some, rfl, by rw [← ints_ov]; exact Dt.sq h, by rw [List.length_map]; omega, fun z => ?_, fun ms t H' hm f ht e => ?_⟩
  · rw [allI_some] at z; cases z
  · rw [allI_some] at hm; cases hm
    refine k t H' ((S.ex f).addD ?_)
    exact Dt.tupI ⟨.inl (.inl e), .inl (S.notM ht)⟩ (DtL.cons' Dt.int' (DtL.cons' Dt.int' (DtL.cons' Dt.int' DtL.nil')))
theorem du_joined {ts : List (Int × Int × Int)} (S : Sy K H0 M H L Ds) (h : Dt K M H (.list (ts.map tripD)) (.ref p) ∨ Dt K M H (.tuple (ts.map tripD)) (.ref p)) (hb : ∀ t ∈ ts, 0 ≤ t.2.2 ∧ t.2.2 ≤ 100000)
    (k : ∀ t H', Sy K H0 M H' L (Ds ++ [(.tuple [.int (joinF ts).1, .int (joinF ts).2], .ref t)]) → Q (.ref t) H') : spJoined K [.ref p] H Q E := by
  have go : ∀ t H', Fr [] H H' → H t = none → H' t = some (.tup [.int (joinF ts).1, .int (joinF ts).2]) → Q (.ref t) H' := fun t H' f ht e => by
    refine k t H' ((S.ex f).addD ?_)
    exact Dt.tupI ⟨.inl (.inl e), .inl (S.notM ht)⟩ (DtL.cons' Dt.int' (DtL.cons' Dt.int' DtL.nil'))
  rcases h with h | h
  · obtain ⟨xs, s, r⟩ := h.lst
    exact ⟨p, xs, ts, rfl, .inl s.1, r.wk (fun _ z => nomatch z), hb, go⟩
  · obtain ⟨xs, s, r⟩ := h.tup
    exact ⟨p, xs, ts, rfl, .inr s.1, r.wk (fun _ z => nomatch z), hb, go⟩
theorem du_lsums {ns : List Int} (S : Sy K H0 M H L Ds) (h : Dt K M H (.list (ns.map .int)) (.ref p)) (hz : ns.length ≤ 10000)
    (k : ∀ t H', Sy K H0 M H' L (Ds ++ [(.tuple [.int (sumsF ns).1, .int (sumsF ns).2], .ref t)]) → Q (.ref t) H') : spLSums K [.ref p] H Q E := by
  obtain ⟨xs, s, r⟩ := h.lst
  rw [DtL.ints.mp r] at s
  refine ⟨p, ns, rfl, s.1, hz, fun t H' f ht e => k t H' ((S.ex f).addD ?_)⟩
  exact Dt.tupI ⟨.inl (.inl e), .inl (S.notM ht)⟩ (DtL.cons' Dt.int' (DtL.cons' Dt.int' DtL.nil'))
end
/-! ### pictures, keys, heads, manifests as data -/
structure Pic where
  v : Int
  cells : List Int
  n : Int
abbrev keysD (ks : List Int) : PyData := .tuple (ks.map .int)
abbrev picD (p : Pic) : PyData := .tuple [.int p.v, .tuple (p.cells.map .int), .int p.n]
def gk (ks : List Int) : Prop := 1 ≤ ks.length ∧ ks.length ≤ 4 ∧ ∀ k ∈ ks, 1 ≤ k ∧ k ≤ 9972
def gp (ks : List Int) (p : Pic) : Prop := 1 ≤ p.v ∧ p.v ≤ 999 ∧ 1 ≤ p.cells.length ∧ p.cells.length ≤ 12 ∧ (∀ c ∈ p.cells, 0 ≤ c ∧ c ≤ 9972) ∧ 0 ≤ p.n ∧ p.n < ks.length
/-- the five numbers from the version on -/
def plainF (p : Pic) : List Int := [p.v, p.cells.length, (sumsF p.cells).1, (sumsF p.cells).2, p.n]
def keyOf (ks : List Int) (p : Pic) : Int := ks.getD p.n.toNat 1
def headF (ks : List Int) (p : Pic) : List Int := plainF p ++ [sealF (keyOf ks p) (plainF p)]
/-- a row in pieces of three -/
def piecesF (ns : List Int) : List (List Int) := (List.range (pieceN ns.length)).map fun i => (ns.drop (3 * i)).take 3
def maniD (ks : List Int) (p : Pic) : PyData := .tuple ((headF ks p).map .int ++ [.tuple (((piecesF p.cells).map titleF).map tripD)])
theorem keyOf_ok {ks : List Int} {p : Pic} (h : gk ks) (g : gp ks p) : ks[p.n.toNat]? = some (keyOf ks p) ∧ 1 ≤ keyOf ks p ∧ keyOf ks p ≤ 9972 := by
  obtain ⟨_, _, h3⟩ := h
  obtain ⟨_, _, _, _, _, g1, g2⟩ := g
  obtain ⟨k, hk⟩ := at_lt (xs := ks) (i := p.n.toNat) (by omega)
  have e : keyOf ks p = k := by unfold keyOf; simp [hk]
  rw [e]
  exact ⟨hk, h3 k (List.mem_of_getElem? hk)⟩
theorem pieces_flat (ns : List Int) : (piecesF ns).flatten = ns := by
  have : ∀ (m : Nat) (ns : List Int), pieceN ns.length = m → (piecesF ns).flatten = ns := by
    intro m
    induction m with
    | zero =>
      intro ns h
      have : ns.length = 0 := by unfold pieceN at h; omega
      have e := List.eq_nil_of_length_eq_zero this
      subst e; rfl
    | succ m ih =>
      intro ns h
      have h2 : pieceN (ns.drop 3).length = m := by
        unfold pieceN at *
        rw [List.length_drop]; omega
      have ih2 := ih (ns.drop 3) h2
      unfold piecesF at *
      rw [h2] at ih2
      rw [h, List.range_succ_eq_map, List.map_cons, List.map_map, List.flatten_cons]
      have e : (List.range m).map ((fun i => (ns.drop (3 * i)).take 3) ∘ Nat.succ) = (List.range m).map fun i => ((ns.drop 3).drop (3 * i)).take 3 := by
        apply List.map_congr_left
        intro i _
        show (ns.drop (3 * (i + 1))).take 3 = _
        rw [List.drop_drop]
        congr 2
        omega
      rw [e, ih2, Nat.mul_zero, List.drop_zero]
      exact List.take_append_drop 3 ns
  exact this _ ns rfl
theorem cutG_piece {α : Type} (xs : List α) (i : Nat) : cutG xs (some ((0 : Int) + (i : Nat) * 3)) (some ((0 : Int) + (i : Nat) * 3 + 3)) = (xs.drop (3 * i)).take 3 := by
  unfold cutG
  rw [show (0 : Int) + (i : Nat) * 3 = ((3 * i : Nat) : Int) by omega, show ((3 * i : Nat) : Int) + 3 = ((3 * i + 3 : Nat) : Int) by omega, HT.sIx_nat, HT.sIx_nat]
  rcases Nat.lt_or_ge xs.length (3 * i) with h | h
  · rw [Nat.min_eq_right (by omega), Nat.min_eq_right (by omega), List.drop_of_length_le (Nat.le_refl _), List.drop_of_length_le (by omega)]
    simp
  · rw [Nat.min_eq_left h]
    rcases Nat.lt_or_ge xs.length (3 * i + 3) with h2 | h2
    · rw [Nat.min_eq_right (by omega), List.take_of_length_le (by rw [List.length_drop]; omega), List.take_of_length_le (by rw [List.length_drop]; omega)]
    · rw [Nat.min_eq_left h2]
      congr 1
      omega

/-! ### slices and sums of a list or a tuple -/
/-- a list or a tuple of data -/
def EDt (K : PySem.W.Frag) (M : List Addr) (H : Hp) (ds : List PyData) (v : V) : Prop := Dt K M H (.list ds) v ∨ Dt K M H (.tuple ds) v
def rSlE (K : PySem.W.Frag) : V → Option Int → Option Int → Hp → VK → Prop := fun x lo hi H Q => rSlL K x lo hi H Q ∨ rSlA K x lo hi H Q
section
variable {X : Cx} {K : PySem.W.Frag} {M : List Addr} {H H' : Hp} {H0 : Bs} {L : List (Addr × HO)} {Ds : List (PyData × V)} {Q : VK} {E : XK} {ds : List PyData} {p : Addr} {vs : List V} {v : V} {i : Int} {d : PyData} {n : Nat}
theorem b_slE (e : X.K = K := by rfl) : SlR X (rSlE K) := by
  subst e
  exact sl_list.or sl_tupA
theorem EDt.mono (h : EDt K M H ds v) (f : Fr M H H') : EDt K M H' ds v := h.elim (fun h => .inl (h.mono f)) (fun h => .inr (h.mono f))
theorem EDt.cons (h : EDt K M H ds v) (n : H p = none) : EDt K (p :: M) H ds v := h.elim (fun h => .inl (h.cons n)) (fun h => .inr (h.cons n))
theorem EDt.ex (h : EDt K M H ds v) : ∃ p xs, v = .ref p ∧ SqE K H p xs ∧ DtL K M H ds xs := by
  rcases h with h | h
  · simp only [Dt] at h
    obtain ⟨a, xs, rfl, s, r⟩ := h
    exact ⟨a, xs, rfl, .inl s.1, r⟩
  · simp only [Dt] at h
    obtain ⟨a, xs, rfl, s, r⟩ := h
    exact ⟨a, xs, rfl, .inr s.1, r⟩
/-- a slice of the same kind -/
theorem d_slE {lo hi : Option Int} (S : Sy K H0 M H L Ds) (h : EDt K M H ds (.ref p)) (q : ∀ u H', EDt K M H' (cutG ds lo hi) u → Sy K H0 M H' L Ds → Q u H') : rSlE K (.ref p) lo hi H Q := by
  rcases h with h | h
  · obtain ⟨xs, s, r⟩ := h.lst
    refine .inl (n_slL s.1 (d_newL S r.cut fun p' H' S' => ?_))
    exact q _ H' (.inl (S'.d Ds.length (by simp))) (S'.subD fun x hx => List.mem_append_left _ hx)
  · obtain ⟨xs, s, r⟩ := h.tup
    refine .inr ⟨p, xs, rfl, s.1, ?_⟩
    have hz := r.len
    refine ⟨fun z => ?_, fun _ p' hp => ?_⟩
    · refine q _ H (.inr ?_) S
      have e : cutG ds lo hi = ds := by
        unfold cutG
        rw [← hz, z.1, z.2, Nat.sub_zero, List.drop_zero, hz, List.take_length]
      rw [e]; exact h
    · have T := d_newT S (r.cut (lo := lo) (hi := hi)) (Q := fun u H' => ∃ ds', ds' = cutG ds lo hi ∧ EDt K M H' ds' u ∧ Sy K H0 M H' L Ds) (fun p' H' S' => ⟨_, rfl, .inr (S'.d Ds.length (by simp)), S'.subD fun x hx => List.mem_append_left _ hx⟩) p' hp
      obtain ⟨ds', rfl, t1, t2⟩ := T
      exact q _ _ t1 t2
theorem d_tupleE (S : Sy K H0 M H L Ds) (h : EDt K M H ds (.ref p)) (q : ∀ p H', Dt K M H' (.tuple ds) (.ref p) → Sy K H0 M H' L Ds → Q (.ref p) H') : rTupOf K [.ref p] H Q := by
  rcases h with h | h
  · refine d_tupleL S h fun p' H' S' => q p' H' (S'.d Ds.length (by simp)) (S'.subD fun x hx => List.mem_append_left _ hx)
  · exact d_tupleT h (q p H h S)
theorem d_lenE (h : EDt K M H ds (.ref p)) (q : Q (.int ds.length) H) : rLen K [.ref p] H Q := h.elim (fun h => d_lenL h q) (fun h => d_lenT h q)
theorem EDt.sqe (h : EDt K M H ds (.ref p)) : ∃ xs, SqE K H p xs ∧ DtL K M H ds xs := by
  obtain ⟨p', xs, e, s, r⟩ := h.ex
  cases e; exact ⟨xs, s, r⟩
theorem EDt.ints {ns : List Int} (h : EDt K M H (ns.map .int) (.ref p)) : SqE K H p (ns.map V.int) := Dt.sq h
theorem d_ixEI {n' : Int} (h : EDt K M H ds (.ref p)) (e : atI ds i = some (.int n')) (q : Q (.int n') H) : rIx K (.ref p) (.int i) H Q := h.elim (fun h => .inl (d_ixLI h e q)) (fun h => .inr (.inl (d_ixTI h e q)))
/-- defs on a list or a tuple of whole numbers -/
def spE (pre : List Int → Prop) (res : List Int → PyData) (K : PySem.W.Frag) : Sp := fun vs H Q _ => ∃ (M : List Addr) (ns : List Int) (v : V), vs = [v] ∧ (∀ a ∈ M, ∃ o, H a = some o) ∧ EDt K M H (ns.map .int) v ∧ pre ns ∧
  ∀ u H', Fr [] H H' → Dt K M H' (res ns) u → Q u H'
theorem use_E {pre : List Int → Prop} {res : List Int → PyData} (ns : List Int) (S : Sy K H0 M H L Ds) (h : EDt K M H (ns.map .int) v) (hp : pre ns) (k : ∀ u H', Sy K H0 M H' L (Ds ++ [(res ns, u)]) → Q u H') : spE pre res K [v] H Q E :=
  ⟨M, ns, v, rfl, S.dom, h, hp, fun u H' f hu => k u H' ((S.ex f).addD hu)⟩
theorem x_iEe {σ : L2.St} {R : It → Hp → Prop} {m : Nat} (hv : σ[m]? = some (some (.ref p))) (h : EDt K M H ds (.ref p))
    (q : ∀ J G xs, DtL K M H ds xs → Walk J ds.length G (fun i H x H' => H' = H ∧ xs[i]? = some x) → (∀ (D : Addr) (H' : Hp), H D = none → Fr [] H H' → G H') → R J H) : iEi K (tVar m) σ H R := x_iEw hv h q
end

/-! ### tests that the facts decide; empty lists -/
theorem nd_of {p : Prop} [Decidable p] (h : p) : (!decide p) = false := by simp [h]
theorem nd_not {p : Prop} [Decidable p] (h : ¬ p) : (!decide p) = true := by simp [h]
theorem q_b {Q : Bool → Hp → Prop} {b c : Bool} {H : Hp} (e : b = c) (q : Q c H) : Q b H := e ▸ q
section
variable {K : PySem.W.Frag} {M : List Addr} {H : Hp} {H0 : Bs} {L : List (Addr × HO)} {Ds : List (PyData × V)} {Q : VK} {d e : PyData} {v u : V} {a b : Addr}
theorem d_neNil (h1 : Dt K M H (.list []) v) (h2 : Dt K M H (.list []) u) (q : Q (.bl false) H) : rNeD K v u H Q := n_neD h1.dp h2.dp (by decide +kernel) (by decide +kernel) (by simpa [PyData.eqv, PyData.eqvAll] using q)
theorem d_eqNil (h1 : Dt K M H (.list []) v) (h2 : Dt K M H (.list []) u) (q : Q (.bl true) H) : rEqD K v u H Q := n_eqD h1.dp h2.dp (by decide +kernel) (by decide +kernel) (by simpa [PyData.eqv, PyData.eqvAll] using q)
theorem d_neS (h1 : Dt K M H d v) (h2 : Dt K M H d u) (s : SeqAt.shaped d = true) (q : Q (.bl false) H) : rNeD K v u H Q := by
  refine n_neD h1.dp h2.dp s s ?_
  rw [SeqAt.eqv_refl d (SeqAt.canLay_of_shaped s)]; exact q
theorem d_eqS (h1 : Dt K M H d v) (h2 : Dt K M H d u) (s : SeqAt.shaped d = true) (q : Q (.bl true) H) : rEqD K v u H Q := by
  refine n_eqD h1.dp h2.dp s s ?_
  rw [SeqAt.eqv_refl d (SeqAt.canLay_of_shaped s)]; exact q
end

/-! ### drawn data: by a row; the row alone is changed, what comes out is clear of M -/
def spDrawD {α : Type} (args : α → List PyData) (pre : α → Prop) (res : α → PyData → Prop) (K : PySem.W.Frag) : Sp := fun vs H Q _ => ∃ (M : List Addr) (x : α) (r a : Addr) (q : Rho) (ns : List Int) (ws : List V), vs = .ref r :: ws ∧
  H r = some (rowO a q) ∧ q.ok ∧ SLA K M H a (ns.map V.int) ∧ ns.length ≤ 63 ∧ r ∈ M ∧ (∀ b ∈ M, ∃ o, H b = some o) ∧ DtL K M H (args x) ws ∧ pre x ∧
  ∀ d v q' H', res x d → q'.ok → Fr [r] H H' → H' r = some (rowO a q') → Dt K M H' d v → Q v H'
section
variable {α : Type} {args : α → List PyData} {pre : α → Prop} {res : α → PyData → Prop} {K : PySem.W.Frag} {M : List Addr} {H : Hp} {H0 : Bs} {L : List (Addr × HO)} {Ds : List (PyData × V)} {Q : VK} {E : XK} {vs ws : List V} {r a p D : Addr} {q : Rho} {ns : List Int} {ds : List PyData} {j : Nat} {σ : L2.St} {te : TE} {i : Int} {d : PyData} {n : Nat}
theorem spDrawD_len {m : Nat} (h : spDrawD args pre res K vs H Q E) (e : ∀ x, (args x).length + 1 = m) : vs.length = m := by
  obtain ⟨M, x, r, a, q, ns, ws, rfl, _, _, _, _, _, _, hd, _⟩ := h
  rw [List.length_cons, hd.len, e]
theorem use_DD (x : α) (S : Sy K H0 M H ((r, rowO a q) :: L) ((script ns, .ref a) :: Ds)) (hM : r ∈ M ∧ H0.may r) (hq : q.ok) (hl : ns.length ≤ 63) (hd : DtL K M H (args x) ws) (hp : pre x)
    (k : ∀ d v q' H', res x d → q'.ok → Sy K H0 M H' ((r, rowO a q') :: L) ((script ns, .ref a) :: (Ds ++ [(d, v)])) → Q v H') : spDrawD args pre res K (.ref r :: ws) H Q E :=
  ⟨M, x, r, a, q, ns, ws, rfl, S.get 0 rfl, hq, dt_script.mp (S.d 0 rfl), hl, hM.1, S.dom, hd, hp, fun d v q' H' hr ok f e hv => k d v q' H' hr ok ((S.drawn hM f e).addD hv)⟩
theorem Sy.ofDD (h0 : H r = some (rowO a q)) (hs : SLA K M H a (ns.map V.int)) (hr : r ∈ M) (hdom : ∀ b ∈ M, ∃ o, H b = some o) (hd : DtL K M H ds ws) : Sy K ⟨H, [r]⟩ M H [(r, rowO a q)] ((script ns, .ref a) :: ds.zip ws) :=
  Sy.start _ _ _ (fun x hx => by rw [List.mem_singleton.mp hx]; exact h0) (by simp) (fun x hx => by
      rcases List.mem_cons.mp hx with rfl | hx
      · exact dt_script.mpr hs
      · obtain ⟨i, hi⟩ := List.getElem?_of_mem hx
        rw [List.getElem?_zip_eq_some] at hi
        obtain ⟨v, hv, w⟩ := hd.at hi.1
        rw [hi.2] at hv; cases hv; exact w) hdom (fun b hb => by rw [List.mem_singleton.mp hb]; exact ⟨_, h0⟩)
theorem lcD_dataT (S : Sy K H0 M H L Ds) (h : Dt K M H (.tuple ds) (.ref p)) (hn : ds.length ≤ 100000) (g : Nat → PyData)
    (hte : ∀ (i : Nat) (d : PyData) (x : V) (D : Addr) (acc : List V) (Ds' : List (PyData × V)) (H' : Hp) (Q' : VK), ds[i]? = some d → Dt K M H d x → Dt K (D :: M) H' d x → Sy K (b0 H) (D :: M) H' (L ++ [(D, .lst acc)]) (Ds ++ Ds') →
      (∀ (u : V) (H'' : Hp), Sy K (b0 H) (D :: M) H'' (L ++ [(D, .lst acc)]) (Ds ++ Ds') → Dt K (D :: M) H'' (g i) u → Q' u H'') → te ((σ.set j none).set j (some x)) H' Q')
    (k : ∀ D H', Sy K H0 M H' L (Ds ++ [(.list ((List.range ds.length).map g), .ref D)]) → Q (.ref D) H') : LcO (gName j) tYes te [j] σ Q (Itt K p) H := by
  obtain ⟨xs, s, r⟩ := h.tup
  have hl := r.len
  refine lcW_data (y := fun i x => xs[i]? = some x) (n := ds.length) (by rw [← hl]; exact walk_tup) S (fun D H' hD f => s.still D H' hD (Fr.wk0 f)) hn g (fun i x D acc Ds' H' Q' hi hx hDn S' kk => ?_) k
  obtain ⟨d, hd⟩ := at_lt hi
  obtain ⟨u, hu, w⟩ := r.at hd
  rw [hx] at hu; cases hu
  exact hte i d x D acc Ds' H' Q' hd w ((w.cons hDn).mono (Fr.wk0 S'.fr)) S' kk
theorem d_slT {lo hi : Option Int} (S : Sy K H0 M H L Ds) (h : Dt K M H (.tuple ds) (.ref p)) (hw : ¬ (HT.sIx ds.length 0 lo = 0 ∧ HT.sIx ds.length ds.length hi = ds.length))
    (q : ∀ p H', Sy K H0 M H' L (Ds ++ [(.tuple (cutG ds lo hi), .ref p)]) → Q (.ref p) H') : rSlT K (.ref p) lo hi H Q := by
  obtain ⟨xs, s, r⟩ := h.tup
  exact ⟨p, xs, rfl, s.1, by rw [r.len]; exact hw, d_newT S r.cut q⟩
end
theorem sumsF_ok (ns : List Int) : 0 ≤ (sumsF ns).1 ∧ (sumsF ns).1 < 9973 ∧ 0 ≤ (sumsF ns).2 ∧ (sumsF ns).2 < 9973 := by
  rw [sums_is]
  exact ⟨Int.emod_nonneg _ (by decide), Int.emod_lt_of_pos _ (by decide), Int.emod_nonneg _ (by decide), Int.emod_lt_of_pos _ (by decide)⟩
theorem plainF_ok {ks : List Int} {p : Pic} (hk : ks.length ≤ 4) (h : gp ks p) : ∀ n ∈ plainF p, 0 ≤ n ∧ n < 9973 := by
  obtain ⟨h1, h2, h3, h4, _, h6, h7⟩ := h
  have s := sumsF_ok p.cells
  intro n hn
  unfold plainF at hn
  simp only [List.mem_cons, List.not_mem_nil, or_false] at hn
  rcases hn with rfl | rfl | rfl | rfl | rfl <;> omega
theorem join_pieces (ns : List Int) : joinF ((piecesF ns).map titleF) = sumsF ns := by rw [join_titles, pieces_flat]
theorem sum_pieces (ns : List Int) : (((piecesF ns).map titleF).map fun t => t.2.2).sum = ns.length := by
  have : ∀ cs : List (List Int), ((cs.map titleF).map fun t => t.2.2).sum = (cs.flatten.length : Int) := by
    intro cs
    induction cs with
    | nil => rfl
    | cons c r ih =>
      rw [List.map_cons, List.map_cons, List.sum_cons, ih, List.flatten_cons, List.length_append]
      simp [titleF]
  rw [this, pieces_flat]
theorem piece_len {ns c : List Int} (h : c ∈ piecesF ns) : c.length ≤ 3 := by
  obtain ⟨j, hj, rfl⟩ := List.mem_map.mp h
  rw [List.length_take]; omega
theorem Dt.refT {K : PySem.W.Frag} {M : List Addr} {H : Hp} {ds : List PyData} {v : V} (h : Dt K M H (.tuple ds) v) : ∃ a, v = .ref a := by
  simp only [Dt] at h
  obtain ⟨a, _, rfl, _⟩ := h
  exact ⟨a, rfl⟩
theorem Dt.refL {K : PySem.W.Frag} {M : List Addr} {H : Hp} {ds : List PyData} {v : V} (h : Dt K M H (.list ds) v) : ∃ a, v = .ref a := by
  simp only [Dt] at h
  obtain ⟨a, _, rfl, _⟩ := h
  exact ⟨a, rfl⟩

/-! ### manifests: their depth, their parts -/
theorem dep_trips : ∀ ts : List (Int × Int × Int), PyData.depthAll (ts.map tripD) ≤ 1
  | [] => by simp [PyData.depthAll]
  | t :: r => by
    have := dep_trips r
    simp only [List.map_cons, PyData.depthAll, PyData.depth]
    omega
theorem ok_trips : ∀ ts : List (Int × Int × Int), okD.okDL (ts.map tripD) = true
  | [] => by simp [okD.okDL]
  | t :: r => by
    have := ok_trips r
    simp only [List.map_cons, okD.okDL, okD, this, Bool.and_true]
    simp
theorem depthAll_app : ∀ (a b : List PyData), PyData.depthAll (a ++ b) = max (PyData.depthAll a) (PyData.depthAll b)
  | [], b => by simp [PyData.depthAll]
  | x :: a, b => by
    simp only [List.cons_append, PyData.depthAll, depthAll_app a b]; omega
theorem okDL_app : ∀ (a b : List PyData), okD.okDL (a ++ b) = (okD.okDL a && okD.okDL b)
  | [], b => by simp [okD.okDL]
  | x :: a, b => by simp only [List.cons_append, okD.okDL, okDL_app a b, Bool.and_assoc]
theorem okDL_ints : ∀ ns : List Int, okD.okDL (ns.map .int) = true
  | [] => by simp [okD.okDL]
  | n :: r => by simp [okD.okDL, okD, okDL_ints r]
theorem pieces_len {ns : List Int} (h : ns.length ≤ 12) : (piecesF ns).length ≤ 4 := by
  unfold piecesF pieceN
  rw [List.length_map, List.length_range]; omega
theorem maniD_dep (ks : List Int) (p : Pic) : (maniD ks p).depth ≤ 3 := by
  unfold maniD
  have h := dep_trips ((piecesF p.cells).map titleF)
  simp only [PyData.depth, depthAll_app, dep_ints, PyData.depthAll]
  omega
theorem maniD_ok (ks : List Int) (p : Pic) (h : p.cells.length ≤ 12) : okD (maniD ks p) = true := by
  unfold maniD
  have h1 := pieces_len h
  simp only [okD, okDL_app, okDL_ints, okD.okDL, ok_trips, Bool.and_true, Bool.true_and, Bool.and_eq_true, decide_eq_true_eq, List.length_append, List.length_map, List.length_singleton]
  constructor
  · simp [headF, plainF]
  · omega
section
variable {K : PySem.W.Frag} {M : List Addr} {H : Hp} {H0 : Bs} {L : List (Addr × HO)} {Ds : List (PyData × V)} {Q : VK} {ds es : List PyData} {p : Addr} {i : Int}
theorem d_ixTT (S : Sy K H0 M H L Ds) (h : Dt K M H (.tuple ds) (.ref p)) (e : atI ds i = some (.tuple es)) (q : ∀ b, Sy K H0 M H L (Ds ++ [(.tuple es, .ref b)]) → Q (.ref b) H) : rIxT K (.ref p) (.int i) H Q :=
  d_ixT S h e fun u S' => by
    obtain ⟨b, rfl⟩ := (S'.d Ds.length (d := .tuple es) (v := u) (by simp)).refT
    exact q b S'
theorem d_ixLT (S : Sy K H0 M H L Ds) (h : Dt K M H (.list ds) (.ref p)) (e : atI ds i = some (.tuple es)) (q : ∀ b, Sy K H0 M H L (Ds ++ [(.tuple es, .ref b)]) → Q (.ref b) H) : rIxL K (.ref p) (.int i) H Q :=
  d_ixL S h e fun u S' => by
    obtain ⟨b, rfl⟩ := (S'.d Ds.length (d := .tuple es) (v := u) (by simp)).refT
    exact q b S'
end

/-! ## texts -/
section
variable {K : PySem.W.Frag} {M : List Addr} {H : Hp} {H0 : Bs} {L : List (Addr × HO)} {Ds : List (PyData × V)} {Q : VK} {σ : L2.St} {tt : TT} {te : TE} {j : Nat} {p : Addr}
theorem pe_gs {X : Cx} {x : Str} {pos : Pos} {i : Str} (hg : Gl X x) (h : ∃ t, X.mg x = some (.str i t)) (hd : (x == ("__debug__" : Str)) = false := by decide) : PE X (.Name x pos) (tC (.str i)) := by
  obtain ⟨t, e⟩ := h
  exact pe_glob hg e ⟨t, rfl⟩ hd
/-- [e for x in ..], e's value f i, as an exact entry -/
theorem lcW_map {J : It} {n : Nat} {G : Hp → Prop} {y : Nat → V → Prop} (w : Walk J n G (fun i H x H' => H' = H ∧ y i x)) (S : Sy K H0 M H L Ds) (hG : ∀ (D : Addr) (H' : Hp), H D = none → Fr [] H H' → G H') (hn : n ≤ 100000) (f : Nat → V)
    (hte : ∀ (i : Nat) (x : V) (D : Addr) (acc : List V) (H' : Hp) (Q' : VK), i < n → y i x → H D = none → Sy K (b0 H) (D :: M) H' (L ++ [(D, .lst acc)]) Ds →
      (∀ H'', Sy K (b0 H) (D :: M) H'' (L ++ [(D, .lst acc)]) Ds → Q' (f i) H'') → te ((σ.set j none).set j (some x)) H' Q')
    (k : ∀ D H', H D = none → Sy K H0 M H' (L ++ [(D, .lst ((List.range n).map f))]) Ds → Q (.ref D) H') : LcO (gName j) tYes te [j] σ Q J H := by
  intro D hD
  have DF := hD
  refine lc_it w (fun i H' => i ≤ n ∧ Sy K (b0 H) (D :: M) H' (L ++ [(D, .lst ((List.range i).map f))]) Ds) ⟨Nat.zero_le _, S.rebase.newM hD⟩ (fun i H' _ S' => hG D H' hD S'.2.fr) ?_ ?_
  · rintro i x H2 H' hi ⟨_, T⟩ ⟨rfl, hy⟩
    refine ⟨wipe_one _, ?_⟩
    refine hte i x D _ H' _ hi hy hD T fun H'' T2 => ?_
    have gD : (L ++ [(D, HO.lst ((List.range i).map f))])[L.length]? = some (D, .lst ((List.range i).map f)) := by simp
    refine ⟨_, T2.get L.length gD, ?_, by omega, ?_⟩
    · rw [List.length_map, List.length_range]; exact szl (by omega)
    · have T3 := T2.set (o' := .lst ((List.range i).map f ++ [f i])) L.length gD ⟨List.mem_cons_self .., .inr DF⟩
      rw [show (L ++ [(D, HO.lst ((List.range i).map f))]).set L.length (D, .lst ((List.range i).map f ++ [f i])) = L ++ [(D, .lst ((List.range (i + 1)).map f))] by
        simp [List.range_succ]] at T3
      exact T3
  · rintro H' ⟨_, T⟩
    exact k D H' hD (S.over T).dropM
/-- the same over a tuple, a list, that is data -/
theorem lcD_mapT (S : Sy K H0 M H L Ds) {ds : List PyData} (h : Dt K M H (.tuple ds) (.ref p)) (hn : ds.length ≤ 100000) (f : Nat → V)
    (hte : ∀ (i : Nat) (d : PyData) (x : V) (D : Addr) (acc : List V) (H' : Hp) (Q' : VK), ds[i]? = some d → Dt K (D :: M) H' d x → Sy K (b0 H) (D :: M) H' (L ++ [(D, .lst acc)]) Ds →
      (∀ H'', Sy K (b0 H) (D :: M) H'' (L ++ [(D, .lst acc)]) Ds → Q' (f i) H'') → te ((σ.set j none).set j (some x)) H' Q')
    (k : ∀ D H', H D = none → Sy K H0 M H' (L ++ [(D, .lst ((List.range ds.length).map f))]) Ds → Q (.ref D) H') : LcO (gName j) tYes te [j] σ Q (Itt K p) H := by
  obtain ⟨xs, s, r⟩ := h.tup
  have hl := r.len
  refine lcW_map (y := fun i x => xs[i]? = some x) (n := ds.length) (by rw [← hl]; exact walk_tup) S (fun D H' hD f => s.still D H' hD (Fr.wk0 f)) hn f (fun i x D acc H' Q' hi hx hDn S' kk => ?_) k
  obtain ⟨d, hd⟩ := at_lt hi
  obtain ⟨u, hu, w⟩ := r.at hd
  rw [hx] at hu; cases hu
  exact hte i d x D acc H' Q' hd ((w.cons hDn).mono (Fr.wk0 S'.fr)) S' kk
/-- [x for x in a tuple that is data if ..], none taken -/
theorem lcD_noneT (S : Sy K H0 M H L Ds) {ds : List PyData} (h : Dt K M H (.tuple ds) (.ref p))
    (ht : ∀ (i : Nat) (d : PyData) (x : V) (D : Addr) (H' : Hp) (Q' : Bool → Hp → Prop), ds[i]? = some d → Dt K (D :: M) H' d x → Sy K (b0 H) (D :: M) H' (L ++ [(D, .lst [])]) Ds →
      (∀ H'', Sy K (b0 H) (D :: M) H'' (L ++ [(D, .lst [])]) Ds → Q' false H'') → tt ((σ.set j none).set j (some x)) H' Q')
    (k : ∀ D H', Sy K H0 M H' L (Ds ++ [(.list [], .ref D)]) → Q (.ref D) H') : LcO (gName j) tt te [j] σ Q (Itt K p) H := by
  obtain ⟨xs, s, r⟩ := h.tup
  intro D hD
  have w : Walk (Itt K p) ds.length (fun H => SqT K H p xs) (fun i H x H' => H' = H ∧ xs[i]? = some x) := by rw [← r.len]; exact walk_tup
  refine lc_it w (fun _ H' => Sy K (b0 H) (D :: M) H' (L ++ [(D, .lst [])]) Ds) (S.rebase.newM hD) (fun i H' _ T => s.still D H' hD (Fr.wk0 T.fr)) ?_ ?_
  · rintro i x H2 H' hi T ⟨rfl, hy⟩
    refine ⟨wipe_one _, ?_⟩
    obtain ⟨d, hd⟩ := at_lt hi
    obtain ⟨u, hu, w⟩ := r.at hd
    rw [hy] at hu; cases hu
    refine ht i d x D H' _ hd ((w.cons hD).mono (Fr.wk0 T.fr)) T fun H'' T2 => ?_
    exact x_iteF rfl T2
  · intro H' T
    have T1 : Sy K (b0 H) (D :: M) H' L Ds := T.sub (List.sublist_append_left _ _)
    have T2 := (S.over T1).dropM
    refine k D H' (T2.addD ?_)
    have gD : (L ++ [(D, HO.lst [])])[L.length]? = some (D, .lst []) := by simp
    exact Dt.lstI ⟨T.sl L.length gD, .inl (S.notM hD)⟩ DtL.nil'
/-- .. over a text's signs, none taken -/
theorem lcS_none (S : Sy K H0 M H L Ds) {z : Str}
    (ht : ∀ (i c : Nat) (D : Addr) (H' : Hp) (Q' : Bool → Hp → Prop), z.cps[i]? = some c → Sy K (b0 H) (D :: M) H' (L ++ [(D, .lst [])]) Ds →
      (∀ H'', Sy K (b0 H) (D :: M) H'' (L ++ [(D, .lst [])]) Ds → Q' false H'') → tt ((σ.set j none).set j (some (.str ⟨#[c]⟩))) H' Q')
    (k : ∀ D H', Sy K H0 M H' L (Ds ++ [(.list [], .ref D)]) → Q (.ref D) H') : LcO (gName j) tt te [j] σ Q (Its z) H :=
  lcW_none (y := fun i v => ∃ c, z.cps[i]? = some c ∧ v = .str ⟨#[c]⟩) (n := z.cps.size) walk_str S (fun _ _ _ _ => trivial) (fun i x D H' Q' hi hx S' kk => by
    obtain ⟨c, hc, rfl⟩ := hx
    exact ht i c D H' Q' hc S' kk) k
/-! rules over texts, named -/
def rStrI : List V → Hp → VK → Prop := fun xs H Q => ∃ i, xs = [.int i] ∧ i.natAbs.log2 < 1920 ∧ Q (.str (toString i)) H
def rIntS : List V → Hp → VK → Prop := fun xs H Q => ∃ a n, xs = [.str a] ∧ PySem.intText? a = some n ∧ a.length ≤ 640 ∧ Q (.int n) H
def rLenS : List V → Hp → VK → Prop := fun xs H Q => ∃ z, xs = [.str z] ∧ z.length ≤ sizeLine ∧ Q (.int z.length) H
def rNotIn1 : R2 := fun x y H Q => ∃ (c : Nat) (z : Str), x = .str ⟨#[c]⟩ ∧ y = .str z ∧ Q (.bl (!decide (c ∈ z.cps.toList))) H
def rJoin (K : PySem.W.Frag) : V → List V → Hp → VK → Prop := fun x xs H Q => ∃ a p, ∃ ys : List Str, x = .str a ∧ xs = [.ref p] ∧ (SqL K H p (ys.map V.str) ∨ SqT K H p (ys.map V.str)) ∧
      (ys.map (·.length)).sum + ys.length * a.length ≤ 16777216 ∧ Q (.str (Txt.join a ys)) H
def rSplit : V → List V → Hp → VK → Prop := fun x xs H Q => ∃ a b, x = .str a ∧ xs = [.str b] ∧ (b.length == 0) = false ∧ a.length + 2 ≤ sizeLine ∧ rNewStrs (Txt.split a b) H Q
section
variable {X : Cx}
theorem c_str : CallR X (.type "str") rStrI := call_str_int
theorem c_intS : CallR X (.type "int") rIntS := call_int_str
theorem c_lenS : CallR X (.builtin "len") rLenS := call_len_str
theorem b_join (e : X.K = K := by rfl) : MtR X "str.join" (rJoin K) := by subst e; exact mt_join
theorem c_split : MtR X "str.split" rSplit := mt_split
theorem c_notInS : OpR X (compareOp .NotIn) rNotIn1 := op_notIn_sign
theorem c_ixS : IxR X rIxS := ix_str
end
def numS (i : Int) : Str := Str.ofString (toString i)
theorem numS_tl {i : Int} (h : 0 ≤ i) : TL.tl (numS i) = TL.numL i.toNat := by
  obtain ⟨n, rfl⟩ := Int.eq_ofNat_of_zero_le h
  exact TL.tl_num n
theorem numS_len {i : Int} (h : 0 ≤ i) (h2 : i < 10000) : 1 ≤ (numS i).length ∧ (numS i).length ≤ 4 := by
  rw [TL.len_tl, numS_tl h]
  refine ⟨?_, TL.numL_len (k := 4) (by decide) (by omega)⟩
  have := TL.numL_ne i.toNat
  cases e : TL.numL i.toNat with
  | nil => exact absurd e this
  | cons a b => simp
theorem numS_int {i : Int} (h : 0 ≤ i) (h2 : i < 10000) : PySem.intText? (numS i) = some i := by
  have hl := (numS_len h h2).2
  rw [TL.len_tl, numS_tl h] at hl
  obtain ⟨n, rfl⟩ := Int.eq_ofNat_of_zero_le h
  exact TL.int_num (n := n) (by simpa using Nat.le_trans hl (by decide))
theorem numS_inj {i k : Int} (h : 0 ≤ i) (h2 : 0 ≤ k) (e : numS i = numS k) : i = k := by
  have e1 := congrArg TL.tl e
  rw [numS_tl h, numS_tl h2] at e1
  have := TL.numL_inj e1
  omega
theorem numS_free {i : Int} (h : 0 ≤ i) {s : Nat} (hs : s < 48 ∨ 57 < s) : s ∉ TL.tl (numS i) := by rw [numS_tl h]; exact TL.numL_free hs
theorem numL_head : ∀ n : Nat, n < 10000 → (TL.numL n).head? = some 48 → n = 0 := by
  intro n
  induction n using Nat.strongRecOn with
  | _ n ih =>
    intro hn he
    by_cases h : n < 10
    · rw [TL.numL_lt h] at he
      simp at he; omega
    · rw [TL.numL_step (by omega)] at he
      have h1 : (TL.numL (n / 10)).head? = some 48 := by
        cases e : TL.numL (n / 10) with
        | nil => exact absurd e (TL.numL_ne _)
        | cons a b => rw [e] at he; simpa using he
      have := ih (n / 10) (by omega) (by omega) h1
      omega
theorem n_strI {i : Int} (h : 0 ≤ i) (h2 : i < 10000) (q : Q (.str (numS i)) H) : rStrI [.int i] H Q := by
  refine ⟨i, rfl, ?_, q⟩
  have : i.natAbs < 2 ^ 14 := by omega
  by_cases h0 : i.natAbs = 0
  · rw [h0]; decide
  · have := (Nat.log2_lt h0).mpr this
    omega
theorem n_intS {i : Int} (h : 0 ≤ i) (h2 : i < 10000) (q : Q (.int i) H) : rIntS [.str (numS i)] H Q := ⟨numS i, i, rfl, numS_int h h2, by have := numS_len h h2; omega, q⟩
theorem n_lenS {z : Str} (h : z.length ≤ 16777216) (q : Q (.int z.length) H) : rLenS [.str z] H Q := ⟨z, rfl, szL h, q⟩
theorem n_join {a : Str} {ys : List Str} (h : SqE K H p (ys.map V.str)) (hz : (ys.map (·.length)).sum + ys.length * a.length ≤ 16777216) (q : Q (.str (Txt.join a ys)) H) : rJoin K (.str a) [.ref p] H Q := ⟨a, p, ys, rfl, rfl, h, hz, q⟩
theorem n_split {a b : Str} (hb : (b.length == 0) = false) (hz : a.length ≤ 1000000) (q : NewO H (.lst ((Txt.split a b).map V.str)) Q) : rSplit (.str a) [.str b] H Q := ⟨a, b, rfl, rfl, hb, szL (by omega), q⟩
theorem n_notInS {c : Nat} {z : Str} (q : Q (.bl (!decide (c ∈ z.cps.toList))) H) : rNotIn1 (.str ⟨#[c]⟩) (.str z) H Q := ⟨c, z, rfl, rfl, q⟩
theorem n_ixS {z : Str} {i : Int} {c : Nat} (hz : z.length ≤ 16777216) (e : atI z.cps.toList i = some c) (q : Q (.str ⟨#[c]⟩) H) : rIxS (.str z) (.int i) H Q := ⟨z, i, c, rfl, rfl, szL hz, e, q⟩
theorem x_iS {R : It → Hp → Prop} (q : te σ H fun v H1 => ∃ x, v = .str x ∧ R (Its x) H1) : iStr te σ H R := q
theorem x_sv {P : Str → Prop} {s : Str} (q : P s) : ∃ x, V.str s = .str x ∧ P x := ⟨s, rfl, q⟩
theorem x_m1 {r : V → List V → Hp → VK → Prop} {to : TE} (q : to σ H fun x H1 => (∃ a, x = .str a) ∧ te σ H1 fun y H2 => r x [y] H2 Q) : tM1 r to te σ H Q := q
theorem x_m1s {P : Prop} {s : Str} (q : P) : (∃ a, V.str s = .str a) ∧ P := ⟨⟨s, rfl⟩, q⟩
theorem DtL.strs {K : PySem.W.Frag} {M : List Addr} {H : Hp} : ∀ {ss : List Str} {vs : List V}, DtL K M H (ss.map PyData.str) vs ↔ vs = ss.map V.str
  | [], [] => by simp [DtL]
  | [], _ :: _ => by simp [DtL]
  | s :: r, vs => by
    rw [List.map_cons, List.map_cons]
    simp only [DtL]
    constructor
    · rintro ⟨x, xs, rfl, hx, hr⟩
      simp only [Dt] at hx
      rw [DtL.strs.mp hr, hx]
    · rintro rfl
      exact ⟨_, _, rfl, by simp only [Dt], DtL.strs.mpr rfl⟩
end
/-! ### what lies in a joined text -/
theorem mem_joinL {s x : Nat} (hx : x ≠ s) : ∀ {ps : List (List Nat)}, (∀ p ∈ ps, x ∉ p) → x ∉ TL.joinL [s] ps
  | [], _ => by simp [TL.joinL]
  | [p], h => by simpa [TL.joinL] using h p (List.mem_singleton.mpr rfl)
  | p :: q :: r, h => by
    show x ∉ p ++ ([s] ++ TL.joinL [s] (q :: r))
    have h1 := h p (List.mem_cons_self ..)
    have h2 := mem_joinL hx (ps := q :: r) fun z hz => h z (List.mem_cons_of_mem _ hz)
    simp only [List.mem_append, List.mem_singleton, not_or]
    exact ⟨h1, hx, h2⟩
theorem len_joinL {s : Nat} : ∀ {ps : List (List Nat)}, (TL.joinL [s] ps).length ≤ (ps.map (·.length)).sum + ps.length
  | [] => by simp [TL.joinL]
  | [p] => by simp [TL.joinL]
  | p :: q :: r => by
    have h := len_joinL (s := s) (ps := q :: r)
    show (p ++ ([s] ++ TL.joinL [s] (q :: r))).length ≤ _
    simp only [List.length_append, List.map_cons, List.sum_cons, List.length_cons, List.length_nil] at h ⊢
    omega
theorem sum_le_of {ss : List Str} {b : Nat} (h : ∀ s ∈ ss, s.length ≤ b) : (ss.map (·.length)).sum ≤ ss.length * b := by
  induction ss with
  | nil => simp
  | cons a r ih =>
    have h1 := h a (List.mem_cons_self ..)
    have h2 := ih fun s hs => h s (List.mem_cons_of_mem _ hs)
    simp only [List.map_cons, List.sum_cons, List.length_cons, Nat.succ_mul]
    omega
theorem join_len {y : Str} {s : Nat} (ey : TL.tl y = [s]) {ss : List Str} {b : Nat} (h : ∀ z ∈ ss, z.length ≤ b) : (Txt.join y ss).length ≤ ss.length * (b + 1) := by
  rw [TL.len_tl, TL.join_eq, TL.tl_join, ey]
  refine Nat.le_trans len_joinL ?_
  have h1 := sum_le_of h
  rw [List.map_map, List.length_map, Nat.mul_succ]
  have e : (ss.map ((fun x : List Nat => x.length) ∘ TL.tl)) = ss.map (·.length) := List.map_congr_left fun z _ => (TL.len_tl z).symm
  rw [e]
  omega
/-! ### a manifest -/
structure Man where
  v : Int
  many : Int
  one : Int
  two : Int
  n : Int
  s : Int
  ts : List (Int × Int × Int)
abbrev Man.h (m : Man) : List Int := [m.v, m.many, m.one, m.two, m.n, m.s]
def manD (m : Man) : PyData := .tuple (m.h.map .int ++ [.tuple (m.ts.map tripD)])
def sizesF (n : Int) : List Int := (List.range (pieceN n.toNat)).map fun (i : Nat) => min 3 (n - (0 + (i : Int) * 3))
structure gman (m : Man) : Prop where
  v : 1 ≤ m.v ∧ m.v ≤ 999
  many : 1 ≤ m.many ∧ m.many ≤ 12
  sizes : m.ts.map (fun t => t.2.2) = sizesF m.many
  ts : ∀ t ∈ m.ts, (0 ≤ t.1 ∧ t.1 ≤ 9972) ∧ (0 ≤ t.2.1 ∧ t.2.1 ≤ 9972)
  sums : joinF m.ts = (m.one, m.two)
  n : 0 ≤ m.n ∧ m.n < 4
  s : 0 ≤ m.s ∧ m.s ≤ 9972
def trS (t : Int × Int × Int) : Str := Txt.join "," [numS t.1, numS t.2.1, numS t.2.2]
def wordsF (m : Man) : List Str := ("picture" : Str) :: m.h.map numS ++ m.ts.map trS
def textF (m : Man) : Str := Txt.join " " (wordsF m)
theorem gman.many' {m : Man} (g : gman m) : m.ts.length ≤ 4 := by
  have h := congrArg List.length g.sizes
  have := g.many
  rw [List.length_map] at h
  unfold sizesF at h
  rw [List.length_map, List.length_range] at h
  unfold pieceN at h
  omega
theorem gman.three {m : Man} (g : gman m) {t : Int × Int × Int} (ht : t ∈ m.ts) : 0 ≤ t.2.2 ∧ t.2.2 ≤ 3 := by
  have h : t.2.2 ∈ sizesF m.many := by rw [← g.sizes]; exact List.mem_map_of_mem ht
  have hm := g.many
  unfold sizesF at h
  obtain ⟨i, hi, e⟩ := List.mem_map.mp h
  have hi := List.mem_range.mp hi
  unfold pieceN at hi
  omega
theorem gman.hb {m : Man} (g : gman m) : ∀ i ∈ m.h, 0 ≤ i ∧ i < 10000 := by
  have h1 := sumsF_ok
  have hj : ∀ ts : List (Int × Int × Int), 0 ≤ (joinF ts).1 ∧ (joinF ts).1 < 9973 ∧ 0 ≤ (joinF ts).2 ∧ (joinF ts).2 < 9973 := by
    intro ts
    by_cases e : ts = []
    · subst e; decide
    · obtain ⟨a, b, rfl⟩ : ∃ a b, ts = a ++ [b] := ⟨ts.dropLast, ts.getLast e, (List.dropLast_concat_getLast e).symm⟩
      rw [joinF_more]; unfold jstep; dsimp only; omega
  have h2 := hj m.ts
  rw [g.sums] at h2
  have := g.v; have := g.many; have := g.n; have := g.s
  intro i hi
  simp only [Man.h, List.mem_cons, List.not_mem_nil, or_false] at hi
  rcases hi with rfl | rfl | rfl | rfl | rfl | rfl <;> omega
theorem gman.tb {m : Man} (g : gman m) {t : Int × Int × Int} (ht : t ∈ m.ts) : (0 ≤ t.1 ∧ t.1 < 10000) ∧ (0 ≤ t.2.1 ∧ t.2.1 < 10000) ∧ (0 ≤ t.2.2 ∧ t.2.2 < 10000) := by
  have h1 := g.ts t ht
  have h2 := g.three ht
  omega
theorem trS_len {t : Int × Int × Int} (h : (0 ≤ t.1 ∧ t.1 < 10000) ∧ (0 ≤ t.2.1 ∧ t.2.1 < 10000) ∧ (0 ≤ t.2.2 ∧ t.2.2 < 10000)) : (trS t).length ≤ 15 := by
  refine join_len (s := 44) (b := 4) (by rfl) ?_
  intro z hz
  simp only [List.mem_cons, List.not_mem_nil, or_false] at hz
  rcases hz with rfl | rfl | rfl <;> first | exact (numS_len h.1.1 h.1.2).2 | exact (numS_len h.2.1.1 h.2.1.2).2 | exact (numS_len h.2.2.1 h.2.2.2).2
theorem trS_free {t : Int × Int × Int} (h : (0 ≤ t.1 ∧ t.1 < 10000) ∧ (0 ≤ t.2.1 ∧ t.2.1 < 10000) ∧ (0 ≤ t.2.2 ∧ t.2.2 < 10000)) : 32 ∉ TL.tl (trS t) := by
  unfold trS
  rw [TL.join_eq, TL.tl_join]
  refine mem_joinL (s := 44) (by decide) ?_
  intro p hp
  simp only [List.map_cons, List.map_nil, List.mem_cons, List.not_mem_nil, or_false] at hp
  rcases hp with rfl | rfl | rfl <;> exact numS_free (by omega) (by decide)
theorem trS_split {t : Int × Int × Int} (h : (0 ≤ t.1 ∧ t.1 < 10000) ∧ (0 ≤ t.2.1 ∧ t.2.1 < 10000) ∧ (0 ≤ t.2.2 ∧ t.2.2 < 10000)) : Txt.split (trS t) "," = [numS t.1, numS t.2.1, numS t.2.2] := by
  refine TL.split_join (s := 44) (S := []) (by rfl) (by decide +kernel) (by simp) ?_
  intro p hp
  simp only [List.mem_cons, List.not_mem_nil, or_false] at hp
  rcases hp with rfl | rfl | rfl <;> exact numS_free (by omega) (by decide)
theorem gman.words {m : Man} (g : gman m) : ∀ z ∈ wordsF m, z.length ≤ 15 ∧ 32 ∉ TL.tl z := by
  intro z hz
  unfold wordsF at hz
  rcases List.mem_append.mp hz with hz | hz
  · rcases List.mem_cons.mp hz with rfl | hz
    · exact ⟨by decide, by decide⟩
    · obtain ⟨i, hi, rfl⟩ := List.mem_map.mp hz
      have := g.hb i hi
      exact ⟨by have := (numS_len this.1 this.2).2; omega, numS_free this.1 (by decide)⟩
  · obtain ⟨t, ht, rfl⟩ := List.mem_map.mp hz
    exact ⟨trS_len (g.tb ht), trS_free (g.tb ht)⟩
theorem gman.split {m : Man} (g : gman m) : Txt.split (textF m) " " = wordsF m := by
  refine TL.split_join (s := 32) (S := []) (by rfl) (by decide +kernel) (by simp [wordsF]) fun p hp => (g.words p hp).2
theorem gman.wlen {m : Man} (g : gman m) : (wordsF m).length ≤ 11 := by
  have := g.many'
  unfold wordsF
  simp only [List.length_append, List.length_cons, List.length_map, List.length_nil, Man.h]
  omega
theorem gman.tlen {m : Man} (g : gman m) : (textF m).length ≤ 176 := by
  refine Nat.le_trans (join_len (s := 32) (b := 15) (by rfl) fun z hz => (g.words z hz).1) ?_
  have := g.wlen
  omega
theorem gman.jlen {m : Man} (g : gman m) : ((wordsF m).map (·.length)).sum + (wordsF m).length * (" " : Str).length ≤ 16777216 := by
  have h1 := sum_le_of (fun z hz => (g.words z hz).1)
  have := g.wlen
  have e : (" " : Str).length = 1 := by decide
  rw [e]
  omega
theorem trS_jlen {t : Int × Int × Int} (h : (0 ≤ t.1 ∧ t.1 < 10000) ∧ (0 ≤ t.2.1 ∧ t.2.1 < 10000) ∧ (0 ≤ t.2.2 ∧ t.2.2 < 10000)) :
    (([numS t.1, numS t.2.1, numS t.2.2] : List Str).map (·.length)).sum + ([numS t.1, numS t.2.1, numS t.2.2] : List Str).length * ("," : Str).length ≤ 16777216 := by
  have h1 := numS_len h.1.1 h.1.2
  have h2 := numS_len h.2.1.1 h.2.1.2
  have h3 := numS_len h.2.2.1 h.2.2.2
  have e : ("," : Str).length = 1 := by decide
  rw [e]
  simp only [List.map_cons, List.map_nil, List.sum_cons, List.sum_nil, List.length_cons, List.length_nil]
  omega
/-- the manifest of a picture is one -/
def manOf (ks : List Int) (p : Pic) : Man := ⟨p.v, p.cells.length, (sumsF p.cells).1, (sumsF p.cells).2, p.n, sealF (keyOf ks p) (plainF p), (piecesF p.cells).map titleF⟩
theorem manOf_D (ks : List Int) (p : Pic) : maniD ks p = manD (manOf ks p) := rfl
theorem manOf_ok {ks : List Int} {p : Pic} (hk : gk ks) (hp : gp ks p) : gman (manOf ks p) := by
  have hko := keyOf_ok hk hp
  obtain ⟨p1, p2, p3, p4, p5, p6, p7⟩ := hp
  obtain ⟨g1, g2, g3⟩ := hk
  refine ⟨⟨p1, p2⟩, ?_, ?_, ?_, ?_, ?_, ?_⟩
  · show 1 ≤ (p.cells.length : Int) ∧ (p.cells.length : Int) ≤ 12
    omega
  · show ((piecesF p.cells).map titleF).map (fun t => t.2.2) = sizesF (p.cells.length : Int)
    unfold piecesF sizesF
    rw [List.map_map, List.map_map, Int.toNat_natCast]
    refine List.map_congr_left fun i hi => ?_
    have hi := List.mem_range.mp hi
    unfold pieceN at hi
    show ((((p.cells.drop (3 * i)).take 3).length : Nat) : Int) = min 3 ((p.cells.length : Int) - (0 + (i : Int) * 3))
    rw [List.length_take, List.length_drop]
    omega
  · intro t ht
    obtain ⟨c, _, rfl⟩ := List.mem_map.mp ht
    have := sumsF_ok c
    unfold titleF
    dsimp only
    omega
  · exact join_pieces p.cells
  · show 0 ≤ p.n ∧ p.n < 4
    omega
  · show 0 ≤ sealF (keyOf ks p) (plainF p) ∧ sealF (keyOf ks p) (plainF p) ≤ 9972
    have := sealF_lt (keyOf ks p) (plainF p) (by omega) (by omega)
    omega

def spWorth (K : PySem.W.Frag) : Sp := fun vs H Q _ => ∃ n : Int, vs = [.int n] ∧ Q (.bl (decide (0 ≤ n) && decide (n ≤ 9972))) H
theorem use_worth {K : PySem.W.Frag} {n : Int} {H : Hp} {Q : VK} {E : XK} (h0 : 0 ≤ n) (h1 : n ≤ 9972) (q : Q (.bl true) H) : spWorth K [.int n] H Q E := ⟨n, rfl, by simpa [h0, h1] using q⟩
theorem DtL.consM {K : PySem.W.Frag} {M : List Addr} {H : Hp} {p : Addr} {ds : List PyData} {vs : List V} (h : DtL K M H ds vs) (n : H p = none) : DtL K (p :: M) H ds vs := h.mapM (fun _ _ s => s.cons n) (fun _ _ s => s.cons n)
theorem man_at {K : PySem.W.Frag} {M : List Addr} {H : Hp} {m : Man} {v : V} (h : Dt K M H (manD m) v) : ∃ p tp zs, v = .ref p ∧ STA K M H p [.int m.v, .int m.many, .int m.one, .int m.two, .int m.n, .int m.s, .ref tp] ∧ STA K M H tp zs ∧ DtL K M H (m.ts.map tripD) zs := by
  obtain ⟨p, rfl⟩ := Dt.refT h
  obtain ⟨xs, sp, hx⟩ := Dt.tup h
  simp only [Man.h, List.map_cons, List.map_nil, List.cons_append, List.nil_append, DtL] at hx
  obtain ⟨_, _, rfl, h1, _, _, rfl, h2, _, _, rfl, h3, _, _, rfl, h4, _, _, rfl, h5, _, _, rfl, h6, _, _, rfl, ht, rfl⟩ := hx
  simp only [Dt] at h1 h2 h3 h4 h5 h6
  subst h1; subst h2; subst h3; subst h4; subst h5; subst h6
  obtain ⟨tp, rfl⟩ := ht.refT
  obtain ⟨zs, s4, r4⟩ := ht.tup
  exact ⟨p, tp, zs, rfl, sp, s4, r4⟩
theorem manD_dep (m : Man) : (manD m).depth ≤ 3 := by
  unfold manD
  simp only [PyData.depth, Man.h, List.map_cons, List.map_nil, List.cons_append, List.nil_append, PyData.depthAll]
  have := dep_trips m.ts
  omega
theorem manD_ok {m : Man} (g : gman m) : okD (manD m) = true := by
  have hl := g.many'
  unfold manD
  simp only [okD, Man.h, List.map_cons, List.map_nil, List.cons_append, List.nil_append, okD.okDL, Bool.and_eq_true, decide_eq_true_eq, List.length_map, Bool.true_and, Bool.and_true]
  exact ⟨by simp only [List.length_cons, List.length_nil]; omega, by omega, ok_trips m.ts⟩
theorem mem_cutV {xs : List V} {lo hi : Option Int} {x : V} (h : x ∈ cutV xs lo hi) : x ∈ xs := by
  unfold cutV at h
  exact List.mem_of_mem_drop (List.mem_of_mem_take h)

/-! ## the memory -/
structure Mem where
  cells : List (Option Int)
  left : Option Int
  torn : Str
  up : Bool
  many : Int
def memF (l : Addr) (μ : Mem) : List (Str × V) := [("worths", .ref l), ("left", ov μ.left), ("torn", .str μ.torn), ("is_up", .bl μ.up), ("many", .int μ.many)]
abbrev memO (C dx l : Addr) (μ : Mem) : HO := .ins C dx (memF l μ)
abbrev cellsO (μ : Mem) : HO := .lst (μ.cells.map ov)
def MemAt (C : Addr) (H : Hp) (m dx l : Addr) (μ : Mem) : Prop := H m = some (memO C dx l μ) ∧ H l = some (cellsO μ) ∧ m ≠ l
def Mem.new (n : Nat) : Mem := ⟨List.replicate n (some 0), none, "old", true, 0⟩
theorem lk_here {k : Str} {v : V} {r : List (Str × V)} : List.lookup k ((k, v) :: r) = some v := by
  have e : (k == k) = true := beq_self_eq_true k
  simp only [List.lookup, e]
theorem lk_past {k g : Str} {v : V} {r : List (Str × V)} (h : (k == g) = false) : List.lookup k ((g, v) :: r) = List.lookup k r := by
  simp only [List.lookup, h]
theorem put_here {f : Str} {v x : V} {r : List (Str × V)} : putF f v ((f, x) :: r) = (f, v) :: r := if_pos rfl
theorem put_past {f g : Str} {v x : V} {r : List (Str × V)} (h : ¬ g = f) : putF f v ((g, x) :: r) = (g, x) :: putF f v r := if_neg h
theorem put_nil {f : Str} {v : V} : putF f v [] = [(f, v)] := rfl
section
variable {l : Addr} {μ : Mem}
theorem memF_worths : (memF l μ).lookup ("worths" : Str) = some (.ref l) := lk_here
theorem memF_left : (memF l μ).lookup ("left" : Str) = some (ov μ.left) := (lk_past (by decide +kernel)).trans lk_here
theorem memF_torn : (memF l μ).lookup ("torn" : Str) = some (.str μ.torn) := (lk_past (by decide +kernel)).trans ((lk_past (by decide +kernel)).trans lk_here)
theorem memF_up : (memF l μ).lookup ("is_up" : Str) = some (.bl μ.up) := (lk_past (by decide +kernel)).trans ((lk_past (by decide +kernel)).trans ((lk_past (by decide +kernel)).trans lk_here))
theorem memF_many : (memF l μ).lookup ("many" : Str) = some (.int μ.many) := (lk_past (by decide +kernel)).trans ((lk_past (by decide +kernel)).trans ((lk_past (by decide +kernel)).trans ((lk_past (by decide +kernel)).trans lk_here)))
theorem memF_no {m : Str} (h : (m == "worths" || m == "left" || m == "torn" || m == "is_up" || m == "many") = false) : (memF l μ).lookup m = none := by
  simp only [Bool.or_eq_false_iff] at h
  obtain ⟨⟨⟨⟨h1, h2⟩, h3⟩, h4⟩, h5⟩ := h
  unfold memF
  rw [lk_past h1, lk_past h2, lk_past h3, lk_past h4, lk_past h5]; rfl
theorem memF_pleft (v : Option Int) : putF ("left" : Str) (ov v) (memF l μ) = memF l { μ with left := v } := (put_past (by decide +kernel)).trans (congrArg _ put_here)
theorem memF_ptorn (v : Str) : putF ("torn" : Str) (.str v) (memF l μ) = memF l { μ with torn := v } := (put_past (by decide +kernel)).trans (congrArg _ ((put_past (by decide +kernel)).trans (congrArg _ put_here)))
theorem memF_pup (v : Bool) : putF ("is_up" : Str) (.bl v) (memF l μ) = memF l { μ with up := v } := (put_past (by decide +kernel)).trans (congrArg _ ((put_past (by decide +kernel)).trans (congrArg _ ((put_past (by decide +kernel)).trans (congrArg _ put_here)))))
theorem memF_pmany (v : Int) : putF ("many" : Str) (.int v) (memF l μ) = memF l { μ with many := v } := (put_past (by decide +kernel)).trans (congrArg _ ((put_past (by decide +kernel)).trans (congrArg _ ((put_past (by decide +kernel)).trans (congrArg _ ((put_past (by decide +kernel)).trans (congrArg _ put_here)))))))
theorem memF_new (l : Addr) (n : Nat) : putF ("many" : Str) (.int 0) (putF ("is_up" : Str) (.bl true) (putF ("torn" : Str) (.str "old") (putF ("left" : Str) .non (putF ("worths" : Str) (.ref l) [])))) = memF l (Mem.new n) := by
  repeat (first | rw [put_nil] | rw [put_past (by decide +kernel)])
  rfl
theorem len_putF (f : Str) (v : V) : ∀ fs : List (Str × V), (putF f v fs).length ≤ fs.length + 1
  | [] => by simp [putF]
  | (g, x) :: r => by
    have ih := len_putF f v r
    by_cases h : g = f
    · subst h; rw [put_here]; simp
    · rw [put_past h]; simp only [List.length_cons]; omega
end
def FldO (K : PySem.W.Frag) (f : Str) (x : V) (H : Hp) (Q : VK) : Prop := ∃ a C dx fs v, x = .ref a ∧ H a = some (.ins C dx fs) ∧ Cls K C ∧ NoAttr K C f ∧ fs.lookup f = some v ∧ Q v H
def MethO (C : Addr) (m : Str) (sp : Sp) (dvs : List V) (E : XK) (t : TA) (σ : L2.St) (x : V) (H : Hp) (Q : VK) : Prop := ∃ a dx fs, x = .ref a ∧ H a = some (.ins C dx fs) ∧ fs.lookup m = none ∧ t σ H fun vs H2 => sp (x :: (vs ++ dvs)) H2 Q E
def SetO (K : PySem.W.Frag) (f : Str) (y x : V) (H : Hp) (Q : Hp → Prop) : Prop := ∃ a C dx fs, x = .ref a ∧ H a = some (.ins C dx fs) ∧ Cls K C ∧ NoAttr K C f ∧ fs.length < 1000 ∧ Q (upd H a (.ins C dx (putF f y fs)))
def MakeO (C : Addr) (sp : Sp) (vs : List V) (E : XK) (H : Hp) (Q : VK) : Prop := ∀ x dx, H x = none → H dx = none → dx ≠ x → sp (.ref x :: vs) (upd (upd H dx (.own x)) x (.ins C dx [])) (fun v H2 => v = .non ∧ Q (.ref x) H2) E
section
variable {K : PySem.W.Frag} {M : List Addr} {H : Hp} {H0 : Bs} {L : List (Addr × HO)} {Ds : List (PyData × V)} {Q : VK} {σ : L2.St} {f m : Str} {ta tv : TE} {a C dx l : Addr} {μ : Mem} {sp : Sp} {dvs : List V} {E : XK} {t : TA} {D : Ends} {y : V} {fs : List (Str × V)}
theorem b_fld {X : Cx} {e : Expr} {pos : Pos} (he : PE X e ta) (hb : attributeBase e f X.env (eval e X.env) = eval e X.env) (eK : X.K = K := by rfl) : PE X (.Attribute e f pos) (tFld K ta f) := by subst eK; exact pe_fld he hb
theorem x_fld (q : ta σ H fun x H1 => FldO K f x H1 Q) : tFld K ta f σ H Q := q
theorem x_meth (q : ta σ H fun x H1 => MethO C m sp dvs E t σ x H1 Q) : tMeth C m sp dvs E ta t σ H Q := q
theorem x_sfld (q : tv σ H fun y H1 => ta σ H1 fun x H2 => SetO K f y x H2 fun H3 => D.nx σ H3) : sFld K ta tv f D σ H := q
theorem x_make (q : t σ H fun vs H1 => MakeO C sp (vs ++ dvs) E H1 Q) : tMake C sp dvs E t σ H Q := q
theorem n_worths (h : H a = some (memO C dx l μ)) (c : Cls K C) (n : NoAttr K C "worths") (q : Q (.ref l) H) : FldO K "worths" (.ref a) H Q := ⟨a, C, dx, _, _, rfl, h, c, n, memF_worths, q⟩
theorem n_left (h : H a = some (memO C dx l μ)) (c : Cls K C) (n : NoAttr K C "left") (q : Q (ov μ.left) H) : FldO K "left" (.ref a) H Q := ⟨a, C, dx, _, _, rfl, h, c, n, memF_left, q⟩
theorem n_torn (h : H a = some (memO C dx l μ)) (c : Cls K C) (n : NoAttr K C "torn") (q : Q (.str μ.torn) H) : FldO K "torn" (.ref a) H Q := ⟨a, C, dx, _, _, rfl, h, c, n, memF_torn, q⟩
theorem n_up (h : H a = some (memO C dx l μ)) (c : Cls K C) (n : NoAttr K C "is_up") (q : Q (.bl μ.up) H) : FldO K "is_up" (.ref a) H Q := ⟨a, C, dx, _, _, rfl, h, c, n, memF_up, q⟩
theorem n_many (h : H a = some (memO C dx l μ)) (c : Cls K C) (n : NoAttr K C "many") (q : Q (.int μ.many) H) : FldO K "many" (.ref a) H Q := ⟨a, C, dx, _, _, rfl, h, c, n, memF_many, q⟩
theorem n_meth (h : H a = some (memO C dx l μ)) (hm : (memF l μ).lookup m = none) (q : t σ H fun vs H2 => sp (.ref a :: (vs ++ dvs)) H2 Q E) : MethO C m sp dvs E t σ (.ref a) H Q := ⟨a, dx, _, rfl, h, hm, q⟩
/-- an attribute that is set -/
theorem n_set (S : Sy K H0 M H L Ds) (i : Nat) (h : L[i]? = some (a, .ins C dx fs)) (hm : a ∈ M ∧ H0.may a) (c : Cls K C) (n : NoAttr K C f) (hz : fs.length < 1000) {Q : Hp → Prop} {fs' : List (Str × V)} (e : putF f y fs = fs')
    (q : ∀ H', Sy K H0 M H' (L.set i (a, .ins C dx fs')) Ds → Q H') : SetO K f y (.ref a) H Q := ⟨a, C, dx, fs, rfl, S.get i h, c, n, hz, by rw [e]; exact q _ (S.set i h hm)⟩
theorem MemAt.ex {H' : Hp} (h : MemAt C H a dx l μ) (f : Fr [] H H') : MemAt C H' a dx l μ := ⟨f _ _ (fun z => nomatch z) h.1, f _ _ (fun z => nomatch z) h.2.1, h.2.2⟩
theorem MemAt.sy (h : MemAt C H a dx l μ) : Sy K ⟨H, [a, l]⟩ [a, l] H [(a, memO C dx l μ), (l, cellsO μ)] [] := by
  have go : ∀ b ∈ [a, l], ∃ o, H b = some o := by
    intro b hb
    simp only [List.mem_cons, List.not_mem_nil, or_false] at hb
    rcases hb with rfl | rfl
    · exact ⟨_, h.1⟩
    · exact ⟨_, h.2.1⟩
  refine Sy.start _ _ _ ?_ (by simp [h.2.2]) (fun _ z => nomatch z) go go
  intro x hx
  simp only [List.mem_cons, List.not_mem_nil, or_false] at hx
  rcases hx with rfl | rfl
  · exact h.1
  · exact h.2.1
end
section
variable (C : Addr) (K : PySem.W.Frag)
def spPlace : Sp := fun vs H Q _ => ∃ (m dx l : Addr) (μ : Mem) (i : Int), vs = [.ref m, .int i] ∧ MemAt C H m dx l μ ∧ 0 ≤ i ∧ i < μ.cells.length ∧ Q .non H
def spPower : Sp := fun vs H Q _ => ∃ (m dx l : Addr) (μ : Mem), vs = [.ref m] ∧ MemAt C H m dx l μ ∧ μ.up = true ∧ Q .non H
def spRead : Sp := fun vs H Q _ => ∃ (m dx l : Addr) (μ : Mem) (i : Int), vs = [.ref m, .int i] ∧ MemAt C H m dx l μ ∧ μ.up = true ∧ 0 ≤ i ∧ i < μ.cells.length ∧ Q (ov (μ.cells.getD i.toNat none)) H
def spMRow : Sp := fun vs H Q _ => ∃ (m dx l : Addr) (μ : Mem) (i k : Int), vs = [.ref m, .int i, .int k] ∧ MemAt C H m dx l μ ∧ μ.up = true ∧ 0 ≤ i ∧ 0 ≤ k ∧ i + k ≤ μ.cells.length ∧ μ.cells.length ≤ 400 ∧
  ∀ p H', Fr [] H H' → H p = none → H' p = some (.lst (((μ.cells.drop i.toNat).take k.toNat).map ov)) → Q (.ref p) H'
def spCell : Sp := fun vs H Q _ => ∃ (m dx l : Addr) (μ : Mem) (i w : Int), vs = [.ref m, .int i, .int w] ∧ MemAt C H m dx l μ ∧ 0 ≤ i ∧ i < μ.cells.length ∧ 0 ≤ w ∧ w ≤ 9972 ∧ Q .non H
def spWrite : Sp := fun vs H Q _ => ∃ (m dx l : Addr) (μ : Mem) (i w : Int), vs = [.ref m, .int i, .int w] ∧ MemAt C H m dx l μ ∧ μ.up = true ∧ μ.left = none ∧ 0 ≤ i ∧ i < μ.cells.length ∧ 0 ≤ w ∧ w ≤ 9972 ∧
  ∀ H', Fr [m, l] H H' → MemAt C H' m dx l { μ with cells := μ.cells.set i.toNat (some w), many := μ.many + 1 } → Q .non H'
def spSpoil : Sp := fun vs H Q _ => ∃ (m dx l : Addr) (μ : Mem) (i : Int) (w : Option Int), vs = [.ref m, .int i, ov w] ∧ MemAt C H m dx l μ ∧ 0 ≤ i ∧ i < μ.cells.length ∧ (∀ n, w = some n → 0 ≤ n ∧ n ≤ 9972) ∧
  ∀ H', Fr [m, l] H H' → MemAt C H' m dx l { μ with cells := μ.cells.set i.toNat w } → Q .non H'
def spCells : Sp := fun vs H Q _ => ∃ (m dx l : Addr) (μ : Mem), vs = [.ref m] ∧ MemAt C H m dx l μ ∧ ∀ p H', Fr [] H H' → H p = none → H' p = some (.lst (μ.cells.map ov)) → Q (.ref p) H'
def spWrites : Sp := fun vs H Q _ => ∃ (m dx l : Addr) (μ : Mem), vs = [.ref m] ∧ MemAt C H m dx l μ ∧ Q (.int μ.many) H
def spInit : Sp := fun vs H Q _ => ∃ (p dx : Addr) (n : Int), vs = [.ref p, .int n] ∧ 1 ≤ n ∧ n ≤ 400 ∧ H p = some (.ins C dx []) ∧
  ∀ l H', H l = none → MemAt C H' p dx l (Mem.new n.toNat) → Fr [p] H H' → Q .non H'
end
theorem range_getD_take (xs : List (Option Int)) {n : Nat} (h : n ≤ xs.length) : (List.range n).map (fun j => ov (xs.getD j none)) = (xs.take n).map ov := by
  apply List.ext_getElem?
  intro i
  by_cases hi : i < n
  · have h1 : i < xs.length := by omega
    simp [hi, h1, List.getElem?_take]
  · simp [hi, List.getElem?_take]
theorem Dt.memX {K : PySem.W.Frag} {H : Hp} {l : Addr} {μ : Mem} (h : H l = some (cellsO μ)) : SqL K H l (μ.cells.map ov) := .inl (.inl h)

/-! ## counters -/
def countF (a b : Option Int) : Option Int := match a, b with
  | none, none => none
  | some x, none => some x
  | none, some y => some y
  | some x, some y => some (max x y)
def posF (a b : Option Int) : Nat := if b.getD (-1) < a.getD (-1) then 1 else 0
def needF (a b : Option Int) (n : Int) : Bool := match countF a b with
  | none => true
  | some h => decide (h < n)
theorem count_none {a b : Option Int} (h : [a, b].filterMap id = []) : countF a b = none := by
  cases a <;> cases b <;> simp_all [countF]
theorem count_max {a b : Option Int} {m : Int} (h : m ∈ [a, b].filterMap id) (hy : ∀ y, y ∈ [a, b].filterMap id → y ≤ m) : countF a b = some m := by
  cases a with
  | none =>
    cases b with
    | none => simp at h
    | some y => simp at h; simp [countF, h]
  | some x =>
    cases b with
    | none => simp at h; simp [countF, h]
    | some y =>
      have h1 := hy x (by simp)
      have h2 := hy y (by simp)
      simp at h
      simp only [countF, Option.some.injEq]
      omega
theorem two_at {α : Type} (xs : List (Option α)) {i : Nat} (h : i + 2 ≤ xs.length) : (xs.drop i).take 2 = [xs.getD i none, xs.getD (i + 1) none] := by
  have g1 : xs.getD i none = xs[i] := by simp [List.getD_eq_getElem?_getD, List.getElem?_eq_getElem (show i < xs.length by omega)]
  have g2 : xs.getD (i + 1) none = xs[i + 1] := by simp [List.getD_eq_getElem?_getD, List.getElem?_eq_getElem (show i + 1 < xs.length by omega)]
  rw [g1, g2, List.drop_eq_getElem_cons (show i < xs.length by omega), List.drop_eq_getElem_cons (show i + 1 < xs.length by omega)]
  rfl
theorem cut_two (xs : List (Option Int)) {i : Int} (h0 : 0 ≤ i) (h : i + 2 ≤ xs.length) : cutV (xs.map ov) (some i) (some (i + 2)) = ([xs.getD i.toNat none, xs.getD (i.toNat + 1) none] : List (Option Int)).map ov := by
  rw [← two_at xs (i := i.toNat) (by omega)]
  unfold cutV
  rw [List.length_map, ← List.map_drop, ← List.map_take]
  congr 1
  have e1 : HT.sIx xs.length 0 (some i) = i.toNat := by simp only [HT.sIx]; split <;> omega
  have e2 : HT.sIx xs.length xs.length (some (i + 2)) = i.toNat + 2 := by simp only [HT.sIx]; split <;> omega
  rw [e1, e2, show i.toNat + 2 - i.toNat = 2 by omega]
section
variable {K : PySem.W.Frag} {M : List Addr} {H : Hp} {H0 : Bs} {L : List (Addr × HO)} {Ds : List (PyData × V)} {Q : VK} {σ : L2.St} {tt : TT} {te : TE} {j : Nat} {p : Addr} {xs : List (Option Int)}
/-- [n for n in a list if it is none of the broken ones] -/
theorem lc_whole (S : Sy K H0 M H L Ds) (i : Nat) (h : L[i]? = some (p, .lst (xs.map ov))) (hz : xs.length ≤ 1000)
    (ht : ∀ (c : Option Int) (D : Addr) (acc : List V) (H' : Hp) (Q' : Bool → Hp → Prop), Sy K (b0 H) (D :: M) H' (L ++ [(D, .lst acc)]) Ds → (∀ H'', Sy K (b0 H) (D :: M) H'' (L ++ [(D, .lst acc)]) Ds → Q' c.isSome H'') → tt ((σ.set j none).set j (some (ov c))) H' Q')
    (hte : ∀ (n : Int) (D : Addr) (acc : List V) (H' : Hp) (Q' : VK), Sy K (b0 H) (D :: M) H' (L ++ [(D, .lst acc)]) Ds → (∀ H'', Sy K (b0 H) (D :: M) H'' (L ++ [(D, .lst acc)]) Ds → Q' (.int n) H'') → te ((σ.set j none).set j (some (.int n))) H' Q')
    (k : ∀ D H', H D = none → Sy K H0 M H' (L ++ [(D, .lst ((xs.filterMap id).map V.int))]) Ds → Q (.ref D) H') : LcO (gName j) tt te [j] σ Q (Itl K p) H := by
  intro D hD
  have DF := hD
  have w : Walk (Itl K p) (xs.map ov).length (fun H => SqL K H p (xs.map ov)) (fun i H x H' => H' = H ∧ (xs.map ov)[i]? = some x) := walk_list
  have ha : (L ++ [(D, HO.lst [])])[i]? = some (p, .lst (xs.map ov)) := by
    rw [List.getElem?_append_left (List.getElem?_eq_some_iff.mp h).1]; exact h
  refine lc_it w (fun m H' => Sy K (b0 H) (D :: M) H' (L ++ [(D, .lst (((xs.take m).filterMap id).map V.int))]) Ds) (by simpa using S.rebase.newM hD) (fun m H' _ T => T.sl i (by rw [List.getElem?_append_left (List.getElem?_eq_some_iff.mp h).1]; exact h)) ?_ ?_
  · rintro m x H2 H' hi T ⟨rfl, hy⟩
    refine ⟨wipe_one _, ?_⟩
    obtain ⟨c, hc, rfl⟩ := of_map hy
    refine ht c D _ H' _ T fun H'' T2 => ?_
    cases c with
    | none =>
      refine x_iteF rfl ?_
      rw [take_more hc]
      simpa using T2
    | some n =>
      refine x_iteT rfl ?_
      refine hte n D _ H'' _ T2 fun H3 T3 => ?_
      have gD : ∀ acc : List V, (L ++ [(D, HO.lst acc)])[L.length]? = some (D, .lst acc) := fun acc => by simp
      refine ⟨_, T3.get L.length (gD _), ?_, ?_⟩
      · have h1 : ((xs.take m).filterMap id).length ≤ (xs.take m).length := List.length_filterMap_le ..
        rw [List.length_map]
        rw [List.length_take] at h1
        exact szl (by omega)
      · have T4 := T3.set (o' := .lst (((xs.take m).filterMap id).map V.int ++ [.int n])) L.length (gD _) ⟨List.mem_cons_self .., .inr DF⟩
        rw [take_more hc]
        simpa using T4
  · intro H' T
    rw [List.length_map, List.take_length] at T
    exact k D H' hD (S.over T).dropM
end
section
variable (C : Addr) (K : PySem.W.Frag)
def spCount : Sp := fun vs H Q _ => ∃ (m dx l : Addr) (μ : Mem) (i : Int), vs = [.ref m, .int i] ∧ MemAt C H m dx l μ ∧ μ.up = true ∧ 0 ≤ i ∧ i + 2 ≤ μ.cells.length ∧ μ.cells.length ≤ 400 ∧
  ∀ H', Fr [] H H' → Q (ov (countF (μ.cells.getD i.toNat none) (μ.cells.getD (i.toNat + 1) none))) H'
def spLCount : Sp := fun vs H Q _ => ∃ (p : Addr) (xs : List (Option Int)) (i : Int), vs = [.ref p, .int i] ∧ SqL K H p (xs.map ov) ∧ 0 ≤ i ∧ i + 2 ≤ xs.length ∧ xs.length ≤ 400 ∧
  ∀ H', Fr [] H H' → Q (ov (countF (xs.getD i.toNat none) (xs.getD (i.toNat + 1) none))) H'
def spRaise : Sp := fun vs H Q _ => ∃ (m dx l : Addr) (μ : Mem) (i n : Int), vs = [.ref m, .int i, .int n] ∧ MemAt C H m dx l μ ∧ μ.up = true ∧ μ.left = none ∧ 0 ≤ i ∧ i + 2 ≤ μ.cells.length ∧ μ.cells.length ≤ 400 ∧ 0 ≤ n ∧ n ≤ 9972 ∧
  (needF (μ.cells.getD i.toNat none) (μ.cells.getD (i.toNat + 1) none) n = false → ∀ H', Fr [] H H' → Q (.bl false) H') ∧
  (needF (μ.cells.getD i.toNat none) (μ.cells.getD (i.toNat + 1) none) n = true → ∀ H', Fr [m, l] H H' →
    MemAt C H' m dx l { μ with cells := μ.cells.set (i.toNat + posF (μ.cells.getD i.toNat none) (μ.cells.getD (i.toNat + 1) none)) (some n), many := μ.many + 1 } → Q (.bl true) H')
end
theorem MemAt.fr {C m dx l : Addr} {μ : Mem} {H H' : Hp} (h : MemAt C H m dx l μ) (f : Fr [] H H') : MemAt C H' m dx l μ := h.ex f
end Z

namespace Z
open PySem L2

/-! ## exceptions -/
section
variable {X : Cx} {CX : CXT} {k : Nat} {f C : Addr} {fd : FuncData} {ps : List Str} {sp : Sp} {x m : Str} {p pos apos : Pos} {e o : Expr} {es : List Expr} {ta : TE} {t : TA}
theorem passX {E : XK} {E₁ : Value → Shared → Prop} (hs : X.stack = X.env :: X.outer) (hf : X.env.frame = some X.env.locals) (hex : X.ex = [])
    (hx : X.xe = fun e s' => wpAny (model X.prog X.w) X.A (leaving X.env e) (fun _ s'' => L2.CX X.prog X.w X.outer X.H_0 X.s_0 E e s'') E₁ s') : Passes (L2.CX X.prog X.w) X E :=
  passes_call (takes_of hs hf hex hx) (fun _ _ _ _ h => h)
def tMethX (C : Addr) (m : Str) (sp : Sp) (E : L2.St → XK) (ta : TE) (t : TA) : TE := fun σ H Q => ta σ H fun x H1 => ∃ a dx fs, x = .ref a ∧ H1 a = some (.ins C dx fs) ∧ fs.lookup m = none ∧ t σ H1 fun vs H2 => sp (x :: vs) H2 Q (E σ)
theorem pe_methX {E : L2.St → XK} {pl : Sem Bool} (he : PE X o ta) (c : Cls X.K C) (hm : Meth X.K C m f) (F : FnOk X.prog X.w X.K X.mg X.base CX k f fd ps sp) (hr : Room k X.A) (hb : Binds X.K fd ps []) (hx : ∀ σ, PassesAt CX X σ (E σ)) (ha : PA X (e :: es) t)
    (hst : starEach (e :: es) X.env = (false, eval e X.env) :: starEach es X.env := by rfl) (hpl : (backTo pos (starEach es X.env)).any (·.1) = false := by rfl)
    (ht : eval (.Call (.Attribute o m apos) (e :: es) [] pos) X.env = (do
      let ov ← eval o X.env
      standAt apos.atName
      let (f, first) ← holding [ov] (getMethod ov m pl)
      callWith pos f first (backTo pos (starEach (e :: es) X.env)) (backToKw pos (keywordEach [] X.env))) := by rfl) :
    PE X (.Call (.Attribute o m apos) (e :: es) [] pos) (tMethX C m sp E ta t) := by
  refine ⟨fun pins s σ H Q I h => ?_⟩
  refine PySem.W.methodCall_KW (pl := pl) (thn (he.run pins s σ H _ I h) fun u s1 ⟨x, H1, I1, rx, a, dx, fs, ex, ea, l, q⟩ => ?_) ht
  subst ex
  obtain rfl : u = Value.ref a := rx
  refine getmeth_ok I1 ea c hm l ?_
  refine PySem.W.callWith_K (first := [.ref a]) (h₀ := X.base) I.ok.mod.kin hm.kp (thn (ha.run pos pins s1 σ H1 _ I1 q) fun us s2 ⟨vs, H2, I2, r, q2⟩ => ⟨I2.kIn, ?_⟩) hst hpl
  exact run_fnS (us := .ref a :: us) (vs := .ref a :: vs) F hr hb (hx σ) I2 (.cons rfl r) q2
theorem pe_methX0 {E : L2.St → XK} {pl : Sem Bool} (he : PE X o ta) (c : Cls X.K C) (hm : Meth X.K C m f) (F : FnOk X.prog X.w X.K X.mg X.base CX k f fd ps sp) (hr : Room k X.A) (hb : Binds X.K fd ps []) (hx : ∀ σ, PassesAt CX X σ (E σ))
    (ht : eval (.Call (.Attribute o m apos) [] [] pos) X.env = (do
      let ov ← eval o X.env
      standAt apos.atName
      let (f, first) ← holding [ov] (getMethod ov m pl)
      callWith pos f first (backTo pos (starEach [] X.env)) (backToKw pos (keywordEach [] X.env))) := by rfl) :
    PE X (.Call (.Attribute o m apos) [] [] pos) (tMethX C m sp E ta tNil) := by
  refine ⟨fun pins s σ H Q I h => ?_⟩
  refine PySem.W.methodCall_KW (pl := pl) (thn (he.run pins s σ H _ I h) fun u s1 ⟨x, H1, I1, rx, a, dx, fs, ex, ea, l, q⟩ => ?_) ht
  subst ex
  obtain rfl : u = Value.ref a := rx
  refine getmeth_ok I1 ea c hm l ?_
  exact PySem.W.callWith_K0 (first := [.ref a]) I1.kIn hm.kp (run_fnS (us := [.ref a]) (vs := [.ref a]) F hr hb (hx σ) I1 (.cons rfl .nil) q)
end
theorem exm_mk {K : PySem.W.Frag} {C D : Addr} {b : Bool} (h1 : PySem.W.subIn K (.ref D) (.type "BaseException") = some true) (h2 : PySem.W.isClsIn K D = true) (h3 : PySem.W.typeIn K (.ref D) = some (.type "type")) (h4 : PySem.W.subIn K (.ref C) (.ref D) = some b) :
    PySem.W.exmOne K (.ref C) (.ref D) = some b := by
  have e1 : (PySem.W.subIn K (.ref D) (.type "BaseException") == some true) = true := by rw [h1] <;> rfl
  have e2 : ((PySem.W.clsIn K D).isSome && PySem.W.typeIn K (.ref D) == some (.type "type")) = true := by
    have h2' : (PySem.W.clsIn K D).isSome = true := h2
    rw [h2', h3] <;> rfl
  show (if (PySem.W.subIn K (.ref D) (.type "BaseException") == some true) = true then (if ((PySem.W.clsIn K D).isSome && PySem.W.typeIn K (.ref D) == some (.type "type")) = true then PySem.W.subIn K (.ref C) (.ref D) else none) else none) = some b
  rw [if_pos e1, if_pos e2]
  exact h4
section
variable {K : PySem.W.Frag} {σ : L2.St} {H : Hp} {Q : VK} {sp : Sp} {E : L2.St → XK} {tA : TA} {C : Addr} {m : Str} {ta : TE} {cls c : Value} {d : Option Addr} {ts : Addr → Value → Option Addr → TS} {Wout : WX} {D : Ends} {i : Nat}
theorem x_callS (q : tA σ H fun vs H1 => sp vs H1 Q (E σ)) : tCallS sp E tA σ H Q := q
theorem x_methX (q : ta σ H fun x H1 => MethO C m sp [] (E σ) tA σ x H1 Q) : tMethX C m sp E ta tA σ H Q := by
  have e : tMethX C m sp E ta tA = fun σ H Q => ta σ H fun x H1 => MethO C m sp [] (E σ) tA σ x H1 Q := by
    funext σ H Q
    unfold tMethX MethO
    congr 1
    funext x H1
    congr 1; funext a; congr 1; funext dx; congr 1; funext fs
    simp
  rw [e]; exact q
/-- an exception that the clause names -/
theorem x_caught (e : PySem.W.exmOne K cls c = some true) (q : ∀ a, H a = none → ts a cls d D σ H) : WE (wOnly K c ts Wout D) σ cls d H := ⟨true, e, fun _ => q, fun z => nomatch z⟩
theorem x_caughtAs (e : PySem.W.exmOne K cls c = some true) (q : ∀ a, H a = none → ts a cls d { nx := fun σ' H' => D.nx (σ'.set i none) H', rt := D.rt, bk := fun σ' H' => D.bk (σ'.set i none) H', ct := fun σ' H' => D.ct (σ'.set i none) H' } (σ.set i (some (.ref a))) H) : WE (wAs K c i ts Wout D) σ cls d H := ⟨true, e, fun _ => q, fun z => nomatch z⟩
end

/-! ## the module's own tuples -/
abbrev TupK (K : PySem.W.Frag) (a : Addr) (xs : List V) : Prop := ∃ (o : Obj) (its : Array Value) (n : Nat), K.lookup a = some o ∧ o.cls = .type "tuple" ∧ o.data = .seq its n ∧ its.size ≤ sizeLine ∧ Vals xs its.toList
theorem TupK.st {K : PySem.W.Frag} {H : Hp} {a : Addr} {xs : List V} (h : TupK K a xs) : SqT K H a xs := .inr h
theorem pe_gt {X : Cx} {x : Str} {pos : Pos} {a : Addr} (hg : Gl X x) (h : X.mg x = some (.ref a)) (hd : (x == ("__debug__" : Str)) = false := by decide) : PE X (.Name x pos) (tC (.ref a)) := pe_glob hg h rfl hd

/-! ## a memory, its writes, a cut -/
abbrev Wr := Nat × Int
def Mem.down (μ : Mem) (i : Nat) (w : Int) : Mem :=
  { μ with up := false, left := none, cells := if μ.torn = "broken" then μ.cells.set i none else if μ.torn = "new" then μ.cells.set i (some w) else μ.cells }
def Mem.wr (μ : Mem) (i : Nat) (w : Int) : Mem := { μ with left := μ.left.map (· - 1), cells := μ.cells.set i (some w), many := μ.many + 1 }
/-- writes one behind the other; whether all are whole -/
def Mem.run : List Wr → Mem → Mem × Bool
  | [], μ => (μ, true)
  | (i, w) :: r, μ => if μ.left = some 0 then (μ.down i w, false) else Mem.run r (μ.wr i w)
def applyW (ws : List Wr) (cs : List (Option Int)) : List (Option Int) := ws.foldl (fun cs w => cs.set w.1 (some w.2)) cs
theorem applyW_app (a b : List Wr) (cs : List (Option Int)) : applyW (a ++ b) cs = applyW b (applyW a cs) := by unfold applyW; rw [List.foldl_append]
theorem applyW_len (ws : List Wr) : ∀ cs : List (Option Int), (applyW ws cs).length = cs.length := by
  induction ws with
  | nil => intro cs; rfl
  | cons w r ih => intro cs; show (applyW r (cs.set w.1 (some w.2))).length = _; rw [ih, List.length_set]
theorem run_nil (μ : Mem) : Mem.run [] μ = (μ, true) := rfl
theorem run_cut {μ : Mem} {i : Nat} {w : Int} {r : List Wr} (h : μ.left = some 0) : Mem.run ((i, w) :: r) μ = (μ.down i w, false) := by unfold Mem.run; rw [if_pos h]
theorem run_go {μ : Mem} {i : Nat} {w : Int} {r : List Wr} (h : ¬ μ.left = some 0) : Mem.run ((i, w) :: r) μ = Mem.run r (μ.wr i w) := by rw [Mem.run, if_neg h]
theorem run_app (a b : List Wr) : ∀ μ : Mem, Mem.run (a ++ b) μ = if (Mem.run a μ).2 = true then Mem.run b (Mem.run a μ).1 else Mem.run a μ := by
  induction a with
  | nil => intro μ; rw [List.nil_append, run_nil, if_pos rfl]
  | cons p r ih =>
    intro μ
    obtain ⟨i, w⟩ := p
    by_cases h : μ.left = some 0
    · rw [List.cons_append, run_cut h, run_cut h, if_neg Bool.false_ne_true]
    · rw [List.cons_append, run_go h, run_go h, ih]
theorem run_ok {a b : List Wr} {μ : Mem} (h : (Mem.run a μ).2 = true) : Mem.run (a ++ b) μ = Mem.run b (Mem.run a μ).1 := by rw [run_app, if_pos h]
theorem run_no {a b : List Wr} {μ : Mem} (h : (Mem.run a μ).2 = false) : Mem.run (a ++ b) μ = Mem.run a μ := by rw [run_app, h, if_neg Bool.false_ne_true]
theorem run_whole : ∀ {ws : List Wr} {μ : Mem}, (Mem.run ws μ).2 = true → (Mem.run ws μ).1 = { μ with left := μ.left.map (· - ws.length), cells := applyW ws μ.cells, many := μ.many + ws.length }
  | [], μ, _ => by cases μ; rename_i l _ _ _; cases l <;> simp [Mem.run, applyW]
  | (i, w) :: r, μ, h => by
    by_cases hl : μ.left = some 0
    · rw [run_cut hl] at h; cases h
    · rw [run_go hl] at h ⊢
      rw [run_whole h]
      obtain ⟨c, l, t, u, m⟩ := μ
      simp only [Mem.wr, List.length_cons, applyW, List.foldl_cons, Mem.mk.injEq]
      refine ⟨trivial, ?_, trivial, trivial, by push_cast; omega⟩
      cases l with
      | none => rfl
      | some n => simp only [Option.map_some, Option.some.injEq]; push_cast; omega
theorem run_cells {ws : List Wr} {μ : Mem} (h : (Mem.run ws μ).2 = true) : (Mem.run ws μ).1.cells = applyW ws μ.cells := by rw [run_whole h]
theorem run_upT {ws : List Wr} {μ : Mem} (h : (Mem.run ws μ).2 = true) : (Mem.run ws μ).1.up = μ.up := by rw [run_whole h]
theorem run_free {ws : List Wr} {μ : Mem} (h : μ.left = none) : (Mem.run ws μ).2 = true := by
  induction ws generalizing μ with
  | nil => rfl
  | cons p r ih =>
    obtain ⟨i, w⟩ := p
    rw [run_go (by rw [h]; exact fun z => nomatch z)]
    exact ih (by simp [Mem.wr, h])
theorem run_len : ∀ (ws : List Wr) (μ : Mem), (Mem.run ws μ).1.cells.length = μ.cells.length
  | [], μ => rfl
  | (i, w) :: r, μ => by
    by_cases hl : μ.left = some 0
    · rw [run_cut hl]
      simp only [Mem.down]
      split
      · simp
      · split <;> simp
    · rw [run_go hl, run_len r]; simp [Mem.wr]
theorem run_stop : ∀ {ws : List Wr} {μ : Mem}, (Mem.run ws μ).2 = false → (Mem.run ws μ).1.up = false ∧ (Mem.run ws μ).1.left = none ∧ (Mem.run ws μ).1.torn = μ.torn
  | [], μ, h => by cases h
  | (i, w) :: r, μ, h => by
    by_cases hl : μ.left = some 0
    · rw [run_cut hl]; exact ⟨rfl, rfl, rfl⟩
    · rw [run_go hl] at h ⊢
      exact run_stop h
/-- a write of so many: whole if the cut lies behind all of them -/
theorem run_left {n : Nat} : ∀ {ws : List Wr} {μ : Mem}, μ.left = some (n : Int) → (Mem.run ws μ).2 = decide (ws.length ≤ n) := by
  induction n with
  | zero =>
    intro ws μ h
    cases ws with
    | nil => rfl
    | cons p r => obtain ⟨i, w⟩ := p; rw [run_cut h]; simp
  | succ n ih =>
    intro ws μ h
    cases ws with
    | nil => simp [Mem.run]
    | cons p r =>
      obtain ⟨i, w⟩ := p
      rw [run_go (by rw [h]; intro z; cases z), ih (μ := μ.wr i w) (by simp [Mem.wr, h])]
      simp
/-- the places and numbers of writes that can be -/
def okW (n : Nat) (ws : List Wr) : Prop := ∀ p ∈ ws, p.1 < n ∧ 0 ≤ p.2 ∧ p.2 ≤ 9972
/-- why a deed is refused -/
inductive Er | size | place | worth | cut | stopped
deriving DecidableEq
section
variable (C : Addr) (er : Er → Addr)
def spPlaceX : Sp := fun vs H Q E => ∃ (m dx l : Addr) (μ : Mem) (i : Int), vs = [.ref m, .int i] ∧ MemAt C H m dx l μ ∧ (0 ≤ i → i < μ.cells.length → Q .non H) ∧ (¬ (0 ≤ i ∧ i < μ.cells.length) → E (.ref (er .place)) none H)
def spPowerX : Sp := fun vs H Q E => ∃ (m dx l : Addr) (μ : Mem), vs = [.ref m] ∧ MemAt C H m dx l μ ∧ (μ.up = true → Q .non H) ∧ (μ.up = false → E (.ref (er .stopped)) none H)
def spReadX : Sp := fun vs H Q E => ∃ (m dx l : Addr) (μ : Mem) (i : Int), vs = [.ref m, .int i] ∧ MemAt C H m dx l μ ∧ (0 ≤ i → i < μ.cells.length → μ.up = true → Q (ov (μ.cells.getD i.toNat none)) H) ∧
  (¬ (0 ≤ i ∧ i < μ.cells.length) → E (.ref (er .place)) none H) ∧ (0 ≤ i → i < μ.cells.length → μ.up = false → E (.ref (er .stopped)) none H)
def spCellX : Sp := fun vs H Q E => ∃ (m dx l : Addr) (μ : Mem) (i w : Int), vs = [.ref m, .int i, .int w] ∧ MemAt C H m dx l μ ∧ (0 ≤ i → i < μ.cells.length → 0 ≤ w → w ≤ 9972 → Q .non H) ∧
  (¬ (0 ≤ i ∧ i < μ.cells.length) → E (.ref (er .place)) none H) ∧ (0 ≤ i → i < μ.cells.length → ¬ (0 ≤ w ∧ w ≤ 9972) → E (.ref (er .worth)) none H)
def spDownX : Sp := fun vs H Q E => ∃ (m dx l : Addr) (μ : Mem) (i w : Int), vs = [.ref m, .int i, .int w] ∧ MemAt C H m dx l μ ∧ 0 ≤ i ∧ i < μ.cells.length ∧
  ∀ H', Fr [m, l] H H' → MemAt C H' m dx l (μ.down i.toNat w) → E (.ref (er .stopped)) none H'
def spWriteX : Sp := fun vs H Q E => ∃ (m dx l : Addr) (μ : Mem) (i w : Int), vs = [.ref m, .int i, .int w] ∧ MemAt C H m dx l μ ∧
  (0 ≤ i → i < μ.cells.length → 0 ≤ w → w ≤ 9972 → μ.up = true → ¬ μ.left = some 0 → ∀ H', Fr [m, l] H H' → MemAt C H' m dx l (μ.wr i.toNat w) → Q .non H') ∧
  (0 ≤ i → i < μ.cells.length → 0 ≤ w → w ≤ 9972 → μ.up = true → μ.left = some 0 → ∀ H', Fr [m, l] H H' → MemAt C H' m dx l (μ.down i.toNat w) → E (.ref (er .stopped)) none H') ∧
  (¬ (0 ≤ i ∧ i < μ.cells.length) → E (.ref (er .place)) none H) ∧ (0 ≤ i → i < μ.cells.length → ¬ (0 ≤ w ∧ w ≤ 9972) → E (.ref (er .worth)) none H) ∧
  (0 ≤ i → i < μ.cells.length → 0 ≤ w → w ≤ 9972 → μ.up = false → E (.ref (er .stopped)) none H)
def spCutX : Sp := fun vs H Q E => ∃ (m dx l : Addr) (μ : Mem) (n : Int) (t : Str), vs = [.ref m, .int n, .str t] ∧ MemAt C H m dx l μ ∧
  (0 ≤ n → n ≤ 100000 → (t = "old" ∨ t = "broken" ∨ t = "new") → ∀ H', Fr [m, l] H H' → MemAt C H' m dx l { μ with left := some n, torn := t } → Q .non H') ∧
  (¬ (0 ≤ n ∧ n ≤ 100000 ∧ (t = "old" ∨ t = "broken" ∨ t = "new")) → E (.ref (er .cut)) none H)
def spUpX : Sp := fun vs H Q _ => ∃ (m dx l : Addr) (μ : Mem), vs = [.ref m] ∧ MemAt C H m dx l μ ∧ ∀ H', Fr [m, l] H H' → MemAt C H' m dx l { μ with up := true, left := none } → Q .non H'
def spSpoilX : Sp := fun vs H Q E => ∃ (m dx l : Addr) (μ : Mem) (i : Int) (w : Option Int), vs = [.ref m, .int i, ov w] ∧ MemAt C H m dx l μ ∧
  (0 ≤ i → i < μ.cells.length → (∀ n, w = some n → 0 ≤ n ∧ n ≤ 9972) → ∀ H', Fr [m, l] H H' → MemAt C H' m dx l { μ with cells := μ.cells.set i.toNat w } → Q .non H') ∧
  (¬ (0 ≤ i ∧ i < μ.cells.length) → E (.ref (er .place)) none H) ∧ (0 ≤ i → i < μ.cells.length → (∃ n, w = some n ∧ ¬ (0 ≤ n ∧ n ≤ 9972)) → E (.ref (er .worth)) none H)
def spInitX : Sp := fun vs H Q E => ∃ (p dx : Addr) (n : Int), vs = [.ref p, .int n] ∧ H p = some (.ins C dx []) ∧
  (1 ≤ n → n ≤ 400 → ∀ l H', H l = none → MemAt C H' p dx l (Mem.new n.toNat) → Fr [p] H H' → Q .non H') ∧ (¬ (1 ≤ n ∧ n ≤ 400) → E (.ref (er .size)) none H)
/-- what a deed on a memory does: its writes and what it tells, found from the cells -/
def ranX (C m dx l : Addr) (μ : Mem) (ws : List Wr) (H : Hp) (Q : Hp → Prop) (S : Hp → Prop) : Prop := ∀ H', Fr [m, l] H H' → MemAt C H' m dx l (Mem.run ws μ).1 → ((Mem.run ws μ).2 = true → Q H') ∧ ((Mem.run ws μ).2 = false → S H')
end
section
variable {K : PySem.W.Frag} {M : List Addr} {H H' : Hp} {H0 : Bs} {L : List (Addr × HO)} {Ds : List (PyData × V)} {Q : VK} {C dx l m r p : Addr} {o : HO} {μ μ' : Mem} {E : XK} {er : Er → Addr}
theorem Sy.put2 {a b : Addr} {o o2 o' o2' : HO} (S : Sy K H0 M H L Ds) (i j : Nat) (h1 : L[i]? = some (a, o)) (h2 : L[j]? = some (b, o2)) (hij : i ≠ j) (ma : a ∈ M ∧ H0.may a) (mb : b ∈ M ∧ H0.may b) (f : Fr [a, b] H H') (e1 : H' a = some o') (e2 : H' b = some o2') :
    Sy K H0 M H' ((L.set i (a, o')).set j (b, o2')) Ds := by
  have hne := S.ne i j h1 h2 hij
  have S1 := S.put (H' := fun x => if x = b then H x else H' x) (o' := o') i h1 ma (fun x u n e => by
    show (if x = b then H x else H' x) = _
    by_cases hb : x = b
    · rw [if_pos hb]; exact e
    · rw [if_neg hb]; exact f x u (by simp at n ⊢; exact ⟨n, hb⟩) e) (by
    show (if a = b then H a else H' a) = _
    rw [if_neg hne]; exact e1)
  have S2 := S1.put (H' := H') (o' := o2') j (by rw [List.getElem?_set_ne hij]; exact h2) mb (fun x u n e => by
    have e : (if x = b then H x else H' x) = some u := e
    rw [if_neg (by simpa using n)] at e; exact e) e2
  exact S2
theorem Sy.exNM (S : Sy K H0 M H L Ds) (f : Fr [] H H') (h : H p = none) (e : H' p = some o) : Sy K H0 (p :: M) H' (L ++ [(p, o)]) Ds :=
  (S.newM (o := o) h).ex (fun b u _ q => by
    by_cases hb : b = p
    · subst hb; rw [upd_same] at q; rw [e]; exact q
    · rw [upd_ne hb] at q; exact f b u (fun z => nomatch z) q)
theorem use_initX (S : Sy K H0 M H L Ds) {n : Int} (h1 : 1 ≤ n) (h2 : n ≤ 400) (q : ∀ m dx l H', Sy K H0 (l :: m :: M) H' ((L ++ [(m, memO C dx l (Mem.new n.toNat))]) ++ [(l, cellsO (Mem.new n.toNat))]) Ds → H0 m = none → H0 l = none → Q (.ref m) H') : MakeO C (spInitX C er) [.int n] E H Q := by
  intro x dx hx hdx hne
  refine ⟨x, dx, n, rfl, upd_same, fun _ _ l H' hl hM f => ⟨rfl, ?_⟩, fun z => absurd ⟨h1, h2⟩ z⟩
  have S1 := S.ex (Fr.new (o := .own x) hdx)
  have hx1 : (upd H dx (.own x)) x = none := by rw [upd_ne hne.symm]; exact hx
  have S2 := S1.newM (o := .ins C dx []) hx1
  have xl : l ≠ x := hM.2.2.symm
  have S3 := S2.put (H' := fun b => if b = x then H' x else (upd (upd H dx (.own x)) x (.ins C dx [])) b) (a := x) (o := .ins C dx []) (o' := memO C dx l (Mem.new n.toNat)) L.length (by simp) ⟨List.mem_cons_self .., .inr (S.free hx)⟩ (fun b u n e => by
    show (if b = x then _ else _) = _
    rw [if_neg (by simpa using n)]; exact e) (by
    show (if x = x then _ else _) = _
    rw [if_pos rfl]; exact hM.1)
  rw [show (L ++ [(x, HO.ins C dx [])]).set L.length (x, memO C dx l (Mem.new n.toNat)) = L ++ [(x, memO C dx l (Mem.new n.toNat))] by simp] at S3
  have hl3 : (fun b => if b = x then H' x else (upd (upd H dx (.own x)) x (.ins C dx [])) b) l = none := by
    show (if l = x then _ else _) = _
    rw [if_neg xl]; exact hl
  have S4 := Sy.exNM S3 (H' := H') (p := l) (o := cellsO (Mem.new n.toNat)) (fun b u _ e => by
    have e : (if b = x then H' x else (upd (upd H dx (.own x)) x (.ins C dx [])) b) = some u := e
    by_cases hb : b = x
    · rw [if_pos hb] at e; rw [hb]; exact e
    · rw [if_neg hb] at e; exact f b u (by simpa using hb) e) hl3 hM.2.1
  exact q x dx l H' S4 (S.free hx) (S3.free hl3)
theorem n_orI {σ : L2.St} {i : Nat} {c : Option Int} (h : σ[i]? = some (some (ov c))) (q : Q (.int (c.getD 0)) H) : tOrT K (tVar i) (tC (.int 0)) σ H Q := by
  cases c with
  | none => exact ⟨_, h, false, rfl, q⟩
  | some n =>
    by_cases hn : n = 0
    · subst hn; exact ⟨_, h, false, by simp [TruV, ov], q⟩
    · exact ⟨_, h, true, by simp [TruV, ov, hn], q⟩
theorem dt_od (c : Option Int) : Dt K M H (od c) (ov c) := by
  cases c <;> simp [od, ov, Dt]
theorem od_dep (c : Option Int) : (od c).depth ≤ 4 := by cases c <;> simp [od, PyData.depth]
theorem od_ok (c : Option Int) : okD (od c) = true := by cases c <;> rfl
theorem count_b {a b : Option Int} (ha : ∀ n, a = some n → 0 ≤ n ∧ n ≤ 9972) (hb : ∀ n, b = some n → 0 ≤ n ∧ n ≤ 9972) : 0 ≤ (countF a b).getD 0 ∧ (countF a b).getD 0 ≤ 9972 := by
  cases a with
  | none => cases b with
    | none => simp [countF]
    | some y => have := hb y rfl; simpa [countF] using this
  | some x => cases b with
    | none => have := ha x rfl; simpa [countF] using this
    | some y => have h1 := ha x rfl; have h2 := hb y rfl; simp only [countF, Option.getD_some]; omega
theorem getD_b {cs : List (Option Int)} (h : ∀ c ∈ cs, ∀ n, c = some n → 0 ≤ n ∧ n ≤ 9972) (i : Nat) : ∀ n, cs.getD i none = some n → 0 ≤ n ∧ n ≤ 9972 := by
  intro n e
  by_cases hi : i < cs.length
  · rw [List.getD_eq_getElem?_getD, List.getElem?_eq_getElem hi, Option.getD_some] at e
    exact h _ (List.getElem_mem hi) n e
  · rw [List.getD_eq_getElem?_getD, List.getElem?_eq_none (by omega)] at e
    cases e
end
section
variable {K : PySem.W.Frag} {H : Hp} {Q : VK} {E : XK} {C m dx l : Addr} {er : Er → Addr} {μ : Mem} {i w : Int} {M : List Addr} {H' : Hp} {H0 : Bs} {L : List (Addr × HO)} {Ds : List (PyData × V)}
theorem use_wr (h : MemAt C H m dx l μ) (hup : μ.up = true) (h0 : 0 ≤ i) (h1 : i < μ.cells.length) (w0 : 0 ≤ w) (w1 : w ≤ 9972) (k : ranX C m dx l μ [(i.toNat, w)] H (Q .non) (E (.ref (er .stopped)) none)) : spWriteX C er [.ref m, .int i, .int w] H Q E := by
  refine ⟨m, dx, l, μ, i, w, rfl, h, fun _ _ _ _ _ hl H' f hM => ?_, fun _ _ _ _ _ hl H' f hM => ?_, fun z => absurd ⟨h0, h1⟩ z, fun _ _ z => absurd ⟨w0, w1⟩ z, fun _ _ _ _ z => by rw [hup] at z; cases z⟩
  · have := k H' f (by rw [run_go hl, run_nil]; exact hM)
    exact this.1 (by rw [run_go hl]; rfl)
  · have := k H' f (by rw [run_cut hl]; exact hM)
    exact this.2 (by rw [run_cut hl])
/-- the memory's two entries, wherever they stand, are others -/
theorem Sy.memAt {i j : Nat} {μ' : Mem} (S : Sy K H0 M H L Ds) (h1 : L[i]? = some (m, memO C dx l μ)) (h2 : L[j]? = some (l, cellsO μ)) (hij : i ≠ j) (ma : m ∈ M ∧ H0.may m) (mb : l ∈ M ∧ H0.may l) (f : Fr [m, l] H H') (h : MemAt C H' m dx l μ') :
    Sy K H0 M H' ((L.set i (m, memO C dx l μ')).set j (l, cellsO μ')) Ds := S.put2 i j h1 h2 hij ma mb f h.1 h.2.1
theorem MemAt.up1 (h : MemAt C H m dx l μ) : MemAt C H m dx l μ := h
end
/-- the writes of a raising -/
def raiseW (cs : List (Option Int)) (i : Nat) (n : Int) : List Wr := if needF (cs.getD i none) (cs.getD (i + 1) none) n = true then [(i + posF (cs.getD i none) (cs.getD (i + 1) none), n)] else []
def spRaiseX (C : Addr) (er : Er → Addr) : Sp := fun vs H Q E => ∃ (m dx l : Addr) (μ : Mem) (i n : Int), vs = [.ref m, .int i, .int n] ∧ MemAt C H m dx l μ ∧ μ.up = true ∧ 0 ≤ i ∧ i + 2 ≤ μ.cells.length ∧ μ.cells.length ≤ 400 ∧ 0 ≤ n ∧ n ≤ 9972 ∧
  ranX C m dx l μ (raiseW μ.cells i.toNat n) H (Q (.bl (needF (μ.cells.getD i.toNat none) (μ.cells.getD (i.toNat + 1) none) n))) (E (.ref (er .stopped)) none)
def geO (c : Option Int) (n : Int) : Bool := match c with | none => false | some h => decide (n ≤ h)
theorem geO_need (a b : Option Int) (n : Int) : geO (countF a b) n = !needF a b n := by
  unfold geO needF
  cases countF a b with
  | none => rfl
  | some h =>
    show decide (n ≤ h) = !decide (h < n)
    by_cases z : n ≤ h
    · rw [decide_eq_true z, decide_eq_false (by omega)]; rfl
    · rw [decide_eq_false z, decide_eq_true (by omega)]; rfl
section
variable {K : PySem.W.Frag} {σ : L2.St} {H : Hp} {Q : VK} {i j : Nat} {c : Option Int} {n : Int} {ta tb : TE} {xs : List (Option Int)} {p : Addr}
/-- x is not None and x >= n -/
theorem t_someGe {Q : Bool → Hp → Prop} (hi : σ[i]? = some (some (ov c))) (hj : σ[j]? = some (some (.int n))) (q : Q (geO c n) H) :
    tAnd (tTest (tOp rNotN (tVar i) (tC .non))) (tTest (tOp (rI0 fun i j => V.bl (decide (j ≤ i))) (tVar i) (tVar j))) σ H Q := by
  cases c with
  | none => exact ⟨_, hi, rfl, _, rfl, q⟩
  | some h => exact ⟨_, hi, rfl, _, rfl, ⟨_, hi, _, hj, _, _, rfl, rfl, _, rfl, q⟩⟩
/-- -1 if x is None else x -/
theorem t_orMinus (hi : σ[i]? = some (some (ov c))) (q : Q (.int (c.getD (-1))) H) :
    tIf (tTest (tOp rIsN (tVar i) (tC V.non))) (tUn (rU fun i => V.int (-i)) (tC (V.int 1))) (tVar i) σ H Q := by
  cases c with
  | none => exact ⟨_, hi, rfl, _, rfl, ⟨1, rfl, q⟩⟩
  | some h => exact ⟨_, hi, rfl, _, rfl, ⟨_, hi, q⟩⟩
end
theorem inV_torns (t : Str) : inV (.str t) [.str "old", .str "broken", .str "new"] = decide (t = "old" ∨ t = "broken" ∨ t = "new") := by
  rw [Bool.eq_iff_iff]
  simp only [inV, eqV, List.any_cons, List.any_nil, Bool.or_false, Bool.or_eq_true, beq_iff_eq, decide_eq_true_eq]
  constructor <;> (rintro (h | h | h) <;> simp [h])
section
variable {K : PySem.W.Frag} {M : List Addr} {H H' : Hp} {H0 : Bs} {L : List (Addr × HO)} {Ds : List (PyData × V)} {C dx l m r p : Addr} {o : HO} {μ μ' : Mem}
theorem Sy.mem (S : Sy K H0 M H ((r, o) :: (m, memO C dx l μ) :: (l, cellsO μ) :: L) Ds) (hm : m ∈ M ∧ H0.may m) (hl : l ∈ M ∧ H0.may l) (f : Fr [m, l] H H') (h : MemAt C H' m dx l μ') : Sy K H0 M H' ((r, o) :: (m, memO C dx l μ') :: (l, cellsO μ') :: L) Ds := by
  have hne := h.2.2
  have S1 := S.put (H' := fun b => if b = l then H b else H' b) 1 rfl hm (fun b u n e => by
    show (if b = l then H b else H' b) = _
    by_cases hb : b = l
    · rw [if_pos hb]; exact e
    · rw [if_neg hb]; exact f b u (by simp at n ⊢; exact ⟨n, hb⟩) e) (by
    show (if m = l then H m else H' m) = _
    rw [if_neg hne]; exact h.1)
  have S2 := S1.put (H' := H') 2 rfl hl (fun b u n e => by
    have e : (if b = l then H b else H' b) = some u := e
    rw [if_neg (by simpa using n)] at e; exact e) h.2.1
  exact S2
end
/-! ## books -/
abbrev Rec := Int × Int × Int
def recD (r : Rec) : PyData := .tuple [.int r.1, .int r.2.1, .int r.2.2]
def pageL (xs : List (Option Int)) : Option (Int × Rec) := match xs with
  | [some n, some a, some b, some c, some s, some t] => if n ≠ 0 ∧ sumsF [n, a, b, c] = (s, t) then some (n, a, b, c) else none
  | _ => none
def pageO (cs : List (Option Int)) (i : Nat) : Option (Int × Rec) := pageL ((cs.drop i).take 6)
def newestO (cs : List (Option Int)) (i : Nat) : Option (Int × Int × Rec) := match pageO cs i, pageO cs (i + 6) with
  | none, none => none
  | some p, none => some (0, p)
  | none, some q => some (1, q)
  | some p, some q => if q.1 > p.1 then some (1, q) else some (0, p)
def recordO (cs : List (Option Int)) (i : Nat) : Option Rec := (newestO cs i).map fun x => x.2.2
def pageD : Option (Int × Rec) → PyData
  | none => .none
  | some p => .tuple [.int p.1, recD p.2]
def newestD : Option (Int × Int × Rec) → PyData
  | none => .none
  | some p => .tuple [.int p.1, .int p.2.1, recD p.2.2]
def recordD : Option Rec → PyData
  | none => .none
  | some p => recD p
/-- which page is to be written, and its number -/
def nextO (cs : List (Option Int)) (i : Nat) : Int × Int := match newestO cs i with
  | none => (0, 1)
  | some p => (1 - p.1, p.2.1 + 1)
def rowF (n : Int) (r : Rec) : List Int := [n, r.1, r.2.1, r.2.2, (sumsF [n, r.1, r.2.1, r.2.2]).1, (sumsF [n, r.1, r.2.1, r.2.2]).2]
def noteW (cs : List (Option Int)) (i : Nat) (r : Rec) : List Wr :=
  let b := i + 6 * (nextO cs i).1.toNat
  let t := rowF (nextO cs i).2 r
  [(b, 0), (b + 1, t.getD 1 0), (b + 2, t.getD 2 0), (b + 3, t.getD 3 0), (b + 4, t.getD 4 0), (b + 5, t.getD 5 0), (b, (nextO cs i).2)]
/-- what is read of a memory at a place: data -/
def spMI (C : Addr) (pre : Mem → Int → Prop) (res : Mem → Int → PyData) (K : PySem.W.Frag) : Sp := fun vs H Q _ => ∃ (M : List Addr) (m dx l : Addr) (μ : Mem) (i : Int), vs = [.ref m, .int i] ∧ (∀ a ∈ M, ∃ o, H a = some o) ∧ MemAt C H m dx l μ ∧ μ.up = true ∧ pre μ i ∧
  ∀ v H', Fr [] H H' → Dt K M H' (res μ i) v → Q v H'
section
variable {K : PySem.W.Frag} {M : List Addr} {H H' : Hp} {H0 : Bs} {L : List (Addr × HO)} {Ds : List (PyData × V)} {C dx l m r p : Addr} {o : HO} {μ μ' : Mem} {Q : VK} {E : XK} {pre : Mem → Int → Prop} {res : Mem → Int → PyData} {i : Int}
theorem use_MI (S : Sy K H0 M H L Ds) (h : MemAt C H m dx l μ) (hup : μ.up = true) (hp : pre μ i) (k : ∀ v H', Sy K H0 M H' L (Ds ++ [(res μ i, v)]) → Fr [] H H' → Q v H') : spMI C pre res K [.ref m, .int i] H Q E :=
  ⟨M, m, dx, l, μ, i, rfl, S.dom, h, hup, hp, fun v H' f hd => k v H' ((S.ex f).addD hd) f⟩
theorem Sy.atD (hd : ∀ a ∈ M, ∃ o, H a = some o) : Sy K (b0 H) M H [] [] := Sy.start _ _ _ (fun _ z => nomatch z) (by simp) (fun _ z => nomatch z) hd
end
abbrev preN (n : Int) (μ : Mem) (i : Int) : Prop := 0 ≤ i ∧ i + n ≤ μ.cells.length ∧ μ.cells.length ≤ 400
def spPage (C : Addr) := spMI C (preN 6) fun μ i => pageD (pageO μ.cells i.toNat)
def spNewest (C : Addr) := spMI C (preN 12) fun μ i => newestD (newestO μ.cells i.toNat)
def spRecord (C : Addr) := spMI C (preN 12) fun μ i => recordD (recordO μ.cells i.toNat)
theorem row6 {xs : List (Option Int)} (h : xs.length = 6) (hn : none ∉ xs) : ∃ n a b c s t, xs = [some n, some a, some b, some c, some s, some t] := by
  match xs, h with
  | [x0, x1, x2, x3, x4, x5], _ =>
    simp only [List.mem_cons, List.not_mem_nil, or_false, not_or] at hn
    obtain ⟨h0, h1, h2, h3, h4, h5⟩ := hn
    cases x0 <;> cases x1 <;> cases x2 <;> cases x3 <;> cases x4 <;> cases x5 <;> simp_all
theorem pageL_some (n a b c s t : Int) : pageL [some n, some a, some b, some c, some s, some t] = if n ≠ 0 ∧ sumsF [n, a, b, c] = (s, t) then some (n, a, b, c) else none := rfl
theorem cut_14 (x0 x1 x2 x3 x4 x5 : V) : cutV [x0, x1, x2, x3, x4, x5] (some 1) (some 4) = [x1, x2, x3] := rfl
theorem cut_4 (x0 x1 x2 x3 x4 x5 : V) : cutV [x0, x1, x2, x3, x4, x5] none (some 4) = [x0, x1, x2, x3] := rfl
theorem pageL_none {xs : List (Option Int)} (hn : none ∈ xs) : pageL xs = none := by
  unfold pageL
  split
  · simp at hn
  · rfl
/-! ## the law's own sums, of rows with broken cells too -/
def spLSumsO (K : PySem.W.Frag) : Sp := fun vs H Q _ => ∃ (p : Addr) (xs : List (Option Int)), vs = [.ref p] ∧ SqE K H p (xs.map ov) ∧ xs.length ≤ 10000 ∧
  (allI xs = none → ∀ H', Fr [] H H' → Q .non H') ∧ (∀ ns t H', allI xs = some ns → Fr [] H H' → H t = none → H' t = some (.tup [.int (sumsF ns).1, .int (sumsF ns).2]) → Q (.ref t) H')
section
variable {K : PySem.W.Frag} {M : List Addr} {H H' : Hp} {H0 : Bs} {L : List (Addr × HO)} {Ds : List (PyData × V)} {p : Addr} {Q : VK} {E : XK} {ns : List Int} {xs : List (Option Int)}
theorem use_lsumsO (S : Sy K H0 M H L Ds) (h : SqE K H p (ns.map V.int)) (hz : ns.length ≤ 10000)
    (k : ∀ t H', H t = none → H0 t = none → Sy K H0 M H' (L ++ [(t, .tup [.int (sumsF ns).1, .int (sumsF ns).2])]) Ds → Q (.ref t) H') : spLSumsO K [.ref p] H Q E := by
  refine ⟨p, ns.map some, rfl, by rw [← ints_ov]; exact h, by rw [List.length_map]; exact hz, fun z => ?_, fun ms t H' hm f ht e => ?_⟩
  · rw [allI_some] at z; cases z
  · rw [allI_some] at hm; cases hm
    exact k t H' ht (S.free ht) (S.exN f ht e)
theorem use_lsumsN (S : Sy K H0 M H L Ds) (h : SqE K H p (xs.map ov)) (hz : xs.length ≤ 10000) (hn : none ∈ xs) (k : ∀ H', Sy K H0 M H' L Ds → Q .non H') : spLSumsO K [.ref p] H Q E := by
  refine ⟨p, xs, rfl, h, hz, fun _ H' f => k H' (S.ex f), fun ms t H' hm f ht e => ?_⟩
  rw [allI_none.mpr hn] at hm; cases hm
end
/-- the newest of the first so many pages -/
def moreF (a : Option (Int × Int × Rec)) (w : Int) (p : Option (Int × Rec)) : Option (Int × Int × Rec) := match p with
  | none => a
  | some p => match a with
    | none => some (w, p)
    | some b => if p.1 > b.2.1 then some (w, p) else a
def foundF (cs : List (Option Int)) (i : Nat) : Nat → Option (Int × Int × Rec)
  | 0 => none
  | j + 1 => moreF (foundF cs i j) (j : Int) (pageO cs (i + 6 * j))
theorem foundF_two (cs : List (Option Int)) (i : Nat) : foundF cs i 2 = newestO cs i := by
  unfold newestO
  simp only [foundF, moreF, Nat.mul_zero, Nat.add_zero, Nat.mul_one]
  cases pageO cs i <;> cases pageO cs (i + 6) <;> simp
theorem foundF_more (cs : List (Option Int)) (i j : Nat) : foundF cs i (j + 1) = moreF (foundF cs i j) (j : Int) (pageO cs (i + 6 * j)) := rfl
theorem ranX_step {C m dx l : Addr} {μ : Mem} {ws : List Wr} {j : Nat} {p : Wr} {H H1 : Hp} {Q Q2 S : Hp → Prop} (hp : ws[j]? = some p) (hok : (Mem.run (ws.take j) μ).2 = true) (k : ranX C m dx l μ ws H Q S) (f : Fr [m, l] H H1)
    (next : ∀ H2, Fr [m, l] H1 H2 → MemAt C H2 m dx l (Mem.run (ws.take (j + 1)) μ).1 → (Mem.run (ws.take (j + 1)) μ).2 = true → Q2 H2) : ranX C m dx l (Mem.run (ws.take j) μ).1 [p] H1 Q2 S := by
  intro H2 f2 hM
  have e : Mem.run (ws.take (j + 1)) μ = Mem.run [p] (Mem.run (ws.take j) μ).1 := by rw [take_more hp, run_ok hok]
  rw [← e] at hM ⊢
  refine ⟨fun hw => next H2 f2 hM hw, fun hw => ?_⟩
  have e2 : Mem.run ws μ = Mem.run (ws.take (j + 1)) μ := by
    have := run_no (b := ws.drop (j + 1)) hw
    rw [List.take_append_drop] at this
    exact this
  exact (k H2 (f.trans f2) (by rw [e2]; exact hM)).2 (by rw [e2]; exact hw)
def okRec (r : Rec) : Prop := (0 ≤ r.1 ∧ r.1 ≤ 9972) ∧ (0 ≤ r.2.1 ∧ r.2.1 ≤ 9972) ∧ (0 ≤ r.2.2 ∧ r.2.2 ≤ 9972)
def spNote (C : Addr) (er : Er → Addr) (K : PySem.W.Frag) : Sp := fun vs H Q E => ∃ (m dx l : Addr) (μ : Mem) (i : Int) (r : Rec) (v : V), vs = [.ref m, .int i, v] ∧ MemAt C H m dx l μ ∧ μ.up = true ∧ preN 12 μ i ∧ Dt K [m, l] H (recD r) v ∧ okRec r ∧ (nextO μ.cells i.toNat).2 ≤ 9972 ∧ 1 ≤ (nextO μ.cells i.toNat).2 ∧
  ranX C m dx l μ (noteW μ.cells i.toNat r) H (Q .non) (E (.ref (er .stopped)) none)
abbrev spPageRow := spD (fun x : Int × Rec => [.int x.1, recD x.2]) (fun _ => True) (fun x => .tuple ((rowF x.1 x.2).map .int))
theorem newest_w {cs : List (Option Int)} {i : Nat} {p : Int × Int × Rec} (h : newestO cs i = some p) : p.1 = 0 ∨ p.1 = 1 := by
  unfold newestO at h
  split at h
  · cases h
  · cases h; exact .inl rfl
  · cases h; exact .inr rfl
  · split at h
    · cases h; exact .inr rfl
    · cases h; exact .inl rfl
theorem next_w (cs : List (Option Int)) (i : Nat) : (nextO cs i).1 = 0 ∨ (nextO cs i).1 = 1 := by
  unfold nextO
  split
  · exact .inl rfl
  · rename_i p h
    have := newest_w h
    show 1 - p.1 = 0 ∨ 1 - p.1 = 1
    omega
theorem rowF_ok {n : Int} {r : Rec} (h0 : 0 ≤ n) (h1 : n ≤ 9972) (h : okRec r) : ∀ x ∈ rowF n r, 0 ≤ x ∧ x ≤ 9972 := by
  obtain ⟨h2, h3, h4⟩ := h
  have s := sumsF_ok [n, r.1, r.2.1, r.2.2]
  intro x hx
  simp only [rowF, List.mem_cons, List.not_mem_nil, or_false] at hx
  rcases hx with rfl | rfl | rfl | rfl | rfl | rfl <;> omega
theorem noteW_mid (cs : List (Option Int)) (i : Nat) (r : Rec) {j : Nat} (hj : j < 5) : (noteW cs i r)[j + 1]? = some (i + 6 * (nextO cs i).1.toNat + (j + 1), (rowF (nextO cs i).2 r).getD (j + 1) 0) := by
  have : j = 0 ∨ j = 1 ∨ j = 2 ∨ j = 3 ∨ j = 4 := by omega
  rcases this with rfl | rfl | rfl | rfl | rfl <;> rfl
/-! ## rows with broken cells, as data -/
def sumsD (xs : List (Option Int)) : PyData := match allI xs with
  | none => .none
  | some ns => .tuple [.int (sumsF ns).1, .int (sumsF ns).2]
def titleO (xs : List (Option Int)) : Option (Int × Int × Int) := (allI xs).map titleF
def titleD : Option (Int × Int × Int) → PyData
  | none => .none
  | some t => tripD t
def spEO (pre : List (Option Int) → Prop) (res : List (Option Int) → PyData) (K : PySem.W.Frag) : Sp := fun vs H Q _ => ∃ (M : List Addr) (xs : List (Option Int)) (p : Addr), vs = [.ref p] ∧ (∀ a ∈ M, ∃ o, H a = some o) ∧ SqE K H p (xs.map ov) ∧ pre xs ∧
  ∀ u H', Fr [] H H' → Dt K M H' (res xs) u → Q u H'
/-- of a list of cells and a place -/
def spLI (pre : List (Option Int) → Int → Prop) (res : List (Option Int) → Int → PyData) (K : PySem.W.Frag) : Sp := fun vs H Q _ => ∃ (M : List Addr) (xs : List (Option Int)) (p : Addr) (i : Int), vs = [.ref p, .int i] ∧ (∀ a ∈ M, ∃ o, H a = some o) ∧ SqL K H p (xs.map ov) ∧ pre xs i ∧
  ∀ u H', Fr [] H H' → Dt K M H' (res xs i) u → Q u H'
section
variable {K : PySem.W.Frag} {M : List Addr} {H H' : Hp} {H0 : Bs} {L : List (Addr × HO)} {Ds : List (PyData × V)} {p : Addr} {Q : VK} {E : XK} {ns : List Int} {xs : List (Option Int)} {i : Int} {σ : L2.St} {te : TE} {tt : TT} {j : Nat}
theorem use_EO {pre : List (Option Int) → Prop} {res : List (Option Int) → PyData} (xs : List (Option Int)) (S : Sy K H0 M H L Ds) (h : SqE K H p (xs.map ov)) (hp : pre xs) (k : ∀ u H', Sy K H0 M H' L (Ds ++ [(res xs, u)]) → Q u H') : spEO pre res K [.ref p] H Q E :=
  ⟨M, xs, p, rfl, S.dom, h, hp, fun u H' f hu => k u H' ((S.ex f).addD hu)⟩
theorem use_LI {pre : List (Option Int) → Int → Prop} {res : List (Option Int) → Int → PyData} (xs : List (Option Int)) (S : Sy K H0 M H L Ds) (h : SqL K H p (xs.map ov)) (hp : pre xs i) (k : ∀ u H', Sy K H0 M H' L (Ds ++ [(res xs i, u)]) → Q u H') : spLI pre res K [.ref p, .int i] H Q E :=
  ⟨M, xs, p, i, rfl, S.dom, h, hp, fun u H' f hu => k u H' ((S.ex f).addD hu)⟩
theorem sq_od {ns : List Int} (h : SqE K H p (ns.map V.int)) : SqE K H p ((ns.map some).map ov) := by rw [← ints_ov]; exact h
theorem x_iEx {xs : List V} {R : It → Hp → Prop} {m : Nat} (hv : σ[m]? = some (some (.ref p))) (h : SqE K H p xs)
    (q : ∀ J G, Walk J xs.length G (fun i H x H' => H' = H ∧ xs[i]? = some x) → (∀ (D : Addr) (H' : Hp), H D = none → Fr [] H H' → G H') → R J H) : iEi K (tVar m) σ H R := by
  rcases h with h | h
  · exact .inl ⟨_, hv, p, rfl, ⟨xs, h⟩, q _ _ walk_list fun _ _ _ f => f.sl (fun z => nomatch z) h⟩
  · exact .inr ⟨_, hv, p, rfl, ⟨xs, h⟩, q _ _ walk_tup fun _ _ _ f => f.st (fun z => nomatch z) h⟩
/-- [e for x in ..]: the list as an entry, its items as data -/
theorem lcW_zip {J : It} {n : Nat} {G : Hp → Prop} {y : Nat → V → Prop} (w : Walk J n G (fun i H x H' => H' = H ∧ y i x)) (S : Sy K H0 M H L Ds) (hG : ∀ (D : Addr) (H' : Hp), H D = none → Fr [] H H' → G H') (hn : n ≤ 100000) (g : Nat → PyData)
    (hte : ∀ (i : Nat) (x : V) (D : Addr) (acc : List V) (Ds' : List (PyData × V)) (H' : Hp) (Q' : VK), i < n → y i x → H D = none → Sy K (b0 H) (D :: M) H' (L ++ [(D, .lst acc)]) (Ds ++ Ds') →
      (∀ (u : V) (H'' : Hp), Sy K (b0 H) (D :: M) H'' (L ++ [(D, .lst acc)]) (Ds ++ Ds') → Dt K (D :: M) H'' (g i) u → Q' u H'') → te ((σ.set j none).set j (some x)) H' Q')
    (k : ∀ D H' vs, H D = none → vs.length = n → Sy K H0 M H' (L ++ [(D, .lst vs)]) (Ds ++ ((List.range n).map g).zip vs) → Q (.ref D) H') : LcO (gName j) tYes te [j] σ Q J H := by
  intro D hD
  have DF := hD
  have S1 : Sy K (b0 H) M H L Ds := S.rebase
  refine lc_it w (fun i H' => i ≤ n ∧ ∃ vs : List V, vs.length = i ∧ Sy K (b0 H) (D :: M) H' (L ++ [(D, .lst vs)]) (Ds ++ ((List.range i).map g).zip vs)) ⟨Nat.zero_le _, [], rfl, by rw [List.range_zero, List.map_nil, List.zip_nil_left, List.append_nil]; exact S1.newM hD⟩ (fun i H' _ S' => by
    obtain ⟨_, vs, _, T⟩ := S'
    exact hG D H' hD T.fr) ?_ ?_
  · rintro i x H2 H' hi ⟨_, vs, hl, T⟩ ⟨rfl, hy⟩
    refine ⟨wipe_one _, ?_⟩
    refine hte i x D vs _ H' _ hi hy hD T fun u H'' T2 hu => ?_
    have gD : (L ++ [(D, HO.lst vs)])[L.length]? = some (D, .lst vs) := by simp
    refine ⟨vs, T2.get L.length gD, szl (by omega), by omega, vs ++ [u], by simp [hl], ?_⟩
    have T3 := (T2.addD hu).set (o' := .lst (vs ++ [u])) L.length gD ⟨List.mem_cons_self .., .inr DF⟩
    rw [show (L ++ [(D, HO.lst vs)]).set L.length (D, .lst (vs ++ [u])) = L ++ [(D, .lst (vs ++ [u]))] by simp] at T3
    rw [List.range_succ, List.map_append, List.map_singleton, zip_more (by simp [hl]), ← List.append_assoc]
    exact T3
  · rintro H' ⟨_, vs, hl, T⟩
    exact k D H' vs hD hl (S.over T).dropM
end
theorem sumsD_some (ns : List Int) : sumsD (ns.map some) = .tuple [.int (sumsF ns).1, .int (sumsF ns).2] := by unfold sumsD; rw [allI_some]
theorem sumsD_none {xs : List (Option Int)} (h : none ∈ xs) : sumsD xs = .none := by unfold sumsD; rw [allI_none.mpr h]
theorem whole_of {xs : List (Option Int)} (h : none ∉ xs) : ∃ ns : List Int, xs = ns.map some := by
  cases e : allI xs with
  | none => exact absurd (allI_none.mp e) h
  | some ns => exact ⟨ns, allI_inv e⟩
/-- of a slice that lies within -/
theorem cut_in {α : Type} (f : α → V) (xs : List α) {a b : Int} (h0 : 0 ≤ a) (h1 : a ≤ b) (h2 : b ≤ xs.length) : cutV (xs.map f) (some a) (some b) = ((xs.drop a.toNat).take (b - a).toNat).map f := by
  unfold cutV
  rw [List.length_map, ← List.map_drop, ← List.map_take]
  congr 1
  have e1 : HT.sIx xs.length 0 (some a) = a.toNat := by simp only [HT.sIx]; split <;> omega
  have e2 : HT.sIx xs.length xs.length (some b) = b.toNat := by simp only [HT.sIx]; split <;> omega
  rw [e1, e2, show b.toNat - a.toNat = (b - a).toNat by omega]
def wrD (w : Wr) : PyData := .tuple [.int w.1, .int w.2]
def logD (ws : List Wr) : PyData := .list (ws.map wrD)
abbrev spLNewest := spLI (fun xs i => 0 ≤ i ∧ i + 12 ≤ xs.length ∧ xs.length ≤ 400 ∧ ∀ n, some n ∈ xs → 0 ≤ n) fun xs i => newestD (newestO xs i.toNat)
def spLNoted (K : PySem.W.Frag) : Sp := fun vs H Q _ => ∃ (M : List Addr) (xs : List (Option Int)) (p : Addr) (i : Int) (r : Rec) (v : V), vs = [.ref p, .int i, v] ∧ (∀ a ∈ M, ∃ o, H a = some o) ∧ SqL K H p (xs.map ov) ∧ (0 ≤ i ∧ i + 12 ≤ xs.length ∧ xs.length ≤ 400 ∧ ∀ n, some n ∈ xs → 0 ≤ n) ∧ Dt K M H (recD r) v ∧
  ∀ u H', Fr [] H H' → Dt K M H' (logD (noteW xs i.toNat r)) u → Q u H'
section
variable {K : PySem.W.Frag} {M : List Addr} {H : Hp} {Q : VK} {v u : V} {s t : Int × Int}
theorem d_eqTT {ns ms : List Int} (h1 : Dt K M H (.tuple (ns.map .int)) v) (h2 : Dt K M H (.tuple (ms.map .int)) u) (q : Q (.bl (decide (ns = ms))) H) : rEqD K v u H Q := by
  refine n_eqD h1.dp h2.dp (sh_intsT ns) (sh_intsT ms) ?_
  simp only [PyData.eqv, eqvAll_ints]; exact q
theorem d_neTT {ns ms : List Int} (h1 : Dt K M H (.tuple (ns.map .int)) v) (h2 : Dt K M H (.tuple (ms.map .int)) u) (q : Q (.bl (!decide (ns = ms))) H) : rNeD K v u H Q := by
  refine n_neD h1.dp h2.dp (sh_intsT ns) (sh_intsT ms) ?_
  simp only [PyData.eqv, eqvAll_ints]; exact q
theorem pair_eq : decide (([s.1, s.2] : List Int) = [t.1, t.2]) = decide (s = t) := by
  rw [Bool.eq_iff_iff]; simp only [decide_eq_true_eq, List.cons.injEq, and_true]
  exact ⟨fun z => Prod.ext z.1 z.2, fun z => by rw [z]; exact ⟨rfl, rfl⟩⟩
theorem d_eqP (h1 : Dt K M H (.tuple [.int s.1, .int s.2]) v) (h2 : Dt K M H (.tuple [.int t.1, .int t.2]) u) (q : Q (.bl (decide (s = t))) H) : rEqD K v u H Q :=
  d_eqTT (ns := [s.1, s.2]) (ms := [t.1, t.2]) h1 h2 (by rw [pair_eq]; exact q)
theorem d_neP (h1 : Dt K M H (.tuple [.int s.1, .int s.2]) v) (h2 : Dt K M H (.tuple [.int t.1, .int t.2]) u) (q : Q (.bl (!decide (s = t))) H) : rNeD K v u H Q :=
  d_neTT (ns := [s.1, s.2]) (ms := [t.1, t.2]) h1 h2 (by rw [pair_eq]; exact q)
end
theorem next_cases (cs : List (Option Int)) (i : Nat) : newestO cs i = none ∧ (nextO cs i).1 = 0 ∧ (nextO cs i).2 = 1 ∨ ∃ p, newestO cs i = some p ∧ (nextO cs i).1 = 1 - p.1 ∧ (nextO cs i).2 = p.2.1 + 1 := by
  unfold nextO
  cases e : newestO cs i with
  | none => exact .inl ⟨rfl, rfl, rfl⟩
  | some p => exact .inr ⟨p, rfl, rfl, rfl⟩
theorem Sy.back {K : PySem.W.Frag} {M : List Addr} {H : Hp} {H0 : Bs} {L : List (Addr × HO)} {Ds Ds' Es : List (PyData × V)} (S : Sy K H0 M H L (Ds ++ (Ds' ++ Es))) : Sy K H0 M H L (Ds ++ Ds') := S.subD fun x hx => by
  rcases List.mem_append.mp hx with h | h
  · exact List.mem_append_left _ h
  · exact List.mem_append_right _ (List.mem_append_left _ h)
theorem notM0 {M : List Addr} {H : Hp} {p : Addr} (hd : ∀ a ∈ M, ∃ o, H a = some o) (h : H p = none) : p ∉ M := fun z => by
  obtain ⟨o, e⟩ := hd _ z
  rw [h] at e; cases e
/-! ## books, plainly -/
theorem applyW_out {k : Nat} : ∀ {ws : List Wr} {cs : List (Option Int)}, (∀ p ∈ ws, p.1 ≠ k) → (applyW ws cs)[k]? = cs[k]?
  | [], _, _ => rfl
  | w :: r, cs, h => by
    show (applyW r (cs.set w.1 (some w.2)))[k]? = _
    rw [applyW_out (ws := r) (fun p hp => h p (List.mem_cons_of_mem _ hp)), List.getElem?_set_ne (h w (List.mem_cons_self ..))]
theorem row_ext {cs cs' : List (Option Int)} {j n : Nat} (h : ∀ k, j ≤ k → k < j + n → cs'[k]? = cs[k]?) : (cs'.drop j).take n = (cs.drop j).take n := by
  apply List.ext_getElem?
  intro k
  by_cases hk : k < n
  · rw [List.getElem?_take_of_lt hk, List.getElem?_take_of_lt hk, List.getElem?_drop, List.getElem?_drop, h (j + k) (by omega) (by omega)]
  · rw [List.getElem?_eq_none (by rw [List.length_take]; omega), List.getElem?_eq_none (by rw [List.length_take]; omega)]
theorem page_same {cs cs' : List (Option Int)} {j : Nat} (h : ∀ k, j ≤ k → k < j + 6 → cs'[k]? = cs[k]?) : pageO cs' j = pageO cs j := by
  unfold pageO; rw [row_ext h]
/-- the page that is to be written, and the other one -/
def wPage (cs : List (Option Int)) (i : Nat) : Nat := i + 6 * (nextO cs i).1.toNat
def oPage (cs : List (Option Int)) (i : Nat) : Nat := i + 6 * (1 - (nextO cs i).1).toNat
theorem record_other {cs cs' : List (Option Int)} {i : Nat} (h1 : pageO cs' (wPage cs i) = none) (h2 : pageO cs' (oPage cs i) = pageO cs (oPage cs i)) : newestO cs' i = newestO cs i := by
  unfold wPage oPage nextO at *
  unfold newestO at *
  cases e0 : pageO cs i with
  | none =>
    cases e1 : pageO cs (i + 6) with
    | none => rw [e0, e1] at h1 h2; simp at h1 h2; rw [h1, h2, e1]
    | some q => rw [e0, e1] at h1 h2; simp at h1 h2; rw [h1, h2, e1]
  | some p =>
    cases e1 : pageO cs (i + 6) with
    | none => rw [e0, e1] at h1 h2; simp at h1 h2; rw [h1, h2, e0]
    | some q =>
      rw [e0, e1] at h1 h2
      by_cases hq : q.1 > p.1
      · simp [if_pos hq] at h1 h2
        rw [h1, h2, e1]
        simp [if_pos hq]
      · simp [if_neg hq] at h1 h2
        rw [h1, h2, e0]
        simp [if_neg hq]
theorem record_new {cs cs' : List (Option Int)} {i : Nat} {r : Rec} (h1 : pageO cs' (wPage cs i) = some ((nextO cs i).2, r)) (h2 : pageO cs' (oPage cs i) = pageO cs (oPage cs i)) : newestO cs' i = some ((nextO cs i).1, (nextO cs i).2, r) := by
  unfold wPage oPage nextO at *
  unfold newestO at *
  cases e0 : pageO cs i with
  | none =>
    cases e1 : pageO cs (i + 6) with
    | none => rw [e0, e1] at h1 h2; simp at h1 h2; rw [h1, h2, e1]
    | some q => rw [e0, e1] at h1 h2; simp at h1 h2; rw [h1, h2, e1]; simp; omega
  | some p =>
    cases e1 : pageO cs (i + 6) with
    | none => rw [e0, e1] at h1 h2; simp at h1 h2; rw [h1, h2, e0]; simp; omega
    | some q =>
      rw [e0, e1] at h1 h2
      by_cases hq : q.1 > p.1
      · simp [if_pos hq] at h1 h2
        rw [h1, h2, e1]
        simp [if_pos hq]; omega
      · simp [if_neg hq] at h1 h2
        rw [h1, h2, e0]
        simp [if_neg hq]; omega
theorem noteW_at (cs : List (Option Int)) (i : Nat) (r : Rec) : ∀ p ∈ noteW cs i r, wPage cs i ≤ p.1 ∧ p.1 < wPage cs i + 6 := by
  intro p hp
  unfold noteW at hp
  simp only [List.mem_cons, List.not_mem_nil, or_false] at hp
  unfold wPage
  rcases hp with rfl | rfl | rfl | rfl | rfl | rfl | rfl <;> simp <;> omega
theorem pages_apart (cs : List (Option Int)) (i : Nat) : oPage cs i + 6 ≤ wPage cs i ∨ wPage cs i + 6 ≤ oPage cs i := by
  unfold oPage wPage
  rcases next_w cs i with h | h <;> rw [h] <;> simp
theorem pages_in (cs : List (Option Int)) (i : Nat) : i ≤ wPage cs i ∧ wPage cs i + 6 ≤ i + 12 ∧ i ≤ oPage cs i ∧ oPage cs i + 6 ≤ i + 12 := by
  unfold oPage wPage
  rcases next_w cs i with h | h <;> rw [h] <;> simp
/-- a page that holds a row -/
theorem page_of {cs : List (Option Int)} {b : Nat} {n : Int} {r : Rec} (h : (cs.drop b).take 6 = (rowF n r).map some) (hn : n ≠ 0) : pageO cs b = some (n, r) := by
  unfold pageO
  rw [h]
  show pageL [some n, some r.1, some r.2.1, some r.2.2, some _, some _] = _
  rw [pageL_some, if_pos ⟨hn, rfl⟩]
theorem page_zero {cs : List (Option Int)} {b : Nat} (h : cs[b]? = some none ∨ cs[b]? = some (some 0)) : pageO cs b = none := by
  unfold pageO
  have hb : b < cs.length := by
    rcases h with h | h <;> exact (List.getElem?_eq_some_iff.mp h).1
  rw [List.drop_eq_getElem_cons hb, List.take_succ_cons]
  have e : cs[b] = none ∨ cs[b] = some 0 := by
    rcases h with h | h
    · exact .inl (List.getElem?_eq_some_iff.mp h).2
    · exact .inr (List.getElem?_eq_some_iff.mp h).2
  rcases e with e | e
  · rw [e]; unfold pageL; rfl
  · rw [e]
    unfold pageL
    split
    · rename_i n a b' c s t z
      simp only [List.cons.injEq, Option.some.injEq] at z
      rw [if_neg]
      exact fun z2 => z2.1 z.1.symm
    · rfl
theorem set6 {cs : List (Option Int)} {b : Nat} (hb : b + 6 ≤ cs.length) (x0 x1 x2 x3 x4 x5 : Int) : ((applyW [(b, 0), (b + 1, x1), (b + 2, x2), (b + 3, x3), (b + 4, x4), (b + 5, x5), (b, x0)] cs).drop b).take 6 = [some x0, some x1, some x2, some x3, some x4, some x5] := by
  have hl : (applyW [(b, 0), (b + 1, x1), (b + 2, x2), (b + 3, x3), (b + 4, x4), (b + 5, x5), (b, x0)] cs).length = cs.length := applyW_len _ _
  apply List.ext_getElem?
  intro k
  by_cases hk : k < 6
  · rw [List.getElem?_take_of_lt hk, List.getElem?_drop]
    have : k = 0 ∨ k = 1 ∨ k = 2 ∨ k = 3 ∨ k = 4 ∨ k = 5 := by omega
    simp only [applyW, List.foldl_cons, List.foldl_nil]
    rcases this with rfl | rfl | rfl | rfl | rfl | rfl <;> simp [List.getElem?_set] <;> omega
  · rw [List.getElem?_eq_none (by rw [List.length_take]; omega), List.getElem?_eq_none (by simp; omega)]
/-- a whole noting -/
theorem note_whole {cs : List (Option Int)} {i : Nat} {r : Rec} (h : i + 12 ≤ cs.length) (hn : (nextO cs i).2 ≠ 0) : newestO (applyW (noteW cs i r) cs) i = some ((nextO cs i).1, (nextO cs i).2, r) := by
  have hp := pages_in cs i
  refine record_new (page_of ?_ hn) (page_same fun k h1 h2 => applyW_out fun p hp => ?_)
  · exact set6 (by omega) _ _ _ _ _ _
  · have := noteW_at cs i r p hp
    have := pages_apart cs i
    omega
/-- a cell that is being written when power goes -/
def tornW (t : Str) (cs : List (Option Int)) (p : Wr) : List (Option Int) := if t = "broken" then cs.set p.1 none else if t = "new" then cs.set p.1 (some p.2) else cs
theorem run_torn : ∀ {ws : List Wr} {μ : Mem}, (∀ n, μ.left = some n → 0 ≤ n) → (Mem.run ws μ).2 = false → ∃ (n : Nat) (p : Wr), ws[n]? = some p ∧ μ.left = some (n : Int) ∧ (Mem.run ws μ).1.cells = tornW μ.torn (applyW (ws.take n) μ.cells) p ∧ (Mem.run ws μ).1.many = μ.many + n
  | [], μ, _, h => by cases h
  | (i, w) :: r, μ, h0, h => by
    by_cases hl : μ.left = some 0
    · rw [run_cut hl]
      refine ⟨0, (i, w), rfl, hl, ?_, by simp [Mem.down]⟩
      simp only [Mem.down, tornW, applyW, List.take_zero, List.foldl_nil]
    · rw [run_go hl] at h ⊢
      cases e : μ.left with
      | none => rw [run_free (by simp [Mem.wr, e])] at h; cases h
      | some k =>
        have hk := h0 k e
        have hk1 : k ≠ 0 := fun z => hl (by rw [e, z])
        obtain ⟨n, p, h1, h2, h3, h4⟩ := run_torn (ws := r) (μ := μ.wr i w) (fun n hn => by simp only [Mem.wr, e, Option.map_some, Option.some.injEq] at hn; omega) h
        refine ⟨n + 1, p, by simpa using h1, ?_, ?_, ?_⟩
        · simp only [Mem.wr, e, Option.map_some, Option.some.injEq] at h2
          congr 1; push_cast; omega
        · rw [h3]; rfl
        · rw [h4]; simp only [Mem.wr]; push_cast; omega
theorem tornW_len (t : Str) (cs : List (Option Int)) (p : Wr) : (tornW t cs p).length = cs.length := by
  unfold tornW; split
  · simp
  · split <;> simp
theorem tornW_out {t : Str} {cs : List (Option Int)} {p : Wr} {k : Nat} (h : p.1 ≠ k) : (tornW t cs p)[k]? = cs[k]? := by
  unfold tornW; split
  · exact List.getElem?_set_ne h
  · split
    · exact List.getElem?_set_ne h
    · rfl
/-- a noting that is stopped: the elder record, or the new one -/
theorem note_torn {cs : List (Option Int)} {i n : Nat} {r : Rec} {p : Wr} {t : Str} (h : i + 12 ≤ cs.length) (hn : (nextO cs i).2 ≠ 0) (hp : (noteW cs i r)[n]? = some p) :
    newestO (tornW t (applyW ((noteW cs i r).take n) cs) p) i = newestO cs i ∨ (newestO (tornW t (applyW ((noteW cs i r).take n) cs) p) i = some ((nextO cs i).1, (nextO cs i).2, r) ∧ n = 6) := by
  have hin := pages_in cs i
  have hpm := noteW_at cs i r p (List.mem_of_getElem? hp)
  have other : pageO (tornW t (applyW ((noteW cs i r).take n) cs) p) (oPage cs i) = pageO cs (oPage cs i) := page_same fun k h1 h2 => by
    have := pages_apart cs i
    rw [tornW_out (by omega)]
    refine applyW_out fun q hq => ?_
    have := noteW_at cs i r q (List.mem_of_mem_take hq)
    omega
  have hlen : (applyW ((noteW cs i r).take n) cs).length = cs.length := applyW_len _ _
  have hn7 : n < 7 := (List.getElem?_eq_some_iff.mp hp).1
  by_cases h0 : n = 0
  · subst h0
    have e : p = (wPage cs i, 0) := (Option.some.inj hp).symm
    subst e
    simp only [List.take_zero] at other ⊢
    have ea : applyW [] cs = cs := rfl
    rw [ea] at other ⊢
    by_cases hb : t = "broken"
    · refine .inl (record_other (page_zero ?_) other)
      rw [tornW, if_pos hb]; left; exact List.getElem?_set_self (by omega)
    · by_cases hw : t = "new"
      · refine .inl (record_other (page_zero ?_) other)
        rw [tornW, if_neg hb, if_pos hw]; right; exact List.getElem?_set_self (by omega)
      · rw [tornW, if_neg hb, if_neg hw]; exact .inl rfl
  · have zero : (applyW ((noteW cs i r).take n) cs)[wPage cs i]? = some (some 0) := by
      obtain ⟨k, rfl⟩ : ∃ k, n = k + 1 := ⟨n - 1, by omega⟩
      have e : (noteW cs i r).take (k + 1) = (wPage cs i, 0) :: ((noteW cs i r).drop 1).take k := rfl
      rw [e]
      show (applyW _ (cs.set (wPage cs i) (some 0)))[wPage cs i]? = _
      rw [applyW_out]
      · exact List.getElem?_set_self (by omega)
      · intro q hq
        have hk : k ≤ 5 := by omega
        have hq2 : q ∈ ((noteW cs i r).drop 1).take 5 := by
          have : ((noteW cs i r).drop 1).take k = (((noteW cs i r).drop 1).take 5).take k := by rw [List.take_take, Nat.min_eq_left hk]
          rw [this] at hq
          exact List.mem_of_mem_take hq
        simp only [noteW, List.drop_succ_cons, List.drop_zero, List.take_succ_cons, List.take_zero, List.mem_cons, List.not_mem_nil, or_false] at hq2
        unfold wPage
        rcases hq2 with rfl | rfl | rfl | rfl | rfl <;> simp
    by_cases h6 : n = 6
    · subst h6
      have e : p = (wPage cs i, (nextO cs i).2) := (Option.some.inj hp).symm
      by_cases hb : t = "broken"
      · refine .inl (record_other (page_zero ?_) other)
        rw [tornW, if_pos hb, e]; left; exact List.getElem?_set_self (by omega)
      · by_cases hw : t = "new"
        · refine .inr ⟨?_, rfl⟩
          rw [tornW, if_neg hb, if_pos hw, e]
          exact note_whole h hn
        · refine .inl (record_other (page_zero ?_) other)
          rw [tornW, if_neg hb, if_neg hw]; exact .inr zero
    · refine .inl (record_other (page_zero ?_) other)
      have hne : p.1 ≠ wPage cs i := by
        have : n = 1 ∨ n = 2 ∨ n = 3 ∨ n = 4 ∨ n = 5 := by omega
        unfold wPage
        rcases this with rfl | rfl | rfl | rfl | rfl <;> (cases Option.some.inj hp; simp)
      rw [tornW_out hne]
      exact .inr zero
def Mem.of (cs : List (Option Int)) : Mem := ⟨cs, none, "old", true, 0⟩
theorem row_is {cs : List (Option Int)} {b n : Nat} {xs : List (Option Int)} (hl : xs.length = n) (h : ∀ k, k < n → cs[b + k]? = xs[k]?) : (cs.drop b).take n = xs := by
  apply List.ext_getElem?
  intro k
  by_cases hk : k < n
  · rw [List.getElem?_take_of_lt hk, List.getElem?_drop, h k hk]
  · rw [List.getElem?_eq_none (by rw [List.length_take]; omega), List.getElem?_eq_none (by omega)]
/-! ## loops over lists and tuples that are data; a frame of its own meanwhile -/
section
variable {K : PySem.W.Frag} {M M' N : List Addr} {H H' : Hp} {B : Bs} {L L' : List (Addr × HO)} {Ds Ds' : List (PyData × V)} {p : Addr} {ds : List PyData} {σ : L2.St} {g : TG} {tb : TS} {D : Ends}
theorem Sy.from (S : Sy K B M H L Ds) (N : List Addr) (h : ∀ a ∈ N, ∃ o, H a = some o) : Sy K ⟨H, N⟩ M H L Ds := ⟨Fr.refl _ _, S.ent, S.nd, S.dat, S.dom, h⟩
theorem Sy.into (S : Sy K B M H L Ds) (T : Sy K ⟨H, N⟩ M' H' L' Ds') (hN : ∀ a ∈ N, B.may a) : Sy K B M' H' L' Ds' := by
  refine ⟨fun b o n e => ?_, T.ent, T.nd, T.dat, T.dom, fun a ha => ?_⟩
  · refine T.fr b o (fun z => ?_) (S.fr b o n e)
    rcases hN b z with h | h
    · exact n h
    · rw [h] at e; cases e
  · obtain ⟨u, hu⟩ := S.nom a ha
    by_cases z : a ∈ N
    · exact T.nom a z
    · exact ⟨u, T.fr a u z hu⟩
theorem for_dataL (h : Dt K M H (.list ds) (.ref p)) (Pv : Nat → L2.St → Hp → Prop) (h0 : Pv 0 σ H) (hf : ∀ j σ' H', Pv j σ' H' → Fr M H H')
    (hs : ∀ j d x σ' H', ds[j]? = some d → Dt K M H' d x → Pv j σ' H' → g x σ' H' fun σ2 H2 => tb { D with nx := Pv (j + 1), ct := Pv (j + 1), bk := D.nx } σ2 H2) (hd : ∀ σ' H', Pv ds.length σ' H' → D.nx σ' H') :
    ∃ W : Nat → Nat → L2.St → Hp → Prop, (∃ m, W 0 m σ H) ∧ ∀ i m σ H, W i m σ H →
      ((Itl K p).stop i H ∧ D.nx σ H) ∨ ((Itl K p).go i H ∧ ∃ N : L2.St → Hp → Prop, (∀ σ' H', N σ' H' → ∃ m', m' < m ∧ W (i + 1) m' σ' H') ∧ ∀ x H', (Itl K p).yld i H x H' → g x σ H' fun σ2 H2 => tb { D with nx := N, ct := N, bk := D.nx } σ2 H2) := by
  obtain ⟨vs, s, r⟩ := h.lst
  refine for_list (xs := vs) Pv h0 (fun j σ' H' _ q => (s.mono (hf j σ' H' q)).1) (fun j x σ' H' hx q => ?_) (fun σ' H' q => hd σ' H' (by rw [← r.len]; exact q))
  have hj := (List.getElem?_eq_some_iff.mp hx).1
  rw [r.len] at hj
  obtain ⟨d, hdd⟩ := at_lt hj
  obtain ⟨v, hv, w⟩ := r.at hdd
  rw [hx] at hv; cases hv
  exact hs j d x σ' H' hdd (w.mono (hf j σ' H' q)) q
theorem for_dataT (h : Dt K M H (.tuple ds) (.ref p)) (Pv : Nat → L2.St → Hp → Prop) (h0 : Pv 0 σ H) (hf : ∀ j σ' H', Pv j σ' H' → Fr M H H')
    (hs : ∀ j d x σ' H', ds[j]? = some d → Dt K M H' d x → Pv j σ' H' → g x σ' H' fun σ2 H2 => tb { D with nx := Pv (j + 1), ct := Pv (j + 1), bk := D.nx } σ2 H2) (hd : ∀ σ' H', Pv ds.length σ' H' → D.nx σ' H') :
    ∃ W : Nat → Nat → L2.St → Hp → Prop, (∃ m, W 0 m σ H) ∧ ∀ i m σ H, W i m σ H →
      ((Itt K p).stop i H ∧ D.nx σ H) ∨ ((Itt K p).go i H ∧ ∃ N : L2.St → Hp → Prop, (∀ σ' H', N σ' H' → ∃ m', m' < m ∧ W (i + 1) m' σ' H') ∧ ∀ x H', (Itt K p).yld i H x H' → g x σ H' fun σ2 H2 => tb { D with nx := N, ct := N, bk := D.nx } σ2 H2) := by
  obtain ⟨vs, s, r⟩ := h.tup
  refine for_tup (xs := vs) Pv h0 (fun j σ' H' _ q => (s.mono (hf j σ' H' q)).1) (fun j x σ' H' hx q => ?_) (fun σ' H' q => hd σ' H' (by rw [← r.len]; exact q))
  have hj := (List.getElem?_eq_some_iff.mp hx).1
  rw [r.len] at hj
  obtain ⟨d, hdd⟩ := at_lt hj
  obtain ⟨v, hv, w⟩ := r.at hdd
  rw [hx] at hv; cases hv
  exact hs j d x σ' H' hdd (w.mono (hf j σ' H' q)) q
end
/-! ## in of a tuple of data; a dict of three texts -/
def rInT (K : PySem.W.Frag) (neg : Bool) : R2 := fun x y H Q => ∃ d ds, Dp K H x d ∧ Dp K H y (.tuple ds) ∧ SeqAt.shaped d = true ∧ SeqAt.shaped (.tuple ds) = true ∧ Q (.bl (if neg then !ds.any fun z => PyData.eqv z d else ds.any fun z => PyData.eqv z d)) H
section
variable {X : Cx} {K : PySem.W.Frag}
theorem op_inT (hu : X.A.units + 65 < cLine) : OpR X (compareOp .In) (rInT X.K false) := by
  intro pins s σ H x y v u Q I rx ry h
  obtain ⟨d, ds, hd, he, sd, se, q⟩ := h
  obtain ⟨as, r1⟩ := Dp.reads I d x v hd rx
  obtain ⟨bs, r2⟩ := Dp.reads I (.tuple ds) y u he ry
  exact SeqAt.in_tuple_reads r2 r1 (SeqAt.canLay_of_shaped se) (SeqAt.canLay_of_shaped sd) (PyProof.Rows.room_in_shaped sd hu) ⟨.bl _, H, I, rfl, q⟩
theorem op_notInT (hu : X.A.units + 65 < cLine) : OpR X (compareOp .NotIn) (rInT X.K true) := by
  intro pins s σ H x y v u Q I rx ry h
  obtain ⟨d, ds, hd, he, sd, se, q⟩ := h
  obtain ⟨as, r1⟩ := Dp.reads I d x v hd rx
  obtain ⟨bs, r2⟩ := Dp.reads I (.tuple ds) y u he ry
  exact SeqAt.notIn_tuple_reads r2 r1 (SeqAt.canLay_of_shaped se) (SeqAt.canLay_of_shaped sd) (PyProof.Rows.room_in_shaped sd hu) ⟨.bl _, H, I, rfl, q⟩
theorem b_inT (hu : X.A.units + 65 < cLine) (e : X.K = K := by rfl) : OpR X (compareOp .In) (rInT K false) := by subst e; exact op_inT hu
theorem b_notInT (hu : X.A.units + 65 < cLine) (e : X.K = K := by rfl) : OpR X (compareOp .NotIn) (rInT K true) := by subst e; exact op_notInT hu
theorem hr65 {k : Nat} {A : Around} (r : Room k A) : A.units + 65 < cLine := by have := r.un; omega
end
section
variable {K : PySem.W.Frag} {M : List Addr} {H : Hp} {Q : VK} {d : PyData} {ds : List PyData} {v u : V} {neg : Bool} {σ : L2.St} {tv1 tv2 tv3 : TE} {k : Nat} {v1 v2 v3 : V} {t : Str}
theorem d_inT (h1 : Dt K M H d v) (h2 : Dt K M H (.tuple ds) u) (s1 : SeqAt.shaped d = true) (s2 : SeqAt.shaped (.tuple ds) = true) (q : Q (.bl (if neg then !ds.any fun z => PyData.eqv z d else ds.any fun z => PyData.eqv z d)) H) : rInT K neg v u H Q := ⟨d, ds, h1.dp, h2.dp, s1, s2, q⟩
theorem key_on : ¬ (Sum.inr ("old" : Str) : Key) = (Sum.inr ("new" : Str) : Key) := by decide +kernel
theorem key_ob : ¬ (Sum.inr ("old" : Str) : Key) = (Sum.inr ("broken" : Str) : Key) := by decide +kernel
theorem key_bn : ¬ (Sum.inr ("broken" : Str) : Key) = (Sum.inr ("new" : Str) : Key) := by decide +kernel
def tornK (v1 v2 v3 : V) : List (Key × V) := [(.inr "old", v1), (.inr "broken", v2), (.inr "new", v3)]
theorem tornK_merge : mergeK [] (tornK v1 v2 v3) = tornK v1 v2 v3 := by
  have e1 : putK ([] : List (Key × V)) (Sum.inr ("old" : Str) : Key) v1 = [((Sum.inr ("old" : Str) : Key), v1)] := putK_new _ rfl
  have g2 : valV [((Sum.inr ("old" : Str) : Key), v1)] (Sum.inr ("broken" : Str) : Key) = none := by
    rw [valV_neg (p := ((Sum.inr ("old" : Str) : Key), v1)) key_ob]; rfl
  have e2 : putK [((Sum.inr ("old" : Str) : Key), v1)] (Sum.inr ("broken" : Str) : Key) v2 = [((Sum.inr ("old" : Str) : Key), v1), (Sum.inr ("broken" : Str), v2)] := putK_new _ g2
  have g3 : valV [((Sum.inr ("old" : Str) : Key), v1), (Sum.inr ("broken" : Str), v2)] (Sum.inr ("new" : Str) : Key) = none := by
    rw [valV_neg (p := ((Sum.inr ("old" : Str) : Key), v1)) key_on, valV_neg (p := ((Sum.inr ("broken" : Str) : Key), v2)) key_bn]; rfl
  have e3 : putK [((Sum.inr ("old" : Str) : Key), v1), (Sum.inr ("broken" : Str), v2)] (Sum.inr ("new" : Str) : Key) v3 = tornK v1 v2 v3 := putK_new _ g3
  show putK (putK (putK [] (Sum.inr ("old" : Str) : Key) v1) (Sum.inr ("broken" : Str) : Key) v2) (Sum.inr ("new" : Str) : Key) v3 = _
  rw [e1, e2, e3]
theorem tornK_val (ht : t = "old" ∨ t = "broken" ∨ t = "new") : valV (tornK v1 v2 v3) (.inr t) = some (if t = "broken" then v2 else if t = "new" then v3 else v1) := by
  unfold tornK
  rcases ht with rfl | rfl | rfl
  · rw [if_neg (by decide +kernel), if_neg (by decide +kernel)]; exact valV_pos rfl
  · rw [if_pos rfl, valV_neg (p := ((Sum.inr ("old" : Str) : Key), v1)) key_ob]; exact valV_pos rfl
  · rw [if_neg (by decide +kernel), if_pos rfl, valV_neg (p := ((Sum.inr ("old" : Str) : Key), v1)) key_on, valV_neg (p := ((Sum.inr ("broken" : Str) : Key), v2)) key_bn]; exact valV_pos rfl
/-- {"old": .., "broken": .., "new": ..}[t] -/
theorem x_torn3 (h1 : ∀ H' (Q' : VK), Fr [] H H' → Q' v1 H' → tv1 σ H' Q') (h2 : ∀ H' (Q' : VK), Fr [] H H' → Q' v2 H' → tv2 σ H' Q') (h3 : ∀ H' (Q' : VK), Fr [] H H' → Q' v3 H' → tv3 σ H' Q') (hk : σ[k]? = some (some (.str t))) (ht : t = "old" ∨ t = "broken" ∨ t = "new")
    (q : ∀ H', Fr [] H H' → Q (if t = "broken" then v2 else if t = "new" then v3 else v1) H') : tDGet (tDisp [(tC (.str "old"), tv1), (tC (.str "broken"), tv2), (tC (.str "new"), tv3)]) (tVar k) σ H Q := by
  intro p hp
  have f1 : Fr [] H (upd H p (.dK [])) := Fr.new hp
  refine h1 _ _ f1 (h2 _ _ f1 (h3 _ _ f1 ?_))
  refine ⟨upd_same, tornK v1 v2 v3, rfl, by simp [tornK], ?_⟩
  rw [upd_upd, tornK_merge]
  refine ⟨_, hk, p, _, rfl, ?_, q _ (Fr.new hp)⟩
  have := DGet.k (H := upd H p (.dK (tornK v1 v2 v3))) (a := p) (kvs := tornK v1 v2 v3) (k := .inr t) upd_same
  rw [tornK_val ht] at this
  exact this
end
/-- a new list of the cells behind a stop -/
def spLStopped (K : PySem.W.Frag) : Sp := fun vs H Q _ => ∃ (M : List Addr) (p : Addr) (cs : List (Option Int)) (ws : List Wr) (v : V) (n : Nat) (t : Str) (w : Wr), vs = [.ref p, v, .int n, .str t] ∧ (∀ a ∈ M, ∃ o, H a = some o) ∧ SqL K H p (cs.map ov) ∧ Dt K M H (logD ws) v ∧ ws[n]? = some w ∧ (∀ w ∈ ws, w.1 < cs.length) ∧ cs.length ≤ 400 ∧ (t = "old" ∨ t = "broken" ∨ t = "new") ∧
  ∀ u H', Fr [] H H' → H u = none → H' u = some (.lst ((tornW t (applyW (ws.take n) cs) w).map ov)) → Q (.ref u) H'
theorem page_inv {cs : List (Option Int)} {j : Nat} {n : Int} {r : Rec} (h : pageO cs j = some (n, r)) : ∃ s t, (cs.drop j).take 6 = [some n, some r.1, some r.2.1, some r.2.2, some s, some t] ∧ sumsF [n, r.1, r.2.1, r.2.2] = (s, t) ∧ n ≠ 0 := by
  unfold pageO pageL at h
  split at h
  · rename_i n' a b c s t e
    split at h
    · rename_i hc
      cases h
      exact ⟨s, t, e, hc.2, hc.1⟩
    · cases h
  · cases h
def bnd (cs : List (Option Int)) : Prop := ∀ n, some n ∈ cs → 0 ≤ n ∧ n ≤ 9972
theorem mem_row {cs : List (Option Int)} {j : Nat} {x : Option Int} (h : x ∈ (cs.drop j).take 6) : x ∈ cs := List.mem_of_mem_drop (List.mem_of_mem_take h)
theorem page_nn {cs : List (Option Int)} {j : Nat} {n : Int} {r : Rec} (hb : bnd cs) (h : pageO cs j = some (n, r)) : 0 ≤ n := by
  obtain ⟨s, t, e, _, _⟩ := page_inv h
  exact (hb n (mem_row (j := j) (by rw [e]; simp))).1
theorem bnd_set {cs : List (Option Int)} (h : bnd cs) {i : Nat} {w : Option Int} (hw : ∀ n, w = some n → 0 ≤ n ∧ n ≤ 9972) : bnd (cs.set i w) := by
  intro n hn
  rcases List.mem_or_eq_of_mem_set hn with z | z
  · exact h n z
  · exact hw n z.symm
theorem noteW_ok {cs : List (Option Int)} {i : Nat} {r : Rec} (h : 1 ≤ (nextO cs i).2 ∧ (nextO cs i).2 ≤ 9970) (hr : okRec r) : ∀ p ∈ noteW cs i r, 0 ≤ p.2 ∧ p.2 ≤ 9972 := by
  have hro := rowF_ok (n := (nextO cs i).2) (by omega) (by omega) hr
  intro p hp
  simp only [noteW, List.mem_cons, List.not_mem_nil, or_false] at hp
  rcases hp with rfl | rfl | rfl | rfl | rfl | rfl | rfl
  · exact ⟨Int.le_refl _, by show (0 : Int) ≤ 9972; decide⟩
  · exact hro _ (by simp [rowF])
  · exact hro _ (by simp [rowF])
  · exact hro _ (by simp [rowF])
  · exact hro _ (by simp [rowF])
  · exact hro _ (by simp [rowF])
  · dsimp only; omega
theorem recD_dep (r : Rec) : (recD r).depth ≤ 4 := by simp [recD, PyData.depth, PyData.depthAll]
theorem recD_ok (r : Rec) : okD (recD r) = true := by simp [recD, okD, okD.okDL]
theorem memof_run (cs : List (Option Int)) (ws : List Wr) : (Mem.run ws (Mem.of cs)).2 = true ∧ (Mem.run ws (Mem.of cs)).1.cells = applyW ws cs ∧ (Mem.run ws (Mem.of cs)).1.many = ws.length ∧ (Mem.run ws (Mem.of cs)).1.up = true := by
  have h := run_free (ws := ws) (μ := Mem.of cs) rfl
  refine ⟨h, ?_⟩
  rw [run_whole h]
  exact ⟨rfl, by show (0 : Int) + ws.length = ws.length; omega, rfl⟩
theorem bnd_applyW : ∀ {ws : List Wr} {cs : List (Option Int)}, bnd cs → (∀ p ∈ ws, 0 ≤ p.2 ∧ p.2 ≤ 9972) → bnd (applyW ws cs)
  | [], _, h, _ => h
  | w :: r, cs, h, hw => bnd_applyW (ws := r) (bnd_set h (i := w.1) (w := some w.2) fun n e => by cases e; exact hw w (List.mem_cons_self ..)) fun p hp => hw p (List.mem_cons_of_mem _ hp)
theorem bnd_tornW {t : Str} {cs : List (Option Int)} {p : Wr} (h : bnd cs) (hp : 0 ≤ p.2 ∧ p.2 ≤ 9972) : bnd (tornW t cs p) := by
  unfold tornW; split
  · exact bnd_set h fun n e => nomatch e
  · split
    · exact bnd_set h fun n e => by cases e; exact hp
    · exact h
/-- the cells that are due behind writes with a cut at n -/
def dueF (t : Str) (n : Nat) (ws : List Wr) (cs : List (Option Int)) : List (Option Int) := if n < ws.length then tornW t (applyW (ws.take n) cs) (ws.getD n (0, 0)) else applyW ws cs
theorem run_due {ws : List Wr} {μ : Mem} {n : Nat} (h : μ.left = some (n : Int)) : (Mem.run ws μ).1.cells = dueF μ.torn n ws μ.cells ∧ (Mem.run ws μ).2 = decide (ws.length ≤ n) := by
  have h2 := run_left (ws := ws) h
  refine ⟨?_, h2⟩
  unfold dueF
  by_cases hn : n < ws.length
  · rw [if_pos hn]
    rw [decide_eq_false (by omega)] at h2
    obtain ⟨k, p, e1, e2, e3, _⟩ := run_torn (fun m e => by rw [h] at e; cases e; omega) h2
    rw [h] at e2
    have : k = n := by simp only [Option.some.injEq] at e2; omega
    subst this
    rw [e3, List.getD_eq_getElem?_getD, e1]; rfl
  · rw [if_neg hn]
    rw [decide_eq_true (by omega)] at h2
    exact run_cells h2
theorem bnd_dueF {t : Str} {n : Nat} {ws : List Wr} {cs : List (Option Int)} (h : bnd cs) (hw : ∀ p ∈ ws, 0 ≤ p.2 ∧ p.2 ≤ 9972) : bnd (dueF t n ws cs) := by
  unfold dueF
  split
  · rename_i hn
    refine bnd_tornW (bnd_applyW h fun p hp => hw p (List.mem_of_mem_take hp)) (hw _ ?_)
    rw [List.getD_eq_getElem?_getD, List.getElem?_eq_getElem hn]; exact List.getElem_mem hn
  · exact bnd_applyW h hw
theorem dueF_len (t : Str) (n : Nat) (ws : List Wr) (cs : List (Option Int)) : (dueF t n ws cs).length = cs.length := by
  unfold dueF
  split
  · rw [tornW_len, applyW_len]
  · exact applyW_len _ _
/-- a noting with a cut: the elder record, or the new one -/
theorem note_due {cs : List (Option Int)} {i n : Nat} {r : Rec} {t : Str} (h : i + 12 ≤ cs.length) (hn : (nextO cs i).2 ≠ 0) :
    (newestO (dueF t n (noteW cs i r) cs) i = newestO cs i ∧ n < 7) ∨ newestO (dueF t n (noteW cs i r) cs) i = some ((nextO cs i).1, (nextO cs i).2, r) := by
  have h7 : (noteW cs i r).length = 7 := rfl
  unfold dueF
  by_cases hl : n < (noteW cs i r).length
  · rw [if_pos hl]
    have hp : (noteW cs i r)[n]? = some ((noteW cs i r).getD n (0, 0)) := by rw [List.getD_eq_getElem?_getD, List.getElem?_eq_getElem hl]; rfl
    rcases note_torn (t := t) h hn hp with e | ⟨e, _⟩
    · exact .inl ⟨e, by omega⟩
    · exact .inr e
  · rw [if_neg hl]; exact .inr (note_whole h hn)
/-! ## slots, floors, what lies in a slot -/
theorem b_lst {X : Cx} {K : PySem.W.Frag} {pos : Pos} {es : List Expr} {k : Nat} {t : TGs} {n : Nat} (hc : X.calm = true) (h : PGs X es t) (hn : (assignEach es X.env).length = n := by rfl) (hst : (assignEach es X.env).findIdx? (·.1) = none := by rfl) (e : X.K = K := by rfl) : PG X (.Tuple es k pos) (gLst K n t) := by subst e; exact pg_lst hc h hn hst
theorem x_glst {K : PySem.W.Frag} {σ : L2.St} {H : Hp} {a : Addr} {xs : List V} {n : Nat} {gs : TGs} {Q : L2.St → Hp → Prop} (h : SqL K H a xs) (e : xs.length = n) (q : gs xs σ H Q) : gLst K n gs (.ref a) σ H Q := ⟨a, xs, rfl, h, e, q⟩
def slotB (s : Int) : Int := if s = 0 then 16 else 35
theorem slot_at {s : Int} (h : s = 0 ∨ s = 1) : atI ([.int 16, .int 35] : List V) s = some (.int (slotB s)) := by
  rcases h with rfl | rfl <;> rfl
theorem slotB_b {s : Int} (h : s = 0 ∨ s = 1) : 16 ≤ slotB s ∧ slotB s ≤ 35 ∧ (slotB s = 16 ∨ slotB s = 35) := by
  rcases h with rfl | rfl <;> decide
def headL (cs : List (Option Int)) (s : Int) : List (Option Int) := (cs.drop (slotB s).toNat).take 7
def partsL (cs : List (Option Int)) (s many : Int) : List (Option Int) := (cs.drop (slotB s + 7).toNat).take many.toNat
def floorO (cs : List (Option Int)) (i : Nat) : Int := (countF (cs.getD i none) (cs.getD (i + 1) none)).getD 0
def whyH (cs : List (Option Int)) (ks : List Int) (s mk v many one two n sl : Int) : Str :=
  if mk ≠ 1 then "none" else if ¬ (1 ≤ many ∧ many ≤ 12) then "length" else if (allI (partsL cs s many)).map sumsF ≠ some (one, two) then "sum" else if ¬ (floorO cs 2 ≤ n ∧ n < ks.length) then "key"
  else if sealF (ks.getD n.toNat 0) [v, many, one, two, n] ≠ sl then "seal" else if v < floorO cs 0 then "old" else ""
def whyF (cs : List (Option Int)) (ks : List Int) (s : Int) : Str := match headL cs s with
  | [some mk, some v, some many, some one, some two, some n, some sl] => whyH cs ks s mk v many one two n sl
  | _ => "none"
def judgedD (cs : List (Option Int)) (ks : List Int) (s : Int) : PyData := if whyF cs ks s = "" then .tuple [.str "good", od (cs.getD (slotB s + 1).toNat none)] else .tuple [.str (whyF cs ks s)]
theorem cut7_1 (x0 x1 x2 x3 x4 x5 x6 : V) : cutV [x0, x1, x2, x3, x4, x5, x6] (some 1) none = [x1, x2, x3, x4, x5, x6] := rfl
theorem cut7_16 (x0 x1 x2 x3 x4 x5 x6 : V) : cutV [x0, x1, x2, x3, x4, x5, x6] (some 1) (some 6) = [x1, x2, x3, x4, x5] := rfl
theorem row7 {xs : List (Option Int)} (h : xs.length = 7) (hn : none ∉ xs) : ∃ a b c d e f g, xs = [some a, some b, some c, some d, some e, some f, some g] := by
  match xs, h with
  | [x0, x1, x2, x3, x4, x5, x6], _ =>
    simp only [List.mem_cons, List.not_mem_nil, or_false, not_or] at hn
    obtain ⟨h0, h1, h2, h3, h4, h5, h6⟩ := hn
    cases x0 <;> cases x1 <;> cases x2 <;> cases x3 <;> cases x4 <;> cases x5 <;> cases x6 <;> simp_all
theorem headL_len {cs : List (Option Int)} {s : Int} (h : cs.length = 54) (hs : s = 0 ∨ s = 1) : (headL cs s).length = 7 := by
  have := slotB_b hs
  unfold headL
  rw [List.length_take, List.length_drop]; omega
theorem why_none {cs : List (Option Int)} {ks : List Int} {s : Int} (h : none ∈ headL cs s) : whyF cs ks s = "none" := by
  unfold whyF
  split
  · rename_i e; rw [e] at h; simp at h
  · rfl
theorem why_some {cs : List (Option Int)} {ks : List Int} {s a b c d e f g : Int} (h : headL cs s = [some a, some b, some c, some d, some e, some f, some g]) : whyF cs ks s = whyH cs ks s a b c d e f g := by
  unfold whyF; rw [h]
theorem floorO_b {cs : List (Option Int)} (h : bnd cs) (i : Nat) : 0 ≤ floorO cs i ∧ floorO cs i ≤ 9972 := by
  refine count_b (fun n e => ?_) (fun n e => ?_)
  · rw [List.getD_eq_getElem?_getD] at e
    cases z : cs[i]? with
    | none => rw [z] at e; cases e
    | some x => rw [z] at e; exact h n (by rw [Option.getD_some] at e; rw [← e]; exact List.mem_of_getElem? z)
  · rw [List.getD_eq_getElem?_getD] at e
    cases z : cs[i + 1]? with
    | none => rw [z] at e; cases e
    | some x => rw [z] at e; exact h n (by rw [Option.getD_some] at e; rw [← e]; exact List.mem_of_getElem? z)
section
variable (C : Addr) (K : PySem.W.Frag)
def spHead : Sp := fun vs H Q _ => ∃ (m dx l : Addr) (μ : Mem) (s : Int), vs = [.ref m, .int s] ∧ MemAt C H m dx l μ ∧ μ.up = true ∧ μ.cells.length = 54 ∧ (s = 0 ∨ s = 1) ∧
  ∀ p H', Fr [] H H' → H p = none → H' p = some (.lst ((headL μ.cells s).map ov)) → Q (.ref p) H'
def spParts : Sp := fun vs H Q _ => ∃ (m dx l : Addr) (μ : Mem) (s n : Int), vs = [.ref m, .int s, .int n] ∧ MemAt C H m dx l μ ∧ μ.up = true ∧ μ.cells.length = 54 ∧ (s = 0 ∨ s = 1) ∧ 0 ≤ n ∧ n ≤ 12 ∧
  ∀ p H', Fr [] H H' → H p = none → H' p = some (.lst ((partsL μ.cells s n).map ov)) → Q (.ref p) H'
def spFloor : Sp := fun vs H Q _ => ∃ (m dx l : Addr) (μ : Mem) (i : Int), vs = [.ref m, .int i] ∧ MemAt C H m dx l μ ∧ μ.up = true ∧ μ.cells.length = 54 ∧ 0 ≤ i ∧ i ≤ 50 ∧ ∀ H', Fr [] H H' → Q (.int (floorO μ.cells i.toNat)) H'
def spWhy : Sp := fun vs H Q _ => ∃ (M : List Addr) (m dx l : Addr) (μ : Mem) (ks : List Int) (v : V) (s : Int), vs = [.ref m, v, .int s] ∧ (∀ a ∈ M, ∃ o, H a = some o) ∧ MemAt C H m dx l μ ∧ μ.up = true ∧ μ.cells.length = 54 ∧ bnd μ.cells ∧ Dt K M H (keysD ks) v ∧ gk ks ∧ (s = 0 ∨ s = 1) ∧
  ∀ H', Fr [] H H' → Q (.str (whyF μ.cells ks s)) H'
def spJudged : Sp := fun vs H Q _ => ∃ (M : List Addr) (m dx l : Addr) (μ : Mem) (ks : List Int) (v : V) (s : Int), vs = [.ref m, v, .int s] ∧ (∀ a ∈ M, ∃ o, H a = some o) ∧ MemAt C H m dx l μ ∧ μ.up = true ∧ μ.cells.length = 54 ∧ bnd μ.cells ∧ Dt K M H (keysD ks) v ∧ gk ks ∧ (s = 0 ∨ s = 1) ∧
  ∀ u H', Fr [] H H' → Dt K M H' (judgedD μ.cells ks s) u → Q u H'
/-- the law's own, of a list of cells -/
def spLWhy : Sp := fun vs H Q _ => ∃ (M : List Addr) (p : Addr) (cs : List (Option Int)) (ks : List Int) (v : V) (s : Int), vs = [.ref p, v, .int s] ∧ (∀ a ∈ M, ∃ o, H a = some o) ∧ SqL K H p (cs.map ov) ∧ cs.length = 54 ∧ bnd cs ∧ Dt K M H (keysD ks) v ∧ gk ks ∧ (s = 0 ∨ s = 1) ∧
  ∀ H', Fr [] H H' → Q (.str (whyF cs ks s)) H'
def spLJudged : Sp := fun vs H Q _ => ∃ (M : List Addr) (p : Addr) (cs : List (Option Int)) (ks : List Int) (v : V) (s : Int), vs = [.ref p, v, .int s] ∧ (∀ a ∈ M, ∃ o, H a = some o) ∧ SqL K H p (cs.map ov) ∧ cs.length = 54 ∧ bnd cs ∧ Dt K M H (keysD ks) v ∧ gk ks ∧ (s = 0 ∨ s = 1) ∧
  ∀ u H', Fr [] H H' → Dt K M H' (judgedD cs ks s) u → Q u H'
end
theorem key_at {ks : List Int} (h : gk ks) {n : Int} (h0 : 0 ≤ n) (h1 : n < ks.length) : atI (ks.map PyData.int) n = some (.int (ks.getD n.toNat 0)) ∧ 1 ≤ ks.getD n.toNat 0 ∧ ks.getD n.toNat 0 ≤ 9972 := by
  have hlt : n.toNat < ks.length := by omega
  have e : ks.getD n.toNat 0 = ks[n.toNat] := by rw [List.getD_eq_getElem?_getD, List.getElem?_eq_getElem hlt]; rfl
  refine ⟨atI_int h0 (by rw [List.getElem?_map, List.getElem?_eq_getElem hlt, e]; rfl), ?_⟩
  rw [e]
  exact h.2.2 _ (List.getElem_mem hlt)
theorem atO {cs : List (Option Int)} {i : Int} (h0 : 0 ≤ i) (h1 : i < cs.length) : atI (cs.map ov) i = some (ov (cs.getD i.toNat none)) := by
  have hl : i.toNat < cs.length := by omega
  refine atI_int h0 ?_
  rw [List.getElem?_map, List.getElem?_eq_getElem hl, List.getD_eq_getElem?_getD, List.getElem?_eq_getElem hl]; rfl
theorem head_get {cs : List (Option Int)} {s : Int} (hs : s = 0 ∨ s = 1) (j : Nat) (hj : j < 7) : cs.getD (slotB s + j).toNat none = (headL cs s).getD j none := by
  have := slotB_b hs
  unfold headL
  rw [List.getD_eq_getElem?_getD, List.getD_eq_getElem?_getD, List.getElem?_take_of_lt hj, List.getElem?_drop, show (slotB s + (j : Int)).toNat = (slotB s).toNat + j by omega]
theorem head_cut {cs : List (Option Int)} {s : Int} (hs : s = 0 ∨ s = 1) (hl : cs.length = 54) : cutV (cs.map ov) (some (slotB s)) (some (slotB s + 7)) = (headL cs s).map ov := by
  have := slotB_b hs
  rw [cut_in ov cs (by omega) (by omega) (by omega), show (slotB s + 7 - slotB s).toNat = 7 by omega]; rfl
theorem head_cut1 {cs : List (Option Int)} {s : Int} (hs : s = 0 ∨ s = 1) (hl : cs.length = 54) : cutV (cs.map ov) (some (slotB s + 1)) (some (slotB s + 7)) = ((headL cs s).drop 1).map ov := by
  have := slotB_b hs
  rw [cut_in ov cs (by omega) (by omega) (by omega), show (slotB s + 7 - (slotB s + 1)).toNat = 6 by omega]
  unfold headL
  rw [List.drop_take, List.drop_drop, show (slotB s + 1).toNat = (slotB s).toNat + 1 by omega]
theorem head_cut16 {cs : List (Option Int)} {s : Int} (hs : s = 0 ∨ s = 1) (hl : cs.length = 54) : cutV (cs.map ov) (some (slotB s + 1)) (some (slotB s + 6)) = (((headL cs s).drop 1).take 5).map ov := by
  have := slotB_b hs
  rw [cut_in ov cs (by omega) (by omega) (by omega), show (slotB s + 6 - (slotB s + 1)).toNat = 5 by omega]
  unfold headL
  rw [List.drop_take, List.take_take, List.drop_drop, show (slotB s + 1).toNat = (slotB s).toNat + 1 by omega]; rfl
theorem parts_cut {cs : List (Option Int)} {s n : Int} (hs : s = 0 ∨ s = 1) (hl : cs.length = 54) (n0 : 0 ≤ n) (n1 : n ≤ 12) : cutV (cs.map ov) (some (slotB s + 7)) (some (slotB s + 7 + n)) = (partsL cs s n).map ov := by
  have := slotB_b hs
  rw [cut_in ov cs (by omega) (by omega) (by omega), show (slotB s + 7 + n - (slotB s + 7)).toNat = n.toNat by omega]; rfl
theorem n_orC {K : PySem.W.Frag} {σ : L2.St} {H : Hp} {Q : VK} {c : Option Int} (q : Q (.int (c.getD 0)) H) : ∃ b, TruV K (ov c) H b ∧ if b = true then Q (ov c) H else tC (.int 0) σ H Q := by
  cases c with
  | none => exact ⟨false, rfl, q⟩
  | some n =>
    by_cases hn : n = 0
    · subst hn; exact ⟨false, by simp [TruV, ov], q⟩
    · exact ⟨true, by simp [TruV, ov, hn], q⟩

theorem n_orU {K : PySem.W.Frag} {ta tb : TE} {σ : L2.St} {H : Hp} {Q : VK} (q : ta σ H fun x H1 => ∃ k, TruV K x H1 k ∧ if k = true then Q x H1 else tb σ H1 Q) : tOrT K ta tb σ H Q := q

/-- d.update(e): two dicts with ints and texts as keys -/
def rDUpd : V → List V → Hp → VK → Prop := fun x xs H Q => ∃ (a b : Addr) (kvs more : List (Key × V)), x = V.ref a ∧ xs = [V.ref b] ∧ a ≠ b ∧ H a = some (.dK kvs) ∧ H b = some (.dK more) ∧ kvs.length + more.length ≤ sizeLine ∧
  Q .non (upd H a (.dK (mergeK kvs more)))
theorem mt_dupd {X : Cx} : MtR X "dict.update" rDUpd := by
  intro pins s σ H x xs v us Q I rx rxs h
  obtain ⟨a, b, kvs, more, rfl, rfl, hab, ha, hb, hz, q⟩ := h
  cases rx
  cases rxs with
  | cons ry rt =>
    cases rt
    cases ry
    obtain ⟨_, hd, vs, rel, dd⟩ := dk_of I.hok ha
    obtain ⟨_, hd2, ws, rel2, dd2⟩ := dk_of I.hok hb
    refine call_meetsIn PySem.F.slot_dict_update dd.typeIs PySem.F.entry_dict_update (PySem.F.args_dict_update_2 _ _) (meets_dict_update (mixKind X.prog X.w) a b hab hd2) ⟨vs, ws, dd, dd2, by rw [← rel.length, ← rel2.length]; exact hz, fun h' dd' _ hs => ⟨.non, upd H a (.dK (mergeK kvs more)), ?_, rfl, q⟩⟩
    have he : ∃ q, h'.get? a = some q := let ⟨q, _, _, hq, _⟩ := dd'; ⟨q, hq⟩
    exact d_write (t' := s.toks) I (by rw [ha]; exact True.intro) hs he (dk_new (Nat.le_trans (length_mergeK more kvs) hz) hd (rel2.merge rel) dd')

/-- a dict with texts as keys -/
def kvT (kvs : List (Str × V)) : List (Key × V) := kvs.map fun p => (.inr p.1, p.2)
theorem valT_none {k : Str} : ∀ {kvs : List (Str × V)}, k ∉ kvs.map (·.1) → valV (kvT kvs) (.inr k) = none
  | [], _ => rfl
  | p :: r, h => by
    simp only [List.map_cons, List.mem_cons, not_or] at h
    show valV ((.inr p.1, p.2) :: kvT r) _ = _
    rw [valV_neg (by intro e; exact h.1 (Sum.inr.inj e).symm)]
    exact valT_none h.2
theorem valT_at {k : Str} {v : V} : ∀ {kvs : List (Str × V)} {i : Nat}, (kvs.map (·.1)).Nodup → kvs[i]? = some (k, v) → valV (kvT kvs) (.inr k) = some v
  | [], _, _, h => by cases h
  | p :: r, 0, nd, h => by
    cases h
    exact valV_pos rfl
  | p :: r, i + 1, nd, h => by
    simp only [List.map_cons, List.nodup_cons] at nd
    show valV ((.inr p.1, p.2) :: kvT r) _ = _
    have h' : r[i]? = some (k, v) := h
    rw [valV_neg (by
      intro e
      have e := Sum.inr.inj e
      refine nd.1 (e ▸ ?_)
      exact List.mem_map_of_mem (f := (·.1)) (List.mem_of_getElem? h'))]
    exact valT_at nd.2 h'
theorem mergeT : ∀ {b a : List (Str × V)}, ((a ++ b).map (·.1)).Nodup → mergeK (kvT a) (kvT b) = kvT (a ++ b)
  | [], a, _ => by rw [List.append_nil]; rfl
  | p :: r, a, nd => by
    have hn : p.1 ∉ a.map (·.1) := by
      rw [List.map_append, List.nodup_append] at nd
      intro h
      exact nd.2.2 _ h _ (by simp) rfl
    show mergeK (putK (kvT a) (.inr p.1) p.2) (kvT r) = _
    rw [putK_new _ (valT_none hn)]
    have e : kvT a ++ [(.inr p.1, p.2)] = kvT (a ++ [p]) := by simp [kvT]
    rw [e, mergeT (by rw [List.append_assoc]; exact nd), List.append_assoc]
    rfl
def DispN (p : Addr) (ps : List (V × V)) (H2 : Hp) (Q : VK) : Prop := H2 p = some (.dK []) ∧ ∃ kvs : List (Key × V), ps = kvs.map (fun kv => (kV kv.1, kv.2)) ∧ kvs.length ≤ 15 ∧ Q (.ref p) (upd H2 p (.dK (mergeK [] kvs)))
theorem x_dispN {trs : List (TE × TE)} {σ : L2.St} {H : Hp} {Q : VK} (q : ∀ p, H p = none → tPairs trs σ (upd H p (.dK [])) fun ps H2 => DispN p ps H2 Q) : tDisp trs σ H Q := q
theorem x_pair {tk tv : TE} {r : List (TE × TE)} {σ : L2.St} {H : Hp} {Q : List (V × V) → Hp → Prop} (q : tk σ H fun x H1 => tv σ H1 fun y H2 => tPairs r σ H2 fun ps H3 => Q ((x, y) :: ps) H3) : tPairs ((tk, tv) :: r) σ H Q := q
theorem x_pair0 {σ : L2.St} {H : Hp} {Q : List (V × V) → Hp → Prop} (q : Q [] H) : tPairs [] σ H Q := q
theorem n_dispN {p : Addr} {H : Hp} {Q : VK} (kvs : List (Str × V)) (ks : List Str) (h : H p = some (.dK [])) (l : kvs.length ≤ 15) (e : kvs.map (·.1) = ks) (nd : ks.Nodup) (q : Q (.ref p) (upd H p (.dK (kvT kvs)))) : DispN p (kvs.map fun x => (V.str x.1, x.2)) H Q := by
  refine ⟨h, kvT kvs, by simp [kvT, kV], by simpa [kvT] using l, ?_⟩
  have := mergeT (a := []) (b := kvs) (by rw [List.nil_append, e]; exact nd)
  rw [show ([] : List (Key × V)) = kvT [] from rfl, this]
  exact q
theorem n_dupT {a b : Addr} {H : Hp} {Q : VK} {ka kb : List (Str × V)} (ks : List Str) (ha : H a = some (.dK (kvT ka))) (hb : H b = some (.dK (kvT kb))) (hab : a ≠ b) (e : (ka ++ kb).map (·.1) = ks) (nd : ks.Nodup) (l : ka.length + kb.length ≤ 30) (q : Q .non (upd H a (.dK (kvT (ka ++ kb))))) : rDUpd (.ref a) [.ref b] H Q :=
  ⟨a, b, kvT ka, kvT kb, rfl, rfl, hab, ha, hb, by rw [sizeLine_eq]; simp [kvT]; omega, by rw [mergeT (by rw [e]; exact nd)]; exact q⟩
def DgT (x y : V) (H : Hp) (Q : VK) : Prop := ∃ a v, x = .ref a ∧ DGet H a y (some v) ∧ Q v H
theorem x_dgT {td ty : TE} {σ : L2.St} {H : Hp} {Q : VK} (q : td σ H fun x H1 => ty σ H1 fun y H2 => DgT x y H2 Q) : tDGet td ty σ H Q := q
theorem n_dgT {a : Addr} {H : Hp} {Q : VK} {kvs : List (Str × V)} {k : Str} {v : V} (i : Nat) (ks : List Str) (h : H a = some (.dK (kvT kvs))) (hi : kvs[i]? = some (k, v)) (e : kvs.map (·.1) = ks) (nd : ks.Nodup) (q : Q v H) : DgT (.ref a) (.str k) H Q :=
  ⟨a, v, rfl, by have := DGet.k (k := .inr k) h; rw [valT_at (by rw [e]; exact nd) hi] at this; exact this, q⟩

abbrev spLHead (K : PySem.W.Frag) : Sp := spD (fun (x : List Int × Pic) => [keysD x.1, picD x.2]) (fun x => gk x.1 ∧ gp x.1 x.2) (fun x => .tuple ((headF x.1 x.2).map .int)) K
/-- a slot's row: the mark, the head, the cells -/
def slotRow (ks : List Int) (p : Pic) : List Int := 1 :: (headF ks p ++ p.cells)
def layB (row : List Int) (j : Nat) (cs : List (Option Int)) : List (Option Int) := applyW ((List.range j).flatMap fun k => [(16 + k, row.getD k 0), (35 + k, row.getD k 0)]) cs
def layW (b : Nat) (row : List Int) (j : Nat) (cs : List (Option Int)) : List (Option Int) := applyW ((List.range j).map fun k => (b + k, row.getD k 0)) cs
def machB (p : Pic) : List (Option Int) := ((List.replicate 54 (some 0)).set 0 (some p.v)).set 2 (some p.n)
def machN (p : Pic) : List (Option Int) := applyW (noteW (machB p) 4 (0, 0, 0)) (machB p)
def machC (ks : List Int) (p : Pic) : List (Option Int) := layB (slotRow ks p) (slotRow ks p).length (machN p)
def machKV (c : Addr) (v : V) (t : Int) : List (Str × V) := [("cells", .ref c), ("keys", v), ("tries", .int t), ("runs", .non), ("left", .non), ("torn", .str "old"), ("many", .int 0)]
def spLMachine (K : PySem.W.Frag) : Sp := fun vs H Q _ => ∃ (M : List Addr) (ks : List Int) (pic : Pic) (t : Int) (v u : V), vs = [v, .int t, u] ∧ (∀ a ∈ M, ∃ o, H a = some o) ∧ Dt K M H (keysD ks) v ∧ Dt K M H (picD pic) u ∧ gk ks ∧ gp ks pic ∧
  ∀ d c H', Fr [] H H' → H d = none → H c = none → d ≠ c → H' d = some (.dK (kvT (machKV c v t))) → H' c = some (.lst ((machC ks pic).map ov)) → Q (.ref d) H'
abbrev spLNewer (K : PySem.W.Frag) : Sp := spDrawD (fun (x : List Int × Pic × Int) => [keysD x.1, picD x.2.1, .int x.2.2]) (fun x => gk x.1 ∧ gp x.1 x.2.1 ∧ -1000 ≤ x.2.2 ∧ x.2.2 ≤ 1000) (fun x d => ∃ pic, d = picD pic ∧ gp x.1 pic) K
def spLMemory (C : Addr) (K : PySem.W.Frag) : Sp := fun vs H Q _ => ∃ (p : Addr) (cs : List (Option Int)), vs = [.ref p] ∧ SqL K H p (cs.map ov) ∧ 1 ≤ cs.length ∧ cs.length ≤ 400 ∧ bnd cs ∧
  ∀ m dx l H', Fr [] H H' → H m = none → H l = none → MemAt C H' m dx l (Mem.of cs) → Q (.ref m) H'
theorem layB_zero (row : List Int) (cs : List (Option Int)) : layB row 0 cs = cs := rfl
theorem layB_more (row : List Int) (j : Nat) (cs : List (Option Int)) : layB row (j + 1) cs = ((layB row j cs).set (16 + j) (some (row.getD j 0))).set (35 + j) (some (row.getD j 0)) := by
  unfold layB
  rw [List.range_succ, List.flatMap_append, applyW_app]
  rfl
theorem layW_zero (b : Nat) (row : List Int) (cs : List (Option Int)) : layW b row 0 cs = cs := rfl
theorem layW_more (b : Nat) (row : List Int) (j : Nat) (cs : List (Option Int)) : layW b row (j + 1) cs = (layW b row j cs).set (b + j) (some (row.getD j 0)) := by
  unfold layW
  rw [List.range_succ, List.map_append, applyW_app]
  rfl
theorem layB_len (row : List Int) (j : Nat) (cs : List (Option Int)) : (layB row j cs).length = cs.length := applyW_len _ _
theorem layW_len (b : Nat) (row : List Int) (j : Nat) (cs : List (Option Int)) : (layW b row j cs).length = cs.length := applyW_len _ _
theorem machB_len (p : Pic) : (machB p).length = 54 := by simp [machB]
theorem machN_len (p : Pic) : (machN p).length = 54 := by unfold machN; rw [applyW_len, machB_len]
theorem machC_len (ks : List Int) (p : Pic) : (machC ks p).length = 54 := by unfold machC; rw [layB_len, machN_len]

theorem bnd_machB {p : Pic} (p1 : 1 ≤ p.v) (p2 : p.v ≤ 999) (p3 : 0 ≤ p.n) (p4 : p.n ≤ 9972) : bnd (machB p) := by
  unfold machB
  refine bnd_set (bnd_set (fun n hn => ?_) fun n e => ?_) fun n e => ?_
  · cases List.eq_of_mem_replicate hn
    omega
  · cases e; omega
  · cases e; omega

theorem ty_dict {K : PySem.W.Frag} {p : Addr} {H : Hp} {kvs : List (Key × V)} (h : H p = some (.dK kvs)) : tyV K "dict" (.ref p) H := .inr (.inr (.inl ⟨rfl, .inl ⟨_, h⟩⟩))

theorem take_fill {α : Type} {cs : List α} {d : α} {j : Nat} (hj : j < cs.length) : (cs.take j ++ List.replicate (cs.length - j) d).set j cs[j] = cs.take (j + 1) ++ List.replicate (cs.length - (j + 1)) d := by
  have hl : (cs.take j).length = j := by rw [List.length_take]; omega
  rw [List.set_append_right _ _ (by omega), hl, Nat.sub_self, show cs.length - j = (cs.length - (j + 1)) + 1 by omega, List.replicate_succ, List.set_cons_zero, List.take_succ_eq_append_getElem hj, List.append_assoc]
  rfl

theorem cut_to {α : Type} (f : α → V) (xs : List α) {b : Int} (h : 0 ≤ b) : cutV (xs.map f) none (some b) = (xs.take b.toNat).map f := by
  unfold cutV
  rw [List.length_map, ← List.map_drop, ← List.map_take, HT.sIx_none, Nat.sub_zero, List.drop_zero]
  congr 1
  have e2 : HT.sIx xs.length xs.length (some b) = min b.toNat xs.length := by simp only [HT.sIx]; rw [if_neg (by omega)]
  rw [e2]
  by_cases g : b.toNat ≤ xs.length
  · rw [Nat.min_eq_left g]
  · rw [List.take_of_length_le (by omega), List.take_of_length_le (by omega)]
theorem cut_from {α : Type} (f : α → V) (xs : List α) {b : Int} (h : 0 ≤ b) : cutV (xs.map f) (some b) none = (xs.drop b.toNat).map f := by
  unfold cutV
  rw [List.length_map, ← List.map_drop, ← List.map_take, HT.sIx_none]
  congr 1
  have e2 : HT.sIx xs.length 0 (some b) = min b.toNat xs.length := by simp only [HT.sIx]; rw [if_neg (by omega)]
  rw [e2]
  by_cases g : b.toNat ≤ xs.length
  · rw [Nat.min_eq_left g, List.take_of_length_le (by rw [List.length_drop]; omega)]
  · rw [List.drop_of_length_le (by omega), List.drop_of_length_le (by omega), List.take_nil]

theorem Sy.drawnNM {K : PySem.W.Frag} {H0 : Bs} {M : List Addr} {H H' : Hp} {r a p : Addr} {q : Rho} {o : HO} {L : List (Addr × HO)} {Ds : List (PyData × V)} (S : Sy K H0 M H ((r, rowO a q) :: L) Ds) (hM : r ∈ M ∧ H0.may r) (f : Fr [r] H H') {q' : Rho} (e : H' r = some (rowO a q')) (h : H p = none) (e2 : H' p = some o) :
    Sy K H0 (p :: M) H' ((r, rowO a q') :: (L ++ [(p, o)])) Ds :=
  (S.newM (o := o) h).put 0 rfl ⟨List.mem_cons_of_mem _ hM.1, hM.2⟩ (fun b u n z => by
    by_cases hb : b = p
    · subst hb; rw [upd_same] at z; rw [e2]; exact z
    · rw [upd_ne hb] at z; exact f b u n z) e
/-- the pages' numbers of the book at 4 are at most so much -/
def pgn (j : Int) (cs : List (Option Int)) : Prop := (∀ n, cs.getD 4 none = some n → n ≤ j) ∧ (∀ n, cs.getD 10 none = some n → n ≤ j)
theorem getD_setN {cs : List (Option Int)} {i k : Nat} {w : Option Int} (h : i ≠ k) : (cs.set i w).getD k none = cs.getD k none := by
  rw [List.getD_eq_getElem?_getD, List.getD_eq_getElem?_getD, List.getElem?_set_ne h]
theorem getD_setS {cs : List (Option Int)} {k : Nat} {w : Option Int} (h : k < cs.length) : (cs.set k w).getD k none = w := by
  rw [List.getD_eq_getElem?_getD, List.getElem?_set_self h]; rfl
theorem pgn_set {j : Int} {cs : List (Option Int)} (h : pgn j cs) {i : Nat} {w : Option Int} (h1 : i ≠ 4) (h2 : i ≠ 10) : pgn j (cs.set i w) := by
  unfold pgn
  rw [getD_setN h1, getD_setN h2]; exact h
theorem pgn_mono {j k : Int} {cs : List (Option Int)} (h : pgn j cs) (hk : j ≤ k) : pgn k cs := ⟨fun n e => Int.le_trans (h.1 n e) hk, fun n e => Int.le_trans (h.2 n e) hk⟩
theorem page_first {cs : List (Option Int)} {i : Nat} {n : Int} {r : Rec} (h : pageO cs i = some (n, r)) : cs.getD i none = some n := by
  obtain ⟨s, t, e, _, _⟩ := page_inv h
  have : ((cs.drop i).take 6)[0]? = some (some n) := by rw [e]; rfl
  rw [List.getElem?_take_of_lt (by decide), List.getElem?_drop, Nat.add_zero] at this
  rw [List.getD_eq_getElem?_getD, this]; rfl
theorem newest_pgn {j : Int} {cs : List (Option Int)} {p : Int × Int × Rec} (h : pgn j cs) (e : newestO cs 4 = some p) : p.2.1 ≤ j := by
  unfold newestO at e
  split at e
  · cases e
  · rename_i p1 h1 h2
    cases e
    exact h.1 _ (page_first (r := p1.2) h1)
  · rename_i q1 h1 h2
    cases e
    exact h.2 _ (page_first (r := q1.2) h2)
  · rename_i p1 q1 h1 h2
    split at e
    · cases e
      exact h.2 _ (page_first (r := q1.2) h2)
    · cases e
      exact h.1 _ (page_first (r := p1.2) h1)
theorem next_pgn {j : Int} {cs : List (Option Int)} (h : pgn j cs) (hj : 0 ≤ j) : (nextO cs 4).2 ≤ j + 1 := by
  rcases next_cases cs 4 with ⟨_, _, e⟩ | ⟨p, e, _, e2⟩
  · omega
  · have := newest_pgn h e; omega
theorem note_pgn {j : Int} {cs : List (Option Int)} {r : Rec} (h : pgn j cs) (hj : 0 ≤ j) (hl : cs.length = 54) : pgn (j + 1) (applyW (noteW cs 4 r) cs) := by
  have hn := next_pgn h hj
  rcases next_w cs 4 with e | e
  · simp only [noteW, applyW, List.foldl_cons, List.foldl_nil, e]
    constructor
    · intro n hh
      rw [show 4 + 6 * (0 : Int).toNat = 4 from rfl, getD_setS (by simp; omega)] at hh
      cases hh
      exact hn
    · intro n hh
      rw [show 4 + 6 * (0 : Int).toNat = 4 from rfl] at hh
      rw [getD_setN (by decide), getD_setN (by decide), getD_setN (by decide), getD_setN (by decide), getD_setN (by decide), getD_setN (by decide), getD_setN (by decide)] at hh
      have := h.2 n hh; omega
  · simp only [noteW, applyW, List.foldl_cons, List.foldl_nil, e]
    constructor
    · intro n hh
      rw [show 4 + 6 * (1 : Int).toNat = 10 from rfl] at hh
      rw [getD_setN (by decide), getD_setN (by decide), getD_setN (by decide), getD_setN (by decide), getD_setN (by decide), getD_setN (by decide), getD_setN (by decide)] at hh
      have := h.1 n hh; omega
    · intro n hh
      rw [show 4 + 6 * (1 : Int).toNat = 10 from rfl, getD_setS (by simp; omega)] at hh
      cases hh
      exact hn
theorem machB_pgn (p : Pic) : pgn 0 (machB p) := by
  constructor
  · intro n h
    unfold machB at h
    rw [getD_setN (by decide), getD_setN (by decide)] at h
    cases h; decide
  · intro n h
    unfold machB at h
    rw [getD_setN (by decide), getD_setN (by decide)] at h
    cases h; decide
theorem layB_pgn {j : Int} {row : List Int} {cs : List (Option Int)} (h : pgn j cs) : ∀ k, pgn j (layB row k cs)
  | 0 => h
  | k + 1 => by rw [layB_more]; exact pgn_set (pgn_set (layB_pgn h k) (by omega) (by omega)) (by omega) (by omega)
theorem layB_bnd {row : List Int} {cs : List (Option Int)} (h : bnd cs) (hr : ∀ n ∈ row, 0 ≤ n ∧ n ≤ 9972) : ∀ k, k ≤ row.length → bnd (layB row k cs)
  | 0, _ => h
  | k + 1, hk => by
    have hg : 0 ≤ row.getD k 0 ∧ row.getD k 0 ≤ 9972 := by
      rw [List.getD_eq_getElem?_getD, List.getElem?_eq_getElem (by omega)]
      exact hr _ (List.getElem_mem _)
    rw [layB_more]
    exact bnd_set (bnd_set (layB_bnd h hr k (by omega)) fun n e => by cases e; exact hg) fun n e => by cases e; exact hg

theorem newest_nn {cs : List (Option Int)} {p : Int × Int × Rec} (h : bnd cs) {i : Nat} (e : newestO cs i = some p) : 0 ≤ p.2.1 := by
  unfold newestO at e
  split at e
  · cases e
  · rename_i p1 h1 h2
    cases e
    exact page_nn (r := p1.2) h h1
  · rename_i q1 h1 h2
    cases e
    exact page_nn (r := q1.2) h h2
  · rename_i p1 q1 h1 h2
    split at e
    · cases e
      exact page_nn (r := q1.2) h h2
    · cases e
      exact page_nn (r := p1.2) h h1
theorem next_nn {cs : List (Option Int)} (h : bnd cs) (i : Nat) : 1 ≤ (nextO cs i).2 := by
  rcases next_cases cs i with ⟨_, _, e⟩ | ⟨p, e, _, e2⟩
  · omega
  · have := newest_nn h e; omega
theorem note_bnd {cs : List (Option Int)} {r : Rec} {j : Int} (h : bnd cs) (g : pgn j cs) (h0 : 0 ≤ j) (h1 : j ≤ 9000) (hr : okRec r) : bnd (applyW (noteW cs 4 r) cs) :=
  bnd_applyW h (noteW_ok ⟨next_nn h 4, by have := next_pgn g h0; omega⟩ hr)
theorem headF_b {ks : List Int} {p : Pic} (h : gk ks) (g : gp ks p) : ∀ n ∈ headF ks p, 0 ≤ n ∧ n ≤ 9972 := by
  have hk := keyOf_ok h g
  have hp := plainF_ok h.2.1 g
  intro n hn
  rcases List.mem_append.mp hn with z | z
  · have := hp n z; omega
  · rw [List.mem_singleton.mp z]
    have := sealF_lt (keyOf ks p) (plainF p) (by omega) (by omega)
    omega
theorem slotRow_b {ks : List Int} {p : Pic} (h : gk ks) (g : gp ks p) : ∀ n ∈ slotRow ks p, 0 ≤ n ∧ n ≤ 9972 := by
  intro n hn
  rcases List.mem_cons.mp hn with rfl | z
  · exact ⟨by decide, by decide⟩
  · rcases List.mem_append.mp z with z | z
    · exact headF_b h g n z
    · exact g.2.2.2.2.1 n z
theorem slotRow_len (ks : List Int) (p : Pic) : (slotRow ks p).length = 7 + p.cells.length := by simp [slotRow, headF, plainF]; omega
theorem machB_b {ks : List Int} {p : Pic} (h : gk ks) (g : gp ks p) : bnd (machB p) := by
  obtain ⟨p1, p2, p3, p4, p5, p6, p7⟩ := g
  exact bnd_machB p1 p2 p6 (by have := h.2.1; omega)
theorem machC_b {ks : List Int} {p : Pic} (h : gk ks) (g : gp ks p) : bnd (machC ks p) ∧ pgn 1 (machC ks p) := by
  have hb := machB_b h g
  have hn : bnd (machN p) := note_bnd hb (machB_pgn p) (Int.le_refl _) (by decide) ⟨by decide, by decide, by decide⟩
  have hg : pgn (0 + 1) (machN p) := note_pgn (machB_pgn p) (Int.le_refl _) (machB_len p)
  exact ⟨layB_bnd hn (slotRow_b h g) _ (Nat.le_refl _), layB_pgn hg _⟩
def spLState (K : PySem.W.Frag) : Sp := fun vs H Q _ => ∃ (M : List Addr) (r a : Addr) (q : Rho) (ns ks : List Int) (pic : Pic) (v u : V), vs = [.ref r, v, u] ∧ H r = some (rowO a q) ∧ q.ok ∧ SLA K M H a (ns.map V.int) ∧ ns.length ≤ 63 ∧ r ∈ M ∧ (∀ b ∈ M, ∃ o, H b = some o) ∧
  Dt K M H (keysD ks) v ∧ Dt K M H (picD pic) u ∧ gk ks ∧ gp ks pic ∧
  ∀ q' c cs H', q'.ok → Fr [r] H H' → H c = none → H' r = some (rowO a q') → H' c = some (.lst (cs.map ov)) → cs.length = 54 → bnd cs → Q (.ref c) H'
def spLAnew (K : PySem.W.Frag) : Sp := fun vs H Q _ => ∃ (M : List Addr) (r a p : Addr) (q : Rho) (ns ks : List Int) (cs : List (Option Int)) (v : V), vs = [.ref r, .ref p, v] ∧ H r = some (rowO a q) ∧ q.ok ∧ SLA K M H a (ns.map V.int) ∧ ns.length ≤ 63 ∧ r ∈ M ∧ p ∈ M ∧ r ≠ p ∧ (∀ b ∈ M, ∃ o, H b = some o) ∧
  H p = some (.lst (cs.map ov)) ∧ cs.length = 54 ∧ bnd cs ∧ Dt K M H (keysD ks) v ∧ gk ks ∧
  ∀ q' cs' H', q'.ok → Fr [r, p] H H' → H' r = some (rowO a q') → H' p = some (.lst (cs'.map ov)) → cs'.length = 54 → bnd cs' → Q .non H'

/-- a choice whose both sides are walked to one continuation -/
def tIfM (c : TT) (a b : TE) : TE := tIf c a b
theorem pe_ifM {X : Cx} {c a b : Expr} {pos : Pos} {tc : TT} {ta tb : TE} (h1 : PT X c tc) (h2 : PE X a ta) (h3 : PE X b tb) : PE X (.IfExp c a b pos) (tIfM tc ta tb) := pe_ifExp h1 h2 h3
theorem x_ifM {tc : TT} {ta tb : TE} {σ : L2.St} {H : Hp} {Q : VK} (C : V → Hp → Prop) (h : ∀ Q' : VK, (∀ v H', C v H' → Q' v H') → tIf tc ta tb σ H Q') (k : ∀ v H', C v H' → Q v H') : tIfM tc ta tb σ H Q := h Q k

theorem nl_mul0 {n m : Int} (h1 : 0 ≤ n) (h3 : 0 ≤ m) : 0 ≤ n * m := Int.mul_nonneg h1 h3

theorem nl_mul3 {n m : Int} (h1 : 0 ≤ n) (h2 : n < 4) (h3 : 0 ≤ m) (h4 : m < 2) : n * m ≤ 3 := by
  obtain rfl | rfl : m = 0 ∨ m = 1 := by omega
  · omega
  · omega

theorem Sy.exMem {K : PySem.W.Frag} {H0 : Bs} {M : List Addr} {H H' : Hp} {C m dx l : Addr} {μ : Mem} {L : List (Addr × HO)} {Ds : List (PyData × V)} (S : Sy K H0 M H L Ds) (f : Fr [] H H') (hm : H m = none) (hl : H l = none) (hM : MemAt C H' m dx l μ) :
    Sy K H0 (l :: m :: M) H' ((L ++ [(m, memO C dx l μ)]) ++ [(l, cellsO μ)]) Ds :=
  Sy.exNM (S.newM (o := memO C dx l μ) hm) (fun b u _ q => by
    by_cases hb : b = m
    · subst hb; rw [upd_same] at q; rw [hM.1]; exact q
    · rw [upd_ne hb] at q; exact f b u (fun z => nomatch z) q) (by rw [upd_ne hM.2.2.symm]; exact hl) hM.2.1
theorem judgedD_dep (cs : List (Option Int)) (ks : List Int) (s : Int) : (judgedD cs ks s).depth ≤ 4 := by
  unfold judgedD
  split
  · generalize cs.getD (slotB s + 1).toNat none = c
    cases c <;> simp [od, PyData.depth, PyData.depthAll]
  · simp [PyData.depth, PyData.depthAll]
theorem judgedD_ok (cs : List (Option Int)) (ks : List Int) (s : Int) : okD (judgedD cs ks s) = true := by
  unfold judgedD
  split
  · generalize cs.getD (slotB s + 1).toNat none = c
    cases c <;> rfl
  · rfl

end Z

namespace Z
open PySem L2

/-! ## deeds of several writes -/
section
variable {C m dx l : Addr} {μ : Mem} {ws ws2 : List Wr} {H H1 H2 : Hp} {Q Q1 S : Hp → Prop}
theorem ranX_mono (k : ranX C m dx l μ ws H Q S) (f : Fr [m, l] H H1) : ranX C m dx l μ ws H1 Q S := fun H' g hM => k H' (f.trans g) hM
theorem ranX_ex (k : ranX C m dx l μ ws H Q S) (f : Fr [] H H1) : ranX C m dx l μ ws H1 Q S := ranX_mono k f.wk0
/-- the first writes; then the others -/
theorem ranX_app (k : ranX C m dx l μ (ws ++ ws2) H Q S) (next : ∀ H1 μ1, Fr [m, l] H H1 → MemAt C H1 m dx l μ1 → μ1.cells = applyW ws μ.cells → μ1.up = μ.up → μ1.torn = μ.torn → ranX C m dx l μ1 ws2 H1 Q S → Q1 H1) : ranX C m dx l μ ws H Q1 S := by
  intro H1 f hM
  refine ⟨fun hw => ?_, fun hw => ?_⟩
  · refine next H1 _ f hM (run_cells hw) (run_upT hw) (by rw [run_whole hw]) fun H2 g hM2 => ?_
    rw [← run_ok hw] at hM2 ⊢
    exact k H2 (f.trans g) hM2
  · have := k H1 f (by rw [run_no hw]; exact hM)
    exact this.2 (by rw [run_no hw]; exact hw)
/-- no writes are left -/
theorem ranX_nil (k : ranX C m dx l μ [] H Q S) (hM : MemAt C H m dx l μ) : Q H := (k H (Fr.refl _ _) hM).1 rfl
/-- the last writes -/
theorem ranX_end (k : ranX C m dx l μ ws H Q S) (q : ∀ H1, Fr [m, l] H H1 → Q H1 → Q1 H1) : ranX C m dx l μ ws H Q1 S := fun H1 f hM => ⟨fun hw => q H1 f ((k H1 f hM).1 hw), (k H1 f hM).2⟩
end
/-- those of some cells that hold something else -/
def putW (cs : List (Option Int)) (i : Nat) (row : List Int) : List Wr := (List.range row.length).filterMap fun k => if cs.getD (i + k) none ≠ some (row.getD k 0) then some (i + k, row.getD k 0) else none
def putU (cs : List (Option Int)) (i : Nat) (row : List Int) (j : Nat) : List Wr := (List.range j).filterMap fun k => if cs.getD (i + k) none ≠ some (row.getD k 0) then some (i + k, row.getD k 0) else none
theorem putU_zero (cs : List (Option Int)) (i : Nat) (row : List Int) : putU cs i row 0 = [] := rfl
theorem putU_all (cs : List (Option Int)) (i : Nat) (row : List Int) : putU cs i row row.length = putW cs i row := rfl
theorem putU_yes {cs : List (Option Int)} {i : Nat} {row : List Int} {j : Nat} (h : cs.getD (i + j) none ≠ some (row.getD j 0)) : putU cs i row (j + 1) = putU cs i row j ++ [(i + j, row.getD j 0)] := by
  unfold putU
  rw [List.range_succ, List.filterMap_append]
  congr 1
  simp only [List.filterMap_cons, List.filterMap_nil]
  rw [if_pos h]
theorem putU_no {cs : List (Option Int)} {i : Nat} {row : List Int} {j : Nat} (h : cs.getD (i + j) none = some (row.getD j 0)) : putU cs i row (j + 1) = putU cs i row j := by
  unfold putU
  rw [List.range_succ, List.filterMap_append]
  simp only [List.filterMap_cons, List.filterMap_nil]
  rw [if_neg (by simpa using h), List.append_nil]
theorem putU_mem {cs : List (Option Int)} {i : Nat} {row : List Int} {j : Nat} {p : Wr} (h : p ∈ putU cs i row j) : i ≤ p.1 ∧ p.1 < i + j ∧ p.2 = row.getD (p.1 - i) 0 := by
  unfold putU at h
  obtain ⟨k, hk, e⟩ := List.mem_filterMap.mp h
  rw [List.mem_range] at hk
  split at e
  · cases e
    exact ⟨by simp, by simpa using hk, by simp⟩
  · cases e
theorem putU_pre (cs : List (Option Int)) (i : Nat) (row : List Int) {j k : Nat} (h : j ≤ k) : ∃ r, putU cs i row k = putU cs i row j ++ r := by
  induction k with
  | zero => obtain rfl : j = 0 := by omega
            exact ⟨[], by simp⟩
  | succ k ih =>
    by_cases e : j = k + 1
    · subst e; exact ⟨[], by simp⟩
    · obtain ⟨r, hr⟩ := ih (by omega)
      by_cases hc : cs.getD (i + k) none = some (row.getD k 0)
      · rw [putU_no hc]; exact ⟨r, hr⟩
      · rw [putU_yes hc, hr, List.append_assoc]; exact ⟨_, rfl⟩
theorem applyW_outD {k : Nat} {ws : List Wr} {cs : List (Option Int)} (h : ∀ p ∈ ws, p.1 ≠ k) : (applyW ws cs).getD k none = cs.getD k none := by
  rw [List.getD_eq_getElem?_getD, applyW_out h, List.getD_eq_getElem?_getD]
/-- a row that is put lies there -/
theorem putU_at {cs : List (Option Int)} {i : Nat} {row : List Int} : ∀ {j : Nat}, i + j ≤ cs.length → ∀ k, k < j → (applyW (putU cs i row j) cs).getD (i + k) none = some (row.getD k 0)
  | 0, _, k, hk => absurd hk (Nat.not_lt_zero _)
  | j + 1, hl, k, hk => by
    by_cases hc : cs.getD (i + j) none = some (row.getD j 0)
    · rw [putU_no hc]
      by_cases e : k = j
      · subst e
        rw [applyW_outD (fun p hp => by have := putU_mem hp; omega)]; exact hc
      · exact putU_at (by omega) k (by omega)
    · rw [putU_yes hc, applyW_app]
      show ((applyW (putU cs i row j) cs).set (i + j) (some (row.getD j 0))).getD (i + k) none = _
      by_cases e : k = j
      · subst e
        exact getD_setS (by rw [applyW_len]; omega)
      · rw [getD_setN (by omega)]; exact putU_at (by omega) k (by omega)
theorem putW_at {cs : List (Option Int)} {i : Nat} {row : List Int} (hl : i + row.length ≤ cs.length) {k : Nat} (hk : k < row.length) : (applyW (putW cs i row) cs).getD (i + k) none = some (row.getD k 0) := putU_at hl k hk
theorem putW_out {cs : List (Option Int)} {i : Nat} {row : List Int} {k : Nat} (h : k < i ∨ i + row.length ≤ k) : (applyW (putW cs i row) cs).getD k none = cs.getD k none :=
  applyW_outD fun p hp => by have := putU_mem (j := row.length) hp; omega
theorem putW_ok {cs : List (Option Int)} {i : Nat} {row : List Int} (h : ∀ n ∈ row, 0 ≤ n ∧ n ≤ 9972) : ∀ p ∈ putW cs i row, i ≤ p.1 ∧ p.1 < i + row.length ∧ 0 ≤ p.2 ∧ p.2 ≤ 9972 := by
  intro p hp
  have := putU_mem (j := row.length) hp
  refine ⟨this.1, this.2.1, ?_⟩
  rw [this.2.2]
  have hk : p.1 - i < row.length := by omega
  rw [List.getD_eq_getElem?_getD, List.getElem?_eq_getElem hk]
  exact h _ (List.getElem_mem hk)
theorem putW_len (cs : List (Option Int)) (i : Nat) (row : List Int) : (putW cs i row).length ≤ row.length := by
  unfold putW
  exact Nat.le_trans (List.length_filterMap_le _ _) (by rw [List.length_range]; exact Nat.le_refl _)
/-- one deed behind the other, each by the cells that the ones ahead have left -/
def thenW (f g : List (Option Int) → List Wr) (cs : List (Option Int)) : List Wr := f cs ++ g (applyW (f cs) cs)
def bookedO (cs : List (Option Int)) : Rec := (recordO cs 4).getD (0, 0, 0)
def openW (s : Int) (cs : List (Option Int)) : List Wr := if cs.getD (slotB s).toNat none ≠ some 0 then [((slotB s).toNat, 0)] else []
def closeW (s : Int) (hd : List Int) : List (Option Int) → List Wr := thenW (fun cs => putW cs ((slotB s).toNat + 1) hd) fun _ => [((slotB s).toNat, 1)]
/-- what the cells of a head hold, of whole ones -/
def wholeF (xs : List (Option Int)) : List Int := xs.map (·.getD 0)
/-- whether the other slot is to be laid anew -/
def needsL (cs : List (Option Int)) (ks : List Int) (t : Int) : Bool := decide (headL cs (1 - t) ≠ headL cs t) || !PyData.eqv (judgedD cs ks (1 - t)) (judgedD cs ks t)
def copyW (cs : List (Option Int)) (t : Int) : List Int := wholeF (partsL cs t ((headL cs t).getD 2 none |>.getD 0))
def doubleL (ks : List Int) (t : Int) (cs : List (Option Int)) : List Wr :=
  if needsL cs ks t = true then thenW (openW (1 - t)) (thenW (fun c => putW c ((slotB (1 - t)).toNat + 7) (copyW cs t)) (closeW (1 - t) (wholeF ((headL cs t).drop 1)))) cs else []
def laidN (ks : List Int) (t : Int) (cs : List (Option Int)) : Int := if needsL cs ks t = true then ((putW (applyW (openW (1 - t) cs) cs) ((slotB (1 - t)).toNat + 7) (copyW cs t)).length : Int) else 0
def doubleOk (b : Rec) (cs : List (Option Int)) (ks : List Int) : Bool := decide (b.2.1 ≠ 1) && decide (whyF cs ks b.1 = "")
def doubleWb (b : Rec) (ks : List Int) (cs : List (Option Int)) : List Wr :=
  if doubleOk b cs ks = true then thenW (doubleL ks b.1) (thenW (fun c => raiseW c 0 ((headL cs b.1).getD 1 none |>.getD 0)) fun c => raiseW c 2 ((headL cs b.1).getD 5 none |>.getD 0)) cs else []
def doubleDb (b : Rec) (ks : List Int) (cs : List (Option Int)) : PyData :=
  if doubleOk b cs ks = true then .tuple [.str "doubled", .int (laidN ks b.1 cs)] else .tuple [.str "no", .str (if b.2.1 = 1 then "trial" else whyF cs ks b.1)]
def doubleW (ks : List Int) (cs : List (Option Int)) : List Wr := doubleWb (bookedO cs) ks cs
def doubleD (ks : List Int) (cs : List (Option Int)) : PyData := doubleDb (bookedO cs) ks cs
def bookOk (cs : List (Option Int)) : Prop := (bookedO cs).1 = 0 ∨ (bookedO cs).1 = 1

section
variable {K : PySem.W.Frag} {M N : List Addr} {H H' : Hp} {B : Bs} {L : List (Addr × HO)} {Ds : List (PyData × V)}
/-- some that stand nowhere in L are changed -/
theorem Sy.away (S : Sy K B M H L Ds) (f : Fr N H H') (hN : ∀ a ∈ N, a ∈ M ∧ B.may a) (hne : ∀ a ∈ N, a ∉ L.map (·.1)) (hk : ∀ a ∈ N, ∃ o, H' a = some o) : Sy K B M H' L Ds := by
  have keep : ∀ a, (∃ o, H a = some o) → ∃ o, H' a = some o := fun a ⟨o, e⟩ => by
    by_cases z : a ∈ N
    · exact hk a z
    · exact ⟨o, f a o z e⟩
  refine ⟨fun b o n e => ?_, fun x hx => ?_, S.nd, fun x hx => (S.dat x hx).mono (f.wk fun a ha => (hN a ha).1), fun a ha => keep a (S.dom a ha), fun a ha => keep a (S.nom a ha)⟩
  · refine f b o (fun z => ?_) (S.fr b o n e)
    rcases (hN b z).2 with h | h
    · exact n h
    · rw [h] at e; cases e
  · exact f _ _ (fun z => hne _ z (List.mem_map_of_mem (f := (·.1)) hx)) (S.ent x hx)
end
/-! ## the laws' own cells and log -/
def sKV (c g : Addr) : List (Str × V) := [("cells", .ref c), ("log", .ref g)]
/-- at d a dict: at c the cells, at g the log -/
structure LogAt (K : PySem.W.Frag) (M : List Addr) (H : Hp) (d c g : Addr) (cs : List (Option Int)) (ws : List Wr) : Prop where
  hd : H d = some (.dK (kvT (sKV c g)))
  hc : H c = some (.lst (cs.map ov))
  hg : ∃ vs, H g = some (.lst vs) ∧ DtL K M H (ws.map wrD) vs
  dc : d ≠ c
  dg : d ≠ g
  cg : c ≠ g
  dm : d ∈ M
  cm : c ∈ M
  gm : g ∈ M
section
variable {K : PySem.W.Frag} {M N : List Addr} {H H' : Hp} {d c g : Addr} {cs : List (Option Int)} {ws : List Wr} {Q : VK}
theorem LogAt.fr (h : LogAt K M H d c g cs ws) (f : Fr N H H') (hN : ∀ a ∈ N, a ∈ M) (nd : d ∉ N) (nc : c ∉ N) (ng : g ∉ N) : LogAt K M H' d c g cs ws :=
  ⟨f _ _ nd h.hd, f _ _ nc h.hc, let ⟨vs, e, hv⟩ := h.hg; ⟨vs, f _ _ ng e, hv.mono (f.wk hN)⟩, h.dc, h.dg, h.cg, h.dm, h.cm, h.gm⟩
theorem LogAt.ex (h : LogAt K M H d c g cs ws) (f : Fr [] H H') : LogAt K M H' d c g cs ws := h.fr f (fun _ z => nomatch z) (fun z => nomatch z) (fun z => nomatch z) (fun z => nomatch z)
theorem LogAt.sl (h : LogAt K M H d c g cs ws) : SqL K H c (cs.map ov) := .inl (.inl h.hc)
theorem n_scells (h : LogAt K M H d c g cs ws) (q : Q (.ref c) H) : DgT (.ref d) (.str "cells") H Q := n_dgT 0 ["cells", "log"] h.hd rfl rfl (by decide +kernel) q
theorem n_slog (h : LogAt K M H d c g cs ws) (q : Q (.ref g) H) : DgT (.ref d) (.str "log") H Q := n_dgT 1 ["cells", "log"] h.hd rfl rfl (by decide +kernel) q
end
/-- what a mirrored deed does -/
def logX (K : PySem.W.Frag) (M : List Addr) (d c g : Addr) (cs : List (Option Int)) (ws0 ws : List Wr) (H : Hp) (Q : Hp → Prop) : Prop := ∀ H', Fr [c, g] H H' → LogAt K M H' d c g (applyW ws cs) (ws0 ++ ws) → Q H'
section
variable {K : PySem.W.Frag} {M : List Addr} {d c g : Addr} {cs : List (Option Int)} {ws0 ws ws2 : List Wr} {H H1 : Hp} {Q Q1 : Hp → Prop}
theorem logX_mono (k : logX K M d c g cs ws0 ws H Q) (f : Fr [c, g] H H1) : logX K M d c g cs ws0 ws H1 Q := fun H' g' hM => k H' (f.trans g') hM
theorem logX_ex (k : logX K M d c g cs ws0 ws H Q) (f : Fr [] H H1) : logX K M d c g cs ws0 ws H1 Q := logX_mono k f.wk0
theorem logX_app (k : logX K M d c g cs ws0 (ws ++ ws2) H Q) (next : ∀ H1, Fr [c, g] H H1 → LogAt K M H1 d c g (applyW ws cs) (ws0 ++ ws) → logX K M d c g (applyW ws cs) (ws0 ++ ws) ws2 H1 Q → Q1 H1) : logX K M d c g cs ws0 ws H Q1 := fun H1 f hL =>
  next H1 f hL fun H2 f2 hL2 => k H2 (f.trans f2) (by rw [applyW_app, ← List.append_assoc]; exact hL2)
theorem logX_nil (k : logX K M d c g cs ws0 [] H Q) (h : LogAt K M H d c g cs ws0) : Q H := k H (Fr.refl _ _) (by rw [List.append_nil]; exact h)
theorem logX_end (k : logX K M d c g cs ws0 ws H Q) (q : ∀ H1, Fr [c, g] H H1 → LogAt K M H1 d c g (applyW ws cs) (ws0 ++ ws) → Q H1 → Q1 H1) : logX K M d c g cs ws0 ws H Q1 := fun H1 f hL => q H1 f hL (k H1 f hL)
end

theorem set_self {xs : List Int} {i : Nat} {n : Int} (h : xs[i]? = some n) : xs.set i n = xs := by
  obtain ⟨hi, e⟩ := List.getElem?_eq_some_iff.mp h
  rw [← e, List.set_getElem_self]
theorem sums_set1 {xs : List Int} {i : Nat} {n x : Int} (h : xs[i]? = some n) (n0 : 0 ≤ n) (n1 : n < 9973) (x0 : 0 ≤ x) (x1 : x < 9973) (ne : x ≠ n) : sumsF (xs.set i x) ≠ sumsF xs := by
  rw [sums_is, sums_is]
  intro e
  have e1 := (Prod.mk.inj e).1
  rw [oneR_set x h] at e1
  omega
theorem sums_set2 {xs : List Int} {i j : Nat} {n x m y : Int} (h : xs[i]? = some n) (h2 : xs[j]? = some m) (hij : i ≠ j) (hl : xs.length < 9973) (n0 : 0 ≤ n) (n1 : n < 9973) (x0 : 0 ≤ x) (x1 : x < 9973) (ne : x ≠ n) :
    sumsF ((xs.set i x).set j y) ≠ sumsF xs := by
  have h3 : (xs.set i x)[j]? = some m := by rw [List.getElem?_set_ne hij]; exact h2
  have li := (List.getElem?_eq_some_iff.mp h).1
  have lj := (List.getElem?_eq_some_iff.mp h2).1
  rw [sums_is, sums_is]
  intro e
  have e1 := (Prod.mk.inj e).1
  have e2 := (Prod.mk.inj e).2
  rw [oneR_set y h3, oneR_set x h] at e1
  rw [twoR_set y h3, twoR_set x h, List.length_set] at e2
  obtain ⟨k, hk⟩ : ∃ k : Int, (x - n) + (y - m) = 9973 * k := ⟨((x - n) + (y - m)) / 9973, by omega⟩
  have hy : y - m = 9973 * k - (x - n) := by omega
  rw [hy] at e2
  have e3 : ((xs.length : Int) - i) * (x - n) + ((xs.length : Int) - j) * (9973 * k - (x - n)) = ((j : Int) - i) * (x - n) + 9973 * (k * ((xs.length : Int) - j)) := by grind
  have e4 : (((j : Int) - i) * (x - n)) % 9973 = 0 := by
    rw [Int.add_assoc, e3] at e2
    generalize ((j : Int) - i) * (x - n) = u at *
    generalize k * ((xs.length : Int) - j) = u2 at *
    omega
  have := pmul (by omega) e4
  omega
theorem good_inv {cs : List (Option Int)} {ks : List Int} {s : Int} (h : whyF cs ks s = "") : ∃ v many one two n sl, headL cs s = [some 1, some v, some many, some one, some two, some n, some sl] ∧ 1 ≤ many ∧ many ≤ 12 ∧ (allI (partsL cs s many)).map sumsF = some (one, two) ∧ floorO cs 2 ≤ n ∧ n < ks.length ∧
    sealF (ks.getD n.toNat 0) [v, many, one, two, n] = sl ∧ floorO cs 0 ≤ v := by
  unfold whyF at h
  split at h
  · rename_i mk v many one two n sl e
    unfold whyH at h
    by_cases h1 : mk ≠ 1
    · rw [if_pos h1] at h; exact absurd h (by decide +kernel)
    rw [if_neg h1] at h
    by_cases h2 : ¬ (1 ≤ many ∧ many ≤ 12)
    · rw [if_pos h2] at h; exact absurd h (by decide +kernel)
    rw [if_neg h2] at h
    by_cases h3 : (allI (partsL cs s many)).map sumsF ≠ some (one, two)
    · rw [if_pos h3] at h; exact absurd h (by decide +kernel)
    rw [if_neg h3] at h
    by_cases h4 : ¬ (floorO cs 2 ≤ n ∧ n < ks.length)
    · rw [if_pos h4] at h; exact absurd h (by decide +kernel)
    rw [if_neg h4] at h
    by_cases h5 : sealF (ks.getD n.toNat 0) [v, many, one, two, n] ≠ sl
    · rw [if_pos h5] at h; exact absurd h (by decide +kernel)
    rw [if_neg h5] at h
    by_cases h6 : v < floorO cs 0
    · rw [if_pos h6] at h; exact absurd h (by decide +kernel)
    have e1 : mk = 1 := Decidable.of_not_not h1
    subst e1
    have h2 := Decidable.of_not_not h2
    have h4 := Decidable.of_not_not h4
    exact ⟨v, many, one, two, n, sl, e, h2.1, h2.2, Decidable.of_not_not h3, h4.1, h4.2, Decidable.of_not_not h5, by omega⟩
  · exact absurd h (by decide +kernel)
theorem layB_at {row : List Int} {cs : List (Option Int)} (hl : cs.length = 54) : ∀ k, k ≤ 19 → ∀ j, j < k → (layB row k cs)[16 + j]? = some (some (row.getD j 0)) ∧ (layB row k cs)[35 + j]? = some (some (row.getD j 0))
  | 0, _, j, h => absurd h (Nat.not_lt_zero _)
  | k + 1, hk, j, h => by
    have hlen : (layB row k cs).length = 54 := by rw [layB_len, hl]
    rw [layB_more]
    by_cases e : j = k
    · subst e
      refine ⟨?_, ?_⟩
      · rw [List.getElem?_set_ne (by omega), List.getElem?_set_self (by omega)]
      · rw [List.getElem?_set_self (by rw [List.length_set]; omega)]
    · have ih := layB_at (row := row) hl k (by omega) j (by omega)
      refine ⟨?_, ?_⟩
      · rw [List.getElem?_set_ne (by omega), List.getElem?_set_ne (by omega)]; exact ih.1
      · rw [List.getElem?_set_ne (by omega), List.getElem?_set_ne (by omega)]; exact ih.2
theorem layB_low {row : List Int} {cs : List (Option Int)} {i : Nat} (h : i < 16) : ∀ k, (layB row k cs)[i]? = cs[i]?
  | 0 => rfl
  | k + 1 => by rw [layB_more, List.getElem?_set_ne (by omega), List.getElem?_set_ne (by omega)]; exact layB_low h k
/-- a slot's first cells hold this row -/
def inSlot (cs : List (Option Int)) (s : Int) (row : List Int) : Prop := ∀ j, j < row.length → cs[(slotB s).toNat + j]? = some (some (row.getD j 0))
theorem mach_slot {ks : List Int} {p : Pic} (h : p.cells.length ≤ 12) {s : Int} (hs : s = 0 ∨ s = 1) : inSlot (machC ks p) s (slotRow ks p) := by
  intro j hj
  have hl := slotRow_len ks p
  have := layB_at (row := slotRow ks p) (machN_len p) (slotRow ks p).length (by omega) j hj
  rcases hs with rfl | rfl
  · exact this.1
  · exact this.2
theorem head_of_slot {cs : List (Option Int)} {s : Int} {row : List Int} (hs : s = 0 ∨ s = 1) (hl : cs.length = 54) (h : inSlot cs s row) (h7 : 7 ≤ row.length) : headL cs s = [some (row.getD 0 0), some (row.getD 1 0), some (row.getD 2 0), some (row.getD 3 0), some (row.getD 4 0), some (row.getD 5 0), some (row.getD 6 0)] := by
  have hb := slotB_b hs
  unfold headL
  refine row_is (n := 7) rfl fun k hk => ?_
  rw [h k (by omega)]
  match k, hk with
  | 0, _ => rfl
  | 1, _ => rfl
  | 2, _ => rfl
  | 3, _ => rfl
  | 4, _ => rfl
  | 5, _ => rfl
  | 6, _ => rfl
theorem machC_low {ks : List Int} {p : Pic} : (machC ks p)[0]? = some (some p.v) ∧ (machC ks p)[1]? = some (some 0) ∧ (machC ks p)[2]? = some (some p.n) ∧ (machC ks p)[3]? = some (some 0) := by
  have hn : ∀ i : Nat, i < 4 → (machN p)[i]? = (machB p)[i]? := by
    intro i hi
    unfold machN
    rcases next_w (machB p) 4 with e | e
    · simp only [noteW, applyW, List.foldl_cons, List.foldl_nil, e]
      rw [show 4 + 6 * (0 : Int).toNat = 4 from rfl]
      rw [List.getElem?_set_ne (by omega), List.getElem?_set_ne (by omega), List.getElem?_set_ne (by omega), List.getElem?_set_ne (by omega), List.getElem?_set_ne (by omega), List.getElem?_set_ne (by omega), List.getElem?_set_ne (by omega)]
    · simp only [noteW, applyW, List.foldl_cons, List.foldl_nil, e]
      rw [show 4 + 6 * (1 : Int).toNat = 10 from rfl]
      rw [List.getElem?_set_ne (by omega), List.getElem?_set_ne (by omega), List.getElem?_set_ne (by omega), List.getElem?_set_ne (by omega), List.getElem?_set_ne (by omega), List.getElem?_set_ne (by omega), List.getElem?_set_ne (by omega)]
  have hb : (machB p)[0]? = some (some p.v) ∧ (machB p)[1]? = some (some 0) ∧ (machB p)[2]? = some (some p.n) ∧ (machB p)[3]? = some (some 0) := ⟨rfl, rfl, rfl, rfl⟩
  unfold machC
  refine ⟨?_, ?_, ?_, ?_⟩
  · rw [layB_low (by decide), hn 0 (by decide)]; exact hb.1
  · rw [layB_low (by decide), hn 1 (by decide)]; exact hb.2.1
  · rw [layB_low (by decide), hn 2 (by decide)]; exact hb.2.2.1
  · rw [layB_low (by decide), hn 3 (by decide)]; exact hb.2.2.2
theorem getD_of {α : Type} {cs : List α} {i : Nat} {d v : α} (h : cs[i]? = some v) : cs.getD i d = v := by rw [List.getD_eq_getElem?_getD, h]; rfl
theorem slot_parts {cs : List (Option Int)} {s : Int} {a ns : List Int} (hs : s = 0 ∨ s = 1) (h : inSlot cs s (a ++ ns)) (h7 : a.length = 7) : partsL cs s ns.length = ns.map some := by
  have hb := slotB_b hs
  unfold partsL
  rw [Int.toNat_natCast]
  refine row_is (n := ns.length) (by rw [List.length_map]) fun k hk => ?_
  have := h (7 + k) (by rw [List.length_append]; omega)
  rw [show (slotB s + 7).toNat + k = (slotB s).toNat + (7 + k) by omega, this, List.getElem?_map, List.getElem?_eq_getElem hk]
  congr 2
  rw [List.getD_eq_getElem?_getD, List.getElem?_append_right (by omega), show 7 + k - a.length = k by omega, List.getElem?_eq_getElem hk]; rfl
theorem mach_good {ks : List Int} {p : Pic} (gg : gk ks) (hp : gp ks p) {s : Int} (hs : s = 0 ∨ s = 1) : whyF (machC ks p) ks s = "" := by
  obtain ⟨p1, p2, p3, p4, p5, p6, p7⟩ := _root_.id hp
  have hk := keyOf_ok gg hp
  have hin := mach_slot (ks := ks) p4 hs
  have hh := head_of_slot hs (machC_len ks p) hin (by rw [slotRow_len]; omega)
  have hh : headL (machC ks p) s = [some 1, some p.v, some p.cells.length, some (sumsF p.cells).1, some (sumsF p.cells).2, some p.n, some (sealF (keyOf ks p) (plainF p))] := hh
  have hpt : partsL (machC ks p) s p.cells.length = p.cells.map some := slot_parts (a := 1 :: headF ks p) hs hin (by simp [headF, plainF])
  obtain ⟨l0, l1, l2, l3⟩ := machC_low (ks := ks) (p := p)
  have f0 : floorO (machC ks p) 0 = p.v := by
    unfold floorO
    rw [getD_of l0, getD_of l1]
    simp [countF]; omega
  have f2 : floorO (machC ks p) 2 = p.n := by
    unfold floorO
    rw [getD_of l2, getD_of l3]
    simp [countF]; omega
  rw [why_some hh]
  unfold whyH
  rw [hpt, allI_some, f0, f2]
  have hkk : ks.getD p.n.toNat 0 = keyOf ks p := getD_of hk.1
  rw [hkk]
  rw [if_neg (by simp), if_neg (fun z => z ⟨by omega, by omega⟩), if_neg (by simp), if_neg (fun z => z ⟨by omega, p7⟩), if_neg (fun z => z rfl), if_neg (by omega)]
/-- a slot's first cells are these -/
def slotO (cs : List (Option Int)) (s : Int) (xs : List (Option Int)) : Prop := ∀ j, j < xs.length → cs[(slotB s).toNat + j]? = xs[j]?
theorem slotO_of {cs : List (Option Int)} {s : Int} {row : List Int} (h : inSlot cs s row) : slotO cs s (row.map some) := by
  intro j hj
  rw [List.length_map] at hj
  rw [h j hj, List.getElem?_map, List.getElem?_eq_getElem hj, List.getD_eq_getElem?_getD, List.getElem?_eq_getElem hj]; rfl
theorem slotO_set {cs : List (Option Int)} {s : Int} {xs : List (Option Int)} (h : slotO cs s xs) (hl : (slotB s).toNat + xs.length ≤ cs.length) {j : Nat} (hj : j < xs.length) (w : Option Int) : slotO (cs.set ((slotB s).toNat + j) w) s (xs.set j w) := by
  intro k hk
  rw [List.length_set] at hk
  by_cases e : j = k
  · subst e
    rw [List.getElem?_set_self (by omega), List.getElem?_set_self hj]
  · rw [List.getElem?_set_ne (by omega), List.getElem?_set_ne e]; exact h k hk
theorem slotO_out {cs : List (Option Int)} {s : Int} {xs : List (Option Int)} (h : slotO cs s xs) {i : Nat} (hi : i < (slotB s).toNat ∨ (slotB s).toNat + xs.length ≤ i) (w : Option Int) : slotO (cs.set i w) s xs := by
  intro k hk
  rw [List.getElem?_set_ne (by omega)]; exact h k hk
theorem headL_of {cs : List (Option Int)} {s : Int} {xs : List (Option Int)} (h : slotO cs s xs) (h7 : 7 ≤ xs.length) : headL cs s = xs.take 7 := by
  unfold headL
  refine row_is (by rw [List.length_take]; omega) fun k hk => ?_
  rw [h k (by omega), List.getElem?_take_of_lt hk]
theorem partsL_of {cs : List (Option Int)} {s : Int} {xs : List (Option Int)} (hs : s = 0 ∨ s = 1) (h : slotO cs s xs) {n : Int} (hn : xs.length = 7 + n.toNat) : partsL cs s n = xs.drop 7 := by
  have hb := slotB_b hs
  unfold partsL
  refine row_is (by rw [List.length_drop]; omega) fun k hk => ?_
  rw [show (slotB s + 7).toNat + k = (slotB s).toNat + (7 + k) by omega, h _ (by omega), List.getElem?_drop]
def lowIs (cs : List (Option Int)) (p : Pic) : Prop := cs[0]? = some (some p.v) ∧ cs[1]? = some (some 0) ∧ cs[2]? = some (some p.n) ∧ cs[3]? = some (some 0)
theorem lowIs_set {cs : List (Option Int)} {p : Pic} (h : lowIs cs p) {i : Nat} (hi : 4 ≤ i) (w : Option Int) : lowIs (cs.set i w) p := by
  unfold lowIs
  rw [List.getElem?_set_ne (by omega), List.getElem?_set_ne (by omega), List.getElem?_set_ne (by omega), List.getElem?_set_ne (by omega)]
  exact h
theorem rowO_is (ks : List Int) (p : Pic) : (slotRow ks p).map some = [some 1, some p.v, some p.cells.length, some (sumsF p.cells).1, some (sumsF p.cells).2, some p.n, some (sealF (keyOf ks p) (plainF p))] ++ p.cells.map some := by
  simp [slotRow, headF, plainF]
theorem slot_good {cs : List (Option Int)} {ks : List Int} {p : Pic} (gg : gk ks) (hp : gp ks p) {s : Int} (hs : s = 0 ∨ s = 1) (low : lowIs cs p) (h : slotO cs s ((slotRow ks p).map some)) : whyF cs ks s = "" ∧ judgedD cs ks s = .tuple [.str "good", .int p.v] := by
  obtain ⟨p1, p2, p3, p4, p5, p6, p7⟩ := _root_.id hp
  have hk := keyOf_ok gg hp
  rw [rowO_is] at h
  have hh : headL cs s = [some 1, some p.v, some p.cells.length, some (sumsF p.cells).1, some (sumsF p.cells).2, some p.n, some (sealF (keyOf ks p) (plainF p))] := (headL_of h (by simp)).trans rfl
  have hpt : partsL cs s p.cells.length = p.cells.map some := (partsL_of hs h (by simp; omega)).trans rfl
  obtain ⟨l0, l1, l2, l3⟩ := low
  have f0 : floorO cs 0 = p.v := by
    unfold floorO
    rw [getD_of l0, getD_of l1]
    simp [countF]; omega
  have f2 : floorO cs 2 = p.n := by
    unfold floorO
    rw [getD_of l2, getD_of l3]
    simp [countF]; omega
  have hw : whyF cs ks s = "" := by
    rw [why_some hh]
    unfold whyH
    rw [hpt, allI_some, f0, f2]
    have hkk : ks.getD p.n.toNat 0 = keyOf ks p := getD_of hk.1
    rw [hkk]
    rw [if_neg (by simp), if_neg (fun z => z ⟨by omega, by omega⟩), if_neg (by simp), if_neg (fun z => z ⟨by omega, p7⟩), if_neg (fun z => z rfl), if_neg (by omega)]
  refine ⟨hw, ?_⟩
  unfold judgedD
  have e := head_get (cs := cs) hs 1 (by decide)
  rw [hh] at e
  rw [if_pos hw, show slotB s + 1 = slotB s + ((1 : Nat) : Int) from rfl, e]; rfl
theorem bad_head {cs : List (Option Int)} {ks : List Int} {p : Pic} (gg : gk ks) (hp : gp ks p) {s : Int} {off : Nat} (ho : off = 0 ∨ off = 1 ∨ off = 2 ∨ off = 3 ∨ off = 4 ∨ off = 6) {cw : Option Int} (hcw : ∀ n, cw = some n → 0 ≤ n ∧ n ≤ 9972 ∧ n ≠ (slotRow ks p).getD off 0)
    (h : slotO cs s (((slotRow ks p).map some).set off cw)) : whyF cs ks s ≠ "" := by
  intro z
  obtain ⟨v, many, one, two, n, sl, e, -, -, -, -, -, e2, -⟩ := good_inv z
  have hh := headL_of h (by rw [List.length_set, List.length_map, slotRow_len]; omega)
  rw [hh, rowO_is] at e
  have hko := keyOf_ok gg hp
  have hpo := plainF_ok gg.2.1 hp
  have hkk : ks.getD p.n.toNat 0 = keyOf ks p := getD_of hko.1
  have sl0 := sealF_lt (keyOf ks p) (plainF p) (by omega) (by omega)
  have ne : ∀ (i : Nat) (x m : Int), (plainF p)[i]? = some m → 0 ≤ x → x ≤ 9972 → x ≠ m → sealF (keyOf ks p) ((plainF p).set i x) ≠ sealF (keyOf ks p) (plainF p) := fun i x m hi h0 h1 hx => by
    have := hpo m (List.mem_of_getElem? hi)
    exact seal_set (by omega) (by omega) hi this.1 this.2 h0 (by omega) hx (by omega) (by omega)
  rcases ho with rfl | rfl | rfl | rfl | rfl | rfl <;>
    simp only [List.cons_append, List.nil_append, List.set_cons_zero, List.set_cons_succ, List.take_succ_cons, List.take_zero, List.cons.injEq, Option.some.injEq, and_true, true_and] at e
  · obtain ⟨rfl, -⟩ := e
    exact (hcw 1 rfl).2.2 rfl
  · obtain ⟨rfl, rfl, rfl, rfl, rfl, rfl⟩ := e
    rw [hkk] at e2
    have hc := hcw v rfl
    exact ne 0 v p.v rfl hc.1 hc.2.1 hc.2.2 e2
  · obtain ⟨rfl, rfl, rfl, rfl, rfl, rfl⟩ := e
    rw [hkk] at e2
    have hc := hcw many rfl
    exact ne 1 many _ rfl hc.1 hc.2.1 hc.2.2 e2
  · obtain ⟨rfl, rfl, rfl, rfl, rfl, rfl⟩ := e
    rw [hkk] at e2
    have hc := hcw one rfl
    exact ne 2 one _ rfl hc.1 hc.2.1 hc.2.2 e2
  · obtain ⟨rfl, rfl, rfl, rfl, rfl, rfl⟩ := e
    rw [hkk] at e2
    have hc := hcw two rfl
    exact ne 3 two _ rfl hc.1 hc.2.1 hc.2.2 e2
  · obtain ⟨rfl, rfl, rfl, rfl, rfl, rfl⟩ := e
    rw [hkk] at e2
    have hc := hcw sl rfl
    exact hc.2.2 e2.symm
theorem bad_parts {cs : List (Option Int)} {ks : List Int} {p : Pic} {s : Int} (hs : s = 0 ∨ s = 1) {ys : List (Option Int)} (hy : ys.length = p.cells.length) (hne : (allI ys).map sumsF ≠ some (sumsF p.cells))
    (h : slotO cs s ([some 1, some p.v, some p.cells.length, some (sumsF p.cells).1, some (sumsF p.cells).2, some p.n, some (sealF (keyOf ks p) (plainF p))] ++ ys)) : whyF cs ks s ≠ "" := by
  intro z
  obtain ⟨v, many, one, two, n, sl, e, -, -, e3, -, -, e2, -⟩ := good_inv z
  have hh := headL_of h (by simp)
  rw [hh] at e
  simp only [List.cons_append, List.nil_append, List.take_succ_cons, List.take_zero, List.cons.injEq, Option.some.injEq, and_true, true_and] at e
  obtain ⟨rfl, rfl, rfl, rfl, rfl, rfl⟩ := e
  rw [partsL_of hs h (by simp [hy]; omega)] at e3
  exact hne e3
theorem allI_bad {ys : List (Option Int)} (h : none ∈ ys) (s : Int × Int) : (allI ys).map sumsF ≠ some s := by
  rw [allI_none.mpr h]; exact fun z => nomatch z
theorem set_map {xs : List Int} {i : Nat} {x : Int} : (xs.map some).set i (some x) = (xs.set i x).map some := by rw [List.map_set]
theorem one_bad {xs : List Int} (hx : ∀ c ∈ xs, 0 ≤ c ∧ c ≤ 9972) {i : Nat} (hi : i < xs.length) {cw : Option Int} (hcw : ∀ n, cw = some n → 0 ≤ n ∧ n ≤ 9972 ∧ n ≠ xs.getD i 0) : (allI ((xs.map some).set i cw)).map sumsF ≠ some (sumsF xs) := by
  cases cw with
  | none => exact allI_bad (List.mem_of_getElem? (i := i) (by rw [List.getElem?_set_self (by rw [List.length_map]; exact hi)])) _
  | some x =>
    have hc := hcw x rfl
    obtain ⟨n, hn⟩ := at_lt hi
    rw [getD_of hn] at hc
    have := hx n (List.mem_of_getElem? hn)
    rw [set_map, allI_some]
    intro z
    exact sums_set1 hn (by omega) (by omega) (by omega) (by omega) hc.2.2 (Option.some.inj z)
theorem two_bad {xs : List Int} (hx : ∀ c ∈ xs, 0 ≤ c ∧ c ≤ 9972) (hl : xs.length ≤ 12) {i j : Nat} (hi : i < xs.length) (hj : j < xs.length) (hij : i ≠ j) {cw : Option Int} (hcw : ∀ n, cw = some n → 0 ≤ n ∧ n ≤ 9972 ∧ n ≠ xs.getD i 0) (y : Int) : (allI (((xs.map some).set i cw).set j (some y))).map sumsF ≠ some (sumsF xs) := by
  cases cw with
  | none => exact allI_bad (List.mem_of_getElem? (i := i) (by rw [List.getElem?_set_ne (by omega), List.getElem?_set_self (by rw [List.length_map]; exact hi)])) _
  | some x =>
    have hc := hcw x rfl
    obtain ⟨n, hn⟩ := at_lt hi
    obtain ⟨m, hm⟩ := at_lt hj
    rw [getD_of hn] at hc
    have := hx n (List.mem_of_getElem? hn)
    rw [set_map, set_map, allI_some]
    intro z
    exact sums_set2 hn hm hij (by omega) (by omega) (by omega) (by omega) (by omega) hc.2.2 (Option.some.inj z)
theorem judged_bad {cs : List (Option Int)} {ks : List Int} {s : Int} (h : whyF cs ks s ≠ "") : judgedD cs ks s = .tuple [.str (whyF cs ks s)] := by
  unfold judgedD; rw [if_neg h]
theorem why_ng (cs : List (Option Int)) (ks : List Int) (s : Int) : whyF cs ks s ≠ "good" := by
  unfold whyF
  split
  · unfold whyH
    repeat' split
    all_goals decide +kernel
  · decide +kernel
theorem places_at {many : Nat} {x : Int} (h0 : 0 ≤ x) (h1 : x < 6 + many) : ∃ off : Nat, atI ([V.int 0, V.int 1, V.int 2, V.int 3, V.int 4, V.int 6] ++ rgV 7 (7 + (many : Int))) x = some (.int off) ∧ ((off = 0 ∨ off = 1 ∨ off = 2 ∨ off = 3 ∨ off = 4 ∨ off = 6) ∨ ∃ i, i < many ∧ off = 7 + i) := by
  by_cases h : x < 6
  · have : x = 0 ∨ x = 1 ∨ x = 2 ∨ x = 3 ∨ x = 4 ∨ x = 5 := by omega
    rcases this with rfl | rfl | rfl | rfl | rfl | rfl
    · exact ⟨0, atI_int (by decide) rfl, by simp⟩
    · exact ⟨1, atI_int (by decide) rfl, by simp⟩
    · exact ⟨2, atI_int (by decide) rfl, by simp⟩
    · exact ⟨3, atI_int (by decide) rfl, by simp⟩
    · exact ⟨4, atI_int (by decide) rfl, by simp⟩
    · exact ⟨6, atI_int (by decide) rfl, by simp⟩
  · refine ⟨7 + (x.toNat - 6), atI_int h0 ?_, .inr ⟨x.toNat - 6, by omega, rfl⟩⟩
    rw [List.getElem?_append_right (by simp; omega)]
    simp only [List.length_cons, List.length_nil]
    unfold rgV
    rw [List.getElem?_map, List.getElem?_range (by omega)]
    simp
theorem other_ne {w x : Int} (w0 : 0 ≤ w) (w1 : w ≤ 9972) (x0 : 0 ≤ x) (x1 : x < 9972) : 0 ≤ (w + 1 + x) % 9973 ∧ (w + 1 + x) % 9973 ≤ 9972 ∧ (w + 1 + x) % 9973 ≠ w := by omega
theorem slot_cell {cs : List (Option Int)} {s : Int} {row : List Int} {off : Nat} (hs : s = 0 ∨ s = 1) (h : slotO cs s (row.map some)) (ho : off < row.length) : cs[(slotB s).toNat + off]? = some (some (row.getD off 0)) ∧ atI (cs.map ov) (slotB s + off) = some (.int (row.getD off 0)) := by
  have hb := slotB_b hs
  have e : cs[(slotB s).toNat + off]? = some (some (row.getD off 0)) := by
    rw [h off (by rw [List.length_map]; exact ho), List.getElem?_map, List.getElem?_eq_getElem ho, List.getD_eq_getElem?_getD, List.getElem?_eq_getElem ho]; rfl
  refine ⟨e, atI_int (by omega) ?_⟩
  rw [List.getElem?_map, show (slotB s + (off : Int)).toNat = (slotB s).toNat + off by omega, e]; rfl
theorem set_back1 {cs : List (Option Int)} {i j : Nat} {a b : Int} {w : Option Int} (hi : cs[i]? = some (some a)) (hj : cs[j]? = some (some b)) : ((cs.set i w).set i (some a)).set j (some b) = cs := by
  obtain ⟨h1, e1⟩ := List.getElem?_eq_some_iff.mp hi
  obtain ⟨h2, e2⟩ := List.getElem?_eq_some_iff.mp hj
  rw [List.set_set, ← e1, List.set_getElem_self, ← e2, List.set_getElem_self]
theorem set_back2 {cs : List (Option Int)} {i j : Nat} {a b : Int} {w u : Option Int} (hij : i ≠ j) (hi : cs[i]? = some (some a)) (hj : cs[j]? = some (some b)) : (((cs.set i w).set j u).set i (some a)).set j (some b) = cs := by
  obtain ⟨h1, e1⟩ := List.getElem?_eq_some_iff.mp hi
  obtain ⟨h2, e2⟩ := List.getElem?_eq_some_iff.mp hj
  rw [List.set_comm _ _ hij.symm, List.set_set, List.set_set, ← e1, List.set_getElem_self, ← e2, List.set_getElem_self]
theorem machC_all {ks : List Int} {p : Pic} (gg : gk ks) (hp : gp ks p) : (machC ks p).length = 54 ∧ bnd (machC ks p) ∧ lowIs (machC ks p) p ∧ slotO (machC ks p) 0 ((slotRow ks p).map some) ∧ slotO (machC ks p) 1 ((slotRow ks p).map some) :=
  ⟨machC_len ks p, (machC_b gg hp).1, machC_low, slotO_of (mach_slot hp.2.2.2.1 (.inl rfl)), slotO_of (mach_slot hp.2.2.2.1 (.inr rfl))⟩
/-- one cell of a slot, spoilt or broken -/
theorem bad_one {cs : List (Option Int)} {ks : List Int} {p : Pic} (gg : gk ks) (hp : gp ks p) {s : Int} (hs : s = 0 ∨ s = 1) (hl : cs.length = 54) {off : Nat} (ho : (off = 0 ∨ off = 1 ∨ off = 2 ∨ off = 3 ∨ off = 4 ∨ off = 6) ∨ ∃ i, i < p.cells.length ∧ off = 7 + i) {cw : Option Int}
    (hcw : ∀ n, cw = some n → 0 ≤ n ∧ n ≤ 9972 ∧ n ≠ (slotRow ks p).getD off 0) (h : slotO cs s ((slotRow ks p).map some)) : whyF (cs.set ((slotB s).toNat + off) cw) ks s ≠ "" := by
  have hb := slotB_b hs
  have hrl := slotRow_len ks p
  have p4 := hp.2.2.2.1
  have hof : off < 7 + p.cells.length := by
    rcases ho with ho | ⟨i, hi, rfl⟩
    · omega
    · omega
  have h2 := slotO_set h (j := off) (by rw [List.length_map]; clear ho; omega) (by rw [List.length_map]; clear ho; omega) cw
  rcases ho with ho | ⟨i, hi, rfl⟩
  · exact bad_head gg hp ho hcw h2
  · rw [rowO_is, List.set_append_right _ _ (by simp)] at h2
    refine bad_parts hs (ys := (p.cells.map some).set i cw) (by simp) (one_bad hp.2.2.2.2.1 hi fun n e => ?_) (by rw [show 7 + i - _ = i by simp] at h2; exact h2)
    have hc := hcw n e
    have e2 : (slotRow ks p).getD (7 + i) 0 = p.cells.getD i 0 := by
      unfold slotRow
      rw [List.getD_eq_getElem?_getD, show 7 + i = (6 + i) + 1 by omega, List.getElem?_cons_succ, List.getElem?_append_right (by simp [headF, plainF]), show 6 + i - (headF ks p).length = i by simp [headF, plainF], List.getD_eq_getElem?_getD]
    rw [e2] at hc; exact hc
theorem bad_two {cs : List (Option Int)} {ks : List Int} {p : Pic} (hp : gp ks p) {s : Int} (hs : s = 0 ∨ s = 1) (hl : cs.length = 54) {i j : Nat} (hi : i < p.cells.length) (hj : j < p.cells.length) (hij : i ≠ j) {cw : Option Int}
    (hcw : ∀ n, cw = some n → 0 ≤ n ∧ n ≤ 9972 ∧ n ≠ (slotRow ks p).getD (7 + i) 0) (y : Int) (h : slotO cs s ((slotRow ks p).map some)) : whyF ((cs.set ((slotB s).toNat + (7 + i)) cw).set ((slotB s).toNat + (7 + j)) (some y)) ks s ≠ "" := by
  have hb := slotB_b hs
  have hrl := slotRow_len ks p
  have p4 := hp.2.2.2.1
  have h2 := slotO_set h (j := 7 + i) (by rw [List.length_map]; omega) (by rw [List.length_map]; omega) cw
  have h2 := slotO_set h2 (j := 7 + j) (by rw [List.length_set, List.length_set, List.length_map]; omega) (by rw [List.length_set, List.length_map]; omega) (some y)
  rw [rowO_is, List.set_append_right _ _ (by simp), List.set_append_right _ _ (by simp)] at h2
  refine bad_parts hs (ys := ((p.cells.map some).set i cw).set j (some y)) (by simp) (two_bad hp.2.2.2.2.1 p4 hi hj hij (fun n e => ?_) y) (by rw [show 7 + i - _ = i by simp, show 7 + j - _ = j by simp] at h2; exact h2)
  have hc := hcw n e
  have e2 : (slotRow ks p).getD (7 + i) 0 = p.cells.getD i 0 := by
    unfold slotRow
    rw [List.getD_eq_getElem?_getD, show 7 + i = (6 + i) + 1 by omega, List.getElem?_cons_succ, List.getElem?_append_right (by simp [headF, plainF]), show 6 + i - (headF ks p).length = i by simp [headF, plainF], List.getD_eq_getElem?_getD]
  rw [e2] at hc; exact hc
theorem slots_apart {s : Int} (hs : s = 0 ∨ s = 1) {off n : Nat} (h : off < 19) (hn : n ≤ 19) : (slotB s).toNat + off < (slotB (1 - s)).toNat ∨ (slotB (1 - s)).toNat + n ≤ (slotB s).toNat + off := by
  rcases hs with rfl | rfl
  · left; show 16 + off < 35; omega
  · right; show 16 + n ≤ 35 + off; omega

section
variable {K : PySem.W.Frag} {M : List Addr} {H : Hp} {Q : VK} {σ : L2.St} {ta tb : TE} {te : L2.St → Hp → (Int → Int → Hp → Prop) → Prop} {d : PyData} {v u : V}
theorem x_lstRg (q : te σ H fun a b H1 => RgOk a b ∧ NewO H1 (.lst (rgV a b)) Q) : tLstRg te σ H Q := q
def Rg2O (x y : V) (H : Hp) (Q : Int → Int → Hp → Prop) : Prop := ∃ i j, x = .int i ∧ y = .int j ∧ Q i j H
theorem x_rg2 {Q : Int → Int → Hp → Prop} (q : ta σ H fun x H1 => tb σ H1 fun y H2 => Rg2O x y H2 Q) : tRg2 ta tb σ H Q := q
theorem n_rg2 {Q : Int → Int → Hp → Prop} {i j : Int} (q : Q i j H) : Rg2O (.int i) (.int j) H Q := ⟨i, j, rfl, rfl, q⟩
end

section
variable {K : PySem.W.Frag} {M : List Addr} {H : Hp} {v : V} {w : Str} {n : Int}
theorem Dt.str1 (h : Dt K M H (.tuple [.str w]) v) : ∃ p, v = .ref p ∧ STA K M H p [.str w] := by
  simp only [Dt, DtL] at h
  obtain ⟨p, xs, rfl, st, _, _, rfl, rfl, rfl⟩ := h
  exact ⟨p, rfl, st⟩
theorem Dt.str2 (h : Dt K M H (.tuple [.str w, .int n]) v) : ∃ p, v = .ref p ∧ STA K M H p [.str w, .int n] := by
  simp only [Dt, DtL] at h
  obtain ⟨p, xs, rfl, st, _, _, rfl, rfl, _, _, rfl, rfl, rfl⟩ := h
  exact ⟨p, rfl, st⟩
theorem Dt.str3 {u : Str} (h : Dt K M H (.tuple [.str w, .str u]) v) : ∃ p, v = .ref p ∧ STA K M H p [.str w, .str u] := by
  simp only [Dt, DtL] at h
  obtain ⟨p, xs, rfl, st, _, _, rfl, rfl, _, _, rfl, rfl, rfl⟩ := h
  exact ⟨p, rfl, st⟩
end
theorem not_good {cs : List (Option Int)} {ks : List Int} {s : Int} : decide (V.str (whyF cs ks s) = V.str "good") = false := decide_eq_false fun z => why_ng cs ks s (V.str.inj z)

theorem shaped_good (n : Int) : SeqAt.shaped (.tuple [.str "good", .int n]) = true := by
  simp [SeqAt.shaped, PyData.canLay0, PyData.canLayAll0, PyData.depth, PyData.depthAll]
  decide +kernel
theorem shaped_str (s : Str) (h : PyData.strOk s = true) : SeqAt.shaped (.tuple [.str s]) = true := by
  simp [SeqAt.shaped, PyData.canLay0, PyData.canLayAll0, PyData.depth, PyData.depthAll]
  exact h
theorem nd_int {i j : Int} (h : i = j) : (!decide (V.int i = V.int j)) = false := by rw [h]; simp
theorem nd_int2 {i j : Int} (h : i ≠ j) : (!decide (V.int i = V.int j)) = true := by simp [h]

/-! ## promises: double, and what it calls -/
section
variable (C : Addr) (er : Er → Addr) (K : PySem.W.Frag)
def spPutX : Sp := fun vs H Q E => ∃ (m dx l : Addr) (μ : Mem) (i : Int) (row : List Int) (p : Addr), vs = [.ref m, .int i, .ref p] ∧ MemAt C H m dx l μ ∧ SqE K H p (row.map V.int) ∧ (p ∉ [m, l] ∨ ∀ H', SqE K H' p (row.map V.int)) ∧ 0 ≤ i ∧ i + row.length ≤ μ.cells.length ∧ μ.cells.length ≤ 400 ∧ (∀ n ∈ row, 0 ≤ n ∧ n ≤ 9972) ∧
  (μ.up = true → ranX C m dx l μ (putW μ.cells i.toNat row) H (Q (.int ((putW μ.cells i.toNat row).length : Int))) (E (.ref (er .stopped)) none)) ∧ (μ.up = false → row ≠ [] → E (.ref (er .stopped)) none H) ∧ (row = [] → Q (.int 0) H)
def spBooked : Sp := fun vs H Q _ => ∃ (M : List Addr) (m dx l : Addr) (μ : Mem), vs = [.ref m] ∧ (∀ a ∈ M, ∃ o, H a = some o) ∧ MemAt C H m dx l μ ∧ μ.up = true ∧ μ.cells.length = 54 ∧
  ∀ v H', Fr [] H H' → Dt K M H' (recD (bookedO μ.cells)) v → Q v H'
def spOpenX : Sp := fun vs H Q E => ∃ (m dx l : Addr) (μ : Mem) (s : Int), vs = [.ref m, .int s] ∧ MemAt C H m dx l μ ∧ μ.up = true ∧ μ.cells.length = 54 ∧ (s = 0 ∨ s = 1) ∧ ranX C m dx l μ (openW s μ.cells) H (Q .non) (E (.ref (er .stopped)) none)
def spCloseX : Sp := fun vs H Q E => ∃ (m dx l : Addr) (μ : Mem) (s : Int) (hd : List Int) (p : Addr), vs = [.ref m, .int s, .ref p] ∧ MemAt C H m dx l μ ∧ μ.up = true ∧ μ.cells.length = 54 ∧ (s = 0 ∨ s = 1) ∧ SqE K H p (hd.map V.int) ∧ (p ∉ [m, l] ∨ ∀ H', SqE K H' p (hd.map V.int)) ∧ hd.length = 6 ∧ (∀ n ∈ hd, 0 ≤ n ∧ n ≤ 9972) ∧
  ranX C m dx l μ (closeW s hd μ.cells) H (Q .non) (E (.ref (er .stopped)) none)
def spDoubleX : Sp := fun vs H Q E => ∃ (M : List Addr) (m dx l : Addr) (μ : Mem) (ks : List Int) (v : V), vs = [.ref m, v] ∧ (∀ a ∈ M, ∃ o, H a = some o) ∧ m ∈ M ∧ l ∈ M ∧ MemAt C H m dx l μ ∧ μ.up = true ∧ μ.cells.length = 54 ∧ bnd μ.cells ∧ bookOk μ.cells ∧ Dt K M H (keysD ks) v ∧ gk ks ∧
  ranX C m dx l μ (doubleW ks μ.cells) H (fun H1 => ∀ u H2, Fr [] H1 H2 → Dt K M H2 (doubleD ks μ.cells) u → Q u H2) (E (.ref (er .stopped)) none)
end
section
variable {C : Addr} {er : Er → Addr} {K : PySem.W.Frag} {M : List Addr} {H H' : Hp} {m dx l p : Addr} {μ : Mem} {row : List Int}
theorem Dt.rec (r : Rec) {v : V} (h : Dt K M H (recD r) v) : ∃ p, v = .ref p ∧ STA K M H p [.int r.1, .int r.2.1, .int r.2.2] := by
  simp only [recD, Dt, DtL] at h
  obtain ⟨p, xs, rfl, st, _, _, rfl, rfl, _, _, rfl, rfl, _, _, rfl, rfl, rfl⟩ := h
  exact ⟨p, rfl, st⟩
/-- a row that stays while a memory is written -/
theorem rowStays (h : p ∉ [m, l] ∨ ∀ H', SqE K H' p (row.map V.int)) (s : SqE K H p (row.map V.int)) (f : Fr [m, l] H H') : SqE K H' p (row.map V.int) := by
  rcases h with h | h
  · rcases s with s | s
    · exact .inl (f.sl h s)
    · exact .inr (f.st h s)
  · exact h H'
end

section
variable {C m dx l : Addr} {μ : Mem} {ws1 ws2 r : List Wr} {H H1 : Hp} {Q Q2 S : Hp → Prop}
theorem ranX_mid (k : ranX C m dx l μ (ws1 ++ (ws2 ++ r)) H Q S) (hok : (Mem.run ws1 μ).2 = true) (f : Fr [m, l] H H1) (next : ∀ H2, Fr [m, l] H1 H2 → MemAt C H2 m dx l (Mem.run (ws1 ++ ws2) μ).1 → (Mem.run (ws1 ++ ws2) μ).2 = true → Q2 H2) : ranX C m dx l (Mem.run ws1 μ).1 ws2 H1 Q2 S := by
  have k1 : ranX C m dx l (Mem.run ws1 μ).1 (ws2 ++ r) H1 Q S := fun H' g hM => by
    rw [← run_ok hok] at hM ⊢
    exact k H' (f.trans g) hM
  intro H2 g hM
  refine ⟨fun hw => next H2 g (by rw [run_ok hok]; exact hM) (by rw [run_ok hok]; exact hw), fun hw => ?_⟩
  have := k1 H2 g (by rw [run_no hw]; exact hM)
  exact this.2 (by rw [run_no hw]; exact hw)
end
theorem scal_ov (c : Option Int) (n : Int) : scal (ov c) (.int n) = true := by cases c <;> rfl
theorem ov_ne {c : Option Int} {n : Int} : (!decide (ov c = V.int n)) = !decide (c = some n) := by
  cases c with
  | none => simp [ov]
  | some x => simp [ov]
theorem ov_eqI {c : Option Int} {n : Int} : decide (ov c = V.int n) = decide (c = some n) := by
  cases c with
  | none => simp [ov]
  | some x => simp [ov]

theorem doubleNo {t st lf : Int} {cs : List (Option Int)} {ks : List Int} (h : st = 1 ∨ whyF cs ks t ≠ "") : doubleOk (t, st, lf) cs ks = false := by
  unfold doubleOk
  rcases h with h | h
  · simp [h]
  · simp [h]
theorem doubleYes {t st lf : Int} {cs : List (Option Int)} {ks : List Int} (h : st ≠ 1) (h2 : whyF cs ks t = "") : doubleOk (t, st, lf) cs ks = true := by
  unfold doubleOk
  simp [h, h2]
theorem judged_good {cs : List (Option Int)} {ks : List Int} {s : Int} (hs : s = 0 ∨ s = 1) (h : whyF cs ks s = "") : ∃ v, headL cs s = (some 1 :: some v :: (headL cs s).drop 2) ∧ judgedD cs ks s = .tuple [.str "good", .int v] := by
  obtain ⟨v, many, one, two, n, sl, e, -⟩ := good_inv h
  refine ⟨v, by rw [e]; rfl, ?_⟩
  unfold judgedD
  have e1 := head_get (cs := cs) hs 1 (by decide)
  rw [e] at e1
  rw [if_pos h, show slotB s + 1 = slotB s + ((1 : Nat) : Int) from rfl, e1]; rfl
theorem strOk_why (cs : List (Option Int)) (ks : List Int) (s : Int) : PyData.strOk (whyF cs ks s) = true := by
  unfold whyF
  split
  · unfold whyH
    repeat' split
    all_goals decide +kernel
  · decide +kernel
theorem judged_shaped (cs : List (Option Int)) (ks : List Int) {s : Int} (hs : s = 0 ∨ s = 1) : SeqAt.shaped (judgedD cs ks s) = true := by
  by_cases h : whyF cs ks s = ""
  · obtain ⟨v, -, e⟩ := judged_good hs h
    rw [e]; exact shaped_good v
  · rw [judged_bad h]; exact shaped_str _ (strOk_why _ _ _)
/-- the parts of a good picture are whole -/
theorem good_parts {cs : List (Option Int)} {ks : List Int} {s : Int} (hl : cs.length = 54) (hs : s = 0 ∨ s = 1) (h : whyF cs ks s = "") : ∃ (v many one two n sl : Int) (ns : List Int), headL cs s = [some 1, some v, some many, some one, some two, some n, some sl] ∧ 1 ≤ many ∧ many ≤ 12 ∧ partsL cs s many = ns.map some ∧ ns.length = many.toNat ∧ sumsF ns = (one, two) ∧ floorO cs 2 ≤ n ∧ n < ks.length ∧
    sealF (ks.getD n.toNat 0) [v, many, one, two, n] = sl ∧ floorO cs 0 ≤ v := by
  obtain ⟨v, many, one, two, n, sl, e, h1, h2, h3, h4, h5, h6, h7⟩ := good_inv h
  have hb := slotB_b hs
  cases ha : allI (partsL cs s many) with
  | none => rw [ha] at h3; cases h3
  | some ns =>
    rw [ha] at h3
    have hp := allI_inv ha
    refine ⟨v, many, one, two, n, sl, ns, e, h1, h2, hp, ?_, Option.some.inj h3, h4, h5, h6, h7⟩
    have : (partsL cs s many).length = many.toNat := by unfold partsL; rw [List.length_take, List.length_drop]; omega
    rw [hp, List.length_map] at this; exact this
theorem whole_map (ns : List Int) : wholeF (ns.map some) = ns := by unfold wholeF; rw [List.map_map]; exact List.map_id' ns
theorem headL_b {cs : List (Option Int)} (h : bnd cs) {s n : Int} (hn : some n ∈ headL cs s) : 0 ≤ n ∧ n ≤ 9972 := h n (List.mem_of_mem_drop (List.mem_of_mem_take hn))
theorem partsL_b {cs : List (Option Int)} (h : bnd cs) {s many n : Int} (hn : some n ∈ partsL cs s many) : 0 ≤ n ∧ n ≤ 9972 := h n (List.mem_of_mem_drop (List.mem_of_mem_take hn))

theorem atI_head {xs : List (Option Int)} {i : Nat} {n : Int} (h : xs[i]? = some (some n)) : atI (xs.map ov) (i : Int) = some (.int n) := atI_int (by omega) (by rw [List.getElem?_map, Int.toNat_natCast, h]; rfl)
section
variable {K : PySem.W.Frag} {M : List Addr} {H H' : Hp} {B : Bs} {L : List (Addr × HO)} {Ds : List (PyData × V)} {C m dx l : Addr} {μ : Mem}
/-- a memory that stands nowhere in L is written -/
theorem Sy.awayM {HB : Hp} (S : Sy K ⟨HB, [m, l]⟩ M H L Ds) (f : Fr [m, l] H H') (hM : MemAt C H' m dx l μ) (h1 : m ∈ M) (h2 : l ∈ M) (n1 : m ∉ L.map (·.1)) (n2 : l ∉ L.map (·.1)) : Sy K ⟨HB, [m, l]⟩ M H' L Ds := by
  refine S.away f (fun a ha => ?_) (fun a ha => ?_) (fun a ha => ?_) <;> simp only [List.mem_cons, List.not_mem_nil, or_false] at ha <;> rcases ha with rfl | rfl
  · exact ⟨h1, .inl (by simp)⟩
  · exact ⟨h2, .inl (by simp)⟩
  · exact n1
  · exact n2
  · exact ⟨_, hM.1⟩
  · exact ⟨_, hM.2.1⟩
end

theorem x_ifC {c : TT} {ts tu : TS} {D : Ends} {σ : L2.St} {H : Hp} (C : Bool → Hp → Prop) (h : ∀ Q' : Bool → Hp → Prop, (∀ b H', C b H' → Q' b H') → c σ H Q') (k : ∀ b H', C b H' → if b = true then ts D σ H' else tu D σ H') : tIfS c ts tu D σ H := h _ k
theorem partsL_out {ws : List Wr} {cs : List (Option Int)} {s n : Int} (hs : s = 0 ∨ s = 1) (h : ∀ p ∈ ws, p.1 < (slotB s).toNat + 7 ∨ (slotB s).toNat + 19 ≤ p.1) (hn : n ≤ 12) : partsL (applyW ws cs) s n = partsL cs s n := by
  have hb := slotB_b hs
  unfold partsL
  refine row_ext fun k h1 h2 => applyW_out fun p hp => ?_
  have := h p hp
  omega
theorem headL_out {ws : List Wr} {cs : List (Option Int)} {s : Int} (hs : s = 0 ∨ s = 1) (h : ∀ p ∈ ws, p.1 < (slotB s).toNat ∨ (slotB s).toNat + 7 ≤ p.1) : headL (applyW ws cs) s = headL cs s := by
  have hb := slotB_b hs
  unfold headL
  refine row_ext fun k h1 h2 => applyW_out fun p hp => ?_
  have := h p hp
  omega
theorem openW_at {s : Int} {cs : List (Option Int)} : ∀ p ∈ openW s cs, p.1 = (slotB s).toNat ∧ p.2 = 0 := by
  intro p hp
  unfold openW at hp
  split at hp
  · rw [List.mem_singleton.mp hp]; exact ⟨rfl, rfl⟩
  · cases hp
theorem other_slot {t : Int} (h : t = 0 ∨ t = 1) : (1 - t = 0 ∨ 1 - t = 1) ∧ ((slotB t).toNat = 16 ∧ (slotB (1 - t)).toNat = 35 ∨ (slotB t).toNat = 35 ∧ (slotB (1 - t)).toNat = 16) := by
  rcases h with rfl | rfl
  · exact ⟨.inr rfl, .inl ⟨rfl, rfl⟩⟩
  · exact ⟨.inl rfl, .inr ⟨rfl, rfl⟩⟩

/-! ## promises: the laws' own doubling -/
section
variable (K : PySem.W.Frag)
def spLPutS : Sp := fun vs H Q _ => ∃ (M : List Addr) (d c g : Addr) (cs : List (Option Int)) (ws0 : List Wr) (i w : Int), vs = [.ref d, .int i, .int w] ∧ (∀ a ∈ M, ∃ o, H a = some o) ∧ LogAt K M H d c g cs ws0 ∧ 0 ≤ i ∧ i < cs.length ∧ ws0.length ≤ 900 ∧ logX K M d c g cs ws0 [(i.toNat, w)] H (Q .non)
def spLLay : Sp := fun vs H Q _ => ∃ (M : List Addr) (d c g : Addr) (cs : List (Option Int)) (ws0 : List Wr) (i : Int) (row : List Int) (p : Addr), vs = [.ref d, .int i, .ref p] ∧ (∀ a ∈ M, ∃ o, H a = some o) ∧ LogAt K M H d c g cs ws0 ∧ SqE K H p (row.map V.int) ∧ (p ∉ [c, g] ∨ ∀ H', SqE K H' p (row.map V.int)) ∧ 0 ≤ i ∧ i + row.length ≤ cs.length ∧ row.length ≤ 100 ∧ ws0.length ≤ 700 ∧
  logX K M d c g cs ws0 (putW cs i.toNat row) H (Q (.int ((putW cs i.toNat row).length : Int)))
def spLOpen : Sp := fun vs H Q _ => ∃ (M : List Addr) (d c g : Addr) (cs : List (Option Int)) (ws0 : List Wr) (s : Int), vs = [.ref d, .int s] ∧ (∀ a ∈ M, ∃ o, H a = some o) ∧ LogAt K M H d c g cs ws0 ∧ cs.length = 54 ∧ (s = 0 ∨ s = 1) ∧ ws0.length ≤ 700 ∧ logX K M d c g cs ws0 (openW s cs) H (Q .non)
def spLClose : Sp := fun vs H Q _ => ∃ (M : List Addr) (d c g : Addr) (cs : List (Option Int)) (ws0 : List Wr) (s : Int) (hd : List Int) (p : Addr), vs = [.ref d, .int s, .ref p] ∧ (∀ a ∈ M, ∃ o, H a = some o) ∧ LogAt K M H d c g cs ws0 ∧ cs.length = 54 ∧ (s = 0 ∨ s = 1) ∧ SqE K H p (hd.map V.int) ∧ (p ∉ [c, g] ∨ ∀ H', SqE K H' p (hd.map V.int)) ∧ hd.length = 6 ∧ ws0.length ≤ 600 ∧
  logX K M d c g cs ws0 (closeW s hd cs) H (Q .non)
def spLRaiseS : Sp := fun vs H Q _ => ∃ (M : List Addr) (d c g : Addr) (cs : List (Option Int)) (ws0 : List Wr) (i n : Int), vs = [.ref d, .int i, .int n] ∧ (∀ a ∈ M, ∃ o, H a = some o) ∧ LogAt K M H d c g cs ws0 ∧ 0 ≤ i ∧ i + 2 ≤ cs.length ∧ cs.length ≤ 400 ∧ ws0.length ≤ 700 ∧
  logX K M d c g cs ws0 (raiseW cs i.toNat n) H (Q (.bl (needF (cs.getD i.toNat none) (cs.getD (i.toNat + 1) none) n)))
def spLBook : Sp := fun vs H Q _ => ∃ (M : List Addr) (p : Addr) (cs : List (Option Int)), vs = [.ref p] ∧ (∀ a ∈ M, ∃ o, H a = some o) ∧ SqL K H p (cs.map ov) ∧ cs.length = 54 ∧ bnd cs ∧ ∀ v H', Fr [] H H' → Dt K M H' (recD (bookedO cs)) v → Q v H'
def spLDouble : Sp := fun vs H Q _ => ∃ (M : List Addr) (d c g : Addr) (cs : List (Option Int)) (ws0 : List Wr) (ks : List Int) (v : V), vs = [.ref d, v] ∧ (∀ a ∈ M, ∃ o, H a = some o) ∧ LogAt K M H d c g cs ws0 ∧ cs.length = 54 ∧ bnd cs ∧ bookOk cs ∧ Dt K M H (keysD ks) v ∧ gk ks ∧ ws0.length ≤ 300 ∧
  logX K M d c g cs ws0 (doubleW ks cs) H (fun H1 => ∀ u H2, Fr [] H1 H2 → Dt K M H2 (doubleD ks cs) u → Q u H2)
end
section
variable {K : PySem.W.Frag} {M : List Addr} {H H' : Hp} {B : Bs} {L : List (Addr × HO)} {Ds : List (PyData × V)} {d c g p : Addr} {cs : List (Option Int)} {ws : List Wr} {row : List Int}
theorem LogAt.sy (h : LogAt K M H d c g cs ws) (hdom : ∀ a ∈ M, ∃ o, H a = some o) {vs : List V} (hg : H g = some (.lst vs)) : Sy K ⟨H, [c, g]⟩ M H [(d, .dK (kvT (sKV c g))), (c, .lst (cs.map ov)), (g, .lst vs)] [] := by
  refine Sy.start _ _ _ ?_ (by simp [h.dc, h.dg, h.cg]) (fun _ z => nomatch z) hdom ?_
  · intro x hx
    simp only [List.mem_cons, List.not_mem_nil, or_false] at hx
    rcases hx with rfl | rfl | rfl
    · exact h.hd
    · exact h.hc
    · exact hg
  · intro b hb
    simp only [List.mem_cons, List.not_mem_nil, or_false] at hb
    rcases hb with rfl | rfl
    · exact ⟨_, h.hc⟩
    · exact ⟨_, hg⟩
theorem Sy.awayL {HB : Hp} (S : Sy K ⟨HB, [c, g]⟩ M H L Ds) (f : Fr [c, g] H H') (hL : LogAt K M H' d c g cs ws) (n1 : c ∉ L.map (·.1)) (n2 : g ∉ L.map (·.1)) : Sy K ⟨HB, [c, g]⟩ M H' L Ds := by
  obtain ⟨vs, hg, -⟩ := hL.hg
  refine S.away f (fun a ha => ?_) (fun a ha => ?_) (fun a ha => ?_) <;> simp only [List.mem_cons, List.not_mem_nil, or_false] at ha <;> rcases ha with rfl | rfl
  · exact ⟨hL.cm, .inl (by simp)⟩
  · exact ⟨hL.gm, .inl (by simp)⟩
  · exact n1
  · exact n2
  · exact ⟨_, hL.hc⟩
  · exact ⟨_, hg⟩
theorem LogAt.dom (h : LogAt K M H d c g cs ws) (hdom : ∀ a ∈ M, ∃ o, H a = some o) (f : Fr [c, g] H H') (h' : LogAt K M H' d c g cs ws) : ∀ a ∈ M, ∃ o, H' a = some o := fun a ha => by
  obtain ⟨o, e⟩ := hdom a ha
  by_cases z : a ∈ [c, g]
  · simp only [List.mem_cons, List.not_mem_nil, or_false] at z
    rcases z with rfl | rfl
    · exact ⟨_, h'.hc⟩
    · obtain ⟨vs, hg, -⟩ := h'.hg; exact ⟨_, hg⟩
  · exact ⟨o, f a o z e⟩
theorem domL {cs' : List (Option Int)} {ws' : List Wr} (hdom : ∀ a ∈ M, ∃ o, H a = some o) (f : Fr [c, g] H H') (h' : LogAt K M H' d c g cs' ws') : ∀ a ∈ M, ∃ o, H' a = some o := fun a ha => by
  obtain ⟨o, e⟩ := hdom a ha
  by_cases z : a ∈ [c, g]
  · simp only [List.mem_cons, List.not_mem_nil, or_false] at z
    rcases z with rfl | rfl
    · exact ⟨_, h'.hc⟩
    · obtain ⟨vs, hg, -⟩ := h'.hg; exact ⟨_, hg⟩
  · exact ⟨o, f a o z e⟩
theorem LogAt.ne (h : LogAt K M H d c g cs ws) (hp : H p = none) : p ≠ c ∧ p ≠ g ∧ p ≠ d := by
  obtain ⟨vs, hg, -⟩ := h.hg
  exact ⟨fun z => (by rw [z, h.hc] at hp; cases hp), fun z => (by rw [z, hg] at hp; cases hp), fun z => by rw [z, h.hd] at hp; cases hp⟩
end

theorem doubleL_len {cs : List (Option Int)} {ks : List Int} {t : Int} {nsp : List Int} (hcp : copyW cs t = nsp) (hn : nsp.length ≤ 12) : (doubleL ks t cs).length ≤ 30 := by
  unfold doubleL
  split
  · have h1 : (openW (1 - t) cs).length ≤ 1 := by unfold openW; split <;> simp
    have h2 := putW_len (applyW (openW (1 - t) cs) cs) ((slotB (1 - t)).toNat + 7) (copyW cs t)
    have h3 := putW_len (applyW (putW (applyW (openW (1 - t) cs) cs) ((slotB (1 - t)).toNat + 7) (copyW cs t)) (applyW (openW (1 - t) cs) cs)) ((slotB (1 - t)).toNat + 1) (wholeF ((headL cs t).drop 1))
    have h4 : (wholeF ((headL cs t).drop 1)).length ≤ 6 := by
      unfold wholeF headL
      rw [List.length_map, List.length_drop, List.length_take]; omega
    unfold thenW closeW thenW
    simp only [List.length_append, List.length_cons, List.length_nil]
    rw [hcp] at h2 h3 ⊢
    omega
  · simp

/-! ## machines -/
def macF (kb : V) (t : Int) (ru : V) (m : Addr) : List (Str × V) := [("bunch", kb), ("tries", .int t), ("running", ru), ("memory", .ref m)]
abbrev macO (C dx : Addr) (kb : V) (t : Int) (ru : V) (m : Addr) : HO := .ins C dx (macF kb t ru m)
section
variable {kb ru : V} {t : Int} {m : Addr}
theorem macF_bunch : (macF kb t ru m).lookup ("bunch" : Str) = some kb := lk_here
theorem macF_tries : (macF kb t ru m).lookup ("tries" : Str) = some (.int t) := (lk_past (by decide +kernel)).trans lk_here
theorem macF_running : (macF kb t ru m).lookup ("running" : Str) = some ru := (lk_past (by decide +kernel)).trans ((lk_past (by decide +kernel)).trans lk_here)
theorem macF_memory : (macF kb t ru m).lookup ("memory" : Str) = some (.ref m) := (lk_past (by decide +kernel)).trans ((lk_past (by decide +kernel)).trans ((lk_past (by decide +kernel)).trans lk_here))
theorem macF_no {f : Str} (h : (f == "bunch" || f == "tries" || f == "running" || f == "memory") = false) : (macF kb t ru m).lookup f = none := by
  simp only [Bool.or_eq_false_iff] at h
  obtain ⟨⟨⟨h1, h2⟩, h3⟩, h4⟩ := h
  unfold macF
  rw [lk_past h1, lk_past h2, lk_past h3, lk_past h4]; rfl
theorem macF_prun (v : V) : putF ("running" : Str) v (macF kb t ru m) = macF kb t v m := (put_past (by decide +kernel)).trans (congrArg _ ((put_past (by decide +kernel)).trans (congrArg _ put_here)))
theorem macF_new : putF ("memory" : Str) (.ref m) (putF ("running" : Str) .non (putF ("tries" : Str) (.int t) (putF ("bunch" : Str) kb []))) = macF kb t .non m := by
  repeat (first | rw [put_nil] | rw [put_past (by decide +kernel)])
  rfl
end
section
variable {K : PySem.W.Frag} {H : Hp} {Q : VK} {σ : L2.St} {f mm : Str} {a C dx m : Addr} {kb ru : V} {t : Int} {sp : Sp} {dvs : List V} {E : XK} {tt : TA}
theorem n_xbunch (h : H a = some (macO C dx kb t ru m)) (c : Cls K C) (n : NoAttr K C "bunch") (q : Q kb H) : FldO K "bunch" (.ref a) H Q := ⟨a, C, dx, _, _, rfl, h, c, n, macF_bunch, q⟩
theorem n_xtries (h : H a = some (macO C dx kb t ru m)) (c : Cls K C) (n : NoAttr K C "tries") (q : Q (.int t) H) : FldO K "tries" (.ref a) H Q := ⟨a, C, dx, _, _, rfl, h, c, n, macF_tries, q⟩
theorem n_xrunning (h : H a = some (macO C dx kb t ru m)) (c : Cls K C) (n : NoAttr K C "running") (q : Q ru H) : FldO K "running" (.ref a) H Q := ⟨a, C, dx, _, _, rfl, h, c, n, macF_running, q⟩
theorem n_xmemory (h : H a = some (macO C dx kb t ru m)) (c : Cls K C) (n : NoAttr K C "memory") (q : Q (.ref m) H) : FldO K "memory" (.ref a) H Q := ⟨a, C, dx, _, _, rfl, h, c, n, macF_memory, q⟩
theorem n_xmeth (h : H a = some (macO C dx kb t ru m)) (hm : (macF kb t ru m).lookup mm = none) (q : tt σ H fun vs H2 => sp (.ref a :: (vs ++ dvs)) H2 Q E) : MethO C mm sp dvs E tt σ (.ref a) H Q := ⟨a, dx, _, rfl, h, hm, q⟩
end

theorem layW_get {b : Nat} {row : List Int} {cs : List (Option Int)} : ∀ {j : Nat}, b + j ≤ cs.length → ∀ i, (layW b row j cs)[i]? = if b ≤ i ∧ i < b + j then some (some (row.getD (i - b) 0)) else cs[i]?
  | 0, _, i => by rw [layW_zero, if_neg (by omega)]
  | j + 1, hl, i => by
    rw [layW_more]
    by_cases e : i = b + j
    · subst e
      rw [List.getElem?_set_self (by rw [layW_len]; omega), if_pos (by omega), show b + j - b = j by omega]
    · rw [List.getElem?_set_ne (by omega), layW_get (by omega) i]
      by_cases h : b ≤ i ∧ i < b + j
      · rw [if_pos h, if_pos (by omega)]
      · rw [if_neg h, if_neg (by omega)]
theorem layB_get {row : List Int} {cs : List (Option Int)} (hl : cs.length = 54) : ∀ {j : Nat}, j ≤ 19 → ∀ i, (layB row j cs)[i]? = if 16 ≤ i ∧ i < 16 + j then some (some (row.getD (i - 16) 0)) else if 35 ≤ i ∧ i < 35 + j then some (some (row.getD (i - 35) 0)) else cs[i]?
  | 0, _, i => by rw [layB_zero, if_neg (by omega), if_neg (by omega)]
  | j + 1, hj, i => by
    rw [layB_more]
    by_cases e : i = 35 + j
    · subst e
      rw [List.getElem?_set_self (by rw [List.length_set, layB_len]; omega), if_neg (by omega), if_pos (by omega), show 35 + j - 35 = j by omega]
    · rw [List.getElem?_set_ne (by omega)]
      by_cases e2 : i = 16 + j
      · subst e2
        rw [List.getElem?_set_self (by rw [layB_len]; omega), if_pos (by omega), show 16 + j - 16 = j by omega]
      · rw [List.getElem?_set_ne (by omega), layB_get hl (by omega) i]
        by_cases h : 16 ≤ i ∧ i < 16 + j
        · rw [if_pos h, if_pos (by omega)]
        · rw [if_neg h, if_neg (show ¬ (16 ≤ i ∧ i < 16 + (j + 1)) by omega)]
          by_cases h2 : 35 ≤ i ∧ i < 35 + j
          · rw [if_pos h2, if_pos (show 35 ≤ i ∧ i < 35 + (j + 1) by omega)]
          · rw [if_neg h2, if_neg (show ¬ (35 ≤ i ∧ i < 35 + (j + 1)) by omega)]
theorem next_machB (p : Pic) : nextO (machB p) 4 = (0, 1) := by
  have h1 : pageO (machB p) 4 = none := page_zero (.inr rfl)
  have h2 : pageO (machB p) (4 + 6) = none := page_zero (.inr rfl)
  unfold nextO newestO
  rw [h1, h2]
/-- the cells as the factory lays them -/
def facC (ks : List Int) (p : Pic) : List (Option Int) :=
  ((layW 4 (rowF 1 (0, 0, 0)) 6 (layW 35 (slotRow ks p) (slotRow ks p).length (layW 16 (slotRow ks p) (slotRow ks p).length (List.replicate 54 (some 0))))).set 0 (some p.v)).set 2 (some p.n)
theorem fac_is {ks : List Int} {p : Pic} (h : p.cells.length ≤ 12) : facC ks p = machC ks p := by
  have hr := slotRow_len ks p
  have hN : machN p = ((((((((machB p).set 4 (some 0)).set 5 (some ((rowF 1 (0, 0, 0)).getD 1 0))).set 6 (some ((rowF 1 (0, 0, 0)).getD 2 0))).set 7 (some ((rowF 1 (0, 0, 0)).getD 3 0))).set 8 (some ((rowF 1 (0, 0, 0)).getD 4 0))).set 9 (some ((rowF 1 (0, 0, 0)).getD 5 0))).set 4 (some 1)) := by
    unfold machN noteW
    rw [next_machB]; rfl
  unfold facC machC
  generalize slotRow ks p = row at hr
  apply List.ext_getElem?
  intro i
  rw [layB_get (machN_len p) (by omega)]
  have a1 := layW_get (b := 16) (row := row) (cs := List.replicate 54 (some (0 : Int))) (j := row.length) (by rw [List.length_replicate]; omega) i
  have l1 : (layW 16 row row.length (List.replicate 54 (some (0 : Int)))).length = 54 := by rw [layW_len, List.length_replicate]
  generalize layW 16 row row.length (List.replicate 54 (some (0 : Int))) = C1 at a1 l1 ⊢
  have a2 := layW_get (b := 35) (row := row) (cs := C1) (j := row.length) (by omega) i
  have l2 : (layW 35 row row.length C1).length = 54 := by rw [layW_len, l1]
  generalize layW 35 row row.length C1 = C2 at a2 l2 ⊢
  have a3 := layW_get (b := 4) (row := rowF 1 (0, 0, 0)) (cs := C2) (j := 6) (by omega) i
  have l3 : (layW 4 (rowF 1 (0, 0, 0)) 6 C2).length = 54 := by rw [layW_len, l2]
  generalize layW 4 (rowF 1 (0, 0, 0)) 6 C2 = C3 at a3 l3 ⊢
  by_cases hi : i < 16
  · rw [if_neg (by omega), if_neg (by omega), hN]
    rw [if_neg (show ¬ (16 ≤ i ∧ i < 16 + row.length) by omega)] at a1
    rw [if_neg (show ¬ (35 ≤ i ∧ i < 35 + row.length) by omega), a1] at a2
    rw [a2] at a3
    have : i = 0 ∨ i = 1 ∨ i = 2 ∨ i = 3 ∨ i = 4 ∨ i = 5 ∨ i = 6 ∨ i = 7 ∨ i = 8 ∨ i = 9 ∨ i = 10 ∨ i = 11 ∨ i = 12 ∨ i = 13 ∨ i = 14 ∨ i = 15 := by omega
    rcases this with rfl | rfl | rfl | rfl | rfl | rfl | rfl | rfl | rfl | rfl | rfl | rfl | rfl | rfl | rfl | rfl
    · rw [List.getElem?_set_ne (by decide), List.getElem?_set_self (by omega)]; rfl
    · rw [List.getElem?_set_ne (by decide), List.getElem?_set_ne (by decide), a3]; rfl
    · rw [List.getElem?_set_self (by rw [List.length_set]; omega)]; rfl
    all_goals (rw [List.getElem?_set_ne (by decide), List.getElem?_set_ne (by decide), a3]; rfl)
  · rw [if_neg (show ¬ (4 ≤ i ∧ i < 4 + 6) by omega)] at a3
    rw [List.getElem?_set_ne (by omega), List.getElem?_set_ne (by omega), a3, a2, a1, hN]
    rw [List.getElem?_set_ne (by omega), List.getElem?_set_ne (by omega), List.getElem?_set_ne (by omega), List.getElem?_set_ne (by omega), List.getElem?_set_ne (by omega), List.getElem?_set_ne (by omega), List.getElem?_set_ne (by omega)]
    unfold machB
    rw [List.getElem?_set_ne (by omega), List.getElem?_set_ne (by omega)]
    by_cases h1 : 35 ≤ i ∧ i < 35 + row.length
    · rw [if_pos h1, if_neg (show ¬ (16 ≤ i ∧ i < 16 + row.length) by omega), if_pos h1]
    · rw [if_neg h1, if_neg h1]

/-! ## stores; what is promised of a machine -/
abbrev Row := (Int × Int × Int) × List Int
def rowD (r : Row) : PyData := .tuple [tripD r.1, .tuple (r.2.map .int)]
def storeD (st : List Row) : PyData := .list (st.map rowD)
def storesD (ss : List (List Row)) : PyData := .list (ss.map storeD)
def gStore (st : List Row) : Prop := st.length ≤ 40 ∧ ∀ r ∈ st, 1 ≤ r.2.length ∧ r.2.length ≤ 3 ∧ ∀ n ∈ r.2, 0 ≤ n ∧ n ≤ 9972
def gStores (ss : List (List Row)) : Prop := 1 ≤ ss.length ∧ ss.length ≤ 4 ∧ ∀ st ∈ ss, gStore st
def runD : Option (Int × Str) → PyData
  | none => .none
  | some r => .tuple [.int r.1, .str r.2]
section
variable (CM C : Addr) (K : PySem.W.Frag)
def spLaidAt : Sp := fun vs H Q _ => ∃ (M : List Addr) (m dx l : Addr) (μ : Mem) (s : Int) (ks : List Int) (p : Pic) (v u : V), vs = [.ref m, .int s, v, u] ∧ (∀ a ∈ M, ∃ o, H a = some o) ∧ MemAt C H m dx l μ ∧ m ∈ M ∧ l ∈ M ∧ μ.cells.length = 54 ∧ (s = 0 ∨ s = 1) ∧ Dt K M H (keysD ks) v ∧ Dt K M H (picD p) u ∧ gk ks ∧ gp ks p ∧
  ∀ H', Fr [m, l] H H' → MemAt C H' m dx l { μ with cells := layW (slotB s).toNat (slotRow ks p) (slotRow ks p).length μ.cells } → Q .non H'
def spMInit : Sp := fun vs H Q _ => ∃ (M : List Addr) (x dx : Addr) (ks : List Int) (t : Int) (p : Pic) (v u : V), vs = [.ref x, v, .int t, u] ∧ (∀ a ∈ M, ∃ o, H a = some o) ∧ x ∈ M ∧ H x = some (.ins CM dx []) ∧ Dt K M H (keysD ks) v ∧ Dt K M H (picD p) u ∧ gk ks ∧ gp ks p ∧ 1 ≤ t ∧ t ≤ 3 ∧
  ∀ m dm l H', Fr [x] H H' → H m = none → H l = none → H' x = some (macO CM dx v t .non m) → MemAt C H' m dm l (Mem.of (machC ks p)) → Q .non H'
/-- what is asked of a machine that is down -/
def spMDown : Sp := fun vs H Q _ => ∃ (x dx : Addr) (kb : V) (t : Int) (m : Addr), vs = [.ref x] ∧ H x = some (macO CM dx kb t .non m) ∧ ∀ p H', Fr [] H H' → H p = none → H' p = some (.tup [.str "down"]) → Q (.ref p) H'
def spMDownU : Sp := fun vs H Q _ => ∃ (M : List Addr) (x dx : Addr) (kb : V) (t : Int) (m : Addr) (mn : Man) (ss : List (List Row)) (v u : V), vs = [.ref x, v, u] ∧ (∀ a ∈ M, ∃ o, H a = some o) ∧ H x = some (macO CM dx kb t .non m) ∧ Dt K M H (manD mn) v ∧ gman mn ∧ Dt K M H (storesD ss) u ∧ gStores ss ∧ ∀ p H', Fr [] H H' → H p = none → H' p = some (.tup [.str "down"]) → Q (.ref p) H'
def spMRuns : Sp := fun vs H Q _ => ∃ (x dx : Addr) (kb : V) (t : Int) (ru : V) (m : Addr), vs = [.ref x] ∧ H x = some (macO CM dx kb t ru m) ∧ Q ru H
def spMBook : Sp := fun vs H Q _ => ∃ (M : List Addr) (x dx : Addr) (kb : V) (t : Int) (ru : V) (m dm l : Addr) (μ : Mem), vs = [.ref x] ∧ (∀ a ∈ M, ∃ o, H a = some o) ∧ H x = some (macO CM dx kb t ru m) ∧ MemAt C H m dm l μ ∧ μ.up = true ∧ μ.cells.length = 54 ∧ ∀ v H', Fr [] H H' → Dt K M H' (recD (bookedO μ.cells)) v → Q v H'
def floorsD (cs : List (Option Int)) : PyData := .tuple [od (countF (cs.getD 0 none) (cs.getD 1 none)), od (countF (cs.getD 2 none) (cs.getD 3 none))]
def spMFloors : Sp := fun vs H Q _ => ∃ (M : List Addr) (x dx : Addr) (kb : V) (t : Int) (ru : V) (m dm l : Addr) (μ : Mem), vs = [.ref x] ∧ (∀ a ∈ M, ∃ o, H a = some o) ∧ H x = some (macO CM dx kb t ru m) ∧ MemAt C H m dm l μ ∧ μ.up = true ∧ μ.cells.length = 54 ∧ ∀ v H', Fr [] H H' → Dt K M H' (floorsD μ.cells) v → Q v H'
def spMSlots : Sp := fun vs H Q _ => ∃ (M : List Addr) (x dx : Addr) (kb : V) (t : Int) (ru : V) (m dm l : Addr) (μ : Mem) (ks : List Int), vs = [.ref x] ∧ (∀ a ∈ M, ∃ o, H a = some o) ∧ H x = some (macO CM dx kb t ru m) ∧ MemAt C H m dm l μ ∧ μ.up = true ∧ μ.cells.length = 54 ∧ bnd μ.cells ∧ Dt K M H (keysD ks) kb ∧ gk ks ∧
  ∀ p u0 u1 H', Fr [] H H' → H p = none → H' p = some (.lst [u0, u1]) → Dt K (p :: M) H' (judgedD μ.cells ks 0) u0 → Dt K (p :: M) H' (judgedD μ.cells ks 1) u1 → Q (.ref p) H'
def spMCells : Sp := fun vs H Q _ => ∃ (x dx : Addr) (kb : V) (t : Int) (ru : V) (m dm l : Addr) (μ : Mem), vs = [.ref x] ∧ H x = some (macO CM dx kb t ru m) ∧ MemAt C H m dm l μ ∧ ∀ p H', Fr [] H H' → H p = none → H' p = some (.lst (μ.cells.map ov)) → Q (.ref p) H'
def spMWrites : Sp := fun vs H Q _ => ∃ (x dx : Addr) (kb : V) (t : Int) (ru : V) (m dm l : Addr) (μ : Mem), vs = [.ref x] ∧ H x = some (macO CM dx kb t ru m) ∧ MemAt C H m dm l μ ∧ Q (.int μ.many) H
end

def facS (row : List Int) : Nat → List (Option Int)
  | 0 => List.replicate 54 (some 0)
  | j + 1 => layW (if j = 0 then 16 else 35) row row.length (facS row j)
theorem facS_len (row : List Int) : ∀ j, (facS row j).length = 54
  | 0 => List.length_replicate
  | j + 1 => by show (layW _ row row.length (facS row j)).length = 54; rw [layW_len]; exact facS_len row j
theorem facS_two (row : List Int) : facS row 2 = layW 35 row row.length (layW 16 row row.length (List.replicate 54 (some 0))) := rfl
theorem slotB_nat {j : Nat} (h : j < 2) : (slotB (0 + (j : Int))).toNat = if j = 0 then 16 else 35 := by
  have : j = 0 ∨ j = 1 := by omega
  rcases this with rfl | rfl <;> rfl

theorem use_minit {K : PySem.W.Frag} {M : List Addr} {H : Hp} {H0 : Bs} {L : List (Addr × HO)} {Ds : List (PyData × V)} {Q : VK} {E : XK} {CM C : Addr} {ks : List Int} {t : Int} {p : Pic} {v u : V} (S : Sy K H0 M H L Ds) (i j : Nat) (hi : Ds[i]? = some (keysD ks, v)) (hj : Ds[j]? = some (picD p, u)) (gg : gk ks) (hp : gp ks p) (t1 : 1 ≤ t) (t2 : t ≤ 3)
    (q : ∀ x dx m dm l H', Sy K H0 (l :: m :: x :: M) H' ((((L ++ [(x, macO CM dx v t .non m)]) ++ [(m, memO C dm l (Mem.of (machC ks p)))])) ++ [(l, cellsO (Mem.of (machC ks p)))]) Ds → H0 x = none → H0 m = none → H0 l = none → m ≠ l → x ≠ m → x ≠ l → Q (.ref x) H') : MakeO CM (spMInit CM C K) [v, .int t, u] E H Q := by
  intro x dx hx hdx hne
  have S1 := S.ex (Fr.new (o := .own x) hdx)
  have hx1 : (upd H dx (.own x)) x = none := by rw [upd_ne hne.symm]; exact hx
  have S2 := S1.newM (o := .ins CM dx []) hx1
  refine ⟨x :: M, x, dx, ks, t, p, v, u, rfl, S2.dom, by simp, upd_same, S2.d i hi, S2.d j hj, gg, hp, t1, t2, fun m dm l H' f hm hl ex hM => ⟨rfl, ?_⟩⟩
  have mx : m ≠ x := fun z => by rw [z, upd_same] at hm; cases hm
  have lx : l ≠ x := fun z => by rw [z, upd_same] at hl; cases hl
  have S3 := S2.put (H' := fun b => if b = x then H' x else (upd (upd H dx (.own x)) x (.ins CM dx [])) b) (a := x) (o := .ins CM dx []) (o' := macO CM dx v t .non m) L.length (by simp) ⟨List.mem_cons_self .., .inr (S.free hx)⟩ (fun b u n e => by
    show (if b = x then _ else _) = _
    rw [if_neg (by simpa using n)]; exact e) (by
    show (if x = x then _ else _) = _
    rw [if_pos rfl]; exact ex)
  rw [show (L ++ [(x, HO.ins CM dx [])]).set L.length (x, macO CM dx v t .non m) = L ++ [(x, macO CM dx v t .non m)] by simp] at S3
  have hm3 : (fun b => if b = x then H' x else (upd (upd H dx (.own x)) x (.ins CM dx [])) b) m = none := by
    show (if m = x then _ else _) = _
    rw [if_neg mx]; exact hm
  have hl3 : (fun b => if b = x then H' x else (upd (upd H dx (.own x)) x (.ins CM dx [])) b) l = none := by
    show (if l = x then _ else _) = _
    rw [if_neg lx]; exact hl
  have S4 := S3.exMem (H' := H') (C := C) (m := m) (dx := dm) (l := l) (μ := Mem.of (machC ks p)) (fun b u _ e => by
    have e : (if b = x then H' x else (upd (upd H dx (.own x)) x (.ins CM dx [])) b) = some u := e
    by_cases hb : b = x
    · rw [if_pos hb] at e; rw [hb]; exact e
    · rw [if_neg hb] at e; exact f b u (by simpa using hb) e) hm3 hl3 hM
  exact q x dx m dm l H' S4 (S.free hx) (S3.free hm3) (S3.free hl3) hM.2.2 mx.symm lx.symm

theorem Sy.exN2 {K : PySem.W.Frag} {M : List Addr} {H H' : Hp} {H0 : Bs} {L : List (Addr × HO)} {Ds : List (PyData × V)} {d c : Addr} {o o2 : HO} (S : Sy K H0 M H L Ds) (f : Fr [] H H') (hd : H d = none) (hc : H c = none) (hdc : d ≠ c) (ed : H' d = some o) (ec : H' c = some o2) : Sy K H0 M H' ((L ++ [(d, o)]) ++ [(c, o2)]) Ds :=
  (S.new (o := o) hd).exN (fun b u _ e => by
    by_cases hb : b = d
    · subst hb; rw [upd_same] at e; rw [ed]; exact e
    · rw [upd_ne hb] at e; exact f b u (fun z => nomatch z) e) (by rw [upd_ne hdc.symm]; exact hc) ec
theorem gStores_nil : gStores [[]] := ⟨by decide, by decide, fun st h => by rw [List.mem_singleton.mp h]; exact ⟨by decide, fun r h => nomatch h⟩⟩
def downsD : PyData := .list [.tuple [.str "down"], .tuple [.str "down"], .tuple [.str "down"]]

theorem mach_newest {ks : List Int} {p : Pic} : ∃ x, newestO (machC ks p) 4 = some x ∧ x.2.2 = (0, 0, 0) := by
  have hN : newestO (machN p) 4 = some ((nextO (machB p) 4).1, (nextO (machB p) 4).2, ((0 : Int), (0 : Int), (0 : Int))) := note_whole (by rw [machB_len]; decide) (by rw [next_machB]; decide)
  have e : newestO (machC ks p) 4 = newestO (machN p) 4 := by
    unfold newestO
    rw [page_same (cs := machN p) (cs' := machC ks p) (j := 4) fun k h1 h2 => layB_low (by omega) _, page_same (cs := machN p) (cs' := machC ks p) (j := 4 + 6) fun k h1 h2 => layB_low (by omega) _]
  exact ⟨_, e.trans hN, rfl⟩
theorem mach_book {ks : List Int} {p : Pic} : bookedO (machC ks p) = (0, 0, 0) := by
  have hN : newestO (machN p) 4 = some ((nextO (machB p) 4).1, (nextO (machB p) 4).2, ((0 : Int), (0 : Int), (0 : Int))) := note_whole (by rw [machB_len]; decide) (by rw [next_machB]; decide)
  have e : newestO (machC ks p) 4 = newestO (machN p) 4 := by
    unfold newestO
    rw [page_same (cs := machN p) (cs' := machC ks p) (j := 4) fun k h1 h2 => layB_low (by omega) _, page_same (cs := machN p) (cs' := machC ks p) (j := 4 + 6) fun k h1 h2 => layB_low (by omega) _]
  unfold bookedO recordO
  rw [e, hN]; rfl
theorem mach_floors {ks : List Int} {p : Pic} (h0 : 0 ≤ p.v) (h1 : 0 ≤ p.n) : floorsD (machC ks p) = .tuple [.int p.v, .int p.n] := by
  obtain ⟨l0, l1, l2, l3⟩ := machC_low (ks := ks) (p := p)
  unfold floorsD
  rw [getD_of l0, getD_of l1, getD_of l2, getD_of l3]
  simp only [countF, od]
  rw [show max p.v 0 = p.v by omega, show max p.n 0 = p.n by omega]
theorem mach_judged {ks : List Int} {p : Pic} (gg : gk ks) (hp : gp ks p) {s : Int} (hs : s = 0 ∨ s = 1) : judgedD (machC ks p) ks s = .tuple [.str "good", .int p.v] := by
  obtain ⟨_, _, hlow, h0, h1⟩ := machC_all gg hp
  rcases hs with rfl | rfl
  · exact (slot_good gg hp (.inl rfl) hlow h0).2
  · exact (slot_good gg hp (.inr rfl) hlow h1).2
theorem dtl_od {K : PySem.W.Frag} {M : List Addr} {H : Hp} : ∀ cs : List (Option Int), DtL K M H (cs.map od) (cs.map ov)
  | [] => DtL.nil'
  | c :: cs => DtL.cons' (dt_od c) (dtl_od cs)
def facD (cs : List (Option Int)) (v n : Int) : PyData := .list [.list (cs.map od), .int 0, .tuple [.int 0, .int 0, .int 0], .tuple [.int v, .int n], .list [.tuple [.str "good", .int v], .tuple [.str "good", .int v]]]
theorem ok_od : ∀ cs : List (Option Int), okD.okDL (cs.map od) = true
  | [] => rfl
  | c :: cs => by
    have := ok_od cs
    cases c <;> simp [okD.okDL, okD, od, this]
theorem facD_dep (cs : List (Option Int)) (v n : Int) : (facD cs v n).depth ≤ 4 := by
  have := dep_od cs
  simp [facD, PyData.depth, PyData.depthAll, this]
theorem facD_ok {cs : List (Option Int)} (h : cs.length ≤ 100000) (v n : Int) : okD (facD cs v n) = true := by
  have := ok_od cs
  simp [facD, okD, okD.okDL, this, h]

section
variable {K : PySem.W.Frag} {M : List Addr} {H H' : Hp} {H0 : Bs} {L : List (Addr × HO)} {Ds : List (PyData × V)} {Q : VK} {σ : L2.St} {te : TE} {j : Nat}
theorem lcW_zipM {J : It} {n : Nat} {G : Hp → Prop} {y : Nat → V → Prop} (w : Walk J n G (fun i H x H' => H' = H ∧ y i x)) (S : Sy K H0 M H L Ds) (hG : ∀ (D : Addr) (H' : Hp), H D = none → Fr [] H H' → G H') (hn : n ≤ 100000) (g : Nat → PyData)
    (hte : ∀ (i : Nat) (x : V) (D : Addr) (acc : List V) (Ds' : List (PyData × V)) (H' : Hp) (Q' : VK), i < n → y i x → H D = none → Sy K (b0 H) (D :: M) H' (L ++ [(D, .lst acc)]) (Ds ++ Ds') →
      (∀ (u : V) (H'' : Hp), Sy K (b0 H) (D :: M) H'' (L ++ [(D, .lst acc)]) (Ds ++ Ds') → Dt K (D :: M) H'' (g i) u → Q' u H'') → te ((σ.set j none).set j (some x)) H' Q')
    (k : ∀ D H' vs, H D = none → vs.length = n → Sy K H0 (D :: M) H' (L ++ [(D, .lst vs)]) (Ds ++ ((List.range n).map g).zip vs) → Q (.ref D) H') : LcO (gName j) tYes te [j] σ Q J H := by
  intro D hD
  have DF := hD
  have S1 : Sy K (b0 H) M H L Ds := S.rebase
  refine lc_it w (fun i H' => i ≤ n ∧ ∃ vs : List V, vs.length = i ∧ Sy K (b0 H) (D :: M) H' (L ++ [(D, .lst vs)]) (Ds ++ ((List.range i).map g).zip vs)) ⟨Nat.zero_le _, [], rfl, by rw [List.range_zero, List.map_nil, List.zip_nil_left, List.append_nil]; exact S1.newM hD⟩ (fun i H' _ S' => by
    obtain ⟨_, vs, _, T⟩ := S'
    exact hG D H' hD T.fr) ?_ ?_
  · rintro i x H2 H' hi ⟨_, vs, hl, T⟩ ⟨rfl, hy⟩
    refine ⟨wipe_one _, ?_⟩
    refine hte i x D vs _ H' _ hi hy hD T fun u H'' T2 hu => ?_
    have gD : (L ++ [(D, HO.lst vs)])[L.length]? = some (D, .lst vs) := by simp
    refine ⟨vs, T2.get L.length gD, szl (by omega), by omega, vs ++ [u], by simp [hl], ?_⟩
    have T3 := (T2.addD hu).set (o' := .lst (vs ++ [u])) L.length gD ⟨List.mem_cons_self .., .inr DF⟩
    rw [show (L ++ [(D, HO.lst vs)]).set L.length (D, .lst (vs ++ [u])) = L ++ [(D, .lst (vs ++ [u]))] by simp] at T3
    rw [List.range_succ, List.map_append, List.map_singleton, zip_more (by simp [hl]), ← List.append_assoc]
    exact T3
  · rintro H' ⟨_, vs, hl, T⟩
    exact k D H' vs hD hl (S.over T)
end
theorem n_clear {K : PySem.W.Frag} {M : List Addr} {H : Hp} {H0 : Bs} {L : List (Addr × HO)} {Ds : List (PyData × V)} {Q : VK} {p : Addr} {xs : List V} (S : Sy K H0 M H L Ds) (i : Nat) (h : L[i]? = some (p, .lst xs)) (m : p ∈ M ∧ H0.may p) (q : ∀ H', Sy K H0 M H' (L.set i (p, .lst [])) Ds → Q .non H') : rClear (.ref p) [] H Q := ⟨p, xs, rfl, rfl, S.get i h, q _ (S.set i h m)⟩

theorem x_bm0 {K : PySem.W.Frag} {T : String} {r : V → List V → Hp → VK → Prop} {te : TE} {σ : L2.St} {H : Hp} {Q : VK} (q : te σ H fun x H1 => tyV K T x H1 ∧ r x [] H1 Q) : tBM0 K T r te σ H Q := q

/-! ## defs with lambdas: the code object, its table -/
structure FunC (K : PySem.W.Frag) (x qual : Str) (st : Stmt) (f : Addr) (fd : FuncData) (c : Addr) : Prop where
  ex : ∃ (oc : Value) (od : Option Addr) (kV doc pm : Value) (an : Option Addr) (ct : Value) (osl : Array (Option Value)),
    fd = PySem.W.fnOf x qual (defArgs st) (defBody st) (defScope st) .none kV doc pm an (.ref c) ct ∧ K.lookup f = some ⟨oc, od, .func fd, osl⟩ ∧ PySem.W.codeIn K (.ref c) qual = true
section
variable {P : Program} {w : World} {K : PySem.W.Frag} {mg : Str → Option Value} {base : Heap}
theorem FunC.ok {x qual : Str} {st : Stmt} {f c : Addr} {fd : FuncData} {N ps : List Str} {k : Nat} {sp : Sp} (F : FunC K x qual st f fd c) (S : FnScope N ps (defScope st)) (len : ∀ vs H Q E, sp vs H Q E → vs.length = ps.length)
    (hbody : ∀ (A : Around) (outer : List Env) (s : Shared) (H : Hp) (vs : List V) (Q : VK) (E : XK), Room k (A.deeper (PyProof.Rows.envOfC qual (defScope st) s.heap.objs.size f (.ref c))) → sp vs H Q E →
      ∃ t, PSs (cxOf CX0 P w K mg base N qual (defScope st) f (.ref c) A outer s H E).nox (defBody st) t ∧ t { nx := fun _ H' => Q .non H', rt := Q } (start N vs) H) : FnOk P w K mg base CX0 (k + 1) f fd ps sp := by
  obtain ⟨oc, od, kV, doc, pm, an, ct, osl, rfl, lk, hcd⟩ := F.ex
  refine fn_of lk hcd S len fun A outer s H vs Q E hr hsp => ?_
  obtain ⟨t, h, q⟩ := hbody A outer s H vs Q E hr hsp
  exact ⟨t, h.nox, q⟩
theorem FunC.okX {x qual : Str} {st : Stmt} {f c : Addr} {fd : FuncData} {N ps : List Str} {k : Nat} {sp : Sp} (F : FunC K x qual st f fd c) (S : FnScope N ps (defScope st)) (len : ∀ vs H Q E, sp vs H Q E → vs.length = ps.length)
    (hbody : ∀ (A : Around) (outer : List Env) (s : Shared) (H : Hp) (vs : List V) (Q : VK) (E : XK), Room k (A.deeper (PyProof.Rows.envOfC qual (defScope st) s.heap.objs.size f (.ref c))) → sp vs H Q E →
      ∃ t, PSs (cxOf (L2.CX P w) P w K mg base N qual (defScope st) f (.ref c) A outer s H E) (defBody st) t ∧ t { nx := fun _ H' => Q .non H', rt := Q } (start N vs) H) : FnOk P w K mg base (L2.CX P w) (k + 1) f fd ps sp := by
  obtain ⟨oc, od, kV, doc, pm, an, ct, osl, rfl, lk, hcd⟩ := F.ex
  exact fn_of lk hcd S len fun A outer s H vs Q E hr hsp => hbody A outer s H vs Q E hr hsp
end
def tabOf (K : PySem.W.Frag) (c : Addr) : Option Addr := match K.lookup c with
  | some o => match o.data with
    | .fields vs => match vs[11]? with
      | some (Value.ref P) => some P
      | _ => none
    | _ => none
  | none => none
theorem tabOf_inv {K : PySem.W.Frag} {c P : Addr} (h : tabOf K c = some P) : ∃ (e : Value) (dd : Option Addr) (vs : Array Value) (sl : Array (Option Value)), K.lookup c = some ⟨e, dd, .fields vs, sl⟩ ∧ vs[11]? = some (.ref P) := by
  unfold tabOf at h
  split at h
  · rename_i o hk
    obtain ⟨e, dd, da, sl⟩ := o
    dsimp only at h
    split at h
    · rename_i vs
      split at h
      · rename_i hv
        cases h
        exact ⟨e, dd, vs, sl, hk, hv⟩
      · cases h
    · cases h
  · cases h
/-- try: return a() / except x: return (ret,) -/
def TTstop (K : PySem.W.Frag) (CS : Addr) (ret : Str) : (XK → Hp → VK → Prop) → Hp → VK → Prop := fun tl H Q =>
  tl (fun cls _ H' => ∃ b, PySem.W.exmOne K cls (.ref CS) = some b ∧ (b = true → ∀ p, H' p = none → Q (.ref p) (upd H' p (.tup [.str ret]))) ∧ (b = false → False)) H Q
open LamX in
theorem stop_gives {X : Cx} {Ng : List Str} {x a e q ret : Str} {sg : Scope} {g CS : Addr} {cdg : Value} {j i : Nat} {p1 p2 p3 p4 p5 p6 p7 p8 p9 : Pos} (hge : sg.names.lookup e = some .globalImplicit) (hme : X.mg e = some (.ref CS)) (hde : (e == ("__debug__" : Str)) = false) (h0 : ∀ f : Addr, (L2.start Ng [V.ref f])[0]? = some (some (V.ref f))) :
    GivesTo X Ng x sg g cdg [.Try [.Return (some (.Call (.Name a p1) [] [] p2)) p3] [.ExceptHandler (some (.Name e p4)) none [.Return (some (.Tuple [.Constant (.str ret) j p5] i p9)) p6] p7] [] [] p8] a q (TTstop X.K CS ret) := by
  intro f c' s H Q tl act hc h
  have hgl : Gl (cxOf L2.CX0 X.prog X.w X.K X.mg X.base Ng x sg g cdg X.A X.stack s H L2.E0).nox e := hge
  refine ⟨_, pss_one (ps_try_only (X := (cxOf L2.CX0 X.prog X.w X.K X.mg X.base Ng x sg g cdg X.A X.stack s H L2.E0).nox) (c := .ref CS)
      (tb := fun W D σ H => ∃ Ech : XK, (∀ cls d σ' H', Ech cls d H' → W cls d σ' H') ∧ σ[0]? = some (some (.ref f)) ∧ H c' = some (CodeO c' q) ∧ tl Ech H D.rt)
      rfl rfl ⟨hgl, hde, .inl hme⟩ LamX.takes0 (fun W pn xe tk _ => ?_) (fun a oe cls d pn _ _ => pss_one (ps_ret (pe_tup (pa_cons pe_str pa_nil))))), ?_⟩
  · refine ⟨fun pins s' σ H' D I h' => ?_⟩
    obtain ⟨Ech, hW, h1, h2, h3⟩ := h'
    have hp := act W pn xe Ech p1 p2 tk hW
    have hq := pss_one (ps_ret (pos := p3) hp)
    exact hq.run pins s' σ H' D I ⟨h1, h2, h3⟩
  · exact ⟨fun cls _ H' => ∃ b, PySem.W.exmOne X.K cls (.ref CS) = some b ∧ (b = true → ∀ p, H' p = none → Q (.ref p) (upd H' p (.tup [.str ret]))) ∧ (b = false → False), fun cls d σ' H' ⟨b, e1, e2, e3⟩ => ⟨b, e1, fun hb a _ => ⟨sz 1, e2 hb⟩, fun hb => e3 hb⟩, h0 f, hc, h⟩

/-! ## cells of a machine, whatever lies in the slots -/
/-- a record stands in the book -/
def bkd (cs : List (Option Int)) : Prop := ∃ x, newestO cs 4 = some x
def bndB (cs : List (Option Int)) : Prop := bnd cs ∧ bookOk cs ∧ pgn 9 cs ∧ bkd cs
theorem newest_set {cs : List (Option Int)} {i : Nat} {w : Option Int} (h : i < 4 ∨ 16 ≤ i) : newestO (cs.set i w) 4 = newestO cs 4 := by
  unfold newestO
  rw [page_same (cs := cs) (cs' := cs.set i w) (j := 4) fun k h1 h2 => List.getElem?_set_ne (by omega), page_same (cs := cs) (cs' := cs.set i w) (j := 4 + 6) fun k h1 h2 => List.getElem?_set_ne (by omega)]
theorem bookOk_set {cs : List (Option Int)} {i : Nat} {w : Option Int} (hb : bookOk cs) (h : i < 4 ∨ 16 ≤ i) : bookOk (cs.set i w) := by
  unfold bookOk bookedO recordO at *
  rw [newest_set h]; exact hb
theorem bndB_set {cs : List (Option Int)} (h : bndB cs) {i : Nat} (hi : i < 4 ∨ 16 ≤ i) {w : Option Int} (hw : ∀ n, w = some n → 0 ≤ n ∧ n ≤ 9972) : bndB (cs.set i w) := ⟨bnd_set h.1 hw, bookOk_set h.2.1 hi, pgn_set h.2.2.1 (by omega) (by omega), h.2.2.2.imp fun x e => by rw [newest_set hi]; exact e⟩
theorem note_bndB {cs : List (Option Int)} {r : Rec} {j : Int} (h : bndB cs) (g : pgn j cs) (h0 : 0 ≤ j) (h1 : j ≤ 8) (hr : okRec r) (hr1 : r.1 = 0 ∨ r.1 = 1) (hl : cs.length = 54) : bndB (applyW (noteW cs 4 r) cs) := by
  refine ⟨note_bnd h.1 g h0 (by omega) hr, ?_, pgn_mono (note_pgn g h0 hl) (by omega), _, note_whole (by omega) (by have := next_nn h.1 4; omega)⟩
  unfold bookOk bookedO recordO
  rw [note_whole (by omega) (by have := next_nn h.1 4; omega)]
  exact hr1
def spLStateB (K : PySem.W.Frag) : Sp := fun vs H Q _ => ∃ (M : List Addr) (r a : Addr) (q : Rho) (ns ks : List Int) (pic : Pic) (v u : V), vs = [.ref r, v, u] ∧ H r = some (rowO a q) ∧ q.ok ∧ SLA K M H a (ns.map V.int) ∧ ns.length ≤ 63 ∧ r ∈ M ∧ (∀ b ∈ M, ∃ o, H b = some o) ∧
  Dt K M H (keysD ks) v ∧ Dt K M H (picD pic) u ∧ gk ks ∧ gp ks pic ∧
  ∀ q' c cs H', q'.ok → Fr [r] H H' → H c = none → H' r = some (rowO a q') → H' c = some (.lst (cs.map ov)) → cs.length = 54 → bndB cs → Q (.ref c) H'

theorem good_mk {cs : List (Option Int)} {ks : List Int} {s v many one two n sl : Int} (h : headL cs s = [some 1, some v, some many, some one, some two, some n, some sl]) (h1 : 1 ≤ many) (h2 : many ≤ 12) (h3 : (allI (partsL cs s many)).map sumsF = some (one, two)) (h4 : floorO cs 2 ≤ n) (h5 : n < ks.length)
    (h6 : sealF (ks.getD n.toNat 0) [v, many, one, two, n] = sl) (h7 : floorO cs 0 ≤ v) : whyF cs ks s = "" := by
  rw [why_some h]
  unfold whyH
  rw [if_neg (by simp), if_neg (fun z => z ⟨h1, h2⟩), if_neg (fun z => z h3), if_neg (fun z => z ⟨h4, h5⟩), if_neg (fun z => z h6), if_neg (by omega)]
theorem closeW_at {s : Int} {hd : List Int} {cs : List (Option Int)} (h6 : hd.length = 6) : ∀ p ∈ closeW s hd cs, (slotB s).toNat ≤ p.1 ∧ p.1 < (slotB s).toNat + 7 := by
  intro p hp
  unfold closeW thenW at hp
  rcases List.mem_append.mp hp with h | h
  · have := putU_mem (j := hd.length) h
    omega
  · rw [List.mem_singleton.mp h]; exact ⟨by simp, by simp⟩
theorem doubleL_at {cs : List (Option Int)} {ks : List Int} {t : Int} {nsp : List Int} (hcp : copyW cs t = nsp) (hn : nsp.length ≤ 12) (h6 : (wholeF ((headL cs t).drop 1)).length = 6) : ∀ p ∈ doubleL ks t cs, (slotB (1 - t)).toNat ≤ p.1 ∧ p.1 < (slotB (1 - t)).toNat + 19 := by
  intro p hp
  unfold doubleL at hp
  split at hp
  · unfold thenW at hp
    rcases List.mem_append.mp hp with h | h
    · have := openW_at p h; omega
    · rcases List.mem_append.mp h with h | h
      · have := putU_mem (j := (copyW cs t).length) h
        rw [hcp] at this
        omega
      · have := closeW_at h6 p h; omega
  · cases hp
theorem raiseW_at {cs : List (Option Int)} {i : Nat} {n : Int} : ∀ p ∈ raiseW cs i n, i ≤ p.1 ∧ p.1 < i + 2 := by
  intro p hp
  unfold raiseW at hp
  split at hp
  · rw [List.mem_singleton.mp hp]
    have : posF (cs.getD i none) (cs.getD (i + 1) none) ≤ 1 := by unfold posF; split <;> omega
    dsimp only; omega
  · cases hp
theorem floor_raise {cs : List (Option Int)} {i : Nat} {n : Int} (hl : i + 2 ≤ cs.length) (h0 : 0 ≤ n) (h : floorO cs i ≤ n) : floorO (applyW (raiseW cs i n) cs) i ≤ n := by
  unfold raiseW
  split
  · rename_i hn
    show floorO (cs.set (i + posF (cs.getD i none) (cs.getD (i + 1) none)) (some n)) i ≤ n
    unfold floorO at h ⊢
    generalize ha : cs.getD i none = a at *
    generalize hb : cs.getD (i + 1) none = b at *
    have hp : posF a b = 0 ∨ posF a b = 1 := by unfold posF; split <;> omega
    rcases hp with hp | hp
    · rw [hp, Nat.add_zero, getD_setS (by omega), getD_setN (by omega), hb]
      cases b with
      | none => simp [countF]
      | some y =>
        cases a with
        | none => simp [countF] at h ⊢; omega
        | some x => simp [countF] at h ⊢; omega
    · rw [hp, getD_setN (by omega), getD_setS (by omega), ha]
      cases a with
      | none => simp [countF]
      | some x =>
        cases b with
        | none => simp [countF] at h ⊢; omega
        | some y => simp [countF] at h ⊢; omega
  · exact h
theorem floor_out {cs : List (Option Int)} {ws : List Wr} {i : Nat} (h : ∀ p ∈ ws, p.1 ≠ i ∧ p.1 ≠ i + 1) : floorO (applyW ws cs) i = floorO cs i := by
  unfold floorO
  rw [applyW_outD fun p hp => (h p hp).1, applyW_outD fun p hp => (h p hp).2]
theorem booked_out {cs : List (Option Int)} {ws : List Wr} (h : ∀ p ∈ ws, p.1 < 4 ∨ 16 ≤ p.1) : bookedO (applyW ws cs) = bookedO cs := by
  have e : newestO (applyW ws cs) 4 = newestO cs 4 := by
    unfold newestO
    rw [page_same (cs := cs) (cs' := applyW ws cs) (j := 4) fun k h1 h2 => applyW_out fun p hp => by have := h p hp; omega, page_same (cs := cs) (cs' := applyW ws cs) (j := 4 + 6) fun k h1 h2 => applyW_out fun p hp => by have := h p hp; omega]
  unfold bookedO recordO
  rw [e]
/-- what lies in the other slot behind the laying -/
theorem laid_there {cs : List (Option Int)} {t v many one two n sl : Int} {nsp : List Int} (hl : cs.length = 54) (ht : t = 0 ∨ t = 1) (m1 : 1 ≤ many) (m2 : many ≤ 12) (hpl : nsp.length = many.toNat) {ws : List Wr} (hws : ws = thenW (openW (1 - t)) (thenW (fun c => putW c ((slotB (1 - t)).toNat + 7) nsp) (closeW (1 - t) [v, many, one, two, n, sl])) cs) :
    headL (applyW ws cs) (1 - t) = [some 1, some v, some many, some one, some two, some n, some sl] ∧ partsL (applyW ws cs) (1 - t) many = nsp.map some := by
  subst hws
  have hb := slotB_b (other_slot ht).1
  have e : applyW (thenW (openW (1 - t)) (thenW (fun c => putW c ((slotB (1 - t)).toNat + 7) nsp) (closeW (1 - t) [v, many, one, two, n, sl])) cs) cs = (applyW (putW (applyW (putW (applyW (openW (1 - t) cs) cs) ((slotB (1 - t)).toNat + 7) nsp) (applyW (openW (1 - t) cs) cs)) ((slotB (1 - t)).toNat + 1) [v, many, one, two, n, sl]) (applyW (putW (applyW (openW (1 - t) cs) cs) ((slotB (1 - t)).toNat + 7) nsp) (applyW (openW (1 - t) cs) cs))).set (slotB (1 - t)).toNat (some 1) := by
    show applyW (thenW _ _ cs) cs = _
    unfold thenW
    rw [applyW_app, applyW_app]
    unfold closeW thenW
    rw [applyW_app]; rfl
  rw [e]
  have l1 : (applyW (openW (1 - t) cs) cs).length = 54 := by rw [applyW_len]; exact hl
  generalize applyW (openW (1 - t) cs) cs = c1 at l1
  have l2 : (applyW (putW c1 ((slotB (1 - t)).toNat + 7) nsp) c1).length = 54 := by rw [applyW_len]; exact l1
  have p2 : ∀ k, k < nsp.length → (applyW (putW c1 ((slotB (1 - t)).toNat + 7) nsp) c1).getD ((slotB (1 - t)).toNat + 7 + k) none = some (nsp.getD k 0) := fun k hk => putW_at (by omega) hk
  generalize applyW (putW c1 ((slotB (1 - t)).toNat + 7) nsp) c1 = c2 at l2 p2
  have l3 : (applyW (putW c2 ((slotB (1 - t)).toNat + 1) [v, many, one, two, n, sl]) c2).length = 54 := by rw [applyW_len]; exact l2
  have p3 : ∀ k, k < 6 → (applyW (putW c2 ((slotB (1 - t)).toNat + 1) [v, many, one, two, n, sl]) c2).getD ((slotB (1 - t)).toNat + 1 + k) none = some ([v, many, one, two, n, sl].getD k 0) := fun k hk => putW_at (by simp only [List.length_cons, List.length_nil]; omega) (by simpa using hk)
  have p4 : ∀ k, k < nsp.length → (applyW (putW c2 ((slotB (1 - t)).toNat + 1) [v, many, one, two, n, sl]) c2).getD ((slotB (1 - t)).toNat + 7 + k) none = some (nsp.getD k 0) := fun k hk => by
    rw [putW_out (.inr (by simp only [List.length_cons, List.length_nil]; omega))]; exact p2 k hk
  generalize applyW (putW c2 ((slotB (1 - t)).toNat + 1) [v, many, one, two, n, sl]) c2 = c3 at l3 p3 p4
  have back : ∀ {i : Nat} {x : Int}, c3.getD i none = some x → c3[i]? = some (some x) := fun {i x} h => by
    rw [List.getD_eq_getElem?_getD] at h
    cases z : c3[i]? with
    | none => rw [z] at h; cases h
    | some y => rw [z] at h; rw [show y = some x from h]
  constructor
  · unfold headL
    refine row_is rfl fun k hk => ?_
    match k, hk with
    | 0, _ => rw [Nat.add_zero, List.getElem?_set_self (by omega)]; rfl
    | k + 1, hk =>
      rw [List.getElem?_set_ne (by omega), show (slotB (1 - t)).toNat + (k + 1) = (slotB (1 - t)).toNat + 1 + k by omega, back (p3 k (by omega))]
      have : k = 0 ∨ k = 1 ∨ k = 2 ∨ k = 3 ∨ k = 4 ∨ k = 5 := by omega
      rcases this with rfl | rfl | rfl | rfl | rfl | rfl <;> rfl
  · unfold partsL
    refine row_is (by rw [List.length_map]; exact hpl) fun k hk => ?_
    have hk' : k < nsp.length := by omega
    rw [List.getElem?_set_ne (by omega), show (slotB (1 - t) + 7).toNat + k = (slotB (1 - t)).toNat + 7 + k by omega, back (p4 k hk'), List.getElem?_map, List.getElem?_eq_getElem hk', List.getD_eq_getElem?_getD, List.getElem?_eq_getElem hk']; rfl
theorem eqv_good {v : Int} {d : PyData} (h : PyData.eqv d (.tuple [.str "good", .int v]) = true) {s : Str} : d ≠ .tuple [.str s] := by
  rintro rfl
  simp [PyData.eqv, PyData.eqvAll] at h
theorem double_again {cs : List (Option Int)} {ks : List Int} (hl : cs.length = 54) (hb : bookOk cs) (hbd : bnd cs) (ok : doubleOk (bookedO cs) cs ks = true) : doubleD ks (applyW (doubleW ks cs) cs) = .tuple [.str "doubled", .int 0] := by
  unfold bookOk at hb
  unfold doubleD doubleW
  have ok2 := ok
  unfold doubleOk at ok2
  simp only [Bool.and_eq_true, decide_eq_true_eq] at ok2
  obtain ⟨hst, hw⟩ := ok2
  generalize hbk : bookedO cs = b at hb hst hw ok ⊢
  obtain ⟨t, st, lf⟩ := b
  dsimp only at hb hst hw
  obtain ⟨v, many, one, two, n, sl, nsp, hh, m1, m2, hpt, hpl, hsum, hf2, hn, hseal, hf0⟩ := good_parts hl hb hw
  have hv := headL_b hbd (s := t) (n := v) (by rw [hh]; simp)
  have hnn := headL_b hbd (s := t) (n := n) (by rw [hh]; simp)
  have hsa := other_slot hb
  have hb1 := slotB_b hb
  have hb2 := slotB_b hsa.1
  have hcp : copyW cs t = nsp := by
    unfold copyW
    rw [hh]
    show wholeF (partsL cs t many) = nsp
    rw [hpt, whole_map]
  have hhd : wholeF ((headL cs t).drop 1) = [v, many, one, two, n, sl] := by rw [hh]; rfl
  have hD := doubleL_at (ks := ks) hcp (by omega) (by rw [hhd]; rfl)
  have hc1 : ∃ c1, c1 = applyW (doubleL ks t cs) cs := ⟨_, rfl⟩
  obtain ⟨c1, hc1⟩ := hc1
  have l1 : c1.length = 54 := by rw [hc1, applyW_len]; exact hl
  have hd1 : headL c1 t = headL cs t := by rw [hc1]; exact headL_out hb fun p hp => by have := hD p hp; omega
  have hp1 : partsL c1 t many = partsL cs t many := by rw [hc1]; exact partsL_out hb (fun p hp => by have := hD p hp; omega) m2
  have hf01 : floorO c1 0 = floorO cs 0 := by rw [hc1]; exact floor_out fun p hp => by have := hD p hp; omega
  have hf21 : floorO c1 2 = floorO cs 2 := by rw [hc1]; exact floor_out fun p hp => by have := hD p hp; omega
  -- the other slot
  have hoth : headL c1 (1 - t) = headL cs t ∧ (allI (partsL c1 (1 - t) many)).map sumsF = some (one, two) := by
    by_cases hneed : needsL cs ks t = true
    · have e : doubleL ks t cs = thenW (openW (1 - t)) (thenW (fun c => putW c ((slotB (1 - t)).toNat + 7) nsp) (closeW (1 - t) [v, many, one, two, n, sl])) cs := by
        unfold doubleL; rw [if_pos hneed, hcp, hhd]
      have := laid_there (v := v) (one := one) (two := two) (n := n) (sl := sl) (cs := cs) hl hb m1 m2 hpl e
      rw [← hc1] at this
      rw [this.1, this.2, allI_some, hh]
      exact ⟨rfl, by rw [Option.map_some, hsum]⟩
    · have e : doubleL ks t cs = [] := by unfold doubleL; rw [if_neg hneed]
      have ec : c1 = cs := by rw [hc1, e]; rfl
      unfold needsL at hneed
      simp only [Bool.or_eq_true, decide_eq_true_eq, Bool.not_eq_true', not_or, ne_eq, Decidable.not_not, Bool.not_eq_false] at hneed
      obtain ⟨h1, h2⟩ := hneed
      rw [ec]
      refine ⟨h1, ?_⟩
      obtain ⟨v', e', hj⟩ := judged_good hb hw
      rw [hj] at h2
      have hw2 : whyF cs ks (1 - t) = "" := by
        by_cases z : whyF cs ks (1 - t) = ""
        · exact z
        · exact absurd (judged_bad z) (eqv_good h2)
      obtain ⟨v2, many2, one2, two2, n2, sl2, nsp2, hh2, _, _, hpt2, _, hsum2, _⟩ := good_parts hl hsa.1 hw2
      rw [h1, hh] at hh2
      simp only [List.cons.injEq, Option.some.injEq, and_true, true_and] at hh2
      obtain ⟨rfl, rfl, rfl, rfl, rfl, rfl⟩ := hh2
      rw [hpt2, allI_some, Option.map_some, hsum2]
  -- the floors
  have hW : doubleWb (t, st, lf) ks cs = doubleL ks t cs ++ (raiseW c1 0 v ++ raiseW (applyW (raiseW c1 0 v) c1) 2 n) := by
    unfold doubleWb
    rw [if_pos ok, hh]
    show doubleL ks t cs ++ _ = _
    rw [← hc1]; rfl
  have hc3 : ∃ c3, c3 = applyW (doubleWb (t, st, lf) ks cs) cs := ⟨_, rfl⟩
  obtain ⟨c3, hc3⟩ := hc3
  have e3 : c3 = applyW (raiseW (applyW (raiseW c1 0 v) c1) 2 n) (applyW (raiseW c1 0 v) c1) := by rw [hc3, hW, applyW_app, applyW_app, ← hc1]
  have l2 : (applyW (raiseW c1 0 v) c1).length = 54 := by rw [applyW_len]; exact l1
  have r1 := raiseW_at (cs := c1) (i := 0) (n := v)
  have r2 := raiseW_at (cs := applyW (raiseW c1 0 v) c1) (i := 2) (n := n)
  have f0 : floorO c3 0 ≤ v := by
    rw [e3, floor_out fun p hp => by have := r2 p hp; omega]
    exact floor_raise (by omega) hv.1 (by rw [hf01]; exact hf0)
  have f2 : floorO c3 2 ≤ n := by
    rw [e3]
    refine floor_raise (by omega) hnn.1 ?_
    rw [floor_out fun p hp => by have := r1 p hp; omega, hf21]; exact hf2
  have same : ∀ s, s = 0 ∨ s = 1 → headL c3 s = headL c1 s ∧ partsL c3 s many = partsL c1 s many := fun s hs => by
    have := slotB_b hs
    rw [e3]
    exact ⟨by rw [headL_out hs fun p hp => (by have := r2 p hp; omega), headL_out hs fun p hp => by have := r1 p hp; omega], by rw [partsL_out hs (fun p hp => by have := r2 p hp; omega) m2, partsL_out hs (fun p hp => by have := r1 p hp; omega) m2]⟩
  have ht3 := same t hb
  have ho3 := same (1 - t) hsa.1
  have w1 : whyF c3 ks t = "" := good_mk (by rw [ht3.1, hd1, hh]) m1 m2 (by rw [ht3.2, hp1, hpt, allI_some, Option.map_some, hsum]) f2 hn hseal f0
  have w2 : whyF c3 ks (1 - t) = "" := good_mk (by rw [ho3.1, hoth.1, hh]) m1 m2 (by rw [ho3.2]; exact hoth.2) f2 hn hseal f0
  have hbk3 : bookedO c3 = (t, st, lf) := by
    rw [hc3, booked_out fun p hp => ?_, hbk]
    rw [hW] at hp
    rcases List.mem_append.mp hp with h | h
    · have := hD p h; omega
    · rcases List.mem_append.mp h with h | h
      · have := r1 p h; omega
      · have := r2 p h; omega
  rw [← hc3, hbk3]
  unfold doubleDb
  rw [doubleYes hst w1, if_pos rfl]
  have hnd : needsL c3 ks t = false := by
    unfold needsL
    rw [ho3.1, hoth.1, ht3.1, hd1]
    obtain ⟨v1, e1, j1⟩ := judged_good hb w1
    obtain ⟨v2, e2, j2⟩ := judged_good hsa.1 w2
    rw [ht3.1, hd1, hh] at e1
    rw [ho3.1, hoth.1, hh] at e2
    obtain rfl : v = v1 := by simpa using (List.cons.inj (List.cons.inj e1).2).1
    obtain rfl : v = v2 := by simpa using (List.cons.inj (List.cons.inj e2).2).1
    rw [j1, j2]
    simp [PyData.eqv, PyData.eqvAll]
  unfold laidN
  rw [hnd, if_neg Bool.false_ne_true]

/-! ## lambdas, step by step -/
def plainO (o : HO) : Prop := (∀ ps, o ≠ .tbl ps) ∧ ∀ c q, o ≠ LamX.CodeO c q
theorem plain_lst {xs : List V} : plainO (.lst xs) := ⟨fun _ z => (by cases z), fun _ _ z => (by unfold LamX.CodeO at z; cases z)⟩
theorem plain_ins {C dx : Addr} {fs : List (Str × V)} : plainO (.ins C dx fs) := ⟨fun _ z => (by cases z), fun _ _ z => (by unfold LamX.CodeO at z; cases z)⟩
theorem plain_tup {xs : List V} : plainO (.tup xs) := ⟨fun _ z => (by cases z), fun _ _ z => (by unfold LamX.CodeO at z; cases z)⟩
theorem plain_dK {kvs : List (Key × V)} : plainO (.dK kvs) := ⟨fun _ z => (by cases z), fun _ _ z => (by unfold LamX.CodeO at z; cases z)⟩
theorem tabs_fr {T : List (Addr × Str)} {n : List Addr} {H H' : Hp} (t : LamX.Tabs T H) (f : Fr n H H') (hn : ∀ a ∈ n, ∃ o, H a = some o ∧ plainO o) : LamX.Tabs T H' := by
  intro p hp
  obtain ⟨ps, h1, h2, h3⟩ := t p hp
  refine ⟨ps, f _ _ (fun z => ?_) h1, h2, fun pos cv hc => ?_⟩
  · obtain ⟨o, e, g1, g2⟩ := hn _ z
    rw [h1] at e
    exact g1 _ (Option.some.inj e).symm
  · obtain ⟨c, rfl, hc2⟩ := h3 pos cv hc
    refine ⟨c, rfl, f _ _ (fun z => ?_) hc2⟩
    obtain ⟨o, e, g1, g2⟩ := hn _ z
    rw [hc2] at e
    exact g2 _ _ (Option.some.inj e).symm
theorem use_lam {K : PySem.W.Frag} {T : List (Addr × Str)} {TT : (XK → Hp → VK → Prop) → Hp → VK → Prop} {t : XK → TE} {σ : L2.St} {Hb H : Hp} {n : List Addr} {M : List Addr} {L : List (Addr × HO)} {Ds : List (PyData × V)} {Q : VK} (n' : List Addr) (S : Sy K ⟨Hb, n⟩ M H L Ds) (hT : LamX.Tabs T Hb) (hn : ∀ a ∈ n, ∃ o, Hb a = some o ∧ plainO o)
    (hL : ∀ x ∈ L, plainO x.2) (hM : ∀ a ∈ M, a ∈ L.map (·.1)) (hn2 : ∀ a ∈ n', a ∈ L.map (·.1)) (k : ∀ H1, Sy K ⟨H1, n'⟩ M H1 L Ds → LamX.Tabs T H1 → (∀ a ∈ n', ∃ o, H1 a = some o ∧ plainO o) → TT (fun E H' Q' => t E σ H' Q') H1 Q) : LamX.tLam T TT t σ H Q := by
  refine ⟨tabs_fr hT S.fr hn, fun H1 e hT1 => ?_⟩
  have ent : ∀ x ∈ L, H1 x.1 = some x.2 := fun x hx => e _ _ (S.ent x hx) (hL x hx).1
  have at_ : ∀ a, a ∈ L.map (·.1) → ∃ o, H1 a = some o ∧ plainO o := fun a ha => by
    obtain ⟨x, hx, rfl⟩ := List.mem_map.mp ha
    exact ⟨_, ent x hx, hL x hx⟩
  have rd : ∀ {a : Addr} {u : HO}, (∀ ps, u ≠ .tbl ps) → Rd H a u → Rd H1 a u := fun {a u} hu h => by
    rcases h with h | ⟨o, h⟩
    · exact .inl (e _ _ h hu)
    · exact .inr ⟨o, e _ _ h (fun ps z => by cases z)⟩
  refine k H1 ⟨Fr.refl _ _, ent, S.nd, fun x hx => (S.dat x hx).mapM (fun a xs h => ?_) (fun a xs h => ?_), fun a ha => ?_, fun a ha => ?_⟩ hT1 fun a ha => at_ a (hn2 a ha)
  · obtain ⟨h1, h2⟩ := h
    refine ⟨?_, h2⟩
    rcases h1 with h1 | h1
    · exact .inl (rd (fun _ z => by cases z) h1)
    · exact .inr h1
  · obtain ⟨h1, h2⟩ := h
    refine ⟨?_, h2⟩
    rcases h1 with h1 | h1
    · exact .inl (rd (fun _ z => by cases z) h1)
    · exact .inr h1
  · obtain ⟨o, e, _⟩ := at_ a (hM a ha); exact ⟨o, e⟩
  · obtain ⟨o, e, _⟩ := at_ a (hn2 a ha); exact ⟨o, e⟩

theorem doubleW_ok {cs : List (Option Int)} {ks : List Int} (hl : cs.length = 54) (hb : bookOk cs) (hbd : bnd cs) : ∀ p ∈ doubleW ks cs, (p.1 < 4 ∨ 16 ≤ p.1) ∧ p.1 < 54 ∧ 0 ≤ p.2 ∧ p.2 ≤ 9972 := by
  intro p hp
  unfold doubleW doubleWb at hp
  unfold bookOk at hb
  split at hp
  · rename_i ok
    unfold doubleOk at ok
    simp only [Bool.and_eq_true, decide_eq_true_eq] at ok
    obtain ⟨hst, hw⟩ := ok
    generalize bookedO cs = b at hb hst hw hp
    obtain ⟨t, st, lf⟩ := b
    dsimp only at hb hst hw hp
    obtain ⟨v, many, one, two, n, sl, nsp, hh, m1, m2, hpt, hpl, hsum, hf2, hn, hseal, hf0⟩ := good_parts hl hb hw
    have hv := headL_b hbd (s := t) (n := v) (by rw [hh]; simp)
    have hnn := headL_b hbd (s := t) (n := n) (by rw [hh]; simp)
    have hsa := other_slot hb
    have hb2 := slotB_b hsa.1
    have hcp : copyW cs t = nsp := by
      unfold copyW
      rw [hh]
      show wholeF (partsL cs t many) = nsp
      rw [hpt, whole_map]
    have hhd : wholeF ((headL cs t).drop 1) = [v, many, one, two, n, sl] := by rw [hh]; rfl
    have hnb : ∀ x ∈ nsp, 0 ≤ x ∧ x ≤ 9972 := fun x hx => partsL_b hbd (s := t) (many := many) (by rw [hpt]; exact List.mem_map_of_mem (f := some) hx)
    have hhb : ∀ x ∈ [v, many, one, two, n, sl], 0 ≤ x ∧ x ≤ 9972 := fun x hx => headL_b hbd (s := t) (by rw [hh]; simp only [List.mem_cons, List.not_mem_nil, or_false] at hx ⊢; rcases hx with rfl | rfl | rfl | rfl | rfl | rfl <;> simp)
    rw [hh] at hp
    have raise : ∀ {c : List (Option Int)} {i : Nat} {w : Int}, p ∈ raiseW c i w → i ≤ 2 → 0 ≤ w → w ≤ 9972 → (p.1 < 4 ∨ 16 ≤ p.1) ∧ p.1 < 54 ∧ 0 ≤ p.2 ∧ p.2 ≤ 9972 := fun {c i w} h hi w0 w1 => by
      have := raiseW_at p h
      unfold raiseW at h
      split at h
      · rw [List.mem_singleton.mp h] at this ⊢
        exact ⟨.inl (by omega), by omega, w0, w1⟩
      · cases h
    unfold thenW at hp
    rcases List.mem_append.mp hp with h | h
    · have hD := doubleL_at (ks := ks) hcp (by omega) (by rw [hhd]; rfl) p h
      refine ⟨.inr (by omega), by omega, ?_⟩
      unfold doubleL at h
      split at h
      · unfold thenW at h
        rcases List.mem_append.mp h with h | h
        · rw [(openW_at p h).2]; decide
        · rcases List.mem_append.mp h with h | h
          · rw [hcp] at h
            exact (putW_ok hnb p h).2.2
          · unfold closeW thenW at h
            rw [hhd] at h
            rcases List.mem_append.mp h with h | h
            · exact (putW_ok hhb p h).2.2
            · rw [List.mem_singleton.mp h]; exact ⟨by show (0 : Int) ≤ 1; decide, by show (1 : Int) ≤ 9972; decide⟩
      · cases h
    · rcases List.mem_append.mp h with h | h
      · exact raise h (by decide) hv.1 hv.2
      · exact raise h (by decide) hnn.1 hnn.2
  · cases hp
theorem doubleD_dep (ks : List Int) (cs : List (Option Int)) : (doubleD ks cs).depth ≤ 4 := by
  unfold doubleD doubleDb
  split <;> simp [PyData.depth, PyData.depthAll]
theorem doubleD_ok (ks : List Int) (cs : List (Option Int)) : okD (doubleD ks cs) = true := by
  unfold doubleD doubleDb
  split <;> simp [okD, okD.okDL]
theorem depL_wr : ∀ ws : List Wr, PyData.depthAll (ws.map wrD) ≤ 1
  | [] => by simp [PyData.depthAll]
  | w :: ws => by
    have := depL_wr ws
    simp [PyData.depthAll, PyData.depth, wrD]
    omega
theorem layL_wr : ∀ ws : List Wr, PyData.canLayAll0 (ws.map wrD) = true
  | [] => rfl
  | w :: ws => by
    have := layL_wr ws
    simp [PyData.canLayAll0, PyData.canLay0, wrD, this]
theorem sh_log (ws : List Wr) : SeqAt.shaped (logD ws) = true := by
  have h1 := depL_wr ws
  have h2 := layL_wr ws
  unfold logD
  simp [SeqAt.shaped, PyData.canLay0, PyData.depth, h2]
  omega
theorem eqv_log (ws : List Wr) : PyData.eqv (logD ws) (.list []) = decide (ws = []) := by
  unfold logD
  cases ws <;> simp [PyData.eqv, PyData.eqvAll]
theorem run_many {ws : List Wr} {μ : Mem} {n : Nat} (h : μ.left = some (n : Int)) (hn : n < ws.length) : (Mem.run ws μ).1.many = μ.many + n := by
  have h2 : (Mem.run ws μ).2 = false := by rw [run_left h]; exact decide_eq_false (by omega)
  obtain ⟨k, p, e1, e2, _, e4⟩ := run_torn (fun m e => by rw [h] at e; cases e; omega) h2
  rw [h] at e2
  have : k = n := by simp only [Option.some.injEq] at e2; omega
  rw [e4, this]
theorem spare_stop : PyData.strOk "stopped" = true := by decide +kernel

theorem doubleW_len {cs : List (Option Int)} {ks : List Int} (hl : cs.length = 54) (hb : bookOk cs) : (doubleW ks cs).length ≤ 40 := by
  unfold doubleW doubleWb
  unfold bookOk at hb
  split
  · rename_i ok
    unfold doubleOk at ok
    simp only [Bool.and_eq_true, decide_eq_true_eq] at ok
    obtain ⟨hst, hw⟩ := ok
    generalize bookedO cs = b at hb hst hw ⊢
    obtain ⟨t, st, lf⟩ := b
    dsimp only at hb hst hw ⊢
    obtain ⟨v, many, one, two, n, sl, nsp, hh, m1, m2, hpt, hpl, -⟩ := good_parts hl hb hw
    have hcp : copyW cs t = nsp := by
      unfold copyW
      rw [hh]
      show wholeF (partsL cs t many) = nsp
      rw [hpt, whole_map]
    have h1 := doubleL_len (ks := ks) hcp (by omega)
    unfold thenW
    have r : ∀ (c : List (Option Int)) (i : Nat) (w : Int), (raiseW c i w).length ≤ 1 := fun c i w => by unfold raiseW; split <;> simp
    simp only [List.length_append]
    have h2 := r (applyW (doubleL ks t cs) cs) 0 (((headL cs t).getD 1 none).getD 0)
    have h3 := r (applyW (raiseW (applyW (doubleL ks t cs) cs) 0 (((headL cs t).getD 1 none).getD 0)) (applyW (doubleL ks t cs) cs)) 2 (((headL cs t).getD 5 none).getD 0)
    omega
  · simp

/-! ## dicts with tuples as keys, made of a list of pairs; reversed(a list or a tuple) -/
section
variable {X : Cx} {pins : List (Addr × Obj)} {σ : L2.St} {H : Hp} {s : Shared} {a b : Addr} {v : V} {A : Around} {E : Value → Shared → Prop}
def mergeD (kvs more : List (List Key × V)) : List (List Key × V) := more.foldl (fun acc kv => putK acc kv.1 kv.2) kvs
theorem length_mergeD : ∀ (more kvs : List (List Key × V)), (mergeD kvs more).length ≤ kvs.length + more.length
  | [], kvs => by simp [mergeD]
  | p :: more, kvs => by
    have h1 := length_mergeD more (putK kvs p.1 p.2)
    have h2 := length_putK kvs p.1 p.2
    show (mergeD (putK kvs p.1 p.2) more).length ≤ _
    rw [List.length_cons]
    omega
theorem KT_merge : ∀ {more : List (List Key × V)} {rs : List (List Key × Addr × Value)} {kvs : List (List Key × V)} {xs : List (List Key × Addr × Value)}, KT H more rs → KT H kvs xs → KT H (mergeD kvs more) (PySem.storedAllH xs rs)
  | _, _, _, _, .nil, h => h
  | _, _, _, _, .cons (a := p) (b := q) hp t, h => by
    obtain ⟨e1, e2, e3⟩ := hp
    have := KT_merge t (h.put p.1 e2 e3)
    rw [e1] at this
    show KT H (mergeD (putK _ p.1 p.2) _) _
    rw [e1]
    exact this
/-- the tuple at b, known or told by the frame, is the key ks -/
theorem keyS_of {ks : List Key} (I : Inv X pins σ H s) (h : SqT X.K H b (ks.map kV)) : (tupleKind (mixKind X.prog X.w)).is s.heap ks b := by
  obtain ⟨its, r, ⟨o, h1, h2, n, h3⟩, _⟩ := I.tuple h
  exact ⟨o, its.toArray, n, h1, h2, h3, by simpa using items_are r⟩
theorem pairsT_of (I : Inv X pins σ H s) : ∀ {ps : List Addr} {kvs : List (List Key × V)}, Paired (fun p kv => ∃ b, SqT X.K H p [.ref b, kv.2] ∧ H b = some (.tup (kv.1.map kV))) ps kvs →
    ∃ prs : List (List Key × Addr × Value), KT H kvs prs ∧ prs.length = ps.length ∧ ∀ (j : Nat) (q : List Key × Addr × Value), prs[j]? = some q → ∃ p : Addr, ps[j]? = some p ∧ PyProof.Rows.IsTup s.heap p #[.ref q.2.1, q.2.2]
  | _, _, .nil => ⟨[], .nil, rfl, fun j q e => by simp at e⟩
  | _, _, .cons (a := p) (b := kv) h t => by
    obtain ⟨prs, r, hl, hp⟩ := pairsT_of I t
    obtain ⟨b, h1, h2⟩ := h
    obtain ⟨its, rv, ht, _⟩ := I.tuple h1
    obtain ⟨u, y, ei, ru, ry⟩ := vals2 rv
    subst ei
    cases ru
    refine ⟨(kv.1, b, y) :: prs, .cons ⟨rfl, h2, ry⟩ r, by rw [List.length_cons, List.length_cons, hl], fun j q e => ?_⟩
    cases j with
    | zero =>
      have e' : (kv.1, b, y) = q := Option.some.inj e
      subst e'
      exact ⟨p, rfl, ht⟩
    | succ j =>
      obtain ⟨c, e1, e2⟩ := hp j q (by simpa using e)
      exact ⟨c, by simpa using e1, e2⟩
theorem KT_keys (I : Inv X pins σ H s) : ∀ {kvs : List (List Key × V)} {prs : List (List Key × Addr × Value)}, KT H kvs prs → ∀ x ∈ prs, (tupleKind (mixKind X.prog X.w)).is s.heap x.1 x.2.1
  | _, _, .nil => fun x hx => nomatch hx
  | _, _, .cons hq t => fun x hx => by
    rcases List.mem_cons.mp hx with e | hx
    · subst e; exact key_of I.hok (by rw [← hq.1]; exact hq.2.1)
    · exact KT_keys I t x hx
/-- dict(xs) of a list of pairs (key, value), the keys tuples -/
theorem call_dictPT (hcalm : X.calm = true) (hu : X.A.units + 2 < cLine) : CallR X (.type "dict") (fun xs H Q => ∃ (a : Addr) (ps : List Addr) (kvs : List (List Key × V)), xs = [.ref a] ∧ SqL X.K H a (ps.map V.ref) ∧
    Paired (fun p kv => ∃ b, SqT X.K H p [.ref b, kv.2] ∧ H b = some (.tup (kv.1.map kV))) ps kvs ∧ ∀ p, H p = none → Q (.ref p) (upd H p (.dT (mergeD [] kvs)))) := by
  intro pins s σ H xs us Q I r q
  obtain ⟨a, ps, kvs, ex, hq, hp, q⟩ := q
  subst ex
  obtain ⟨u, eu, rx⟩ := vals1 r
  subst eu
  cases rx
  obtain ⟨its, rv, pl, hz⟩ := I.list hq
  have ei := refs_at rv
  subst ei
  rw [List.length_map] at hz
  obtain ⟨prs, rel, hl, hpr⟩ := pairsT_of I hp
  obtain ⟨o, n, ho, hc, hd, hdat⟩ := pl
  have hkeys := KT_keys I rel
  refine PySem.call_dict_pairsH (knd := tupleKind (mixKind X.prog X.w)) (ps := prs) (PySem.PairArg.list a (ps.map Value.ref).toArray (fun j => ps.getD j 0) (prs.map fun q => (Value.ref q.2.1, q.2.2))) (I.ok.hd hcalm) ?_ ⟨⟨o, n, ho, hc, hd, hdat⟩, ?_, ?_⟩ ?_ ?_ ?_ fun h' tk hd' k => ?_
  · show X.A.in1.in1.units < cLine
    have e : X.A.in1.in1.units = X.A.units + 2 := rfl
    rw [e]; exact hu
  · simp [hl]
  · intro j k v e
    rw [List.getElem?_map] at e
    obtain ⟨q', e1, e2⟩ := Option.map_eq_some_iff.mp e
    cases e2
    obtain ⟨p, h1, h2⟩ := hpr j q' e1
    refine ⟨by simp [h1], .inl ?_⟩
    have : ps.getD j 0 = p := by rw [List.getD_eq_getElem?_getD, h1]; rfl
    dsimp only
    rw [this]
    exact h2
  · refine ⟨by simp, fun i key v e => ?_⟩
    have e : (prs.map fun q => (Value.ref q.2.1, q.2.2))[i]? = some (key, v) := e
    rw [List.getElem?_map] at e
    obtain ⟨q', e1, e2⟩ := Option.map_eq_some_iff.mp e
    cases e2
    exact ⟨q'.1, q'.2.1, e1, rfl⟩
  · intro h' hk x hx
    obtain ⟨o, its, n, h1, r⟩ := hkeys x hx
    exact ⟨o, its, n, hk _ _ (Nat.ne_of_lt (Heap.lt_size h1)) (by simp) h1, r⟩
  · rw [List.length_map, hl]; exact hz
  · have hm : (s.heap.objs.size == sysModules) = false := beq_eq_false_iff_ne.mpr (Nat.ne_of_gt I.big)
    have hlen : (mergeD [] kvs).length ≤ sizeLine := by
      refine Nat.le_trans (length_mergeD kvs []) ?_
      rw [List.length_nil, Nat.zero_add, rel.length, hl]
      exact hz
    have hf := I.hok.fresh (Nat.le_refl s.heap.objs.size)
    obtain ⟨o2, es, ep, h1, h2, h3, h4, h5, h6⟩ := hd'
    refine ⟨.ref s.heap.objs.size, upd H s.heap.objs.size (.dT (mergeD [] kvs)), I.laid (t' := tk) (fun b o e => k b o (by simp) e) (Nat.le_refl _) (show ObjOk X.prog X.w _ _ _ (.dT (mergeD [] kvs)) from ⟨hlen, hm, PySem.storedAllH [] prs, KT.keeps (KT_merge rel .nil) (fun b ys e => ?_), o2, es, ep, h1, h2, h3, h4, h6⟩), rfl, q _ hf⟩
    have hb : b ≠ s.heap.objs.size := fun z => by rw [z, hf] at e; cases e
    exact (upd_ne hb).trans e
def rInDT (K : PySem.W.Frag) : R2 := fun y x H Q => ∃ (a b : Addr) (kvs : List (List Key × V)) (k : List Key), y = .ref b ∧ x = .ref a ∧ H a = some (.dT kvs) ∧ SqT K H b (k.map kV) ∧ Q (.bl (valV kvs k).isSome) H
theorem op_inDT (hu : X.A.units + 1 < cLine) : OpR X (compareOp .In) (rInDT X.K) := by
  intro pins s σ H y x u v Q I ry rx h
  obtain ⟨a, b, kvs, k, rfl, rfl, e, eb, q⟩ := h
  cases ry
  cases rx
  obtain ⟨z, hd, xs, rel, dd⟩ := dt_of I.hok e
  refine wpAny_in_heap (tupleKind_room_in1 hu) (keyS_of I eb) hd dd ?_
  have q2 := (rel.val k).isSome_eq
  rw [Option.isSome_map] at q2
  rw [← q2]
  exact ⟨.bl _, H, I.tok _, rfl, q⟩
def rIxDT (K : PySem.W.Frag) : R2 := fun x y H Q => ∃ (a b : Addr) (kvs : List (List Key × V)) (k : List Key) (v : V), x = .ref a ∧ y = .ref b ∧ H a = some (.dT kvs) ∧ SqT K H b (k.map kV) ∧ valV kvs k = some v ∧ Q v H
theorem ix_dT (hu : X.A.units + 1 < cLine) : IxR X (rIxDT X.K) := by
  intro value slice pins s σ H x y v u Q I rx ry h hs
  obtain ⟨a, b, kvs, k, w, rfl, rfl, e, eb, hv, q⟩ := h
  cases rx
  cases ry
  obtain ⟨z, hd, xs, rel, dd⟩ := dt_of I.hok e
  obtain ⟨w', hw, rw'⟩ := RelO.some_of (v := w) (o := (atKey xs k).map (·.2)) (by rw [← hv]; exact rel.val k)
  obtain ⟨p, hp, hp2⟩ := Option.map_eq_some_iff.mp hw
  have hT : s.TypeIs (.ref a) "dict" := by
    obtain ⟨o, es, ep, ho, hx, _⟩ := _root_.id dd
    exact ⟨o, ho, hx.1⟩
  exact PyProof.Rows.tail_any hT PySem.F.slot_dict_getitem.lookup (wpAny_getItem_heap (tupleKind_room_in1 hu) (keyS_of I eb) dd hp ⟨w, H, I.tok _, by rw [hp2]; exact rw', q⟩) hs
end
theorem hu2_of {A : Around} {k : Nat} (hr : Room k A) : A.units + 2 < cLine := by have := hr.un; omega
section
variable {X : Cx} {K : PySem.W.Frag} {H : Hp} {a b : Addr} {kvs : List (List Key × V)} {k : List Key} {Q : VK} {v : V}
theorem b_inDT (hu : X.A.units + 1 < cLine) (e : X.K = K := by rfl) : OpR X (compareOp .In) (rInDT K) := by subst e; exact op_inDT hu
theorem b_ixDT (hu : X.A.units + 1 < cLine) (e : X.K = K := by rfl) : IxR X (rIxDT K) := by subst e; exact ix_dT hu
def rDictPT (K : PySem.W.Frag) : List V → Hp → VK → Prop := fun xs H Q => ∃ (a : Addr) (ps : List Addr) (kvs : List (List Key × V)), xs = [.ref a] ∧ SqL K H a (ps.map V.ref) ∧
    Paired (fun p kv => ∃ b, SqT K H p [.ref b, kv.2] ∧ H b = some (.tup (kv.1.map kV))) ps kvs ∧ ∀ p, H p = none → Q (.ref p) (upd H p (.dT (mergeD [] kvs)))
theorem b_dictPT (hc : X.calm = true) (hu : X.A.units + 2 < cLine) (e : X.K = K := by rfl) : CallR X (.type "dict") (rDictPT K) := by subst e; exact call_dictPT hc hu
theorem n_inDT (h : H a = some (.dT kvs)) (hb : SqT K H b (k.map kV)) (q : Q (.bl (valV kvs k).isSome) H) : rInDT K (.ref b) (.ref a) H Q := ⟨a, b, kvs, k, rfl, rfl, h, hb, q⟩
theorem n_ixDT (h : H a = some (.dT kvs)) (hb : SqT K H b (k.map kV)) (hv : valV kvs k = some v) (q : Q v H) : rIxDT K (.ref a) (.ref b) H Q := ⟨a, b, kvs, k, v, rfl, rfl, h, hb, hv, q⟩
/-- a title as a key -/
def trK (t : Int × Int × Int) : List Key := [.inl t.1, .inl t.2.1, .inl t.2.2]
theorem trK_inj {t u : Int × Int × Int} (h : trK t = trK u) : t = u := by
  obtain ⟨a, b, c⟩ := t
  obtain ⟨d, e, f⟩ := u
  simpa [trK] using h
theorem tr_sqT {M : List Addr} {t : Int × Int × Int} (h : Dt K M H (tripD t) (.ref b)) : SqT K H b ((trK t).map kV) := by
  obtain ⟨zs, s, r⟩ := h.tup
  simp only [DtL, Dt] at r
  obtain ⟨_, _, rfl, rfl, _, _, rfl, rfl, _, _, rfl, rfl, rfl⟩ := r
  exact s.1
end
section
variable {K : PySem.W.Frag} {σ : L2.St} {H : Hp} {a p : Addr} {xs : List V}
theorem b_revA {X : Cx} {tg e : Expr} {te : TE} {p pos : Pos} (hg : Gl X "reversed") (hm : X.mg "reversed" = none) (he : PE X e te) (eK : X.K = K := by rfl) (hs : starEach [e] X.env = (false, eval e X.env) :: starEach [] X.env := by rfl) : PI X tg (.Call (.Name "reversed" p) [e] [] pos) (RT.iRevA K te) := by subst eK; exact RT.pi_revA hg hm he hs
theorem x_iRevA {te : TE} {R : It → Hp → Prop} (q : te σ H fun v H1 => ∃ (a : Addr) (xs : List V), v = .ref a ∧ ((SqL K H1 a xs ∧ R (Itv K a xs.length) H1) ∨ (SqT K H1 a xs ∧ R (RT.ItvT K a xs.length) H1))) : RT.iRevA K te σ H R := q
theorem for_revE {g : TG} {tb : TS} {D : Ends} (h : SqE K H a xs) (Pv : Nat → L2.St → Hp → Prop) (h0 : Pv 0 σ H) (hq : ∀ i σ H', Pv i σ H' → H' = H)
    (hs : ∀ (i : Nat) (x : V) (σ : L2.St) (H : Hp), i < xs.length → xs[xs.length - 1 - i]? = some x → Pv i σ H → g x σ H fun σ2 H2 => tb { D with nx := Pv (i + 1), ct := Pv (i + 1), bk := D.nx } σ2 H2) (hd : ∀ σ H, Pv xs.length σ H → D.nx σ H) :
    ∃ (b : Addr) (ys : List V), V.ref a = .ref b ∧ ((SqL K H b ys ∧ ∃ W : Nat → Nat → L2.St → Hp → Prop, (∃ m, W 0 m σ H) ∧ ∀ i m σ H, W i m σ H →
      ((Itv K b ys.length).stop i H ∧ D.nx σ H) ∨ ((Itv K b ys.length).go i H ∧ ∃ N : L2.St → Hp → Prop, (∀ σ' H', N σ' H' → ∃ m', m' < m ∧ W (i + 1) m' σ' H') ∧ ∀ v H', (Itv K b ys.length).yld i H v H' → g v σ H' fun σ2 H2 => tb { D with nx := N, ct := N, bk := D.nx } σ2 H2)) ∨
      (SqT K H b ys ∧ ∃ W : Nat → Nat → L2.St → Hp → Prop, (∃ m, W 0 m σ H) ∧ ∀ i m σ H, W i m σ H →
      ((RT.ItvT K b ys.length).stop i H ∧ D.nx σ H) ∨ ((RT.ItvT K b ys.length).go i H ∧ ∃ N : L2.St → Hp → Prop, (∀ σ' H', N σ' H' → ∃ m', m' < m ∧ W (i + 1) m' σ' H') ∧ ∀ v H', (RT.ItvT K b ys.length).yld i H v H' → g v σ H' fun σ2 H2 => tb { D with nx := N, ct := N, bk := D.nx } σ2 H2))) := by
  rcases h with h | h
  · exact ⟨a, xs, rfl, .inl ⟨h, RT.for_Itv Pv h0 (fun i σ H' z => by rw [hq _ _ _ z]; exact h) hs hd⟩⟩
  · exact ⟨a, xs, rfl, .inr ⟨h, RT.for_ItvT Pv h0 (fun i σ H' z => by rw [hq _ _ _ z]; exact h) hs hd⟩⟩
def spLSealE (K : PySem.W.Frag) : Sp := fun vs H Q _ => ∃ (key : Int) (p : Addr) (ns : List Int), vs = [.int key, .ref p] ∧ 0 ≤ key ∧ key < 9973 ∧ SqE K H p (ns.map V.int) ∧ ns.length ≤ 1000 ∧ (∀ n ∈ ns, 0 ≤ n ∧ n < 9973) ∧ Q (.int (sealF key ns)) H
theorem use_lsealE {Q : VK} {E : XK} {key : Int} {ns : List Int} (h : SqE K H p (ns.map V.int)) (k0 : 0 ≤ key) (k1 : key < 9973) (hz : ns.length ≤ 1000) (hb : ∀ n ∈ ns, 0 ≤ n ∧ n < 9973) (k : Q (.int (sealF key ns)) H) : spLSealE K [.int key, .ref p] H Q E :=
  ⟨key, p, ns, rfl, k0, k1, h, hz, hb, k⟩
end
section
variable {K : PySem.W.Frag} {M N : List Addr} {H H' : Hp} {H0 : Bs} {p q a b d : Addr} {L : List (Addr × HO)} {Ds : List (PyData × V)} {cs : List (List Int)} {ps : List Addr} {kvs : List (List Key × V)} {σ : L2.St} {te : TE} {Q : VK} {j : Nat}
def tupsAt (H : Hp) (ps : List Addr) (kvs : List (List Key × V)) : Prop := Paired (fun (p : Addr) (kv : List Key × V) => ∃ b : Addr, H p = some (.tup [.ref b, kv.2]) ∧ H b = some (.tup (kv.1.map kV))) ps kvs
/-- pairs (title, piece), one for each piece of cs -/
def TPairs (K : PySem.W.Frag) (M : List Addr) (H : Hp) (cs : List (List Int)) (ps : List Addr) (kvs : List (List Key × V)) : Prop :=
  tupsAt H ps kvs ∧ kvs.length = cs.length ∧ ∀ (j : Nat) (c : List Int), cs[j]? = some c → ∃ a : Addr, kvs[j]? = some (trK (titleF c), .ref a) ∧ Dt K M H (.tuple (c.map .int)) (.ref a)
theorem tupsAt.mono (f : Fr N H H') (hn : ∀ d ∈ N, ∀ xs, H d ≠ some (.tup xs)) : ∀ {ps : List Addr} {kvs : List (List Key × V)}, tupsAt H ps kvs → tupsAt H' ps kvs
  | _, _, .nil => .nil
  | _, _, .cons ⟨b, h1, h2⟩ t => .cons ⟨b, f _ _ (fun z => hn _ z _ h1) h1, f _ _ (fun z => hn _ z _ h2) h2⟩ (tupsAt.mono f hn t)
theorem TPairs.mono (h : TPairs K M H cs ps kvs) (f : Fr N H H') (hN : ∀ d ∈ N, d ∈ M) (hn : ∀ d ∈ N, ∀ xs, H d ≠ some (.tup xs)) : TPairs K M H' cs ps kvs :=
  ⟨h.1.mono f hn, h.2.1, fun j c e => by
    obtain ⟨a, e1, e2⟩ := h.2.2 j c e
    exact ⟨a, e1, e2.mono (f.wk hN)⟩⟩
theorem TPairs.wk (h : TPairs K M H cs ps kvs) (f : ∀ a, a ∈ N → a ∈ M) : TPairs K N H cs ps kvs :=
  ⟨h.1, h.2.1, fun j c e => by
    obtain ⟨a, e1, e2⟩ := h.2.2 j c e
    exact ⟨a, e1, e2.wk f⟩⟩
theorem tupsAt.add : ∀ {ps : List Addr} {kvs : List (List Key × V)} {p b : Addr} {k : List Key} {v : V}, tupsAt H ps kvs → H p = some (.tup [.ref b, v]) → H b = some (.tup (k.map kV)) → tupsAt H (ps ++ [p]) (kvs ++ [(k, v)])
  | _, _, _, b, _, _, .nil, h1, h2 => .cons ⟨b, h1, h2⟩ .nil
  | _, _, _, _, _, _, .cons h t, h1, h2 => .cons h (tupsAt.add t h1 h2)
theorem TPairs.add {c : List Int} (h : TPairs K M H cs ps kvs) (h1 : H p = some (.tup [.ref b, .ref a])) (h2 : H b = some (.tup ((trK (titleF c)).map kV))) (h3 : Dt K M H (.tuple (c.map .int)) (.ref a)) : TPairs K M H (cs ++ [c]) (ps ++ [p]) (kvs ++ [(trK (titleF c), .ref a)]) := by
  obtain ⟨g1, g2, g3⟩ := h
  refine ⟨g1.add h1 h2, by simp [g2], fun j c' e => ?_⟩
  by_cases hj : j < cs.length
  · rw [List.getElem?_append_left hj] at e
    obtain ⟨a', e1, e2⟩ := g3 j c' e
    exact ⟨a', by rw [List.getElem?_append_left (by omega)]; exact e1, e2⟩
  · rw [List.getElem?_append_right (by omega)] at e
    have hj0 : j - cs.length = 0 := by
      rcases Nat.eq_zero_or_pos (j - cs.length) with z | z
      · exact z
      · rw [List.getElem?_eq_none (by simp; omega)] at e; cases e
    rw [hj0] at e
    cases e
    exact ⟨a, by rw [List.getElem?_append_right (by omega), g2, hj0]; rfl, h3⟩
theorem TPairs.nil : TPairs K M H [] [] [] := ⟨.nil, rfl, fun j c e => by simp at e⟩
theorem TPairs.lenP : tupsAt H ps kvs → ps.length = kvs.length := fun h => h.length
/-- [(name(c), c) for c in ..] -/
theorem lcW_pairs (S : Sy K H0 M H L Ds) (h : Dt K M H (.list (cs.map fun (c : List Int) => PyData.tuple (c.map .int))) (.ref q)) (hn : cs.length ≤ 1000)
    (hte : ∀ (i : Nat) (c : List Int) (a D : Addr) (acc : List V) (H' : Hp) (Q' : VK), cs[i]? = some c → Sy K (b0 H) (D :: M) H' (L ++ [(D, .lst acc)]) (Ds ++ [(.tuple (c.map .int), .ref a)]) →
      (∀ (b p : Addr) (H'' : Hp), Sy K (b0 H) (D :: M) H'' ((L ++ [(D, .lst acc)]) ++ [(b, .tup ((trK (titleF c)).map kV)), (p, .tup [.ref b, .ref a])]) (Ds ++ [(.tuple (c.map .int), .ref a)]) → Fr [] H' H'' → Q' (.ref p) H'') → te ((σ.set j none).set j (some (.ref a))) H' Q')
    (k : ∀ (D : Addr) (H' : Hp) (ps : List Addr) (kvs : List (List Key × V)), H D = none → TPairs K M H' cs ps kvs → Sy K H0 M H' (L ++ [(D, .lst (ps.map V.ref))]) Ds → Q (.ref D) H') : LcO (gName j) tYes te [j] σ Q (Itl K q) H := by
  obtain ⟨xs, s, r⟩ := h.lst
  have hl := r.len
  rw [List.length_map] at hl
  intro D hD
  have DF := hD
  refine lc_it (walk_list (xs := xs)) (fun i H' => i ≤ cs.length ∧ ∃ (ps : List Addr) (kvs : List (List Key × V)), ps.length = i ∧ TPairs K (D :: M) H' (cs.take i) ps kvs ∧ Sy K (b0 H) (D :: M) H' (L ++ [(D, .lst (ps.map V.ref))]) Ds) ⟨Nat.zero_le _, [], [], rfl, .nil, S.rebase.newM hD⟩ (fun i H' _ S' => by
    obtain ⟨_, ps, kvs, _, _, T⟩ := S'
    exact s.still D H' hD (Fr.wk0 T.fr)) ?_ ?_
  · rintro i x H2 H' hi ⟨_, ps, kvs, hp, hT, T⟩ ⟨rfl, hy⟩
    refine ⟨wipe_one _, ?_⟩
    have hi2 : i < cs.length := by omega
    have hc : cs[i]? = some cs[i] := List.getElem?_eq_getElem hi2
    obtain ⟨x', hx', hd⟩ := r.at (i := i) (d := .tuple (cs[i].map .int)) (by rw [List.getElem?_map, hc]; rfl)
    obtain rfl : x = x' := by rw [hy] at hx'; exact Option.some.inj hx'
    obtain ⟨a, rfl⟩ := hd.refT
    have hd2 := (hd.cons hD).mono (Fr.wk0 T.fr)
    have gD : ∀ vs : List V, (L ++ [(D, HO.lst vs)])[L.length]? = some (D, .lst vs) := fun vs => by simp
    refine hte i cs[i] a D _ H' _ hc (T.addD hd2) fun b p H'' T2 f => ?_
    have e1 : H'' p = some (.tup [.ref b, .ref a]) := T2.ent (p, _) (List.mem_append_right _ (List.mem_cons_of_mem _ (List.mem_singleton.mpr rfl)))
    have e2 : H'' b = some (.tup ((trK (titleF cs[i])).map kV)) := T2.ent (b, _) (List.mem_append_right _ (List.mem_cons_self ..))
    have eD : H'' D = some (.lst (ps.map V.ref)) := T2.ent (D, _) (List.mem_append_left _ (List.mem_append_right _ (List.mem_singleton.mpr rfl)))
    have hd3 := hd2.mono (Fr.wk0 f)
    have hA := (hT.mono f (fun d z => nomatch z) (fun d z => nomatch z)).add e1 e2 hd3
    refine ⟨_, eD, szl (by rw [List.length_map]; omega), by omega, ps ++ [p], kvs ++ [(trK (titleF cs[i]), .ref a)], by simp [hp], ?_, ?_⟩
    · rw [take_more hc]
      exact hA.mono (N := [D]) (Fr.set (List.mem_singleton.mpr rfl)) (fun d z => by rw [List.mem_singleton.mp z]; exact List.mem_cons_self ..) (fun d z xs e => by rw [List.mem_singleton.mp z, eD] at e; cases e)
    · have T3 := ((T2.sub (List.sublist_append_left _ _)).subD (Ds' := Ds) (fun x hx => List.mem_append_left _ hx)).set (o' := .lst (ps.map V.ref ++ [.ref p])) L.length (gD _) ⟨List.mem_cons_self .., .inr DF⟩
      rw [show (L ++ [(D, HO.lst (ps.map V.ref))]).set L.length (D, .lst (ps.map V.ref ++ [.ref p])) = L ++ [(D, .lst (ps.map V.ref ++ [.ref p]))] by simp] at T3
      rw [List.map_append]
      exact T3
  · rintro H' ⟨_, ps, kvs, hp, hT, T⟩
    rw [hl, List.take_length] at hT
    exact k D H' ps kvs hD (hT.wk fun _ z => List.mem_cons_of_mem _ z) (S.over T).dropM
/-- the last piece of this title -/
def knownF (cs : List (List Int)) (t : Int × Int × Int) : Option (List Int) := cs.foldl (fun acc c => if titleF c = t then some c else acc) none
theorem knownF_more (cs : List (List Int)) (c : List Int) (t : Int × Int × Int) : knownF (cs ++ [c]) t = if titleF c = t then some c else knownF cs t := by
  unfold knownF; rw [List.foldl_append]; rfl
theorem mergeD_more (kvs : List (List Key × V)) (k : List Key) (v : V) : mergeD [] (kvs ++ [(k, v)]) = putK (mergeD [] kvs) k v := by
  unfold mergeD; rw [List.foldl_append]; rfl
/-- what the dict of these pairs holds at a title -/
theorem TPairs.val (t : Int × Int × Int) : ∀ {cs : List (List Int)} {kvs : List (List Key × V)}, kvs.length = cs.length → (∀ (j : Nat) (c : List Int), cs[j]? = some c → ∃ a : Addr, kvs[j]? = some (trK (titleF c), .ref a) ∧ Dt K M H (.tuple (c.map .int)) (.ref a)) →
    (knownF cs t = none ∧ valV (mergeD [] kvs) (trK t) = none) ∨ ∃ (c : List Int) (a : Addr), knownF cs t = some c ∧ valV (mergeD [] kvs) (trK t) = some (.ref a) ∧ Dt K M H (.tuple (c.map .int)) (.ref a) := by
  suffices hh : ∀ (n : Nat) {cs : List (List Int)} {kvs : List (List Key × V)}, cs.length = n → kvs.length = cs.length → (∀ (j : Nat) (c : List Int), cs[j]? = some c → ∃ a : Addr, kvs[j]? = some (trK (titleF c), .ref a) ∧ Dt K M H (.tuple (c.map .int)) (.ref a)) →
    (knownF cs t = none ∧ valV (mergeD [] kvs) (trK t) = none) ∨ ∃ (c : List Int) (a : Addr), knownF cs t = some c ∧ valV (mergeD [] kvs) (trK t) = some (.ref a) ∧ Dt K M H (.tuple (c.map .int)) (.ref a) from fun {cs kvs} => hh cs.length rfl
  intro n
  induction n with
  | zero =>
    intro cs kvs hn hl _
    rw [hn] at hl
    rw [List.length_eq_zero_iff.mp hl, List.length_eq_zero_iff.mp hn]
    exact .inl ⟨rfl, rfl⟩
  | succ n ih =>
    intro cs0 kvs hn hl h
    obtain ⟨cs, c, rfl⟩ : ∃ cs c, cs0 = cs ++ [c] := by
      rcases List.eq_nil_or_concat cs0 with z | ⟨l, c, z⟩
      · rw [z] at hn; cases hn
      · exact ⟨l, c, by rw [z, List.concat_eq_append]⟩
    rw [List.length_append, List.length_singleton] at hl hn
    obtain ⟨a, e1, e2⟩ := h cs.length c (by rw [List.getElem?_append_right (Nat.le_refl _), Nat.sub_self]; rfl)
    have hk : kvs = kvs.take cs.length ++ [(trK (titleF c), .ref a)] := by
      rw [← take_more e1, ← hl, List.take_length]
    have ih' := ih (cs := cs) (kvs := kvs.take cs.length) (by omega) (by rw [List.length_take]; omega) (fun j c' e => by
      have hj := (List.getElem?_eq_some_iff.mp e).1
      obtain ⟨a', q1, q2⟩ := h j c' (by rw [List.getElem?_append_left hj]; exact e)
      exact ⟨a', by rw [List.getElem?_take, if_pos hj]; exact q1, q2⟩)
    rw [hk, mergeD_more, valV_put, knownF_more]
    by_cases ht : titleF c = t
    · rw [if_pos ht, if_pos (by rw [ht])]
      exact .inr ⟨c, a, rfl, rfl, e2⟩
    · rw [if_neg ht, if_neg (fun z => ht (trK_inj z).symm)]
      exact ih'
/-- at p a dict: the pieces by their titles -/
def DTAt (K : PySem.W.Frag) (M : List Addr) (H : Hp) (p : Addr) (cs : List (List Int)) : Prop := ∃ kvs : List (List Key × V), H p = some (.dT (mergeD [] kvs)) ∧ kvs.length = cs.length ∧ ∀ (j : Nat) (c : List Int), cs[j]? = some c → ∃ a : Addr, kvs[j]? = some (trK (titleF c), .ref a) ∧ Dt K M H (.tuple (c.map .int)) (.ref a)
theorem DTAt.ex (h : DTAt K M H p cs) (f : Fr [] H H') : DTAt K M H' p cs := by
  obtain ⟨kvs, e, hl, g⟩ := h
  exact ⟨kvs, f _ _ (fun z => nomatch z) e, hl, fun j c ec => by
    obtain ⟨a, e1, e2⟩ := g j c ec
    exact ⟨a, e1, e2.mono f.wk0⟩⟩
theorem DTAt.val (h : DTAt K M H p cs) (t : Int × Int × Int) : ∃ kvs : List (List Key × V), H p = some (.dT kvs) ∧ ((knownF cs t = none ∧ valV kvs (trK t) = none) ∨ ∃ (c : List Int) (a : Addr), knownF cs t = some c ∧ valV kvs (trK t) = some (.ref a) ∧ Dt K M H (.tuple (c.map .int)) (.ref a)) := by
  obtain ⟨kvs, e, hl, g⟩ := h
  exact ⟨_, e, TPairs.val t hl g⟩
/-- dict of these pairs -/
theorem n_dictPT (S : Sy K H0 M H L Ds) (h : SqL K H q (ps.map V.ref)) (hT : TPairs K M H cs ps kvs) (k : ∀ p H', H p = none → H0.h p = none → Sy K H0 M H' L Ds → DTAt K M H' p cs → Q (.ref p) H') : rDictPT K [.ref q] H Q := by
  have hp : ∀ {ps : List Addr} {kvs : List (List Key × V)}, tupsAt H ps kvs → Paired (fun p kv => ∃ b, SqT K H p [.ref b, kv.2] ∧ H b = some (.tup (kv.1.map kV))) ps kvs := by
    intro ps kvs z
    induction z with
    | nil => exact .nil
    | cons hh t ih =>
      obtain ⟨b, h1, h2⟩ := hh
      exact .cons ⟨b, .inl (.inl h1), h2⟩ ih
  refine ⟨q, ps, kvs, rfl, h, hp hT.1, fun p hn => ?_⟩
  have f := Fr.new (M := []) (o := .dT (mergeD [] kvs)) hn
  exact k p _ hn (S.free hn) (S.ex f) ⟨kvs, upd_same, hT.2.1, fun j c ec => by
    obtain ⟨a, e1, e2⟩ := hT.2.2 j c ec
    exact ⟨a, e1, e2.mono f.wk0⟩⟩
end
section
open PyProof.Rows
variable {X : Cx}
/-- x, y, z = a, b, c: three plain local names -/
def tPar3 (i j l : Nat) (ta : TA) : TS := fun D σ H => ta σ H fun vs H1 => ∃ v w u, vs = [v, w, u] ∧ D.nx (((σ.set i (some v)).set j (some w)).set l (some u)) H1
theorem ps_par3 {i j l : Nat} {x y z : Str} {a b c : Expr} {ta : TA} {px py pz pt pos : Pos} {kt k2 pt2} (hc : X.calm = true) (hN : X.N.Nodup) (hi : X.N[i]? = some x) (hj : X.N[j]? = some y) (hl : X.N[l]? = some z) (hij : i ≠ j) (hil : i ≠ l) (hjl : j ≠ l)
    (hx : X.env.scope.names.lookup x = some .local) (hy : X.env.scope.names.lookup y = some .local) (hz : X.env.scope.names.lookup z = some .local) (ha : PA X [a, b, c] ta)
    (hw : swappedStores [.Tuple [.Name x px, .Name y py, .Name z pz] kt pt] (.Tuple [a, b, c] k2 pt2) X.env = pure (some [x, y, z]))
    (hs : swapsWithSole [.Tuple [.Name x px, .Name y py, .Name z pz] kt pt] (.Tuple [a, b, c] k2 pt2) pos.line X.env = pure false := by rfl) :
    PS X (.Assign [.Tuple [.Name x px, .Name y py, .Name z pz] kt pt] (.Tuple [a, b, c] k2 pt2) pos) (tPar3 i j l ta) := by
  refine ⟨fun pins s σ H D I h => ?_⟩
  rw [exec_Assign_arm]
  refine wpAny_bind (wpAny_standAt ?_)
  rw [hs]
  refine wpAny_bind (wpAny_pure ?_)
  rw [if_neg (by decide)]
  refine wpAny_bind (Tuple_ (thn (ha.run _ pins s σ H _ I h) fun us s1 ⟨vs, H1, I1, r1, q1⟩ => ?_))
  obtain ⟨v, w, u, e1, q1⟩ := q1
  subst e1
  obtain ⟨u1, u2, u3, rfl, rv, rw', ru⟩ : ∃ u1 u2 u3, us = [u1, u2, u3] ∧ RelV v u1 ∧ RelV w u2 ∧ RelV u u3 := by
    cases r1 with
    | cons p q =>
      cases q with
      | cons p' q' =>
        cases q' with
        | cons p2 q2 =>
          cases q2
          exact ⟨_, _, _, rfl, p, p', p2⟩
  refine wpAny_newObj_type ?_ (by show 3 ≤ sizeLine; decide)
  have I2 : Inv X pins σ H1 { s1 with heap := s1.heap.push { cls := .type "tuple", data := .seq [u1, u2, u3].toArray } } := I1.kept (t' := s1.toks) fun b o e => Heap.get?_push_of_some _ e
  rw [hw]
  refine wpAny_bind (wpAny_pure ?_)
  show wpAny (model X.prog X.w) X.A (do rule "assign.swapped-stores"; let items ← unpackItems (.ref s1.heap.objs.size) 3 none; assignInOrder [fun v => bindName X.env z v, fun v => bindName X.env y v, fun v => bindName X.env x v] items.reverse; pure Flow.next) _ _ _
  refine wpAny_bind (wpAny_rule (wpAny_bind (unpackItems_tuple (items := #[u1, u2, u3]) (I.ok.hd hc) (IsTup.new s1.heap _) fun h' hx' => ?_)))
  have I3 := I2.kept (h' := h') (t' := s1.toks) fun b o e => hx' b o (Nat.ne_of_lt (Heap.lt_size e)) e
  show wpAny _ _ (assignInOrder [fun v => bindName X.env z v, fun v => bindName X.env y v, fun v => bindName X.env x v] [u3, u2, u1] >>= fun _ => pure Flow.next) _ _ _
  refine wpAny_bind (assignInOrder_cons (wpAny_bindName (store_ok I3 hN hl (.inl hz) ru (fun s2 I4 => ?_) (.inr hz))))
  refine assignInOrder_cons (wpAny_bindName (store_ok I4 hN hj (.inl hy) rw' (fun s3 I5 => ?_) (.inr hy)))
  refine assignInOrder_cons (wpAny_bindName (store_ok I5 hN hi (.inl hx) rv (fun s4 I6 => assignInOrder_nil (wpAny_pure ?_)) (.inr hx)))
  rw [List.set_comm _ _ (Ne.symm hij), List.set_comm _ _ (Ne.symm hil), List.set_comm _ _ (Ne.symm hjl)] at I6
  exact ⟨_, H1, I6, q1⟩
theorem x_par2 {i j : Nat} {ta : TA} {D : Ends} {σ : L2.St} {H : Hp} (q : ta σ H fun vs H1 => ∃ v w, vs = [v, w] ∧ D.nx ((σ.set i (some v)).set j (some w)) H1) : tPar i j ta D σ H := q
theorem x_par3 {i j l : Nat} {ta : TA} {D : Ends} {σ : L2.St} {H : Hp} (q : ta σ H fun vs H1 => ∃ v w u, vs = [v, w, u] ∧ D.nx (((σ.set i (some v)).set j (some w)).set l (some u)) H1) : tPar3 i j l ta D σ H := q
end
/-! ## what stores hand out -/
def askR (t : Int × Int × Int) : List Row → Nat → Option (List Int) × Nat
  | [], n => (none, n)
  | r :: rs, n => if r.1 = t then (if titleF r.2 = t then (some r.2, n + 1) else askR t rs (n + 1)) else askR t rs n
def askF (ss : List (List Row)) (t : Int × Int × Int) : Option (List Int) × Nat := askR t ss.flatten 0
def askD (x : Option (List Int) × Nat) : PyData := .tuple [match x.1 with
  | none => .none
  | some ns => .tuple (ns.map .int), .int x.2]
theorem askR_other {t : Int × Int × Int} {r : Row} {rs : List Row} {n : Nat} (h : r.1 ≠ t) : askR t (r :: rs) n = askR t rs n := by rw [askR, if_neg h]
theorem askR_bad {t : Int × Int × Int} {r : Row} {rs : List Row} {n : Nat} (h : r.1 = t) (h2 : titleF r.2 ≠ t) : askR t (r :: rs) n = askR t rs (n + 1) := by rw [askR, if_pos h, if_neg h2]
theorem askR_good {t : Int × Int × Int} {r : Row} {rs : List Row} {n : Nat} (h : r.1 = t) (h2 : titleF r.2 = t) : askR t (r :: rs) n = (some r.2, n + 1) := by rw [askR, if_pos h, if_pos h2]
theorem trip_eq {a b : Int × Int × Int} : decide (([a.1, a.2.1, a.2.2] : List Int) = [b.1, b.2.1, b.2.2]) = decide (a = b) := by
  obtain ⟨a1, a2, a3⟩ := a
  obtain ⟨b1, b2, b3⟩ := b
  simp
theorem d_eqTr {K : PySem.W.Frag} {M : List Addr} {H : Hp} {Q : VK} {v u : V} {a b : Int × Int × Int} (h1 : Dt K M H (tripD a) v) (h2 : Dt K M H (tripD b) u) (q : Q (.bl (decide (a = b))) H) : rEqD K v u H Q :=
  d_eqTT (ns := [a.1, a.2.1, a.2.2]) (ms := [b.1, b.2.1, b.2.2]) h1 h2 (by rw [trip_eq]; exact q)
theorem d_neTr {K : PySem.W.Frag} {M : List Addr} {H : Hp} {Q : VK} {v u : V} {a b : Int × Int × Int} (h1 : Dt K M H (tripD a) v) (h2 : Dt K M H (tripD b) u) (q : Q (.bl (!decide (a = b))) H) : rNeD K v u H Q :=
  d_neTT (ns := [a.1, a.2.1, a.2.2]) (ms := [b.1, b.2.1, b.2.2]) h1 h2 (by rw [trip_eq]; exact q)
def spLNote (K : PySem.W.Frag) : Sp := fun vs H Q _ => ∃ (M : List Addr) (d c g : Addr) (cs : List (Option Int)) (ws0 : List Wr) (r : Rec) (v : V), vs = [.ref d, v] ∧ (∀ a ∈ M, ∃ o, H a = some o) ∧ LogAt K M H d c g cs ws0 ∧ cs.length = 54 ∧ bnd cs ∧ Dt K M H (recD r) v ∧ ws0.length ≤ 700 ∧
  logX K M d c g cs ws0 (noteW cs 4 r) H (Q .non)
theorem n_slT {K : PySem.W.Frag} {H : Hp} {Q : VK} {p : Addr} {xs : List V} {lo hi : Option Int} (h : SqT K H p xs) (hw : ¬ (HT.sIx xs.length 0 lo = 0 ∧ HT.sIx xs.length xs.length hi = xs.length)) (q : NewO H (.tup (cutV xs lo hi)) Q) : rSlT K (.ref p) lo hi H Q := ⟨p, xs, rfl, h, hw, q⟩
theorem cut7_46 (x0 x1 x2 x3 x4 x5 x6 : V) : cutV [x0, x1, x2, x3, x4, x5, x6] (some 4) (some 6) = [x4, x5] := rfl
theorem cut7_5 (x0 x1 x2 x3 x4 x5 x6 : V) : cutV [x0, x1, x2, x3, x4, x5, x6] none (some 5) = [x0, x1, x2, x3, x4] := rfl
theorem cut7_6 (x0 x1 x2 x3 x4 x5 x6 : V) : cutV [x0, x1, x2, x3, x4, x5, x6] none (some 6) = [x0, x1, x2, x3, x4, x5] := rfl
/-! ## why a manifest isn't let in -/
def topV (cs : List (Option Int)) (t : Int) : Int := ((headL cs t).getD 1 none).getD 0
def refB (t : Int) (cs : List (Option Int)) (ks : List Int) (m : Man) : Str :=
  if whyF cs ks t ≠ "" then "hurt" else if ¬ (floorO cs 2 ≤ m.n ∧ m.n < ks.length) then "key" else if sealF (ks.getD m.n.toNat 0) [m.v, m.many, m.one, m.two, m.n] ≠ m.s then "seal" else if m.v < floorO cs 0 ∨ m.v ≤ topV cs t then "old" else ""
def refF (cs : List (Option Int)) (ks : List Int) (m : Man) : Str := refB (bookedO cs).1 cs ks m
def spWhyRef (C : Addr) (K : PySem.W.Frag) : Sp := fun vs H Q _ => ∃ (M : List Addr) (m dx l : Addr) (μ : Mem) (ks : List Int) (v : V) (mn : Man) (u : V), vs = [.ref m, v, u] ∧ (∀ a ∈ M, ∃ o, H a = some o) ∧ MemAt C H m dx l μ ∧ μ.up = true ∧ μ.cells.length = 54 ∧ bnd μ.cells ∧ bookOk μ.cells ∧ Dt K M H (keysD ks) v ∧ gk ks ∧ Dt K M H (manD mn) u ∧ gman mn ∧
  ∀ H', Fr [] H H' → Q (.str (refF μ.cells ks mn)) H'
def spLRef (K : PySem.W.Frag) : Sp := fun vs H Q _ => ∃ (M : List Addr) (p : Addr) (cs : List (Option Int)) (ks : List Int) (v : V) (mn : Man) (u : V), vs = [.ref p, v, u] ∧ (∀ a ∈ M, ∃ o, H a = some o) ∧ SqL K H p (cs.map ov) ∧ cs.length = 54 ∧ bnd cs ∧ bookOk cs ∧ Dt K M H (keysD ks) v ∧ gk ks ∧ Dt K M H (manD mn) u ∧ gman mn ∧
  ∀ H', Fr [] H H' → Q (.str (refF cs ks mn)) H'
theorem askR_filter {t : Int × Int × Int} : ∀ (rs : List Row) (n : Nat), askR t rs n = askR t (rs.filter fun r => decide (r.1 = t)) n
  | [], _ => rfl
  | r :: rs, n => by
    by_cases h : r.1 = t
    · rw [List.filter_cons_of_pos (by simpa using h)]
      by_cases h2 : titleF r.2 = t
      · rw [askR_good h h2, askR_good h h2]
      · rw [askR_bad h h2, askR_bad h h2, askR_filter rs]
    · rw [List.filter_cons_of_neg (by simpa using h), askR_other h, askR_filter rs]
theorem askR_at {t : Int × Int × Int} {F : List Row} {k n : Nat} {r : Row} (hF : ∀ r ∈ F, r.1 = t) (h : F[k]? = some r) : askR t (F.drop k) n = if titleF r.2 = t then (some r.2, n + 1) else askR t (F.drop (k + 1)) (n + 1) := by
  obtain ⟨h1, h2⟩ := List.getElem?_eq_some_iff.mp h
  rw [List.drop_eq_getElem_cons h1, h2]
  have := hF r (List.mem_of_getElem? h)
  split
  · rename_i z; rw [askR_good this z]
  · rename_i z; rw [askR_bad this z]
theorem joinF_b (ts : List (Int × Int × Int)) : 0 ≤ (joinF ts).1 ∧ (joinF ts).1 ≤ 9972 ∧ 0 ≤ (joinF ts).2 ∧ (joinF ts).2 ≤ 9972 := by
  rcases List.eq_nil_or_concat ts with rfl | ⟨l, t, rfl⟩
  · decide
  · rw [List.concat_eq_append, joinF_more]; unfold jstep; dsimp only; omega
/-! ## the pieces that are trusted -/
/-- the whole row of a good slot -/
def rowOf (cs : List (Option Int)) (t : Int) : List Int := (allI (partsL cs t (((headL cs t).getD 2 none).getD 0))).getD []
def spTrusted (C : Addr) (K : PySem.W.Frag) : Sp := fun vs H Q _ => ∃ (M : List Addr) (m dx l : Addr) (μ : Mem) (ks : List Int), vs = [.ref m] ∧ (∀ a ∈ M, ∃ o, H a = some o) ∧ MemAt C H m dx l μ ∧ μ.up = true ∧ μ.cells.length = 54 ∧ bookOk μ.cells ∧ whyF μ.cells ks (bookedO μ.cells).1 = "" ∧
  ∀ p H', Fr [] H H' → H p = none → DTAt K M H' p (piecesF (rowOf μ.cells (bookedO μ.cells).1)) → Q (.ref p) H'
def spTitleN (K : PySem.W.Frag) : Sp := fun vs H Q _ => ∃ (p : Addr) (xs : List (Option Int)), vs = [.ref p] ∧ SqE K H p (xs.map ov) ∧ xs.length ≤ 10000 ∧ (allI xs = none → ∀ H', Fr [] H H' → Q .non H') ∧
  (∀ ns t H', allI xs = some ns → Fr [] H H' → H t = none → H' t = some (.tup [.int (titleF ns).1, .int (titleF ns).2.1, .int (titleF ns).2.2]) → Q (.ref t) H')
section
variable {K : PySem.W.Frag} {M : List Addr} {H : Hp} {H0 : Bs} {p : Addr} {L : List (Addr × HO)} {Ds : List (PyData × V)} {Q : VK} {E : XK}
theorem du_title {ns : List Int} (S : Sy K H0 M H L Ds) (h : Dt K M H (.list (ns.map .int)) (.ref p) ∨ Dt K M H (.tuple (ns.map .int)) (.ref p)) (hz : ns.length ≤ 10000)
    (k : ∀ t H', Sy K H0 M H' L (Ds ++ [(tripD (titleF ns), .ref t)]) → Q (.ref t) H') : spTitleN K [.ref p] H Q E := by
  refine ⟨p, ns.map some, rfl, by rw [← ints_ov]; exact Dt.sq h, by rw [List.length_map]; omega, fun z => ?_, fun ms t H' hm f ht e => ?_⟩
  · rw [allI_some] at z; cases z
  · rw [allI_some] at hm; cases hm
    refine k t H' ((S.ex f).addD ?_)
    exact Dt.tupI ⟨.inl (.inl e), .inl (S.notM ht)⟩ (DtL.cons' Dt.int' (DtL.cons' Dt.int' (DtL.cons' Dt.int' DtL.nil')))
end

/-! ## an update, as a plain function -/
def cutO (cs : List (Option Int)) (pl n : Int) : List (Option Int) := (cs.drop pl.toNat).take n.toNat
/-- which way a piece is come by, and what is to be put; none: it lacks -/
def stepL (ss : List (List Row)) (kn : List (List Int)) (cs : List (Option Int)) (pl : Int) (t : Int × Int × Int) : Option (Nat × List Int) :=
  if titleO (cutO cs pl t.2.2) = some t then some (0, [])
  else match knownF kn t with
    | some pc => some (1, pc)
    | none => (askF ss t).1.map fun pc => (2, pc)
def bumpL (ct : List Int) (w : Nat) : List Int := ct.set w (ct.getD w 0 + 1)
def layF (ss : List (List Row)) (kn : List (List Int)) : List (Int × Int × Int) → Int → List (Option Int) → List Int → List Wr × List Int × Bool
  | [], _, _, ct => ([], ct, false)
  | t :: ts, pl, cs, ct => match stepL ss kn cs pl t with
    | none => ([], ct, true)
    | some wp => (putW cs pl.toNat wp.2 ++ (layF ss kn ts (pl + t.2.2) (applyW (putW cs pl.toNat wp.2) cs) (bumpL ct wp.1)).1, (layF ss kn ts (pl + t.2.2) (applyW (putW cs pl.toNat wp.2) cs) (bumpL ct wp.1)).2)
def layD (r : List Int × Bool) : PyData := .tuple (r.1.map .int ++ [if r.2 = true then .int r.1.sum else .none])
/-- each piece has its place -/
def fitsL : List (Int × Int × Int) → Int → Prop
  | [], _ => True
  | t :: ts, pl => 0 ≤ pl ∧ 0 ≤ t.2.2 ∧ t.2.2 ≤ 3 ∧ pl + t.2.2 ≤ 54 ∧ fitsL ts (pl + t.2.2)
theorem bumpL_ok {ct : List Int} {w : Nat} (h : ct.length = 3) (hw : w < 3) : (bumpL ct w).length = 3 ∧ (bumpL ct w).sum = ct.sum + 1 := by
  obtain ⟨a, b, c, rfl⟩ : ∃ a b c, ct = [a, b, c] := by
    match ct, h with
    | [a, b, c], _ => exact ⟨a, b, c, rfl⟩
  have : w = 0 ∨ w = 1 ∨ w = 2 := by omega
  rcases this with rfl | rfl | rfl <;> simp [bumpL] <;> omega
theorem knownF_some : ∀ {cs : List (List Int)} {t : Int × Int × Int} {c : List Int}, knownF cs t = some c → titleF c = t ∧ c ∈ cs := by
  intro cs
  suffices hh : ∀ (n : Nat) {cs : List (List Int)} {t : Int × Int × Int} {c : List Int}, cs.length = n → knownF cs t = some c → titleF c = t ∧ c ∈ cs from fun {t c} => hh cs.length rfl
  intro n
  induction n with
  | zero => intro cs t c hn h; rw [List.length_eq_zero_iff.mp hn] at h; cases h
  | succ n ih =>
    intro cs0 t c hn h
    obtain ⟨cs, d, rfl⟩ : ∃ cs c, cs0 = cs ++ [c] := by
      rcases List.eq_nil_or_concat cs0 with z | ⟨l, c, z⟩
      · rw [z] at hn; cases hn
      · exact ⟨l, c, by rw [z, List.concat_eq_append]⟩
    rw [List.length_append, List.length_singleton] at hn
    rw [knownF_more] at h
    by_cases ht : titleF d = t
    · rw [if_pos ht] at h
      cases h
      exact ⟨ht, by simp⟩
    · rw [if_neg ht] at h
      have := ih (by omega) h
      exact ⟨this.1, List.mem_append_left _ this.2⟩
theorem askR_some {t : Int × Int × Int} {pc : List Int} : ∀ {rs : List Row} {n : Nat}, (askR t rs n).1 = some pc → titleF pc = t ∧ (t, pc) ∈ rs
  | [], _, h => nomatch h
  | r :: rs, n, h => by
    by_cases h1 : r.1 = t
    · by_cases h2 : titleF r.2 = t
      · rw [askR_good h1 h2] at h
        cases h
        refine ⟨h2, ?_⟩
        rw [← h1]; exact List.mem_cons_self ..
      · rw [askR_bad h1 h2] at h
        have := askR_some h
        exact ⟨this.1, List.mem_cons_of_mem _ this.2⟩
    · rw [askR_other h1] at h
      have := askR_some h
      exact ⟨this.1, List.mem_cons_of_mem _ this.2⟩
theorem askF_some {ss : List (List Row)} {t : Int × Int × Int} {pc : List Int} (g : gStores ss) (h : (askF ss t).1 = some pc) : titleF pc = t ∧ ∀ n ∈ pc, 0 ≤ n ∧ n ≤ 9972 := by
  obtain ⟨h1, h2⟩ := askR_some h
  obtain ⟨st, h3, h4⟩ := List.mem_flatten.mp h2
  exact ⟨h1, ((g.2.2 st h3).2 _ h4).2.2⟩
theorem title_len {pc : List Int} {t : Int × Int × Int} (h : titleF pc = t) : (pc.length : Int) = t.2.2 := by rw [← h]; rfl
/-- what is put fits -/
theorem stepL_ok {ss : List (List Row)} {kn : List (List Int)} {cs : List (Option Int)} {pl : Int} {t : Int × Int × Int} {w : Nat} {pc : List Int} (g : gStores ss) (hk : ∀ c ∈ kn, ∀ n ∈ c, 0 ≤ n ∧ n ≤ 9972) (ht : 0 ≤ t.2.2) (h : stepL ss kn cs pl t = some (w, pc)) : w < 3 ∧ (pc.length : Int) ≤ t.2.2 ∧ ∀ n ∈ pc, 0 ≤ n ∧ n ≤ 9972 := by
  unfold stepL at h
  split at h
  · cases h; exact ⟨by decide, by simpa using ht, by simp⟩
  · cases hn : knownF kn t with
    | some c =>
      rw [hn] at h
      cases h
      obtain ⟨h1, h2⟩ := knownF_some hn
      exact ⟨by decide, by rw [title_len h1]; exact Int.le_refl _, hk _ h2⟩
    | none =>
      rw [hn] at h
      dsimp only at h
      cases ha : (askF ss t).1 with
      | none => rw [ha] at h; cases h
      | some c =>
        rw [ha] at h
        cases h
        obtain ⟨h1, h2⟩ := askF_some g ha
        exact ⟨by decide, by rw [title_len h1]; exact Int.le_refl _, h2⟩
theorem piecesF_mem {ns c : List Int} (h : c ∈ piecesF ns) : ∀ n ∈ c, n ∈ ns := by
  unfold piecesF at h
  obtain ⟨k, -, rfl⟩ := List.mem_map.mp h
  intro n hn
  exact List.mem_of_mem_drop (List.mem_of_mem_take hn)
theorem layF_at {ss : List (List Row)} {kn : List (List Int)} (g : gStores ss) (hk : ∀ c ∈ kn, ∀ n ∈ c, 0 ≤ n ∧ n ≤ 9972) : ∀ {ts : List (Int × Int × Int)} {pl : Int} {cs : List (Option Int)} {ct : List Int}, fitsL ts pl → ∀ p ∈ (layF ss kn ts pl cs ct).1, (pl.toNat ≤ p.1 ∧ p.1 < pl.toNat + (ts.map fun t => t.2.2.toNat).sum) ∧ 0 ≤ p.2 ∧ p.2 ≤ 9972
  | [], _, _, _, _, p, hp => by cases hp
  | t :: ts, pl, cs, ct, h, p, hp => by
    obtain ⟨h1, h2, h3, h4, h5⟩ := h
    unfold layF at hp
    cases e : stepL ss kn cs pl t with
    | none => rw [e] at hp; cases hp
    | some wp =>
      obtain ⟨w, pc⟩ := wp
      rw [e] at hp
      obtain ⟨k1, k2, k3⟩ := stepL_ok g hk h2 e
      rw [List.map_cons, List.sum_cons]
      rcases List.mem_append.mp hp with hp | hp
      · have := putW_ok k3 p hp
        omega
      · have := layF_at g hk h5 p hp
        omega
/-- how many are laid at most -/
theorem layF_len {ss : List (List Row)} {kn : List (List Int)} (g : gStores ss) (hk : ∀ c ∈ kn, ∀ n ∈ c, 0 ≤ n ∧ n ≤ 9972) : ∀ {ts : List (Int × Int × Int)} {pl : Int} {cs : List (Option Int)} {ct : List Int}, fitsL ts pl → (layF ss kn ts pl cs ct).1.length ≤ 3 * ts.length
  | [], _, _, _, _ => by simp [layF]
  | t :: ts, pl, cs, ct, h => by
    obtain ⟨h1, h2, h3, h4, h5⟩ := h
    unfold layF
    cases e : stepL ss kn cs pl t with
    | none => simp
    | some wp =>
      obtain ⟨w, pc⟩ := wp
      obtain ⟨k1, k2, k3⟩ := stepL_ok g hk h2 e
      dsimp only
      rw [List.length_append, List.length_cons]
      have := putW_len cs pl.toNat pc
      have := layF_len g hk (cs := applyW (putW cs pl.toNat pc) cs) (ct := bumpL ct w) h5
      omega
theorem layF_ct {ss : List (List Row)} {kn : List (List Int)} (g : gStores ss) (hk : ∀ c ∈ kn, ∀ n ∈ c, 0 ≤ n ∧ n ≤ 9972) : ∀ {ts : List (Int × Int × Int)} {pl : Int} {cs : List (Option Int)} {ct : List Int}, fitsL ts pl → ct.length = 3 → (layF ss kn ts pl cs ct).2.1.length = 3
  | [], _, _, _, _, h => h
  | t :: ts, pl, cs, ct, h, h3 => by
    obtain ⟨h1, h2, _, h4, h5⟩ := h
    unfold layF
    cases e : stepL ss kn cs pl t with
    | none => exact h3
    | some wp => exact layF_ct g hk h5 (bumpL_ok h3 (stepL_ok g hk h2 e).1).1
theorem fits_sum : ∀ {ts : List (Int × Int × Int)} {pl : Int}, 0 ≤ pl → (∀ t ∈ ts, 0 ≤ t.2.2 ∧ t.2.2 ≤ 3) → pl + (ts.map fun t => t.2.2).sum ≤ 54 → fitsL ts pl
  | [], _, _, _, _ => trivial
  | t :: ts, pl, h0, h, hs => by
    rw [List.map_cons, List.sum_cons] at hs
    have ht := h t (List.mem_cons_self ..)
    have hn : 0 ≤ (ts.map fun t => t.2.2).sum := by
      have : ∀ xs : List Int, (∀ x ∈ xs, 0 ≤ x) → 0 ≤ xs.sum := fun xs => by
        induction xs with
        | nil => intro _; simp
        | cons x xs ih => intro h; have := h x (List.mem_cons_self ..); have := ih fun y hy => h y (List.mem_cons_of_mem _ hy); rw [List.sum_cons]; omega
      exact this _ fun x hx => by obtain ⟨t, h1, rfl⟩ := List.mem_map.mp hx; exact (h t (List.mem_cons_of_mem _ h1)).1
    exact ⟨h0, ht.1, ht.2, by omega, fits_sum (by omega) (fun u hu => h u (List.mem_cons_of_mem _ hu)) (by omega)⟩
theorem sizesF_sum {n : Int} (h1 : 1 ≤ n) (h2 : n ≤ 12) : (sizesF n).sum = n := by
  have : n = 1 ∨ n = 2 ∨ n = 3 ∨ n = 4 ∨ n = 5 ∨ n = 6 ∨ n = 7 ∨ n = 8 ∨ n = 9 ∨ n = 10 ∨ n = 11 ∨ n = 12 := by omega
  rcases this with rfl | rfl | rfl | rfl | rfl | rfl | rfl | rfl | rfl | rfl | rfl | rfl <;> decide
theorem gman.fits {m : Man} (g : gman m) {s : Int} (hs : s = 0 ∨ s = 1) : fitsL m.ts (slotB s + 7) := by
  have hb := slotB_b hs
  refine fits_sum (by omega) (fun t ht => g.three ht) ?_
  rw [g.sizes, sizesF_sum g.many.1 g.many.2]
  have := g.many
  rcases hs with rfl | rfl <;> simp [slotB] <;> omega
theorem gman.span {m : Man} (g : gman m) : (m.ts.map fun t => t.2.2.toNat).sum = m.many.toNat := by
  have h : ∀ ts : List (Int × Int × Int), (∀ t ∈ ts, 0 ≤ t.2.2) → (((ts.map fun t => t.2.2.toNat).sum : Nat) : Int) = (ts.map fun t => t.2.2).sum := by
    intro ts
    induction ts with
    | nil => intro _; rfl
    | cons t ts ih =>
      intro h
      have := h t (List.mem_cons_self ..)
      have := ih fun u hu => h u (List.mem_cons_of_mem _ hu)
      rw [List.map_cons, List.sum_cons, List.map_cons, List.sum_cons]
      omega
  have := h m.ts fun t ht => (g.three ht).1
  rw [g.sizes, sizesF_sum g.many.1 g.many.2] at this
  omega
/-! ### the whole update -/
def updN (b : Rec) (cs : List (Option Int)) : List Wr := if b.2.1 = 1 then noteW cs 4 (b.1, 0, 0) else []
def updC (b : Rec) (cs : List (Option Int)) : List (Option Int) := applyW (openW (1 - b.1) (applyW (updN b cs) cs)) (applyW (updN b cs) cs)
def updR (b : Rec) (mn : Man) (ss : List (List Row)) (cs : List (Option Int)) : List Wr × List Int × Bool := layF ss (piecesF (rowOf cs b.1)) mn.ts (slotB (1 - b.1) + 7) (updC b cs) [0, 0, 0]
def updE (b : Rec) (tries : Int) (mn : Man) : List (Option Int) → List Wr := thenW (closeW (1 - b.1) mn.h) fun c => noteW c 4 (b.1, 1, tries)
def updWb (b : Rec) (ks : List Int) (tries : Int) (mn : Man) (ss : List (List Row)) (cs : List (Option Int)) : List Wr :=
  if refB b.1 cs ks mn ≠ "" then [] else updN b cs ++ (openW (1 - b.1) (applyW (updN b cs) cs) ++ ((updR b mn ss cs).1 ++ (if (updR b mn ss cs).2.2 = true then [] else updE b tries mn (applyW (updR b mn ss cs).1 (updC b cs)))))
def updDb (b : Rec) (ks : List Int) (mn : Man) (ss : List (List Row)) (cs : List (Option Int)) : PyData :=
  if refB b.1 cs ks mn ≠ "" then .tuple [.str (refB b.1 cs ks mn)] else if (updR b mn ss cs).2.2 = true then .tuple [.str "lacks", .int (updR b mn ss cs).2.1.sum] else .tuple (.str "laid" :: (updR b mn ss cs).2.1.map .int)
def updW (ks : List Int) (tries : Int) (mn : Man) (ss : List (List Row)) (cs : List (Option Int)) : List Wr := updWb (bookedO cs) ks tries mn ss cs
def updD (ks : List Int) (mn : Man) (ss : List (List Row)) (cs : List (Option Int)) : PyData := updDb (bookedO cs) ks mn ss cs
theorem refB_good {t : Int} {cs : List (Option Int)} {ks : List Int} {m : Man} (h : refB t cs ks m = "") : whyF cs ks t = "" := by
  unfold refB at h
  split at h
  · exact absurd h (by decide +kernel)
  · rename_i z; exact Decidable.of_not_not z
/-- writes that leave a slot and the floors -/
def farW (t : Int) (ws : List Wr) : Prop := ∀ p ∈ ws, 4 ≤ p.1 ∧ (p.1 < 16 ∨ ((slotB (1 - t)).toNat ≤ p.1 ∧ p.1 < (slotB (1 - t)).toNat + 19))
theorem farW_app {t : Int} {a b : List Wr} (h1 : farW t a) (h2 : farW t b) : farW t (a ++ b) := fun p hp => (List.mem_append.mp hp).elim (h1 p) (h2 p)
theorem far_head {t : Int} {ws : List Wr} {cs : List (Option Int)} (ht : t = 0 ∨ t = 1) (h : farW t ws) : headL (applyW ws cs) t = headL cs t := by
  refine headL_out ht fun p hp => ?_
  have := h p hp
  rcases ht with rfl | rfl <;> simp [slotB] at this ⊢ <;> omega
theorem far_parts {t n : Int} {ws : List Wr} {cs : List (Option Int)} (ht : t = 0 ∨ t = 1) (h : farW t ws) (hn : n ≤ 12) : partsL (applyW ws cs) t n = partsL cs t n := by
  refine partsL_out ht (fun p hp => ?_) hn
  have := h p hp
  rcases ht with rfl | rfl <;> simp [slotB] at this ⊢ <;> omega
theorem far_floor {t : Int} {ws : List Wr} {cs : List (Option Int)} (h : farW t ws) {i : Nat} (hi : i < 3) : floorO (applyW ws cs) i = floorO cs i := floor_out fun p hp => by have := h p hp; omega
theorem far_good {t : Int} {ws : List Wr} {cs : List (Option Int)} {ks : List Int} (ht : t = 0 ∨ t = 1) (h : farW t ws) (hw : whyF cs ks t = "") : whyF (applyW ws cs) ks t = "" := by
  obtain ⟨v, many, one, two, n, sl, e, h1, h2, h3, h4, h5, h6, h7⟩ := good_inv hw
  exact good_mk (by rw [far_head ht h]; exact e) h1 h2 (by rw [far_parts ht h h2]; exact h3) (by rw [far_floor h (by decide)]; exact h4) h5 h6 (by rw [far_floor h (by decide)]; exact h7)
theorem far_row {t : Int} {ws : List Wr} {cs : List (Option Int)} {ks : List Int} (ht : t = 0 ∨ t = 1) (h : farW t ws) (hw : whyF cs ks t = "") : rowOf (applyW ws cs) t = rowOf cs t := by
  obtain ⟨v, many, one, two, n, sl, e, h1, h2, -⟩ := good_inv hw
  unfold rowOf
  rw [far_head ht h, e]
  show (allI (partsL (applyW ws cs) t many)).getD [] = (allI (partsL cs t many)).getD []
  rw [far_parts ht h h2]
theorem noteW_far {t : Int} {cs : List (Option Int)} {r : Rec} : farW t (noteW cs 4 r) := fun p hp => by
  have h1 := noteW_at _ _ _ p hp
  have h2 := pages_in cs 4
  omega
theorem openW_far {t : Int} {cs : List (Option Int)} (ht : t = 0 ∨ t = 1) : farW t (openW (1 - t) cs) := fun p hp => by
  have := openW_at p hp
  rcases ht with rfl | rfl <;> simp [slotB] at this ⊢ <;> omega
theorem closeW_far {t : Int} {hd : List Int} {cs : List (Option Int)} (ht : t = 0 ∨ t = 1) (h6 : hd.length = 6) : farW t (closeW (1 - t) hd cs) := fun p hp => by
  have := closeW_at h6 p hp
  rcases ht with rfl | rfl <;> simp [slotB] at this ⊢ <;> omega
theorem updN_far {b : Rec} {cs : List (Option Int)} : farW b.1 (updN b cs) := by
  unfold updN
  split
  · exact noteW_far
  · exact fun p hp => by cases hp
theorem row_b {cs : List (Option Int)} (h : bnd cs) (t : Int) : ∀ n ∈ rowOf cs t, 0 ≤ n ∧ n ≤ 9972 := by
  intro n hn
  unfold rowOf at hn
  cases e : allI (partsL cs t (((headL cs t).getD 2 none).getD 0)) with
  | none => rw [e] at hn; cases hn
  | some ns =>
    rw [e] at hn
    have := allI_inv e
    exact partsL_b h (s := t) (many := ((headL cs t).getD 2 none).getD 0) (by rw [this]; exact List.mem_map_of_mem hn)
theorem known_b {cs : List (Option Int)} (h : bnd cs) (t : Int) : ∀ c ∈ piecesF (rowOf cs t), ∀ n ∈ c, 0 ≤ n ∧ n ≤ 9972 := fun c hc n hn => row_b h t n (piecesF_mem hc n hn)
theorem layF_far {ss : List (List Row)} {mn : Man} {cs cs' : List (Option Int)} {ct : List Int} {t : Int} (g : gStores ss) (gm : gman mn) (hb : bnd cs) (ht : t = 0 ∨ t = 1) : farW t (layF ss (piecesF (rowOf cs t)) mn.ts (slotB (1 - t) + 7) cs' ct).1 := fun p hp => by
  have h := (layF_at g (known_b hb t) (gm.fits (other_slot ht).1) p hp).1
  rw [gm.span] at h
  have := gm.many
  rcases ht with rfl | rfl <;> simp [slotB] at h ⊢ <;> omega
theorem updN_booked {b : Rec} {cs : List (Option Int)} (hl : cs.length = 54) (hbd : bnd cs) (hb : bookedO cs = b) : bookedO (applyW (updN b cs) cs) = if b.2.1 = 1 then (b.1, 0, 0) else b := by
  unfold updN
  split
  · unfold bookedO recordO
    rw [note_whole (by omega) (by have := next_nn hbd 4; omega)]; rfl
  · exact hb
section
variable (C : Addr) (er : Er → Addr) (K : PySem.W.Frag)
def spLayX : Sp := fun vs H Q E => ∃ (M : List Addr) (m dx l : Addr) (μ : Mem) (ks : List Int) (s : Int) (ts : List (Int × Int × Int)) (ss : List (List Row)) (v u : V), vs = [.ref m, .int s, v, u] ∧ (∀ a ∈ M, ∃ o, H a = some o) ∧ m ∈ M ∧ l ∈ M ∧ MemAt C H m dx l μ ∧ μ.up = true ∧ μ.cells.length = 54 ∧ bnd μ.cells ∧ bookOk μ.cells ∧ whyF μ.cells ks (bookedO μ.cells).1 = "" ∧ s = 1 - (bookedO μ.cells).1 ∧ Dt K M H (.tuple (ts.map tripD)) v ∧ ts.length ≤ 12 ∧ fitsL ts (slotB s + 7) ∧ Dt K M H (storesD ss) u ∧ gStores ss ∧
  ranX C m dx l μ (layF ss (piecesF (rowOf μ.cells (bookedO μ.cells).1)) ts (slotB s + 7) μ.cells [0, 0, 0]).1 H (fun H1 => ∀ u H2, Fr [] H1 H2 → Dt K M H2 (layD (layF ss (piecesF (rowOf μ.cells (bookedO μ.cells).1)) ts (slotB s + 7) μ.cells [0, 0, 0]).2) u → Q u H2) (E (.ref (er .stopped)) none)
def spUpdX : Sp := fun vs H Q E => ∃ (M : List Addr) (m dx l : Addr) (μ : Mem) (ks : List Int) (tries j : Int) (mn : Man) (ss : List (List Row)) (v u w : V), vs = [.ref m, v, .int tries, u, w] ∧ (∀ a ∈ M, ∃ o, H a = some o) ∧ m ∈ M ∧ l ∈ M ∧ MemAt C H m dx l μ ∧ μ.up = true ∧ μ.cells.length = 54 ∧ bnd μ.cells ∧ bookOk μ.cells ∧ pgn j μ.cells ∧ 0 ≤ j ∧ j ≤ 9000 ∧ Dt K M H (keysD ks) v ∧ gk ks ∧ 1 ≤ tries ∧ tries ≤ 3 ∧ Dt K M H (manD mn) u ∧ gman mn ∧ Dt K M H (storesD ss) w ∧ gStores ss ∧
  ranX C m dx l μ (updW ks tries mn ss μ.cells) H (fun H1 => ∀ u H2, Fr [] H1 H2 → Dt K M H2 (updD ks mn ss μ.cells) u → Q u H2) (E (.ref (er .stopped)) none)
def spLUpd : Sp := fun vs H Q _ => ∃ (M : List Addr) (d c g : Addr) (cs : List (Option Int)) (ws0 : List Wr) (ks : List Int) (tries j : Int) (mn : Man) (ss : List (List Row)) (v u w : V), vs = [.ref d, v, .int tries, u, w] ∧ (∀ a ∈ M, ∃ o, H a = some o) ∧ LogAt K M H d c g cs ws0 ∧ cs.length = 54 ∧ bnd cs ∧ bookOk cs ∧ pgn j cs ∧ 0 ≤ j ∧ j ≤ 9000 ∧ Dt K M H (keysD ks) v ∧ gk ks ∧ 1 ≤ tries ∧ tries ≤ 3 ∧ Dt K M H (manD mn) u ∧ gman mn ∧ Dt K M H (storesD ss) w ∧ gStores ss ∧ ws0.length ≤ 300 ∧
  logX K M d c g cs ws0 (updW ks tries mn ss cs) H (fun H1 => ∀ u H2, Fr [] H1 H2 → Dt K M H2 (updD ks mn ss cs) u → Q u H2)
end
section
variable {K : PySem.W.Frag} {M N : List Addr} {H H' : Hp} {p q : Addr} {cs : List (List Int)}
theorem DTAt.mono (h : DTAt K M H p cs) (f : Fr N H H') (hN : ∀ d ∈ N, d ∈ M) (hp : p ∉ N) : DTAt K M H' p cs := by
  obtain ⟨kvs, e, hl, g⟩ := h
  exact ⟨kvs, f _ _ hp e, hl, fun j c ec => by
    obtain ⟨a, e1, e2⟩ := g j c ec
    exact ⟨a, e1, e2.mono (f.wk hN)⟩⟩
/-- a piece, put while a memory is written -/
theorem Dt.put {ns : List Int} {m l : Addr} (h : Dt K M H (.tuple (ns.map .int)) (.ref p)) (hm : m ∈ M) (hl : l ∈ M) : SqE K H p (ns.map V.int) ∧ (p ∉ [m, l] ∨ ∀ H', SqE K H' p (ns.map V.int)) := by
  obtain ⟨xs, s, r⟩ := h.tup
  refine ⟨Dt.sq (.inr h), ?_⟩
  have hx : xs = ns.map V.int := DtL.ints.mp r
  rcases s.2 with z | z
  · refine .inl fun y => ?_
    simp only [List.mem_cons, List.not_mem_nil, or_false] at y
    rcases y with rfl | rfl
    · exact z hm
    · exact z hl
  · refine .inr fun H' => .inr ?_
    rw [← hx]; exact z H'
end
section
variable {K : PySem.W.Frag} {M N : List Addr} {H H' H1 Hc : Hp} {H0 : Bs} {p q m dx l C : Addr} {μ : Mem} {ws ws2 : List Wr} {L : List (Addr × HO)} {Ds : List (PyData × V)} {Q : VK} {E : XK} {Q1 Q2 S : Hp → Prop} {xs : List (Option Int)} {cs : List (List Int)}
/-- the first writes; then the others, told of at the heap ahead of all -/
theorem ranX_appB (k : ranX C m dx l μ (ws ++ ws2) H Q2 S) (f : Fr [m, l] H Hc) (next : ∀ H1 μ1, Fr [m, l] Hc H1 → MemAt C H1 m dx l μ1 → μ1.cells = applyW ws μ.cells → μ1.up = μ.up → ranX C m dx l μ1 ws2 H Q2 S → Q1 H1) : ranX C m dx l μ ws Hc Q1 S := by
  intro H1 f1 hM
  refine ⟨fun hw => ?_, fun hw => ?_⟩
  · refine next H1 _ f1 hM (run_cells hw) (run_upT hw) fun H2 g hM2 => ?_
    rw [← run_ok hw] at hM2 ⊢
    exact k H2 g hM2
  · have := k H1 (f.trans f1) (by rw [run_no hw]; exact hM)
    exact this.2 (by rw [run_no hw]; exact hw)
theorem logX_appB {d c g : Addr} {os : List (Option Int)} {ws0 : List Wr} (k : logX K M d c g os ws0 (ws ++ ws2) H Q2) (f : Fr [c, g] H Hc) (next : ∀ H1, Fr [c, g] Hc H1 → LogAt K N H1 d c g (applyW ws os) (ws0 ++ ws) → logX K M d c g (applyW ws os) (ws0 ++ ws) ws2 H Q2 → Q1 H1) : logX K N d c g os ws0 ws Hc Q1 := by
  intro H1 f1 hL
  refine next H1 f1 hL fun H2 g2 hL2 => ?_
  rw [← applyW_app, List.append_assoc] at hL2
  exact k H2 g2 hL2
theorem DTAt.cons (h : DTAt K M H p cs) (n : H q = none) : DTAt K (q :: M) H p cs := by
  obtain ⟨kvs, e, hl, g⟩ := h
  exact ⟨kvs, e, hl, fun j c ec => by
    obtain ⟨a, e1, e2⟩ := g j c ec
    exact ⟨a, e1, e2.cons n⟩⟩
theorem sh_title (x : Option (Int × Int × Int)) : SeqAt.shaped (titleD x) = true := by
  cases x with
  | none => rfl
  | some t => exact sh_intsT [t.1, t.2.1, t.2.2]
theorem d_neO {v u : V} {x : Option (Int × Int × Int)} {t : Int × Int × Int} (h1 : Dt K M H (titleD x) v) (h2 : Dt K M H (tripD t) u) (q : Q (.bl (!decide (x = some t))) H) : rNeD K v u H Q := by
  cases x with
  | none =>
    refine n_neD h1.dp h2.dp (sh_title none) (sh_title (some t)) ?_
    rw [show PyData.eqv (titleD none) (tripD t) = decide (none = some t) by simp [titleD, tripD, PyData.eqv]]
    exact q
  | some s => exact d_neTr (a := s) (b := t) h1 h2 (by simpa using q)
theorem use_titleO (S : Sy K H0 M H L Ds) (h : SqE K H p (xs.map ov)) (hz : xs.length ≤ 10000) (k : ∀ u H', Fr [] H H' → Sy K H0 M H' L (Ds ++ [(titleD (titleO xs), u)]) → Q u H') : spTitleN K [.ref p] H Q E := by
  refine ⟨p, xs, rfl, h, hz, fun z H' f => k _ H' f ((S.ex f).addD ?_), fun ns t H' hn f ht e => k _ H' f ((S.ex f).addD ?_)⟩
  · unfold titleO; rw [z]; exact Dt.non'
  · unfold titleO; rw [hn]
    exact Dt.tupI ⟨.inl (.inl e), .inl (S.notM ht)⟩ (DtL.cons' Dt.int' (DtL.cons' Dt.int' (DtL.cons' Dt.int' DtL.nil')))
theorem use_nameO (S : Sy K H0 M H L Ds) (h : SqE K H p (xs.map ov)) (hz : xs.length ≤ 10000) (k : ∀ u H', Fr [] H H' → Sy K H0 M H' L (Ds ++ [(titleD (titleO xs), u)]) → Q u H') : spName K [.ref p] H Q E := by
  obtain ⟨p', xs', e, h1, h2, h3, h4⟩ := use_titleO (E := E) S h hz k
  exact ⟨p', xs', e, h1, by omega, h3, h4⟩
end
section
variable {K : PySem.W.Frag} {M N : List Addr} {H HB : Hp} {L : List (Addr × HO)} {Ds : List (PyData × V)}
/-- more may be changed -/
theorem Sy.nmore (S : Sy K ⟨HB, []⟩ M H L Ds) (N : List Addr) (hn : ∀ a ∈ N, ∃ o, HB a = some o) : Sy K ⟨HB, N⟩ M H L Ds :=
  ⟨fun b o n e => S.fr b o (fun z => nomatch z) e, S.ent, S.nd, S.dat, S.dom, fun a ha => by
    obtain ⟨o, e⟩ := hn a ha
    exact ⟨o, S.fr a o (fun z => nomatch z) e⟩⟩
end
theorem layF_some {ss : List (List Row)} {kn : List (List Int)} {t : Int × Int × Int} {ts : List (Int × Int × Int)} {pl : Int} {cs : List (Option Int)} {ct : List Int} {w : Nat} {pc : List Int} (e : stepL ss kn cs pl t = some (w, pc)) :
    layF ss kn (t :: ts) pl cs ct = (putW cs pl.toNat pc ++ (layF ss kn ts (pl + t.2.2) (applyW (putW cs pl.toNat pc) cs) (bumpL ct w)).1, (layF ss kn ts (pl + t.2.2) (applyW (putW cs pl.toNat pc) cs) (bumpL ct w)).2) := by rw [layF, e]
theorem layF_none {ss : List (List Row)} {kn : List (List Int)} {t : Int × Int × Int} {ts : List (Int × Int × Int)} {pl : Int} {cs : List (Option Int)} {ct : List Int} (e : stepL ss kn cs pl t = none) : layF ss kn (t :: ts) pl cs ct = ([], ct, true) := by rw [layF, e]
theorem stepL_kept {ss : List (List Row)} {kn : List (List Int)} {t : Int × Int × Int} {pl : Int} {cs : List (Option Int)} (h : titleO (cutO cs pl t.2.2) = some t) : stepL ss kn cs pl t = some (0, []) := by unfold stepL; rw [if_pos h]
theorem stepL_known {ss : List (List Row)} {kn : List (List Int)} {t : Int × Int × Int} {pl : Int} {cs : List (Option Int)} {pc : List Int} (h : titleO (cutO cs pl t.2.2) ≠ some t) (e : knownF kn t = some pc) : stepL ss kn cs pl t = some (1, pc) := by unfold stepL; rw [if_neg h, e]
theorem stepL_asked {ss : List (List Row)} {kn : List (List Int)} {t : Int × Int × Int} {pl : Int} {cs : List (Option Int)} (h : titleO (cutO cs pl t.2.2) ≠ some t) (e : knownF kn t = none) : stepL ss kn cs pl t = (askF ss t).1.map fun pc => (2, pc) := by unfold stepL; rw [if_neg h, e]
theorem x_setF {K : PySem.W.Frag} {H : Hp} {H0 : Bs} {M : List Addr} {L : List (Addr × HO)} {Ds : List (PyData × V)} {p : Addr} {xs : List V} {k : Int} {j : Nat} {v : V} {Q : Hp → Prop} (S : Sy K H0 M H L Ds) (i : Nat) (h : L[i]? = some (p, .lst xs)) (m : p ∈ M ∧ H0.may p) (e : ixN xs.length k = some j) (q : ∀ H', Fr [p] H H' → Sy K H0 M H' (L.set i (p, .lst (xs.set j v))) Ds → Q H') : rSetL (.ref p) (.int k) v H Q :=
  x_setL (S.get i h) e (q _ (Fr.set (List.mem_singleton.mpr rfl)) (S.set i h m))
theorem MemAt.mono {C m dx l : Addr} {μ : Mem} {N : List Addr} {H H' : Hp} (h : MemAt C H m dx l μ) (f : Fr N H H') (h1 : m ∉ N) (h2 : l ∉ N) : MemAt C H' m dx l μ := ⟨f _ _ h1 h.1, f _ _ h2 h.2.1, h.2.2⟩
theorem pgn_out {j : Int} {cs : List (Option Int)} {ws : List Wr} (h : pgn j cs) (hw : ∀ p ∈ ws, 16 ≤ p.1) : pgn j (applyW ws cs) := by
  unfold pgn
  rw [applyW_outD (k := 4) fun p hp => by have := hw p hp; omega, applyW_outD (k := 10) fun p hp => by have := hw p hp; omega]
  exact h
theorem gman.head_b {m : Man} (g : gman m) : ∀ n ∈ m.h, 0 ≤ n ∧ n ≤ 9972 := by
  have gv := g.v; have gmm := g.many; have gn := g.n; have gs := g.s
  have g1 : 0 ≤ m.one ∧ m.one ≤ 9972 ∧ 0 ≤ m.two ∧ m.two ≤ 9972 := by
    have := g.sums
    have h := joinF_b m.ts
    rw [this] at h
    exact h
  intro n hn
  simp only [Man.h, List.mem_cons, List.not_mem_nil, or_false] at hn
  omega
theorem updN_ok {b : Rec} {cs : List (Option Int)} {j : Int} (hbd : bnd cs) (hb : b.1 = 0 ∨ b.1 = 1) (hpg : pgn j cs) (j0 : 0 ≤ j) (j1 : j ≤ 9000) : ∀ p ∈ updN b cs, 0 ≤ p.2 ∧ p.2 ≤ 9972 := by
  unfold updN
  split
  · have h1 := next_nn hbd 4
    have h2 := next_pgn hpg j0
    exact noteW_ok ⟨h1, by omega⟩ ⟨by dsimp only; omega, by dsimp only; omega, by dsimp only; omega⟩
  · exact fun p hp => by cases hp
theorem openW_ok {s : Int} {cs : List (Option Int)} : ∀ p ∈ openW s cs, 0 ≤ p.2 ∧ p.2 ≤ 9972 := fun p hp => by have := openW_at p hp; omega
theorem openW_16 {s : Int} {cs : List (Option Int)} (hs : s = 0 ∨ s = 1) : ∀ p ∈ openW s cs, 16 ≤ p.1 := fun p hp => by have := openW_at p hp; have := slotB_b hs; omega
theorem updN_pgn {b : Rec} {cs : List (Option Int)} {j : Int} (hl : cs.length = 54) (hpg : pgn j cs) (j0 : 0 ≤ j) : pgn (j + 1) (applyW (updN b cs) cs) := by
  unfold updN
  split
  · exact note_pgn hpg j0 hl
  · exact pgn_mono hpg (by omega)
/-- the cells behind the note and the open slot -/
theorem upd_mid {b : Rec} {cs : List (Option Int)} {ks : List Int} {j : Int} (hl : cs.length = 54) (hbd : bnd cs) (hb : bookedO cs = b) (hbo : b.1 = 0 ∨ b.1 = 1) (hpg : pgn j cs) (j0 : 0 ≤ j) (j1 : j ≤ 9000) (hw : whyF cs ks b.1 = "") :
    (updC b cs).length = 54 ∧ bnd (updC b cs) ∧ (bookedO (updC b cs)).1 = b.1 ∧ whyF (updC b cs) ks b.1 = "" ∧ rowOf (updC b cs) b.1 = rowOf cs b.1 ∧ pgn (j + 1) (updC b cs) := by
  have f1 : farW b.1 (updN b cs) := updN_far
  have f2 : farW b.1 (openW (1 - b.1) (applyW (updN b cs) cs)) := openW_far hbo
  have o16 := openW_16 (cs := applyW (updN b cs) cs) (other_slot hbo).1
  refine ⟨by unfold updC; rw [applyW_len, applyW_len, hl], bnd_applyW (bnd_applyW hbd (updN_ok hbd hbo hpg j0 j1)) openW_ok, ?_, far_good hbo f2 (far_good hbo f1 hw), ?_, pgn_out (updN_pgn hl hpg j0) o16⟩
  · unfold updC
    rw [booked_out fun p hp => .inr (o16 p hp), updN_booked hl hbd hb]
    split <;> rfl
  · unfold updC
    rw [far_row (ks := ks) hbo f2 (far_good hbo f1 hw), far_row (ks := ks) hbo f1 hw]
theorem layF_16 {ss : List (List Row)} {kn : List (List Int)} (g : gStores ss) (hk : ∀ c ∈ kn, ∀ n ∈ c, 0 ≤ n ∧ n ≤ 9972) {mn : Man} (gm : gman mn) {s : Int} (hs : s = 0 ∨ s = 1) {cs : List (Option Int)} {ct : List Int} : ∀ p ∈ (layF ss kn mn.ts (slotB s + 7) cs ct).1, 16 ≤ p.1 ∧ 0 ≤ p.2 ∧ p.2 ≤ 9972 := fun p hp => by
  have := layF_at g hk (gm.fits hs) p hp
  have := slotB_b hs
  omega
theorem closeW_ok {s : Int} {hd : List Int} {cs : List (Option Int)} (hs : s = 0 ∨ s = 1) (hb : ∀ n ∈ hd, 0 ≤ n ∧ n ≤ 9972) : ∀ p ∈ closeW s hd cs, 16 ≤ p.1 ∧ 0 ≤ p.2 ∧ p.2 ≤ 9972 := by
  intro p hp
  have hsb := slotB_b hs
  unfold closeW thenW at hp
  rcases List.mem_append.mp hp with h | h
  · have := putW_ok hb p h
    omega
  · rw [List.mem_singleton.mp h]; dsimp only; omega
/-- the cells ahead of the last note -/
theorem upd_end {b : Rec} {cs : List (Option Int)} {ks : List Int} {j : Int} {mn : Man} {ss : List (List Row)} (hl : cs.length = 54) (hbd : bnd cs) (hb : bookedO cs = b) (hbo : b.1 = 0 ∨ b.1 = 1) (hpg : pgn j cs) (j0 : 0 ≤ j) (j1 : j ≤ 9000) (hw : whyF cs ks b.1 = "") (gm : gman mn) (gs : gStores ss) :
    (applyW (updR b mn ss cs).1 (updC b cs)).length = 54 ∧ bnd (applyW (closeW (1 - b.1) mn.h (applyW (updR b mn ss cs).1 (updC b cs))) (applyW (updR b mn ss cs).1 (updC b cs))) ∧ pgn (j + 1) (applyW (closeW (1 - b.1) mn.h (applyW (updR b mn ss cs).1 (updC b cs))) (applyW (updR b mn ss cs).1 (updC b cs))) := by
  obtain ⟨a1, a2, a3, a4, a5, a6⟩ := upd_mid (ks := ks) hl hbd hb hbo hpg j0 j1 hw
  have h16 := layF_16 gs (known_b hbd b.1) gm (other_slot hbo).1 (cs := updC b cs) (ct := [0, 0, 0])
  have hco := closeW_ok (cs := applyW (updR b mn ss cs).1 (updC b cs)) (other_slot hbo).1 gm.head_b
  refine ⟨by rw [applyW_len]; exact a1, bnd_applyW (bnd_applyW a2 fun p hp => (h16 p hp).2) fun p hp => (hco p hp).2, pgn_out (pgn_out a6 fun p hp => (h16 p hp).1) fun p hp => (hco p hp).1⟩
section
variable {K : PySem.W.Frag} {M : List Addr} {H : Hp} {d c g q : Addr} {cs : List (Option Int)} {ws : List Wr}
theorem LogAt.cons (h : LogAt K M H d c g cs ws) (n : H q = none) : LogAt K (q :: M) H d c g cs ws := by
  obtain ⟨h1, h2, ⟨vs, e, hv⟩, h4, h5, h6, h7, h8, h9⟩ := h
  exact ⟨h1, h2, ⟨vs, e, hv.consM n⟩, h4, h5, h6, List.mem_cons_of_mem _ h7, List.mem_cons_of_mem _ h8, List.mem_cons_of_mem _ h9⟩
theorem LogAt.less (h : LogAt K (q :: M) H d c g cs ws) (h1 : d ∈ M) (h2 : c ∈ M) (h3 : g ∈ M) : LogAt K M H d c g cs ws := by
  obtain ⟨e1, e2, ⟨vs, e, hv⟩, h4, h5, h6, -, -, -⟩ := h
  exact ⟨e1, e2, ⟨vs, e, hv.wk fun _ z => List.mem_cons_of_mem _ z⟩, h4, h5, h6, h1, h2, h3⟩
end
theorem closeW_len {s : Int} {hd : List Int} {cs : List (Option Int)} (h6 : hd.length = 6) : (closeW s hd cs).length ≤ 7 := by
  show (putW cs ((slotB s).toNat + 1) hd ++ [((slotB s).toNat, 1)]).length ≤ 7
  rw [List.length_append, List.length_singleton]
  have := putW_len cs ((slotB s).toNat + 1) hd
  omega
theorem piece_pos {ns c : List Int} (h : c ∈ piecesF ns) : 1 ≤ c.length := by
  unfold piecesF at h
  obtain ⟨k, hk, rfl⟩ := List.mem_map.mp h
  rw [List.mem_range] at hk
  unfold pieceN at hk
  rw [List.length_take, List.length_drop]
  omega
theorem mem_ins {α : Type} {xs : List α} {i : Nat} {y z : α} : z ∈ xs.take i ++ [y] ++ xs.drop i ↔ z = y ∨ z ∈ xs := by
  have h : z ∈ xs ↔ z ∈ xs.take i ∨ z ∈ xs.drop i := by
    conv => lhs; rw [← List.take_append_drop i xs]
    exact List.mem_append
  rw [List.mem_append, List.mem_append, List.mem_singleton, h]
  exact ⟨fun q => q.elim (fun q => q.elim (fun q => .inr (.inl q)) .inl) fun q => .inr (.inr q), fun q => q.elim (fun q => .inl (.inr q)) fun q => q.elim (fun q => .inl (.inl q)) .inr⟩
section
variable {K : PySem.W.Frag} {H : Hp} {H0 : Bs} {M : List Addr} {a r : Addr} {q : Rho} {L : List (Addr × HO)} {Ds : List (PyData × V)} {Q : VK} {σ : L2.St} {te : TE} {j n : Nat} {C : PyData → Prop}
/-- [a drawn datum for k in range(n)] -/
theorem lc_drawT (S : Sy K H0 M H ((r, rowO a q) :: L) Ds) (hM : r ∈ M ∧ H0.may r) (hq : q.ok) (hn : n ≤ 10000)
    (hte : ∀ (v : V) (M' : List Addr) (H' : Hp) (q' : Rho) (L' : List (Addr × HO)) (E : List (PyData × V)) (Q' : VK), r ∈ M' ∧ H0.may r → q'.ok → Sy K H0 M' H' ((r, rowO a q') :: L') (Ds ++ E) →
      (∀ (d : PyData) (x : V) (q'' : Rho) (H'' : Hp), C d → q''.ok → Sy K H0 M' H'' ((r, rowO a q'') :: L') ((Ds ++ E) ++ [(d, x)]) → Q' x H'') → te ((σ.set j none).set j (some v)) H' Q')
    (k : ∀ (D : Addr) (ds : List PyData) (vs : List V) (q' : Rho) (H' : Hp), H D = none → H0.h D = none → ds.length = n → (∀ d ∈ ds, C d) → q'.ok → DtL K (D :: M) H' ds vs → Sy K H0 (D :: M) H' ((r, rowO a q') :: (L ++ [(D, .lst vs)])) Ds → Q (.ref D) H') :
    LcO (gName j) tYes te [j] σ Q (Itr 0 n) H := by
  intro D hD
  have DF := S.free hD
  have DN := S.notM hD
  refine lc_range (lo := 0) (n := n) (fun i H' => i ≤ n ∧ ∃ (ds : List PyData) (vs : List V) (q' : Rho), ds.length = i ∧ vs.length = i ∧ (∀ x ∈ ds, C x) ∧ q'.ok ∧ Sy K H0 (D :: M) H' ((r, rowO a q') :: (L ++ [(D, .lst vs)])) (Ds ++ ds.zip vs)) ?_ ?_ ?_
  · exact ⟨Nat.zero_le _, [], [], q, rfl, rfl, (fun _ h => nomatch h), hq, by simpa using S.newM hD⟩
  · rintro i H' hi ⟨_, ds, vs, q', hx, hv, hC, ok, S'⟩
    have e1 : wipe ((wipe σ [j]).set j (some (V.int (0 + (i : Int))))) [j] = wipe σ [j] := by
      show ((((σ.set j none).set j _)).set j none) = σ.set j none
      rw [List.set_set, List.set_set]
    refine ⟨e1, ?_⟩
    refine hte (.int (0 + (i : Int))) (D :: M) H' q' _ _ _ ⟨List.mem_cons_of_mem _ hM.1, hM.2⟩ ok S' fun d x q'' H'' c ok' S'' => ?_
    have gD : ((r, rowO a q'') :: (L ++ [(D, HO.lst vs)]))[L.length + 1]? = some (D, .lst vs) := by simp
    refine ⟨vs, S''.get (L.length + 1) gD, ?_, ?_⟩
    · rw [hv]; exact szl (by omega)
    · refine ⟨by omega, ds ++ [d], vs ++ [x], q'', by simp [hx], by simp [hv], ?_, ok', ?_⟩
      · intro y hy
        rcases List.mem_append.mp hy with hy | hy
        · exact hC y hy
        · rw [List.mem_singleton.mp hy]; exact c
      · have T := S''.set (o' := .lst (vs ++ [x])) (L.length + 1) gD ⟨List.mem_cons_self .., .inr DF⟩
        rw [show (((r, rowO a q'') :: (L ++ [(D, HO.lst vs)])).set (L.length + 1) (D, .lst (vs ++ [x]))) = ((r, rowO a q'') :: (L ++ [(D, .lst (vs ++ [x]))])) by
          simp, List.append_assoc] at T
        rw [List.zip_append (by omega)]
        exact T
  · rintro H' ⟨_, ds, vs, q', hx, hv, hC, ok, S'⟩
    have hr : DtL K (D :: M) H' ds vs := DtL.of_zip (by omega) fun x hx => S'.dat x (List.mem_append_right _ hx)
    exact k D ds vs q' H' hD DF hx hC ok hr (S'.subD (Ds' := Ds) (fun x hx => List.mem_append_left _ hx))
end
theorem DtL.set {K : PySem.W.Frag} {M : List Addr} {H : Hp} {ds : List PyData} {vs : List V} {d : PyData} {v : V} {i : Nat} (h : DtL K M H ds vs) (hi : i < vs.length) (hd : Dt K M H d v) : DtL K M H (ds.set i d) (vs.set i v) := by
  have hl := h.len
  rw [List.set_eq_take_append_cons_drop, if_pos (by omega), List.set_eq_take_append_cons_drop, if_pos hi]
  exact DtL.append (DtL.take _ h) (DtL.cons' hd (DtL.drop _ h))
theorem cutG_to {xs : List PyData} {b : Int} (h : 0 ≤ b) : cutG xs none (some b) = xs.take b.toNat := by
  unfold cutG
  have e1 : HT.sIx xs.length 0 none = 0 := rfl
  have e2 : HT.sIx xs.length xs.length (some b) = min b.toNat xs.length := by simp only [HT.sIx]; split <;> omega
  rw [e1, e2, List.drop_zero, Nat.sub_zero, ← List.take_eq_take_min]
theorem d_slET {K : PySem.W.Frag} {M : List Addr} {H : Hp} {H0 : Bs} {L : List (Addr × HO)} {Ds : List (PyData × V)} {Q : VK} {ds : List PyData} {p : Addr} {lo hi : Option Int} (S : Sy K H0 M H L Ds) (h : Dt K M H (.tuple ds) (.ref p)) (q : ∀ u H', Sy K H0 M H' L (Ds ++ [(.tuple (cutG ds lo hi), .ref u)]) → Q (.ref u) H') : rSlE K (.ref p) lo hi H Q := by
  obtain ⟨xs, s, r⟩ := h.tup
  refine .inr ⟨p, xs, rfl, s.1, ?_⟩
  have hz := r.len
  refine ⟨fun z => ?_, fun _ => d_newT S (r.cut (lo := lo) (hi := hi)) q⟩
  have e : cutG ds lo hi = ds := by
    unfold cutG
    rw [← hz, z.1, z.2, Nat.sub_zero, List.drop_zero, hz, List.take_length]
  exact q _ H (S.addD (by rw [e]; exact h))
theorem depL_map {α : Type} {f : α → PyData} {n : Nat} (h : ∀ x, (f x).depth ≤ n) : ∀ xs : List α, PyData.depthAll (xs.map f) ≤ n
  | [] => by simp [PyData.depthAll]
  | x :: xs => by
    have h1 := h x
    have h2 := depL_map h xs
    simp only [List.map_cons, PyData.depthAll]
    omega
theorem layL_map {α : Type} {f : α → PyData} (h : ∀ x, (f x).canLay0 = true) : ∀ xs : List α, PyData.canLayAll0 (xs.map f) = true
  | [] => by simp [PyData.canLayAll0]
  | x :: xs => by
    have h1 := h x
    have h2 := layL_map h xs
    simp [PyData.canLayAll0, h1, h2]
theorem int_dep (n : Int) : (PyData.int n).depth ≤ 0 := by simp [PyData.depth]
theorem int_lay (n : Int) : (PyData.int n).canLay0 = true := by simp [PyData.canLay0]
theorem row_dep (r : Row) : (rowD r).depth ≤ 2 := by
  have h := depL_map int_dep r.2
  simp only [rowD, tripD, PyData.depth, PyData.depthAll]
  omega
theorem row_lay (r : Row) : (rowD r).canLay0 = true := by
  have h := layL_map int_lay r.2
  simp [rowD, tripD, PyData.canLay0, PyData.canLayAll0, h]
theorem store_dep (st : List Row) : (storeD st).depth ≤ 3 := by
  have h := depL_map row_dep st
  simp only [storeD, PyData.depth]
  omega
theorem store_lay (st : List Row) : (storeD st).canLay0 = true := by
  have h := layL_map row_lay st
  simp [storeD, PyData.canLay0, h]
theorem sh_stores (ss : List (List Row)) : SeqAt.shaped (storesD ss) = true := by
  have h1 := depL_map store_dep ss
  have h2 := layL_map store_lay ss
  unfold storesD
  simp [SeqAt.shaped, PyData.canLay0, PyData.depth, h2]
  omega
theorem updD_dep (ks : List Int) (mn : Man) (ss : List (List Row)) (cs : List (Option Int)) : (updD ks mn ss cs).depth ≤ 4 := by
  unfold updD updDb
  split
  · simp [PyData.depth, PyData.depthAll]
  · split
    · simp [PyData.depth, PyData.depthAll]
    · have h := depL_map int_dep (updR (bookedO cs) mn ss cs).2.1
      simp only [PyData.depth, PyData.depthAll]
      omega
theorem updD_ok {ks : List Int} {mn : Man} {ss : List (List Row)} {cs : List (Option Int)} (h : (updR (bookedO cs) mn ss cs).2.1.length ≤ 3) : okD (updD ks mn ss cs) = true := by
  unfold updD updDb
  split
  · simp [okD, okD.okDL]
  · split
    · simp [okD, okD.okDL]
    · have := okDL_ints (updR (bookedO cs) mn ss cs).2.1
      simp [okD, okD.okDL, this]
      omega
theorem updW_at {ks : List Int} {tries j : Int} {mn : Man} {ss : List (List Row)} {cs : List (Option Int)} (hl : cs.length = 54) (hbd : bnd cs) (hbo : bookOk cs) (hpg : pgn j cs) (j0 : 0 ≤ j) (j1 : j ≤ 9000) (gm : gman mn) (gs : gStores ss) (t1 : 1 ≤ tries) (t3 : tries ≤ 3) :
    farW (bookedO cs).1 (updW ks tries mn ss cs) ∧ ∀ p ∈ updW ks tries mn ss cs, p.1 < 54 ∧ 0 ≤ p.2 ∧ p.2 ≤ 9972 := by
  obtain ⟨b, hb⟩ : ∃ b, b = bookedO cs := ⟨_, rfl⟩
  unfold bookOk at hbo
  unfold updW
  rw [← hb] at hbo ⊢
  unfold updWb
  split
  · exact ⟨fun p hp => (by cases hp), fun p hp => (by cases hp)⟩
  · rename_i hr
    have hw := refB_good (Decidable.of_not_not hr)
    have hso := (other_slot hbo).1
    have hsb := slotB_b hso
    obtain ⟨e1, e2, e3⟩ := upd_end (ks := ks) (mn := mn) hl hbd hb.symm hbo hpg j0 j1 hw gm gs
    have f3 : farW b.1 (updR b mn ss cs).1 := layF_far gs gm hbd hbo
    have hlt : ∀ {ws : List Wr}, farW b.1 ws → ∀ p ∈ ws, p.1 < 54 := fun h p hp => by
      have := h p hp
      rcases hbo with z | z <;> rw [z] at this <;> simp [slotB] at this <;> omega
    have f5 : farW b.1 (if (updR b mn ss cs).2.2 = true then [] else updE b tries mn (applyW (updR b mn ss cs).1 (updC b cs))) := by
      split
      · exact fun p hp => by cases hp
      · exact farW_app (closeW_far hbo rfl) noteW_far
    have o5 : ∀ p ∈ (if (updR b mn ss cs).2.2 = true then [] else updE b tries mn (applyW (updR b mn ss cs).1 (updC b cs))), 0 ≤ p.2 ∧ p.2 ≤ 9972 := by
      split
      · exact fun p hp => by cases hp
      · intro p hp
        rcases List.mem_append.mp hp with h | h
        · exact (closeW_ok hso gm.head_b p h).2
        · have n1 := next_nn e2 4
          have n2 := next_pgn e3 (by omega)
          exact noteW_ok ⟨n1, by omega⟩ ⟨by dsimp only; omega, by dsimp only; omega, by dsimp only; omega⟩ p h
    have fa := farW_app (updN_far (cs := cs)) (farW_app (openW_far (cs := applyW (updN b cs) cs) hbo) (farW_app f3 f5))
    refine ⟨fa, fun p hp => ⟨hlt fa p hp, ?_⟩⟩
    rcases List.mem_append.mp hp with h | h
    · exact updN_ok hbd hbo hpg j0 j1 p h
    · rcases List.mem_append.mp h with h | h
      · exact openW_ok p h
      · rcases List.mem_append.mp h with h | h
        · exact (layF_16 gs (known_b hbd b.1) gm hso p h).2
        · exact o5 p h
theorem updW_len {ks : List Int} {tries : Int} {mn : Man} {ss : List (List Row)} {cs : List (Option Int)} (hbd : bnd cs) (hbo : bookOk cs) (gm : gman mn) (gs : gStores ss) : (updW ks tries mn ss cs).length ≤ 40 := by
  obtain ⟨b, hb⟩ : ∃ b, b = bookedO cs := ⟨_, rfl⟩
  unfold bookOk at hbo
  unfold updW
  rw [← hb] at hbo ⊢
  unfold updWb
  split
  · simp
  · have h1 : (updN b cs).length ≤ 7 := by unfold updN; split <;> simp [noteW]
    have h2 : (openW (1 - b.1) (applyW (updN b cs) cs)).length ≤ 1 := by unfold openW; split <;> simp
    have h3 := layF_len gs (known_b hbd b.1) (gm.fits (other_slot hbo).1) (cs := updC b cs) (ct := [0, 0, 0])
    have h4 := gm.many'
    have h5 : (if (updR b mn ss cs).2.2 = true then [] else updE b tries mn (applyW (updR b mn ss cs).1 (updC b cs))).length ≤ 14 := by
      split
      · simp
      · have := closeW_len (s := 1 - b.1) (hd := mn.h) (cs := applyW (updR b mn ss cs).1 (updC b cs)) rfl
        show (closeW _ _ _ ++ noteW _ 4 _).length ≤ 14
        rw [List.length_append]
        have : ∀ c : List (Option Int), (noteW c 4 (b.1, 1, tries)).length = 7 := fun _ => rfl
        rw [this]; omega
    rw [List.length_append, List.length_append, List.length_append]
    have h3 : (updR b mn ss cs).1.length ≤ 3 * mn.ts.length := h3
    omega
theorem updR_ct {mn : Man} {ss : List (List Row)} {cs : List (Option Int)} (hbd : bnd cs) (hbo : bookOk cs) (gm : gman mn) (gs : gStores ss) : (updR (bookedO cs) mn ss cs).2.1.length = 3 :=
  layF_ct gs (known_b hbd _) (gm.fits (other_slot hbo).1) rfl
theorem cut7_4 (x0 x1 x2 x3 x4 x5 x6 : V) : cutV [x0, x1, x2, x3, x4, x5, x6] none (some 4) = [x0, x1, x2, x3] := rfl

/-! ## deeds that are stopped -/
theorem dueF_app {t : Str} {n : Nat} {a b : List Wr} {cs : List (Option Int)} : dueF t n (a ++ b) cs = if n < a.length then dueF t n a cs else dueF t (n - a.length) b (applyW a cs) := by
  unfold dueF
  by_cases h : n < a.length
  · rw [if_pos h, if_pos h, if_pos (by rw [List.length_append]; omega), List.take_append_of_le_length (by omega)]
    congr 1
    rw [List.getD_eq_getElem?_getD, List.getD_eq_getElem?_getD, List.getElem?_append_left h]
  · rw [if_neg h]
    by_cases h2 : n - a.length < b.length
    · rw [if_pos (by rw [List.length_append]; omega), if_pos h2, List.take_append, List.take_of_length_le (by omega), applyW_app]
      congr 1
      rw [List.getD_eq_getElem?_getD, List.getD_eq_getElem?_getD, List.getElem?_append_right (by omega)]
    · rw [if_neg (by rw [List.length_append]; omega), if_neg h2, applyW_app]
theorem dueF_out {t : Str} {n k : Nat} {ws : List Wr} {cs : List (Option Int)} (h : ∀ p ∈ ws, p.1 ≠ k) : (dueF t n ws cs)[k]? = cs[k]? := by
  unfold dueF
  split
  · rename_i hn
    rw [tornW_out, applyW_out fun p hp => h p (List.mem_of_mem_take hp)]
    refine h _ ?_
    rw [List.getD_eq_getElem?_getD, List.getElem?_eq_getElem hn]; exact List.getElem_mem hn
  · exact applyW_out h
/-- all that is kept of a row of writes is kept of its parts -/
theorem due_all {P : List (Option Int) → Prop} {t : Str} {a b : List Wr} {cs : List (Option Int)} (h1 : ∀ n, P (dueF t n a cs)) (h2 : ∀ n, P (dueF t n b (applyW a cs))) (n : Nat) : P (dueF t n (a ++ b) cs) := by
  rw [dueF_app]
  split
  · exact h1 n
  · exact h2 _
theorem due_nil {P : List (Option Int) → Prop} {t : Str} {cs : List (Option Int)} (h : P cs) (n : Nat) : P (dueF t n [] cs) := by
  unfold dueF; rw [if_neg (by simp)]; exact h
theorem due_last {P : List (Option Int) → Prop} {t : Str} {a : List Wr} {cs : List (Option Int)} (h1 : ∀ n, P (dueF t n a cs)) : P (applyW a cs) := by
  have := h1 a.length
  unfold dueF at this
  rw [if_neg (Nat.lt_irrefl _)] at this
  exact this
/-- the book tells of this slot -/
def tells (t : Int) (cs : List (Option Int)) : Prop := ∃ x, newestO cs 4 = some x ∧ x.2.2.1 = t
theorem tells_due {t : Int} {tn : Str} {cs : List (Option Int)} {ws : List Wr} (h : tells t cs) (hw : ∀ p ∈ ws, p.1 < 4 ∨ 16 ≤ p.1) (n : Nat) : tells t (dueF tn n ws cs) := by
  obtain ⟨x, e, ex⟩ := h
  refine ⟨x, ?_, ex⟩
  rw [← e]
  unfold newestO
  rw [page_same (cs := cs) (cs' := dueF tn n ws cs) (j := 4) fun k h1 h2 => dueF_out fun p hp => by have := hw p hp; omega, page_same (cs := cs) (cs' := dueF tn n ws cs) (j := 4 + 6) fun k h1 h2 => dueF_out fun p hp => by have := hw p hp; omega]
theorem tells_note {t : Int} {tn : Str} {cs : List (Option Int)} {a b : Int} (h : tells t cs) (hl : cs.length = 54) (hb : bnd cs) (n : Nat) : tells t (dueF tn n (noteW cs 4 (t, a, b)) cs) := by
  obtain ⟨x, e, ex⟩ := h
  rcases note_due (cs := cs) (i := 4) (n := n) (r := (t, a, b)) (t := tn) (by omega) (by have := next_nn hb 4; omega) with ⟨h1, _⟩ | h1
  · exact ⟨x, h1.trans e, ex⟩
  · exact ⟨_, h1, rfl⟩
theorem tells_booked {t : Int} {cs : List (Option Int)} (h : tells t cs) : (bookedO cs).1 = t := by
  obtain ⟨x, e, ex⟩ := h
  unfold bookedO recordO
  rw [e]; exact ex
theorem bkd_tells {cs : List (Option Int)} (h : bkd cs) : tells (bookedO cs).1 cs := by
  obtain ⟨x, e⟩ := h
  exact ⟨x, e, by unfold bookedO recordO; rw [e]; rfl⟩
theorem pgn_due {j : Int} {tn : Str} {cs : List (Option Int)} {ws : List Wr} (h : pgn j cs) (hw : ∀ p ∈ ws, (p.1 = 4 ∨ p.1 = 10) → p.2 ≤ j) (n : Nat) : pgn j (dueF tn n ws cs) := by
  have one : ∀ {cs : List (Option Int)} {p : Wr}, pgn j cs → ((p.1 = 4 ∨ p.1 = 10) → p.2 ≤ j) → pgn j (cs.set p.1 (some p.2)) := by
    intro cs p h hp
    have h4 : ∀ k, (k = 4 ∨ k = 10) → ∀ n, (cs.set p.1 (some p.2)).getD k none = some n → (cs.getD k none = some n ∨ (p.1 = k ∧ n = p.2)) := by
      intro k _ n e
      by_cases hk : p.1 = k
      · by_cases hl : k < cs.length
        · rw [hk, getD_setS hl] at e
          cases e; exact .inr ⟨hk, rfl⟩
        · rw [List.getD_eq_getElem?_getD, List.getElem?_eq_none (by rw [List.length_set]; omega)] at e; cases e
      · rw [getD_setN hk] at e; exact .inl e
    refine ⟨fun n e => ?_, fun n e => ?_⟩
    · rcases h4 4 (.inl rfl) n e with e1 | ⟨e1, rfl⟩
      · exact h.1 n e1
      · exact hp (.inl e1)
    · rcases h4 10 (.inr rfl) n e with e1 | ⟨e1, rfl⟩
      · exact h.2 n e1
      · exact hp (.inr e1)
  have non : ∀ {cs : List (Option Int)} {k : Nat}, pgn j cs → pgn j (cs.set k none) := by
    intro cs k h
    have h4 : ∀ i n, (cs.set k none).getD i none = some n → cs.getD i none = some n := by
      intro i n e
      by_cases hk : k = i
      · by_cases hl : i < cs.length
        · rw [hk, getD_setS hl] at e; cases e
        · rw [List.getD_eq_getElem?_getD, List.getElem?_eq_none (by rw [List.length_set]; omega)] at e; cases e
      · rw [getD_setN hk] at e; exact e
    exact ⟨fun n e => h.1 n (h4 _ _ e), fun n e => h.2 n (h4 _ _ e)⟩
  have all : ∀ {ws : List Wr} {cs : List (Option Int)}, pgn j cs → (∀ p ∈ ws, (p.1 = 4 ∨ p.1 = 10) → p.2 ≤ j) → pgn j (applyW ws cs) := by
    intro ws
    induction ws with
    | nil => intro cs h _; exact h
    | cons p ws ih => intro cs h hw; exact ih (one h (hw p (List.mem_cons_self ..))) fun q hq => hw q (List.mem_cons_of_mem _ hq)
  unfold dueF
  split
  · rename_i hn
    have hm : ws.getD n (0, 0) ∈ ws := by rw [List.getD_eq_getElem?_getD, List.getElem?_eq_getElem hn]; exact List.getElem_mem hn
    have h1 := all h (ws := ws.take n) fun p hp => hw p (List.mem_of_mem_take hp)
    unfold tornW
    split
    · exact non h1
    · split
      · exact one h1 (hw _ hm)
      · exact h1
  · exact all h hw
theorem noteW_pgn {j : Int} {cs : List (Option Int)} {r : Rec} (h : pgn j cs) (j0 : 0 ≤ j) : ∀ p ∈ noteW cs 4 r, (p.1 = 4 ∨ p.1 = 10) → p.2 ≤ j + 1 := by
  have hn := next_pgn h j0
  intro p hp hk
  have hw := next_w cs 4
  unfold noteW at hp
  simp only [List.mem_cons, List.not_mem_nil, or_false] at hp
  rcases hp with rfl | rfl | rfl | rfl | rfl | rfl | rfl <;> dsimp only at hk ⊢ <;> omega
theorem doubleW_far {cs : List (Option Int)} {ks : List Int} (hl : cs.length = 54) (hb : bookOk cs) : ∀ p ∈ doubleW ks cs, p.1 < 4 ∨ ((slotB (1 - (bookedO cs).1)).toNat ≤ p.1 ∧ p.1 < (slotB (1 - (bookedO cs).1)).toNat + 19) := by
  intro p hp
  unfold doubleW doubleWb at hp
  unfold bookOk at hb
  split at hp
  · rename_i ok
    unfold doubleOk at ok
    simp only [Bool.and_eq_true, decide_eq_true_eq] at ok
    obtain ⟨hst, hw⟩ := ok
    generalize bookedO cs = b at hb hst hw hp ⊢
    obtain ⟨t, st, lf⟩ := b
    dsimp only at hb hst hw hp ⊢
    obtain ⟨v, many, one, two, n, sl, nsp, hh, m1, m2, hpt, hpl, -⟩ := good_parts hl hb hw
    have hcp : copyW cs t = nsp := by
      unfold copyW
      rw [hh]
      show wholeF (partsL cs t many) = nsp
      rw [hpt, whole_map]
    have hhd : (wholeF ((headL cs t).drop 1)).length = 6 := by rw [hh]; rfl
    unfold thenW at hp
    rcases List.mem_append.mp hp with h | h
    · exact .inr (doubleL_at hcp (by omega) hhd p h)
    · rcases List.mem_append.mp h with h | h
      · have := raiseW_at p h; exact .inl (by omega)
      · have := raiseW_at p h; exact .inl (by omega)
  · cases hp
/-- the trusted slot's cells -/
def slotL (cs : List (Option Int)) (t : Int) : List (Option Int) := (cs.drop (slotB t).toNat).take 19
/-- what a stopped deed leaves -/
structure Left (t j : Int) (cs' : List (Option Int)) : Prop where
  len : cs'.length = 54
  bnd : Z.bnd cs'
  tells : Z.tells t cs'
  pgn : Z.pgn j cs'
theorem Left.book {t j : Int} {cs : List (Option Int)} (h : Left t j cs) (ht : t = 0 ∨ t = 1) : bookOk cs := by
  unfold bookOk; rw [tells_booked h.tells]; exact ht
theorem slotL_due {t : Int} {tn : Str} {n : Nat} {ws : List Wr} {cs : List (Option Int)} (ht : t = 0 ∨ t = 1) (h : ∀ p ∈ ws, p.1 < 16 ∨ ((slotB (1 - t)).toNat ≤ p.1 ∧ p.1 < (slotB (1 - t)).toNat + 19)) : slotL (dueF tn n ws cs) t = slotL cs t := by
  unfold slotL
  refine row_ext fun k h1 h2 => dueF_out fun p hp => ?_
  have := h p hp
  rcases ht with rfl | rfl <;> simp [slotB] at this h1 h2 <;> omega
theorem upd_due {ks : List Int} {tries j t : Int} {mn : Man} {ss : List (List Row)} {cs : List (Option Int)} {tn : Str} (ht : t = 0 ∨ t = 1) (h : Left t j cs) (j0 : 0 ≤ j) (j1 : j ≤ 9000) (gm : gman mn) (gs : gStores ss) (t1 : 1 ≤ tries) (t3 : tries ≤ 3) (n : Nat) :
    Left t (j + 2) (dueF tn n (updW ks tries mn ss cs) cs) ∧ slotL (dueF tn n (updW ks tries mn ss cs) cs) t = slotL cs t ∧ (dueF tn n (updW ks tries mn ss cs) cs).take 4 = cs.take 4 := by
  obtain ⟨hl, hbd, hte, hpg⟩ := h
  have hbt := tells_booked hte
  have hbo : bookOk cs := by unfold bookOk; rw [hbt]; exact ht
  obtain ⟨hfar, hok⟩ := updW_at (ks := ks) (tries := tries) hl hbd hbo hpg j0 j1 gm gs t1 t3
  rw [hbt] at hfar
  have core : tells t (dueF tn n (updW ks tries mn ss cs) cs) ∧ ∀ p ∈ updW ks tries mn ss cs, (p.1 = 4 ∨ p.1 = 10) → p.2 ≤ j + 2 := by
    obtain ⟨b, hb⟩ : ∃ b, b = bookedO cs := ⟨_, rfl⟩
    unfold updW
    rw [← hb] at hbt ⊢
    have hb0 : b.1 = 0 ∨ b.1 = 1 := by rw [hbt]; exact ht
    unfold updWb
    split
    · exact ⟨due_nil hte n, fun p hp => by cases hp⟩
    · rename_i hr
      have hw := refB_good (Decidable.of_not_not hr)
      have hso := (other_slot hb0).1
      obtain ⟨e1, e2, e3⟩ := upd_end (ks := ks) (mn := mn) hl hbd hb.symm hb0 hpg j0 j1 hw gm gs
      have a1 : ∀ n, tells t (dueF tn n (updN b cs) cs) := fun n => by
        unfold updN
        split
        · rw [hbt]; exact tells_note hte hl hbd n
        · exact due_nil hte n
      have b1 := due_last a1
      have o16 := openW_16 (cs := applyW (updN b cs) cs) hso
      have a2 : ∀ n, tells t (dueF tn n (openW (1 - b.1) (applyW (updN b cs) cs)) (applyW (updN b cs) cs)) := tells_due b1 fun p hp => .inr (o16 p hp)
      have b2 : tells t (updC b cs) := due_last a2
      have r16 := layF_16 gs (known_b hbd b.1) gm hso (cs := updC b cs) (ct := [0, 0, 0])
      have a3 : ∀ n, tells t (dueF tn n (updR b mn ss cs).1 (updC b cs)) := tells_due b2 fun p hp => .inr (r16 p hp).1
      have b3 := due_last a3
      have c16 := closeW_ok (cs := applyW (updR b mn ss cs).1 (updC b cs)) hso gm.head_b
      have a4 : ∀ n, tells t (dueF tn n (if (updR b mn ss cs).2.2 = true then [] else updE b tries mn (applyW (updR b mn ss cs).1 (updC b cs))) (applyW (updR b mn ss cs).1 (updC b cs))) := fun n => by
        split
        · exact due_nil b3 n
        · have a5 : ∀ n, tells t (dueF tn n (closeW (1 - b.1) mn.h (applyW (updR b mn ss cs).1 (updC b cs))) (applyW (updR b mn ss cs).1 (updC b cs))) := tells_due b3 fun p hp => .inr (c16 p hp).1
          refine due_all a5 (fun n => ?_) n
          dsimp only
          rw [hbt]
          rw [hbt] at e2
          exact tells_note (by have := due_last a5; rw [hbt] at this; exact this) (by rw [applyW_len, e1]) e2 n
      refine ⟨due_all a1 (fun n => due_all a2 (fun n => due_all a3 a4 n) n) n, fun p hp hk => ?_⟩
      rcases List.mem_append.mp hp with h | h
      · unfold updN at h
        split at h
        · have := noteW_pgn hpg j0 p h hk; omega
        · cases h
      · rcases List.mem_append.mp h with h | h
        · have := o16 p h; omega
        · rcases List.mem_append.mp h with h | h
          · have := r16 p h; omega
          · split at h
            · cases h
            · rcases List.mem_append.mp h with h | h
              · have := c16 p h; omega
              · have := noteW_pgn e3 (by omega) p h hk; omega
  refine ⟨⟨by rw [dueF_len, hl], bnd_dueF hbd fun p hp => (hok p hp).2, core.1, pgn_due (pgn_mono hpg (by omega)) core.2 n⟩, slotL_due ht fun p hp => ?_, ?_⟩
  · have := hfar p hp; omega
  · refine row_ext (j := 0) fun k h1 h2 => dueF_out fun p hp => ?_
    have := hfar p hp; omega
theorem dbl_due {ks : List Int} {j t : Int} {cs : List (Option Int)} {tn : Str} (ht : t = 0 ∨ t = 1) (h : Left t j cs) (n : Nat) :
    Left t (j + 2) (dueF tn n (doubleW ks cs) cs) ∧ slotL (dueF tn n (doubleW ks cs) cs) t = slotL cs t := by
  obtain ⟨hl, hbd, hte, hpg⟩ := h
  have hbt := tells_booked hte
  have hbo : bookOk cs := by unfold bookOk; rw [hbt]; exact ht
  have hok := doubleW_ok (ks := ks) hl hbo hbd
  have hfar := doubleW_far (ks := ks) hl hbo
  rw [hbt] at hfar
  refine ⟨⟨by rw [dueF_len, hl], bnd_dueF hbd fun p hp => (hok p hp).2.2, tells_due hte (fun p hp => (hok p hp).1) n, pgn_due (pgn_mono hpg (by omega)) (fun p hp hk => by have := (hok p hp).1; omega) n⟩, slotL_due ht fun p hp => ?_⟩
  have := hfar p hp
  omega
theorem Sy.perm {K : PySem.W.Frag} {M : List Addr} {H : Hp} {B : Bs} {L L' : List (Addr × HO)} {Ds : List (PyData × V)} (S : Sy K B M H L Ds) (p : L.Perm L') : Sy K B M H L' Ds :=
  ⟨S.fr, fun x hx => S.ent x (p.mem_iff.mpr hx), (p.map (·.1)).nodup S.nd, S.dat, S.dom, S.nom⟩
/-! ## an update that comes to its end -/
/-- how many pieces are right in their places, from the first on -/
def rightF (cs : List (Option Int)) : List (Int × Int × Int) → Int → Nat
  | [], _ => 0
  | t :: ts, pl => if titleO (cutO cs pl t.2.2) = some t then 1 + rightF cs ts (pl + t.2.2) else 0
def okT (cs : List (Option Int)) : List (Int × Int × Int) → Int → Prop
  | [], _ => True
  | t :: ts, pl => titleO (cutO cs pl t.2.2) = some t ∧ okT cs ts (pl + t.2.2)
def hasAll (ss : List (List Row)) (ts : List (Int × Int × Int)) : Prop := ∀ t ∈ ts, (askF ss t).1 ≠ none
theorem askR_has {t : Int × Int × Int} {c : List Int} (ht : titleF c = t) : ∀ {rs : List Row} {n : Nat}, (t, c) ∈ rs → (askR t rs n).1 ≠ none
  | [], _, h => by cases h
  | r :: rs, n, h => by
    by_cases h1 : r.1 = t
    · by_cases h2 : titleF r.2 = t
      · rw [askR_good h1 h2]; exact fun z => nomatch z
      · rw [askR_bad h1 h2]
        refine askR_has ht ?_
        rcases List.mem_cons.mp h with rfl | h
        · exact absurd ht h2
        · exact h
    · rw [askR_other h1]
      refine askR_has ht ?_
      rcases List.mem_cons.mp h with rfl | h
      · exact absurd rfl h1
      · exact h
theorem hasAll_of {ss : List (List Row)} {ns : List Int} (h : ∃ st ∈ ss, ∀ c ∈ piecesF ns, (titleF c, c) ∈ st) : hasAll ss ((piecesF ns).map titleF) := by
  obtain ⟨st, hst, hall⟩ := h
  intro t ht
  obtain ⟨c, hc, rfl⟩ := List.mem_map.mp ht
  exact askR_has rfl (List.mem_flatten.mpr ⟨st, hst, hall c hc⟩)
theorem cutO_out {cs cs' : List (Option Int)} {pl n : Int} (h : ∀ k, pl.toNat ≤ k → k < pl.toNat + n.toNat → cs'[k]? = cs[k]?) : cutO cs' pl n = cutO cs pl n := row_ext h

theorem rightF_out {cs cs' : List (Option Int)} : ∀ {ts : List (Int × Int × Int)} {pl : Int}, fitsL ts pl → (∀ k, pl.toNat ≤ k → k < pl.toNat + (ts.map fun t => t.2.2.toNat).sum → cs'[k]? = cs[k]?) → rightF cs' ts pl = rightF cs ts pl
  | [], _, _, _ => rfl
  | t :: ts, pl, hf, h => by
    obtain ⟨h1, h2, h3, h4, h5⟩ := hf
    rw [List.map_cons, List.sum_cons] at h
    have e := cutO_out (cs := cs) (cs' := cs') (pl := pl) (n := t.2.2) fun k k1 k2 => h k k1 (by omega)
    have ih := rightF_out (cs := cs) (cs' := cs') h5 fun k k1 k2 => h k (by omega) (by omega)
    unfold rightF
    rw [e, ih]
theorem okT_out {cs cs' : List (Option Int)} : ∀ {ts : List (Int × Int × Int)} {pl : Int}, fitsL ts pl → (∀ k, pl.toNat ≤ k → k < pl.toNat + (ts.map fun t => t.2.2.toNat).sum → cs'[k]? = cs[k]?) → okT cs ts pl → okT cs' ts pl
  | [], _, _, _, _ => trivial
  | t :: ts, pl, hf, h, ho => by
    obtain ⟨h1, h2, h3, h4, h5⟩ := hf
    rw [List.map_cons, List.sum_cons] at h
    have e := cutO_out (cs := cs) (cs' := cs') (pl := pl) (n := t.2.2) fun k k1 k2 => h k k1 (by omega)
    exact ⟨by rw [e]; exact ho.1, okT_out h5 (fun k k1 k2 => h k (by omega) (by omega)) ho.2⟩
/-- a piece that was put is there -/
theorem put_there {cs : List (Option Int)} {pl : Int} {t : Int × Int × Int} {pc : List Int} (h0 : 0 ≤ pl) (hl : pl + t.2.2 ≤ cs.length) (ht : titleF pc = t) : titleO (cutO (applyW (putW cs pl.toNat pc) cs) pl t.2.2) = some t := by
  have hn := title_len ht
  have : cutO (applyW (putW cs pl.toNat pc) cs) pl t.2.2 = pc.map some := by
    unfold cutO
    refine row_is (by rw [List.length_map]; omega) fun k hk => ?_
    have hk : k < pc.length := by omega
    have h1 := putW_at (cs := cs) (i := pl.toNat) (row := pc) (by omega) hk
    have h2 : pl.toNat + k < (applyW (putW cs pl.toNat pc) cs).length := by rw [applyW_len]; omega
    rw [List.getD_eq_getElem?_getD, List.getElem?_eq_getElem h2] at h1
    rw [List.getElem?_eq_getElem h2, List.getElem?_map, List.getElem?_eq_getElem hk]
    rw [List.getD_eq_getElem?_getD, List.getElem?_eq_getElem hk] at h1
    simpa using h1
  rw [this]
  unfold titleO
  rw [allI_some, Option.map_some, ht]
theorem stepL_title {ss : List (List Row)} {kn : List (List Int)} {cs : List (Option Int)} {pl : Int} {t : Int × Int × Int} {w : Nat} {pc : List Int} (g : gStores ss) (h : stepL ss kn cs pl t = some (w, pc)) : (titleO (cutO cs pl t.2.2) = some t ∧ w = 0 ∧ pc = []) ∨ (titleO (cutO cs pl t.2.2) ≠ some t ∧ 1 ≤ w ∧ titleF pc = t) := by
  unfold stepL at h
  split at h
  · rename_i z; cases h; exact .inl ⟨z, rfl, rfl⟩
  · rename_i z
    cases hn : knownF kn t with
    | some c => rw [hn] at h; cases h; exact .inr ⟨z, Nat.le_refl _, (knownF_some hn).1⟩
    | none =>
      rw [hn] at h
      dsimp only at h
      cases ha : (askF ss t).1 with
      | none => rw [ha] at h; cases h
      | some c => rw [ha] at h; cases h; exact .inr ⟨z, by decide, (askF_some g ha).1⟩
theorem bump0 {ct : List Int} {w : Nat} (h3 : ct.length = 3) : (bumpL ct w).getD 0 0 = if w = 0 then ct.getD 0 0 + 1 else ct.getD 0 0 := by
  obtain ⟨a, b, c, rfl⟩ : ∃ a b c, ct = [a, b, c] := by
    match ct, h3 with
    | [a, b, c], _ => exact ⟨a, b, c, rfl⟩
  match w with
  | 0 => simp [bumpL]
  | 1 => simp [bumpL]
  | 2 => simp [bumpL]
  | n + 3 => simp [bumpL]
theorem layF_fin {ss : List (List Row)} {kn : List (List Int)} (g : gStores ss) (hk : ∀ c ∈ kn, ∀ n ∈ c, 0 ≤ n ∧ n ≤ 9972) : ∀ {ts : List (Int × Int × Int)} {pl : Int} {cs : List (Option Int)} {ct : List Int}, fitsL ts pl → cs.length = 54 → ct.length = 3 → (layF ss kn ts pl cs ct).2.2 = false →
    (layF ss kn ts pl cs ct).2.1.sum = ct.sum + ts.length ∧ ct.getD 0 0 + (rightF cs ts pl : Int) ≤ (layF ss kn ts pl cs ct).2.1.getD 0 0 ∧ okT (applyW (layF ss kn ts pl cs ct).1 cs) ts pl
  | [], pl, cs, ct, _, _, _, _ => by simp [layF, rightF, okT]
  | t :: ts, pl, cs, ct, hf, hl, h3, ha => by
    obtain ⟨h1, h2, _, h4, h5⟩ := hf
    obtain ⟨w, pc, e⟩ : ∃ w pc, stepL ss kn cs pl t = some (w, pc) := by
      cases e : stepL ss kn cs pl t with
      | none => rw [layF_none e] at ha; cases ha
      | some p => exact ⟨p.1, p.2, rfl⟩
    rw [layF_some e] at ha
    obtain ⟨k1, k2, k3⟩ := stepL_ok g hk h2 e
    obtain ⟨b1, b2⟩ := bumpL_ok h3 k1
    have hl1 : (applyW (putW cs pl.toNat pc) cs).length = 54 := by rw [applyW_len, hl]
    obtain ⟨i2, i3, i4⟩ := layF_fin g hk (ct := bumpL ct w) h5 hl1 b1 ha
    rw [layF_some e]
    dsimp only
    refine ⟨by rw [i2, b2, List.length_cons]; push_cast; omega, ?_, ?_⟩
    · rw [bump0 h3] at i3
      unfold rightF
      rcases stepL_title g e with ⟨z, rfl, rfl⟩ | ⟨z, hw, _⟩
      · rw [if_pos rfl] at i3
        rw [if_pos z]
        have e2 : applyW (putW cs pl.toNat []) cs = cs := rfl
        rw [e2] at i3 ⊢
        push_cast
        omega
      · rw [if_neg (by omega)] at i3
        rw [if_neg z]
        have : (0 : Int) ≤ (rightF (applyW (putW cs pl.toNat pc) cs) ts (pl + t.2.2) : Int) := Int.natCast_nonneg _
        omega
    · rw [applyW_app]
      refine ⟨?_, i4⟩
      have hrest := layF_at g hk (cs := applyW (putW cs pl.toNat pc) cs) (ct := bumpL ct w) h5
      rw [cutO_out (cs := applyW (putW cs pl.toNat pc) cs) fun k q1 q2 => applyW_out fun p hp => by have := (hrest p hp).1; omega]
      rcases stepL_title g e with ⟨z, _, rfl⟩ | ⟨_, _, hp⟩
      · exact z
      · exact put_there h1 (by omega) hp
theorem layF_has {ss : List (List Row)} {kn : List (List Int)} (g : gStores ss) (hk : ∀ c ∈ kn, ∀ n ∈ c, 0 ≤ n ∧ n ≤ 9972) : ∀ {ts : List (Int × Int × Int)} {pl : Int} {cs : List (Option Int)} {ct : List Int}, fitsL ts pl → cs.length = 54 → ct.length = 3 → hasAll ss ts →
    (layF ss kn ts pl cs ct).2.2 = false
  | [], pl, cs, ct, _, _, _, _ => by simp [layF]
  | t :: ts, pl, cs, ct, hf, hl, h3, ha => by
    obtain ⟨h1, h2, _, h4, h5⟩ := hf
    obtain ⟨w, pc, e⟩ : ∃ w pc, stepL ss kn cs pl t = some (w, pc) := by
      by_cases hti : titleO (cutO cs pl t.2.2) = some t
      · exact ⟨_, _, stepL_kept hti⟩
      · cases hn : knownF kn t with
        | some c => exact ⟨_, _, stepL_known hti hn⟩
        | none =>
          rw [stepL_asked hti hn]
          cases hq : (askF ss t).1 with
          | none => exact absurd hq (ha t (List.mem_cons_self ..))
          | some c => exact ⟨2, c, rfl⟩
    obtain ⟨k1, k2, k3⟩ := stepL_ok g hk h2 e
    rw [layF_some e]
    exact layF_has g hk h5 (by rw [applyW_len, hl]) (bumpL_ok h3 k1).1 fun u hu => ha u (List.mem_cons_of_mem _ hu)
theorem layF_all {ss : List (List Row)} {kn : List (List Int)} (g : gStores ss) (hk : ∀ c ∈ kn, ∀ n ∈ c, 0 ≤ n ∧ n ≤ 9972) {ts : List (Int × Int × Int)} {pl : Int} {cs : List (Option Int)} {ct : List Int} (hf : fitsL ts pl) (hl : cs.length = 54) (h3 : ct.length = 3) (ha : hasAll ss ts) :
    (layF ss kn ts pl cs ct).2.2 = false ∧ (layF ss kn ts pl cs ct).2.1.sum = ct.sum + ts.length ∧ ct.getD 0 0 + (rightF cs ts pl : Int) ≤ (layF ss kn ts pl cs ct).2.1.getD 0 0 ∧ okT (applyW (layF ss kn ts pl cs ct).1 cs) ts pl :=
  ⟨layF_has g hk hf hl h3 ha, layF_fin g hk hf hl h3 (layF_has g hk hf hl h3 ha)⟩
theorem right_due {ss : List (List Row)} {kn : List (List Int)} {tn : Str} (g : gStores ss) (hk : ∀ c ∈ kn, ∀ n ∈ c, 0 ≤ n ∧ n ≤ 9972) : ∀ {ts : List (Int × Int × Int)} {pl : Int} {cs : List (Option Int)} {ct : List Int} (n : Nat), fitsL ts pl → rightF cs ts pl ≤ rightF (dueF tn n (layF ss kn ts pl cs ct).1 cs) ts pl
  | [], _, _, _, _, _ => Nat.le_refl _
  | t :: ts, pl, cs, ct, n, hf => by
    obtain ⟨h1, h2, h3, h4, h5⟩ := hf
    by_cases z : titleO (cutO cs pl t.2.2) = some t
    · rw [layF_some (stepL_kept z)]
      dsimp only
      rw [show putW cs pl.toNat [] = [] from rfl, List.nil_append, show applyW [] cs = cs from rfl]
      have hrest := layF_at g hk (cs := cs) (ct := bumpL ct 0) h5
      have e : cutO (dueF tn n (layF ss kn ts (pl + t.2.2) cs (bumpL ct 0)).1 cs) pl t.2.2 = cutO cs pl t.2.2 := cutO_out fun k q1 q2 => dueF_out fun p hp => by have := (hrest p hp).1; omega
      have ih := right_due (tn := tn) g hk (cs := cs) (ct := bumpL ct 0) n h5
      unfold rightF
      rw [e, if_pos z, if_pos z]
      omega
    · have : rightF cs (t :: ts) pl = 0 := by unfold rightF; rw [if_neg z]
      rw [this]; exact Nat.zero_le _
theorem titleO_some {xs : List (Option Int)} {t : Int × Int × Int} (h : titleO xs = some t) : ∃ c : List Int, xs = c.map some ∧ titleF c = t := by
  unfold titleO at h
  cases e : allI xs with
  | none => rw [e] at h; cases h
  | some c => rw [e] at h; exact ⟨c, allI_inv e, Option.some.inj h⟩
/-- what lies there is the picture, by the names of its pieces -/
theorem okT_sum {cs : List (Option Int)} (hl : cs.length = 54) : ∀ {ts : List (Int × Int × Int)} {pl : Int}, fitsL ts pl → okT cs ts pl → ∃ cls : List (List Int), cls.map titleF = ts ∧ (cs.drop pl.toNat).take (ts.map fun t => t.2.2.toNat).sum = cls.flatten.map some
  | [], _, _, _ => ⟨[], rfl, by simp⟩
  | t :: ts, pl, hf, ho => by
    obtain ⟨h1, h2, h3, h4, h5⟩ := hf
    obtain ⟨c, hc, ht⟩ := titleO_some ho.1
    obtain ⟨cls, e1, e2⟩ := okT_sum hl h5 ho.2
    refine ⟨c :: cls, by rw [List.map_cons, ht, e1], ?_⟩
    rw [List.map_cons, List.sum_cons, List.flatten_cons, List.map_append, ← hc, ← e2]
    unfold cutO
    rw [List.take_add, List.drop_drop, show (pl + t.2.2).toNat = pl.toNat + t.2.2.toNat by omega]
theorem refB_in {t : Int} {cs : List (Option Int)} {ks : List Int} {m : Man} (h : refB t cs ks m = "") : (floorO cs 2 ≤ m.n ∧ m.n < ks.length) ∧ sealF (ks.getD m.n.toNat 0) [m.v, m.many, m.one, m.two, m.n] = m.s ∧ floorO cs 0 ≤ m.v ∧ topV cs t < m.v := by
  unfold refB at h
  split at h
  · exact absurd h (by decide +kernel)
  · split at h
    · exact absurd h (by decide +kernel)
    · split at h
      · exact absurd h (by decide +kernel)
      · split at h
        · exact absurd h (by decide +kernel)
        · rename_i q1 q2 q3 q4
          exact ⟨Decidable.of_not_not q2, Decidable.of_not_not q3, by omega, by omega⟩
theorem refB_mk {t : Int} {cs : List (Option Int)} {ks : List Int} {m : Man} (h1 : whyF cs ks t = "") (h2 : floorO cs 2 ≤ m.n ∧ m.n < ks.length) (h3 : sealF (ks.getD m.n.toNat 0) [m.v, m.many, m.one, m.two, m.n] = m.s) (h4 : floorO cs 0 ≤ m.v) (h5 : topV cs t < m.v) : refB t cs ks m = "" := by
  unfold refB
  rw [if_neg (fun z => z h1), if_neg (fun z => z h2), if_neg (fun z => z h3), if_neg (by omega)]
theorem farW_take {t : Int} {ws : List Wr} (h : farW t ws) (n : Nat) : farW t (ws.take n) := fun p hp => h p (List.mem_of_mem_take hp)
theorem floor_due {t : Int} {tn : Str} {n : Nat} {ws : List Wr} {cs : List (Option Int)} (h : farW t ws) {i : Nat} (hi : i < 3) : floorO (dueF tn n ws cs) i = floorO cs i := by
  unfold floorO
  rw [List.getD_eq_getElem?_getD, List.getD_eq_getElem?_getD, dueF_out fun p hp => by have := h p hp; omega, dueF_out fun p hp => by have := h p hp; omega, ← List.getD_eq_getElem?_getD, ← List.getD_eq_getElem?_getD]
theorem head_due {t : Int} {tn : Str} {n : Nat} {ws : List Wr} {cs : List (Option Int)} (ht : t = 0 ∨ t = 1) (h : farW t ws) : headL (dueF tn n ws cs) t = headL cs t := by
  unfold headL
  refine row_ext fun k h1 h2 => dueF_out fun p hp => ?_
  have := h p hp
  rcases ht with rfl | rfl <;> simp [slotB] at this h1 h2 <;> omega
theorem parts_due {t m : Int} {tn : Str} {n : Nat} {ws : List Wr} {cs : List (Option Int)} (ht : t = 0 ∨ t = 1) (h : farW t ws) (hm : m ≤ 12) : partsL (dueF tn n ws cs) t m = partsL cs t m := by
  unfold partsL
  refine row_ext fun k h1 h2 => dueF_out fun p hp => ?_
  have := h p hp
  rcases ht with rfl | rfl <;> simp [slotB] at this h1 h2 <;> omega
theorem good_due {t : Int} {tn : Str} {n : Nat} {ws : List Wr} {cs : List (Option Int)} {ks : List Int} (ht : t = 0 ∨ t = 1) (h : farW t ws) (hw : whyF cs ks t = "") : whyF (dueF tn n ws cs) ks t = "" := by
  obtain ⟨v, many, one, two, n, sl, e, h1, h2, h3, h4, h5, h6, h7⟩ := good_inv hw
  exact good_mk (by rw [head_due ht h]; exact e) h1 h2 (by rw [parts_due ht h h2]; exact h3) (by rw [floor_due h (by decide)]; exact h4) h5 h6 (by rw [floor_due h (by decide)]; exact h7)
/-- a manifest that is let in still is behind a stopped update -/
theorem ref_due {t : Int} {tn : Str} {n : Nat} {ws : List Wr} {cs : List (Option Int)} {ks : List Int} {m : Man} (ht : t = 0 ∨ t = 1) (h : farW t ws) (hr : refB t cs ks m = "") : refB t (dueF tn n ws cs) ks m = "" := by
  obtain ⟨h1, h2, h3, h4⟩ := refB_in hr
  refine refB_mk (good_due ht h (refB_good hr)) (by rw [floor_due h (by decide)]; exact h1) h2 (by rw [floor_due h (by decide)]; exact h3) ?_
  unfold topV
  rw [head_due ht h]; exact h4
/-- an update that isn't stopped, of pieces that all are there -/
theorem upd_fin {ks : List Int} {tries j t : Int} {mn : Man} {ss : List (List Row)} {cs : List (Option Int)} (ht : t = 0 ∨ t = 1) (h : Left t j cs) (j0 : 0 ≤ j) (j1 : j ≤ 9000) (gm : gman mn) (gs : gStores ss) (t1 : 1 ≤ tries) (t3 : tries ≤ 3) (hr : refB t cs ks mn = "") (hn : (updR (bookedO cs) mn ss cs).2.2 = false) :
    (∃ a b c : Int, updD ks mn ss cs = .tuple [.str "laid", .int a, .int b, .int c] ∧ a + b + c = mn.ts.length ∧ (rightF cs mn.ts (slotB (1 - t) + 7) : Int) ≤ a) ∧
    okT (applyW (updW ks tries mn ss cs) cs) mn.ts (slotB (1 - t) + 7) ∧ bookedO (applyW (updW ks tries mn ss cs) cs) = (t, 1, tries) ∧
    headL (applyW (updW ks tries mn ss cs) cs) (1 - t) = [some 1, some mn.v, some mn.many, some mn.one, some mn.two, some mn.n, some mn.s] ∧ whyF (applyW (updW ks tries mn ss cs) cs) ks (1 - t) = "" := by
  obtain ⟨hl, hbd, hte, hpg⟩ := h
  have hbt := tells_booked hte
  have hbo : bookOk cs := by unfold bookOk; rw [hbt]; exact ht
  have hfar := (updW_at (ks := ks) (tries := tries) hl hbd hbo hpg j0 j1 gm gs t1 t3).1
  rw [hbt] at hfar
  have hso := (other_slot ht).1
  have hsb := slotB_b hso
  have hfit := gm.fits hso
  have hmany := gm.many
  obtain ⟨a1, a2, a3, a4, a5, a6⟩ := upd_mid (b := bookedO cs) (ks := ks) hl hbd rfl (by rw [hbt]; exact ht) hpg j0 j1 (by rw [hbt]; exact refB_good hr)
  obtain ⟨e1, e2, e3⟩ := upd_end (b := bookedO cs) (ks := ks) (mn := mn) hl hbd rfl (by rw [hbt]; exact ht) hpg j0 j1 (by rw [hbt]; exact refB_good hr) gm gs
  have hall := layF_fin (ct := [0, 0, 0]) (ss := ss) gs (known_b hbd (bookedO cs).1) (gm.fits hso) a1 rfl (by unfold updR at hn; rw [hbt] at hn ⊢; exact hn)
  have hct := layF_ct gs (known_b hbd (bookedO cs).1) (gm.fits hso) (cs := updC (bookedO cs) cs) (ct := [0, 0, 0]) rfl
  have hRe : layF ss (piecesF (rowOf cs (bookedO cs).1)) mn.ts (slotB (1 - t) + 7) (updC (bookedO cs) cs) [0, 0, 0] = updR (bookedO cs) mn ss cs := by unfold updR; rw [hbt]
  rw [hRe] at hall hct
  have r1 := hn
  obtain ⟨r2, r3, r4⟩ := hall
  have hW : updW ks tries mn ss cs = updN (bookedO cs) cs ++ (openW (1 - (bookedO cs).1) (applyW (updN (bookedO cs) cs) cs) ++ ((updR (bookedO cs) mn ss cs).1 ++ updE (bookedO cs) tries mn (applyW (updR (bookedO cs) mn ss cs).1 (updC (bookedO cs) cs)))) := by
    unfold updW updWb
    rw [hbt, if_neg (fun z => z hr), r1]; rfl
  have hD : updD ks mn ss cs = .tuple (.str "laid" :: (updR (bookedO cs) mn ss cs).2.1.map .int) := by
    unfold updD updDb
    rw [hbt, if_neg (fun z => z hr), r1]; rfl
  have hright : rightF (updC (bookedO cs) cs) mn.ts (slotB (1 - t) + 7) = rightF cs mn.ts (slotB (1 - t) + 7) := by
    refine rightF_out hfit fun k k1 k2 => ?_
    rw [gm.span] at k2
    unfold updC
    rw [applyW_out fun p hp => by have := openW_at p hp; rw [hbt] at this; omega, applyW_out fun p hp => by
      have h0 : farW (bookedO cs).1 (updN (bookedO cs) cs) := updN_far
      unfold updN at hp
      split at hp
      · have h1 := noteW_at _ _ _ p hp
        have h2 := pages_in cs 4
        omega
      · cases hp]
  obtain ⟨w1, w2, w3, hw3⟩ : ∃ a b c, (updR (bookedO cs) mn ss cs).2.1 = [a, b, c] := by
    match (updR (bookedO cs) mn ss cs).2.1, hct with
    | [a, b, c], _ => exact ⟨a, b, c, rfl⟩
  rw [hw3] at r2 r3 hD
  rw [hright] at r3
  have hcs : applyW (updW ks tries mn ss cs) cs = applyW (noteW (applyW (closeW (1 - t) mn.h (applyW (updR (bookedO cs) mn ss cs).1 (updC (bookedO cs) cs))) (applyW (updR (bookedO cs) mn ss cs).1 (updC (bookedO cs) cs))) 4 (t, 1, tries)) (applyW (closeW (1 - t) mn.h (applyW (updR (bookedO cs) mn ss cs).1 (updC (bookedO cs) cs))) (applyW (updR (bookedO cs) mn ss cs).1 (updC (bookedO cs) cs))) := by
    rw [hW, applyW_app, applyW_app, applyW_app, show applyW (openW (1 - (bookedO cs).1) (applyW (updN (bookedO cs) cs) cs)) (applyW (updN (bookedO cs) cs) cs) = updC (bookedO cs) cs from rfl]
    unfold updE thenW
    rw [applyW_app]
    dsimp only
    rw [hbt]
  rw [hbt] at e2 e3
  generalize hc3 : applyW (updR (bookedO cs) mn ss cs).1 (updC (bookedO cs) cs) = c3 at r4 e1 e2 e3 hcs
  have hnote : ∀ {c : List (Option Int)} {r : Rec} {k : Nat}, 16 ≤ k → (applyW (noteW c 4 r) c)[k]? = c[k]? := fun {c r k} hk => applyW_out fun p hp => by
    have h1 := noteW_at _ _ _ p hp
    have h2 := pages_in c 4
    omega
  have hparts : ∀ k, (slotB (1 - t) + 7).toNat ≤ k → k < (slotB (1 - t) + 7).toNat + (mn.ts.map fun t => t.2.2.toNat).sum → (applyW (updW ks tries mn ss cs) cs)[k]? = c3[k]? := fun k k1 k2 => by
    rw [hcs, hnote (by omega)]
    exact applyW_out fun p hp => by have := closeW_at (by rfl) p hp; omega
  have hok := okT_out hfit hparts r4
  have hh : headL (applyW (updW ks tries mn ss cs) cs) (1 - t) = [some 1, some mn.v, some mn.many, some mn.one, some mn.two, some mn.n, some mn.s] := by
    unfold headL
    have hin : ∀ i, i < 6 → (applyW (closeW (1 - t) mn.h c3) c3)[(slotB (1 - t)).toNat + (i + 1)]? = some (some (mn.h.getD i 0)) := fun i hi => by
      show (applyW (putW c3 ((slotB (1 - t)).toNat + 1) mn.h ++ [((slotB (1 - t)).toNat, 1)]) c3)[_]? = _
      rw [applyW_app]
      show ((applyW (putW c3 ((slotB (1 - t)).toNat + 1) mn.h) c3).set (slotB (1 - t)).toNat (some 1))[_]? = _
      rw [List.getElem?_set_ne (by omega)]
      have h1 := putW_at (cs := c3) (i := (slotB (1 - t)).toNat + 1) (row := mn.h) (by show _ + 6 ≤ _; omega) (k := i) hi
      have h2 : (slotB (1 - t)).toNat + (i + 1) < (applyW (putW c3 ((slotB (1 - t)).toNat + 1) mn.h) c3).length := by rw [applyW_len]; omega
      rw [show (slotB (1 - t)).toNat + 1 + i = (slotB (1 - t)).toNat + (i + 1) by omega, List.getD_eq_getElem?_getD, List.getElem?_eq_getElem h2] at h1
      rw [List.getElem?_eq_getElem h2]
      exact congrArg some h1
    refine row_is rfl fun k hk => ?_
    rw [hcs, hnote (by omega)]
    match k, hk with
    | 0, _ =>
      show (applyW (putW c3 ((slotB (1 - t)).toNat + 1) mn.h ++ [((slotB (1 - t)).toNat, 1)]) c3)[_]? = _
      rw [applyW_app]
      show ((applyW (putW c3 ((slotB (1 - t)).toNat + 1) mn.h) c3).set (slotB (1 - t)).toNat (some 1))[(slotB (1 - t)).toNat]? = _
      rw [List.getElem?_set_self (by rw [applyW_len]; omega)]; rfl
    | 1, _ => exact hin 0 (by decide)
    | 2, _ => exact hin 1 (by decide)
    | 3, _ => exact hin 2 (by decide)
    | 4, _ => exact hin 3 (by decide)
    | 5, _ => exact hin 4 (by decide)
    | 6, _ => exact hin 5 (by decide)
  have hlen : (applyW (updW ks tries mn ss cs) cs).length = 54 := by rw [applyW_len, hl]
  refine ⟨⟨w1, w2, w3, hD, ?_, by simpa using r3⟩, hok, ?_, hh, ?_⟩
  · simp at r2; omega
  · rw [hcs]
    unfold bookedO recordO
    rw [note_whole (by rw [applyW_len]; omega) (by have := next_nn e2 4; omega)]; rfl
  · obtain ⟨q1, q2, q3, q4⟩ := refB_in hr
    obtain ⟨cls, c1, c2⟩ := okT_sum hlen hfit hok
    refine good_mk hh gm.many.1 gm.many.2 ?_ (by rw [far_floor hfar (by decide)]; exact q1.1) q1.2 q2 (by rw [far_floor hfar (by decide)]; exact q3)
    rw [gm.span] at c2
    unfold partsL
    rw [c2, allI_some, Option.map_some, ← join_titles, c1, gm.sums]
theorem upd_whole {ks : List Int} {tries j t : Int} {mn : Man} {ss : List (List Row)} {cs : List (Option Int)} (ht : t = 0 ∨ t = 1) (h : Left t j cs) (j0 : 0 ≤ j) (j1 : j ≤ 9000) (gm : gman mn) (gs : gStores ss) (t1 : 1 ≤ tries) (t3 : tries ≤ 3) (hr : refB t cs ks mn = "") (ha : hasAll ss mn.ts) :
    (∃ a b c : Int, updD ks mn ss cs = .tuple [.str "laid", .int a, .int b, .int c] ∧ a + b + c = mn.ts.length ∧ (rightF cs mn.ts (slotB (1 - t) + 7) : Int) ≤ a) ∧
    okT (applyW (updW ks tries mn ss cs) cs) mn.ts (slotB (1 - t) + 7) ∧ bookedO (applyW (updW ks tries mn ss cs) cs) = (t, 1, tries) ∧
    headL (applyW (updW ks tries mn ss cs) cs) (1 - t) = [some 1, some mn.v, some mn.many, some mn.one, some mn.two, some mn.n, some mn.s] ∧ whyF (applyW (updW ks tries mn ss cs) cs) ks (1 - t) = "" := by
  refine upd_fin ht h j0 j1 gm gs t1 t3 hr ?_
  obtain ⟨hl, hbd, hte, hpg⟩ := h
  have hbt := tells_booked hte
  have a := upd_mid (b := bookedO cs) (ks := ks) hl hbd rfl (by rw [hbt]; exact ht) hpg j0 j1 (by rw [hbt]; exact refB_good hr)
  exact layF_has gs (known_b hbd (bookedO cs).1) (gm.fits (other_slot (by rw [hbt]; exact ht)).1) a.1 rfl ha
/-! ## sum of a tuple -/
section
open PyProof.Rows
theorem sum_tupG {prog : Program} {w : World} {A : Around} {E : Value → Shared → Prop} {s : Shared} {l : Addr} {xs : Array (Int × Tok)} {Q : Value → Shared → Prop} (hh : A.handled = none) (hl : s.heap.IsTuple l (intItems xs))
    (h : ∀ h' tk t', (∀ b o, s.heap.get? b = some o → h'.get? b = some o) → Q (.int (preSum (numAt xs) xs.size) t') { s with heap := h', toks := tk }) : wpAny (model prog w) A (call (.builtin "sum") [.ref l]) Q E s := by
  have hlt : l < s.heap.objs.size := by obtain ⟨_, e, _⟩ := hl; exact Heap.lt_size e
  refine call_sum_walkG (wpAny_pyIter_tuple hl ?_)
  refine ⟨_, _, _, _, _, _, numAt xs, rfl, Walks.tuple (A := A.in1) hh _ l (Nat.ne_of_lt hlt) (intItems xs), ⟨⟨_, Heap.get?_push_size _ rfl, rfl, rfl⟩, hl.push _⟩, fun b hb => ?_, (fun _ _ => intItems_at), fun h' tk t' hk => ?_⟩
  · show b < (s.heap.push _).objs.size
    rw [Heap.size_push]
    rcases List.mem_cons.mp hb with rfl | hb
    · exact Nat.lt_succ_self _
    · rcases List.mem_cons.mp hb with rfl | hb
      · exact Nat.lt_succ_of_lt hlt
      · cases hb
  · have := h h' tk t' fun b o e => by
      refine hk b o (fun hm => ?_) (Heap.get?_push_of_some _ e)
      rcases List.mem_cons.mp hm with e1 | hm
      · exact absurd (e1 ▸ Heap.lt_size e) (Nat.lt_irrefl _)
      · cases hm
    simpa [intItems] using this
/-- sum(t) of a tuple of ints -/
def rSumT (K : PySem.W.Frag) : List V → Hp → VK → Prop := fun vs H Q => ∃ (a : Addr) (ns : List Int), vs = [V.ref a] ∧ SqT K H a (ns.map V.int) ∧ Q (.int ns.sum) H
theorem cr_sumT {X : Cx} (hc : X.calm = true) : CallR X (.builtin "sum") (rSumT X.K) := by
  intro pins s σ H vs us Q I r h
  obtain ⟨a, ns, rfl, hs, q⟩ := h
  obtain ⟨its, rv, hl, _⟩ := I.tuple hs
  rw [Vals.ref1 r]
  have hi := rv.ints
  obtain ⟨xs, e⟩ := hi.allInts.items
  have hn : numsOf (intItems xs).toList = ns := by rw [← e]; exact hi.numsOf
  rw [nums_intItems] at hn
  rw [e] at hl
  refine sum_tupG (I.ok.hd hc) hl fun h' tk t' hk => ?_
  rw [preSum_eq, List.take_of_length_le (by simp), hn]
  exact ⟨.int _, H, I.kept hk, ⟨_, rfl⟩, q⟩
theorem b_sumT {X : Cx} {K : PySem.W.Frag} (hc : X.calm = true) (e : X.K = K := by rfl) : CallR X (.builtin "sum") (rSumT K) := by subst e; exact cr_sumT hc
theorem n_sumT {K : PySem.W.Frag} {H : Hp} {p : Addr} {Q : VK} {ns : List Int} (h : SqT K H p (ns.map V.int)) (q : Q (.int ns.sum) H) : rSumT K [.ref p] H Q := ⟨p, ns, rfl, h, q⟩
end
/-- never fewer pieces are right behind a stopped update -/
theorem upd_right {ks : List Int} {tries j t : Int} {mn : Man} {ss : List (List Row)} {cs : List (Option Int)} {tn : Str} (ht : t = 0 ∨ t = 1) (h : Left t j cs) (gm : gman mn) (gs : gStores ss) (n : Nat) :
    rightF cs mn.ts (slotB (1 - t) + 7) ≤ rightF (dueF tn n (updW ks tries mn ss cs) cs) mn.ts (slotB (1 - t) + 7) := by
  obtain ⟨hl, hbd, hte, hpg⟩ := h
  have hbt := tells_booked hte
  have hso := (other_slot ht).1
  have hsb := slotB_b hso
  have hfit := gm.fits hso
  have hmany := gm.many
  have far : ∀ {ws : List Wr} {c : List (Option Int)} (n : Nat), (∀ p ∈ ws, p.1 < (slotB (1 - t)).toNat + 7 ∨ (slotB (1 - t)).toNat + 19 ≤ p.1) → rightF (dueF tn n ws c) mn.ts (slotB (1 - t) + 7) = rightF c mn.ts (slotB (1 - t) + 7) := fun {ws c} n hw => rightF_out hfit fun k k1 k2 => dueF_out fun p hp => by
    rw [gm.span] at k2
    have := hw p hp
    omega
  have nfar : ∀ {c : List (Option Int)} {r : Rec}, ∀ p ∈ noteW c 4 r, p.1 < (slotB (1 - t)).toNat + 7 ∨ (slotB (1 - t)).toNat + 19 ≤ p.1 := fun {c r} p hp => by
    have h1 := noteW_at _ _ _ p hp
    have h2 := pages_in c 4
    omega
  obtain ⟨b, hb⟩ : ∃ b, b = bookedO cs := ⟨_, rfl⟩
  unfold updW
  rw [← hb] at hbt ⊢
  subst hbt
  unfold updWb
  split
  · rw [far n fun p hp => by cases hp]; exact Nat.le_refl _
  · obtain ⟨r0, hr0⟩ : ∃ r0, r0 = rightF cs mn.ts (slotB (1 - b.1) + 7) := ⟨_, rfl⟩
    rw [← hr0]
    have step : ∀ {ws : List Wr} {c : List (Option Int)}, r0 ≤ rightF c mn.ts (slotB (1 - b.1) + 7) → (∀ p ∈ ws, p.1 < (slotB (1 - b.1)).toNat + 7 ∨ (slotB (1 - b.1)).toNat + 19 ≤ p.1) → ∀ n, (fun c => r0 ≤ rightF c mn.ts (slotB (1 - b.1) + 7)) (dueF tn n ws c) := fun h0 hw n => by
      show r0 ≤ rightF _ _ _
      rw [far n hw]; exact h0
    have a1 := step (ws := updN b cs) (Nat.le_of_eq hr0) fun p hp => by
      unfold updN at hp
      split at hp
      · exact nfar p hp
      · cases hp
    have b1 := due_last (P := fun c => r0 ≤ rightF c mn.ts (slotB (1 - b.1) + 7)) a1
    have a2 := step (ws := openW (1 - b.1) (applyW (updN b cs) cs)) b1 fun p hp => by have := openW_at p hp; omega
    have b2 : (fun c => r0 ≤ rightF c mn.ts (slotB (1 - b.1) + 7)) (updC b cs) := due_last (P := fun c => r0 ≤ rightF c mn.ts (slotB (1 - b.1) + 7)) a2
    have a3 : ∀ n, (fun c => r0 ≤ rightF c mn.ts (slotB (1 - b.1) + 7)) (dueF tn n (updR b mn ss cs).1 (updC b cs)) := fun n => Nat.le_trans b2 (right_due gs (known_b hbd b.1) n hfit)
    have b3 := due_last (P := fun c => r0 ≤ rightF c mn.ts (slotB (1 - b.1) + 7)) a3
    have a4 := step (ws := if (updR b mn ss cs).2.2 = true then [] else updE b tries mn (applyW (updR b mn ss cs).1 (updC b cs))) b3 fun p hp => by
      split at hp
      · cases hp
      · rcases List.mem_append.mp hp with h | h
        · have := closeW_at (by rfl) p h; omega
        · exact nfar p h
    exact due_all (P := fun c => r0 ≤ rightF c mn.ts (slotB (1 - b.1) + 7)) a1 (fun n => due_all (P := fun c => r0 ≤ rightF c mn.ts (slotB (1 - b.1) + 7)) a2 (fun n => due_all (P := fun c => r0 ≤ rightF c mn.ts (slotB (1 - b.1) + 7)) a3 a4 n) n) n
theorem judged_is {cs : List (Option Int)} {ks : List Int} {s v : Int} {rest : List (Option Int)} (hs : s = 0 ∨ s = 1) (hw : whyF cs ks s = "") (hh : headL cs s = some 1 :: some v :: rest) : judgedD cs ks s = .tuple [.str "good", .int v] := by
  unfold judgedD
  have e := head_get (cs := cs) hs 1 (by decide)
  rw [hh] at e
  rw [if_pos hw, show slotB s + 1 = slotB s + ((1 : Nat) : Int) from rfl, e]; rfl
theorem piecesF_cons {ns : List Int} (h : 0 < ns.length) : piecesF ns = ns.take 3 :: piecesF (ns.drop 3) := by
  have h2 : pieceN ns.length = pieceN (ns.drop 3).length + 1 := by
    unfold pieceN
    rw [List.length_drop]; omega
  unfold piecesF
  rw [h2, List.range_succ_eq_map, List.map_cons, List.map_map]
  congr 1
  apply List.map_congr_left
  intro i _
  show (ns.drop (3 * (i + 1))).take 3 = _
  rw [List.drop_drop]
  congr 2
  omega
/-- pieces of the same lengths are the pieces -/
theorem pieces_same : ∀ {cls : List (List Int)} {ns : List Int}, cls.map (·.length) = (piecesF ns).map (·.length) → piecesF cls.flatten = cls := by
  intro cls
  induction cls with
  | nil => intro ns _; rfl
  | cons c cls ih =>
    intro ns h
    have hpos : 0 < ns.length := by
      rcases Nat.eq_zero_or_pos ns.length with z | z
      · rw [List.eq_nil_of_length_eq_zero z] at h; cases h
      · exact z
    rw [piecesF_cons hpos, List.map_cons, List.map_cons, List.cons.injEq, List.length_take] at h
    obtain ⟨h1, h2⟩ := h
    have ih := ih h2
    rw [List.flatten_cons]
    rw [piecesF_cons (by rw [List.length_append]; omega)]
    by_cases h3 : c.length = 3
    · rw [← h3, List.take_left, List.drop_left]
      rw [ih]
    · have hd : (ns.drop 3) = [] := List.eq_nil_of_length_eq_zero (by rw [List.length_drop]; omega)
      rw [hd] at h2
      have hc : cls = [] := by
        cases cls with
        | nil => rfl
        | cons a b => cases h2
      subst hc
      rw [List.flatten_nil, List.append_nil, List.take_of_length_le (by omega), List.drop_eq_nil_of_le (by omega)]; rfl
/-- what lies in a slot behind an update: the picture, by the names of its pieces -/
theorem okT_pieces {cs : List (Option Int)} {pic : Pic} {ks : List Int} {pl : Int} (hl : cs.length = 54) (hf : fitsL (manOf ks pic).ts pl) (g : gman (manOf ks pic)) (h : okT cs (manOf ks pic).ts pl) : ∃ ns : List Int, (cs.drop pl.toNat).take pic.cells.length = ns.map some ∧ (piecesF ns).map titleF = (manOf ks pic).ts ∧ ns.length ≤ 12 := by
  obtain ⟨cls, e1, e2⟩ := okT_sum hl hf h
  rw [g.span] at e2
  have hm : ((manOf ks pic).many).toNat = pic.cells.length := Int.toNat_natCast _
  rw [hm] at e2
  have hlen : cls.map (·.length) = (piecesF pic.cells).map (·.length) := by
    have : (cls.map titleF).map (fun t => t.2.2) = ((piecesF pic.cells).map titleF).map fun t => t.2.2 := by rw [e1]; rfl
    rw [List.map_map, List.map_map] at this
    have h2 : ∀ xs : List (List Int), xs.map ((fun t : Int × Int × Int => t.2.2) ∘ titleF) = (xs.map (·.length)).map (fun n : Nat => (n : Int)) := fun xs => by rw [List.map_map]; rfl
    rw [h2, h2] at this
    exact (List.map_inj_right (fun a b z => Int.ofNat.inj z)).mp this
  refine ⟨cls.flatten, e2, by rw [pieces_same hlen]; exact e1, ?_⟩
  have := congrArg List.length e2
  rw [List.length_take, List.length_map] at this
  have h12 := g.many.2
  have : (manOf ks pic).many = pic.cells.length := rfl
  omega
/-- cells from the factory, the other slot as it may be -/
structure FacC (ks : List Int) (pic : Pic) (cs : List (Option Int)) : Prop where
  left : Left 0 9 cs
  good : whyF cs ks 0 = ""
  f0 : floorO cs 0 = pic.v
  f2 : floorO cs 2 = pic.n
  top : topV cs 0 = pic.v
theorem FacC.mach {ks : List Int} {p : Pic} (gg : gk ks) (hp : gp ks p) : FacC ks p (machC ks p) := by
  have hb := machC_b gg hp
  have hin := mach_slot (ks := ks) hp.2.2.2.1 (.inl rfl : (0 : Int) = 0 ∨ (0 : Int) = 1)
  have hh := head_of_slot (.inl rfl) (machC_len ks p) hin (by rw [slotRow_len]; omega)
  obtain ⟨l0, l1, l2, l3⟩ := machC_low (ks := ks) (p := p)
  obtain ⟨p1, p2, p3, p4, p5, p6, p7⟩ := _root_.id hp
  refine ⟨⟨machC_len ks p, hb.1, ?_, pgn_mono hb.2 (by decide)⟩, mach_good gg hp (.inl rfl), ?_, ?_, ?_⟩
  · obtain ⟨x, e, ex⟩ := mach_newest (ks := ks) (p := p)
    exact ⟨x, e, by rw [ex]⟩
  · unfold floorO
    rw [getD_of l0, getD_of l1]
    simp [countF]; omega
  · unfold floorO
    rw [getD_of l2, getD_of l3]
    simp [countF]; omega
  · unfold topV
    rw [hh]; rfl
theorem FacC.set {ks : List Int} {p : Pic} {cs : List (Option Int)} (h : FacC ks p cs) {i : Nat} (hi : 35 ≤ i) {w : Option Int} (hw : ∀ n, w = some n → 0 ≤ n ∧ n ≤ 9972) : FacC ks p (cs.set i w) := by
  obtain ⟨⟨hl, hb, ⟨x, e, ex⟩, hpg⟩, h2, h3, h4, h5⟩ := h
  have hhd : headL (cs.set i w) 0 = headL cs 0 := by
    unfold headL
    exact row_ext fun k k1 k2 => List.getElem?_set_ne (by simp [slotB] at k2; omega)
  have hpt : ∀ m : Int, m ≤ 12 → partsL (cs.set i w) 0 m = partsL cs 0 m := fun m hm => by
    unfold partsL
    exact row_ext fun k k1 k2 => List.getElem?_set_ne (by simp [slotB] at k2; omega)
  have hfl : ∀ k : Nat, k < 3 → floorO (cs.set i w) k = floorO cs k := fun k hk => by
    unfold floorO
    rw [getD_setN (by omega), getD_setN (by omega)]
  refine ⟨⟨by rw [List.length_set]; exact hl, bnd_set hb hw, ⟨x, by rw [newest_set (.inr (by omega))]; exact e, ex⟩, pgn_set hpg (by omega) (by omega)⟩, ?_, by rw [hfl 0 (by decide)]; exact h3, by rw [hfl 2 (by decide)]; exact h4, by unfold topV; rw [hhd]; exact h5⟩
  obtain ⟨v, many, one, two, n, sl, e, q1, q2, q3, q4, q5, q6, q7⟩ := good_inv h2
  exact good_mk (by rw [hhd]; exact e) q1 q2 (by rw [hpt many q2]; exact q3) (by rw [hfl 2 (by decide)]; exact q4) q5 q6 (by rw [hfl 0 (by decide)]; exact q7)
/-- a newer picture's manifest is let in -/
theorem FacC.ref {ks : List Int} {p p2 : Pic} {cs : List (Option Int)} (h : FacC ks p cs) (gg : gk ks) (hp2 : gp ks p2) (hn : p.n ≤ p2.n) (hv : p.v < p2.v) : refB 0 cs ks (manOf ks p2) = "" := by
  have hk := keyOf_ok gg hp2
  refine refB_mk h.good ⟨by rw [h.f2]; exact hn, hp2.2.2.2.2.2.2⟩ ?_ (by rw [h.f0]; exact Int.le_of_lt hv) (by rw [h.top]; exact hv)
  show sealF (ks.getD p2.n.toNat 0) (plainF p2) = sealF (keyOf ks p2) (plainF p2)
  rw [getD_of hk.1]
theorem x_mid {Q : VK} {P : VK → Prop} (C : V → Hp → Prop) (h : ∀ Q' : VK, (∀ v H', C v H' → Q' v H') → P Q') (k : ∀ v H', C v H' → Q v H') : P Q := h Q k
theorem trip_dep (t : Int × Int × Int) : (tripD t).depth ≤ 1 := by simp [tripD, PyData.depth, PyData.depthAll]
theorem trip_lay (t : Int × Int × Int) : (tripD t).canLay0 = true := by simp [tripD, PyData.canLay0, PyData.canLayAll0]
theorem sh_names (ts : List (Int × Int × Int)) : SeqAt.shaped (.tuple (ts.map tripD)) = true := by
  have h1 := depL_map trip_dep ts
  have h2 := layL_map trip_lay ts
  simp [SeqAt.shaped, PyData.canLay0, PyData.depth, h2]
  omega
theorem cut4_1 (x0 x1 x2 x3 : V) : cutV [x0, x1, x2, x3] (some 1) none = [x1, x2, x3] := rfl
/-! ## the machine in general -/
structure Ma where
  CM : Addr
  C : Addr
  x : Addr
  dx : Addr
  bk : Addr
  m : Addr
  dm : Addr
  l : Addr
  t : Int
  ks : List Int
/-- at a.x a machine, of what runs and of its memory -/
structure MacAt (K : PySem.W.Frag) (M : List Addr) (H : Hp) (a : Ma) (ρ : Option (Int × Str)) (μ : Mem) : Prop where
  hx : ∃ ru, H a.x = some (macO a.CM a.dx (.ref a.bk) a.t ru a.m) ∧ Dt K M H (runD ρ) ru
  hM : MemAt a.C H a.m a.dm a.l μ
  hk : Dt K M H (keysD a.ks) (.ref a.bk)
  xm : a.x ≠ a.m
  xl : a.x ≠ a.l
  mx : a.x ∈ M
  mm : a.m ∈ M
  ml : a.l ∈ M
  gg : gk a.ks
  t1 : 1 ≤ a.t
  t3 : a.t ≤ 3
/-- what a machine's deed comes to -/
def mdX (K : PySem.W.Frag) (M : List Addr) (a : Ma) (μ : Mem) (ws : List Wr) (ρ : Option (Int × Str)) (D : PyData) (H : Hp) (Q : VK) (S : Hp → Prop) : Prop := ∀ H', Fr [a.x, a.m, a.l] H H' →
  ((Mem.run ws μ).2 = true → MacAt K M H' a ρ (Mem.run ws μ).1 → ∀ u, Dt K M H' D u → Q u H') ∧ ((Mem.run ws μ).2 = false → (∃ ρs, MacAt K M H' a ρs (Mem.run ws μ).1) → S H')
section
variable {K : PySem.W.Frag} {M : List Addr} {H H' Hc HB : Hp} {a : Ma} {ρ ρ' ρc : Option (Int × Str)} {μ μ' : Mem} {ws ws2 : List Wr} {D : PyData} {Q : VK} {Q1 S : Hp → Prop} {L : List (Addr × HO)} {Ds : List (PyData × V)} {ru : V}
theorem MacAt.ex (h : MacAt K M H a ρ μ) (f : Fr [] H H') : MacAt K M H' a ρ μ := by
  obtain ⟨⟨ru, h1, h2⟩, h3, h4, r⟩ := h
  exact ⟨⟨ru, f _ _ (fun z => nomatch z) h1, h2.mono f.wk0⟩, h3.ex f, h4.mono f.wk0, r, ‹_›, ‹_›, ‹_›, ‹_›, ‹_›, ‹_›, ‹_›⟩
theorem MacAt.inM (h : MacAt K M H a ρ μ) : ∀ y ∈ [a.m, a.l], y ∈ M := fun y hy => by
  simp only [List.mem_cons, List.not_mem_nil, or_false] at hy
  rcases hy with rfl | rfl
  · exact h.mm
  · exact h.ml
theorem MacAt.mem (h : MacAt K M H a ρ μ) (f : Fr [a.m, a.l] H H') (hM : MemAt a.C H' a.m a.dm a.l μ') : MacAt K M H' a ρ μ' := by
  have hin := h.inM
  obtain ⟨⟨ru, h1, h2⟩, h3, h4, xm, xl, r⟩ := h
  exact ⟨⟨ru, f _ _ (by simp [xm, xl]) h1, h2.mono (f.wk hin)⟩, hM, h4.mono (f.wk hin), xm, xl, r, ‹_›, ‹_›, ‹_›, ‹_›, ‹_›⟩
/-- self.running = .. -/
theorem n_run (h : MacAt K M H a ρ μ) (hru : Dt K M H (runD ρ') ru) (c : Cls K a.CM) (n : NoAttr K a.CM "running") (q : ∀ H', Fr [a.x] H H' → MacAt K M H' a ρ' μ → Q1 H') : SetO K "running" ru (.ref a.x) H Q1 := by
  obtain ⟨⟨r0, h1, h2⟩, h3, h4, xm, xl, mx, r⟩ := h
  have f : Fr [a.x] H (upd H a.x (macO a.CM a.dx (.ref a.bk) a.t ru a.m)) := Fr.set (List.mem_singleton.mpr rfl)
  have fM : Fr M H (upd H a.x (macO a.CM a.dx (.ref a.bk) a.t ru a.m)) := f.wk fun y hy => by rw [List.mem_singleton.mp hy]; exact mx
  refine ⟨a.x, a.CM, a.dx, _, rfl, h1, c, n, by simp [macF], ?_⟩
  rw [macF_prun]
  exact q _ f ⟨⟨ru, upd_same, hru.mono fM⟩, h3.mono f (by simp [xm.symm]) (by simp [xl.symm]), h4.mono fM, xm, xl, mx, r, ‹_›, ‹_›, ‹_›, ‹_›⟩
/-- a machine's first writes; then the others -/
theorem mdX_app (k : mdX K M a μ (ws ++ ws2) ρ' D H Q S) (f : Fr [a.x, a.m, a.l] H Hc) (hc : MacAt K M Hc a ρc μ) (next : ∀ H1 μ1, Fr [a.m, a.l] Hc H1 → MacAt K M H1 a ρc μ1 → μ1.cells = applyW ws μ.cells → μ1.up = μ.up → mdX K M a μ1 ws2 ρ' D H Q S → Q1 H1) : ranX a.C a.m a.dm a.l μ ws Hc Q1 S := by
  intro H1 f1 hM
  have f3 : Fr [a.x, a.m, a.l] H H1 := f.trans (f1.wk fun y hy => List.mem_cons_of_mem _ hy)
  refine ⟨fun hw => ?_, fun hw => ?_⟩
  · refine next H1 _ f1 (hc.mem f1 hM) (run_cells hw) (run_upT hw) fun H2 g => ?_
    have := k H2 g
    rw [run_ok hw] at this
    exact this
  · have := (k H1 f3).2
    rw [run_no hw] at this
    exact this hw ⟨ρc, hc.mem f1 hM⟩
theorem mdX_nil (k : mdX K M a μ [] ρ' D H Q S) (f : Fr [a.x, a.m, a.l] H Hc) (hc : MacAt K M Hc a ρ' μ) : ∀ u, Dt K M Hc D u → Q u Hc := (k Hc f).1 rfl hc
theorem Sy.awayX (S : Sy K ⟨HB, [a.x, a.m, a.l]⟩ M H [] Ds) (f : Fr [a.m, a.l] H H') (hA : MacAt K M H' a ρ μ) : Sy K ⟨HB, [a.x, a.m, a.l]⟩ M H' [] Ds := by
  refine S.away f (fun y hy => ⟨hA.inM y hy, .inl (List.mem_cons_of_mem _ hy)⟩) (fun y hy z => nomatch z) (fun y hy => ?_)
  simp only [List.mem_cons, List.not_mem_nil, or_false] at hy
  rcases hy with rfl | rfl
  · exact ⟨_, hA.hM.1⟩
  · exact ⟨_, hA.hM.2.1⟩
theorem Sy.awayR (S : Sy K ⟨HB, [a.x, a.m, a.l]⟩ M H [] Ds) (f : Fr [a.x] H H') (hA : MacAt K M H' a ρ μ) : Sy K ⟨HB, [a.x, a.m, a.l]⟩ M H' [] Ds := by
  refine S.away f (fun y hy => ?_) (fun y hy z => nomatch z) (fun y hy => ?_)
  · rw [List.mem_singleton.mp hy]; exact ⟨hA.mx, .inl (List.mem_cons_self ..)⟩
  · rw [List.mem_singleton.mp hy]; obtain ⟨ru, e, -⟩ := hA.hx; exact ⟨_, e⟩
end
/-! ### a start, as a plain function -/
theorem why_same {cs cs' : List (Option Int)} {ks : List Int} {s : Int} (h : ∀ k, k < 4 ∨ 16 ≤ k → cs'[k]? = cs[k]?) (hs : s = 0 ∨ s = 1) : whyF cs' ks s = whyF cs ks s := by
  have hb := slotB_b hs
  have h1 : headL cs' s = headL cs s := row_ext fun k k1 k2 => h k (by omega)
  have h2 : ∀ m, partsL cs' s m = partsL cs s m := fun m => row_ext fun k k1 k2 => h k (by omega)
  have h3 : ∀ i, i < 3 → floorO cs' i = floorO cs i := fun i hi => by
    unfold floorO
    rw [List.getD_eq_getElem?_getD, List.getD_eq_getElem?_getD, h i (by omega), h (i + 1) (by omega), ← List.getD_eq_getElem?_getD, ← List.getD_eq_getElem?_getD]
  unfold whyF
  rw [h1]
  split
  · unfold whyH
    rw [h2, h3 2 (by decide), h3 0 (by decide)]
  · rfl
theorem note_same {cs : List (Option Int)} {r : Rec} : ∀ k, k < 4 ∨ 16 ≤ k → (applyW (noteW cs 4 r) cs)[k]? = cs[k]? := fun k hk => applyW_out fun p hp => by
  have h1 := noteW_at _ _ _ p hp
  have h2 := pages_in cs 4
  omega
theorem top_same {cs cs' : List (Option Int)} {s : Int} (h : ∀ k, k < 4 ∨ 16 ≤ k → cs'[k]? = cs[k]?) (hs : s = 0 ∨ s = 1) : topV cs' s = topV cs s := by
  have hb := slotB_b hs
  have h1 : headL cs' s = headL cs s := row_ext fun k k1 k2 => h k (by omega)
  unfold topV; rw [h1]
def startedD (s v : Int) (w : Str) : PyData := .tuple [.str "started", .int s, .int v, .str w]
/-- the book's writes ahead of the choice of the trusted slot -/
def stN1 (b : Rec) (cs : List (Option Int)) : List Wr := if b.2.1 = 1 ∧ 0 < b.2.2 then noteW cs 4 (b.1, 1, b.2.2 - 1) else []
def stN2 (b : Rec) (cs : List (Option Int)) : List Wr := if b.2.1 = 1 then noteW cs 4 (b.1, 0, 0) else []
def startB (b : Rec) (ks : List Int) (cs : List (Option Int)) : List Wr × PyData × Option (Int × Str) :=
  if b.2.1 = 1 ∧ 0 < b.2.2 ∧ whyF cs ks (1 - b.1) = "" then (stN1 b cs, startedD (1 - b.1) (topV cs (1 - b.1)) "trial", some (1 - b.1, "trial"))
  else if whyF cs ks b.1 = "" then (thenW (stN1 b) (stN2 b) cs, startedD b.1 (topV cs b.1) "trusted", some (b.1, "trusted"))
  else if whyF cs ks (1 - b.1) = "" then (thenW (stN1 b) (thenW (stN2 b) fun c => noteW c 4 (1 - b.1, 0, 0)) cs, startedD (1 - b.1) (topV cs (1 - b.1)) "other", some (1 - b.1, "other"))
  else (thenW (stN1 b) (stN2 b) cs, .tuple [.str "stranded", .str (whyF cs ks 0), .str (whyF cs ks 1)], none)
def startF (ks : List Int) (cs : List (Option Int)) : List Wr × PyData × Option (Int × Str) := startB (bookedO cs) ks cs
section
variable (CM C : Addr) (er : Er → Addr) (K : PySem.W.Frag)
def spMGood : Sp := fun vs H Q _ => ∃ (M : List Addr) (a : Ma) (ρ : Option (Int × Str)) (μ : Mem) (s : Int), vs = [.ref a.x, .int s] ∧ a.CM = CM ∧ a.C = C ∧ (∀ y ∈ M, ∃ o, H y = some o) ∧ MacAt K M H a ρ μ ∧ μ.up = true ∧ μ.cells.length = 54 ∧ bnd μ.cells ∧ (s = 0 ∨ s = 1) ∧ ∀ H', Fr [] H H' → Q (.bl (decide (whyF μ.cells a.ks s = ""))) H'
def spMBegun : Sp := fun vs H Q _ => ∃ (M : List Addr) (a : Ma) (ρ : Option (Int × Str)) (μ : Mem) (s : Int) (w : Str), vs = [.ref a.x, .int s, .str w] ∧ a.CM = CM ∧ a.C = C ∧ (∀ y ∈ M, ∃ o, H y = some o) ∧ MacAt K M H a ρ μ ∧ μ.up = true ∧ μ.cells.length = 54 ∧ bnd μ.cells ∧ (s = 0 ∨ s = 1) ∧ whyF μ.cells a.ks s = "" ∧
  ∀ H' u, Fr [a.x] H H' → MacAt K M H' a (some (s, w)) μ → Dt K M H' (startedD s (topV μ.cells s) w) u → Q u H'
def spMStart : Sp := fun vs H Q E => ∃ (M : List Addr) (a : Ma) (ρ : Option (Int × Str)) (μ : Mem) (j : Int), vs = [.ref a.x] ∧ a.CM = CM ∧ a.C = C ∧ (∀ y ∈ M, ∃ o, H y = some o) ∧ MacAt K M H a ρ μ ∧ μ.up = true ∧ μ.cells.length = 54 ∧ bnd μ.cells ∧ bookOk μ.cells ∧ pgn j μ.cells ∧ 0 ≤ j ∧ j ≤ 9000 ∧
  mdX K M a μ (startF a.ks μ.cells).1 (startF a.ks μ.cells).2.2 (startF a.ks μ.cells).2.1 H Q (E (.ref (er .stopped)) none)
end
theorem pageO_ok {cs : List (Option Int)} {j : Nat} {p : Int × Rec} (hb : bnd cs) (h : pageO cs j = some p) : okRec p.2 := by
  unfold pageO pageL at h
  split at h
  · rename_i a b c d e f hrow
    split at h
    · cases h
      have hm : ∀ n : Int, some n ∈ (cs.drop j).take 6 → 0 ≤ n ∧ n ≤ 9972 := fun n hn => hb n (List.mem_of_mem_drop (List.mem_of_mem_take hn))
      rw [hrow] at hm
      exact ⟨hm _ (by simp), hm _ (by simp), hm _ (by simp)⟩
    · cases h
  · cases h
theorem booked_ok {cs : List (Option Int)} (hb : bnd cs) : okRec (bookedO cs) := by
  unfold bookedO recordO
  cases e : newestO cs 4 with
  | none => exact ⟨by decide, by decide, by decide⟩
  | some x =>
    show okRec x.2.2
    unfold newestO at e
    split at e
    · cases e
    · rename_i h1 h2; cases e; exact pageO_ok hb h1
    · rename_i h1 h2; cases e; exact pageO_ok hb h2
    · rename_i h1 h2
      split at e
      · cases e; exact pageO_ok hb h2
      · cases e; exact pageO_ok hb h1
def restW (b : Rec) (ks : List Int) (cs0 c : List (Option Int)) : List Wr := if whyF cs0 ks b.1 = "" then [] else if whyF cs0 ks (1 - b.1) = "" then noteW c 4 (1 - b.1, 0, 0) else []
def restD (b : Rec) (ks : List Int) (cs0 : List (Option Int)) : PyData := if whyF cs0 ks b.1 = "" then startedD b.1 (topV cs0 b.1) "trusted" else if whyF cs0 ks (1 - b.1) = "" then startedD (1 - b.1) (topV cs0 (1 - b.1)) "other" else .tuple [.str "stranded", .str (whyF cs0 ks 0), .str (whyF cs0 ks 1)]
def restR (b : Rec) (ks : List Int) (cs0 : List (Option Int)) : Option (Int × Str) := if whyF cs0 ks b.1 = "" then some (b.1, "trusted") else if whyF cs0 ks (1 - b.1) = "" then some (1 - b.1, "other") else none
theorem startB_rest {b : Rec} {ks : List Int} {cs : List (Option Int)} (h : ¬ (b.2.1 = 1 ∧ 0 < b.2.2 ∧ whyF cs ks (1 - b.1) = "")) : startB b ks cs = (stN1 b cs ++ (stN2 b (applyW (stN1 b cs) cs) ++ restW b ks cs (applyW (stN2 b (applyW (stN1 b cs) cs)) (applyW (stN1 b cs) cs))), restD b ks cs, restR b ks cs) := by
  unfold startB restW restD restR
  rw [if_neg h]
  split
  · simp [thenW]
  · split
    · simp [thenW]
    · simp [thenW]
theorem startB_trial {b : Rec} {ks : List Int} {cs : List (Option Int)} (h : b.2.1 = 1 ∧ 0 < b.2.2 ∧ whyF cs ks (1 - b.1) = "") : startB b ks cs = (noteW cs 4 (b.1, 1, b.2.2 - 1) ++ [], startedD (1 - b.1) (topV cs (1 - b.1)) "trial", some (1 - b.1, ("trial" : Str))) := by
  unfold startB stN1
  rw [if_pos h, if_pos ⟨h.1, h.2.1⟩, List.append_nil]
/-- as ahead, but for the book -/
structure Like (j : Int) (cs0 cs : List (Option Int)) : Prop where
  len : cs.length = 54
  bnd : Z.bnd cs
  pgn : Z.pgn j cs
  same : ∀ k, k < 4 ∨ 16 ≤ k → cs[k]? = cs0[k]?
theorem Like.note {j : Int} {cs0 cs : List (Option Int)} {r : Rec} (h : Like j cs0 cs) (j0 : 0 ≤ j) (j1 : j ≤ 9100) (hr : okRec r) : Like (j + 1) cs0 (applyW (noteW cs 4 r) cs) := by
  obtain ⟨hl, hb, hp, hs⟩ := h
  have h1 := next_nn hb 4
  have h2 := next_pgn hp j0
  exact ⟨by rw [applyW_len]; exact hl, bnd_applyW hb (noteW_ok ⟨h1, by omega⟩ hr), note_pgn hp j0 hl, fun k hk => (note_same k hk).trans (hs k hk)⟩
theorem Like.why {j : Int} {cs0 cs : List (Option Int)} (h : Like j cs0 cs) {ks : List Int} {s : Int} (hs : s = 0 ∨ s = 1) : whyF cs ks s = whyF cs0 ks s := why_same h.same hs
theorem Like.top {j : Int} {cs0 cs : List (Option Int)} (h : Like j cs0 cs) {s : Int} (hs : s = 0 ∨ s = 1) : topV cs s = topV cs0 s := top_same h.same hs
theorem Like.more {j k : Int} {cs0 cs : List (Option Int)} (h : Like j cs0 cs) (hk : j ≤ k) : Like k cs0 cs := ⟨h.len, h.bnd, pgn_mono h.pgn hk, h.same⟩
section
variable {K : PySem.W.Frag} {M : List Addr} {H H' : Hp} {a : Ma} {ρ : Option (Int × Str)} {μ : Mem}
theorem domX (hdom : ∀ y ∈ M, ∃ o, H y = some o) (f : Fr [a.x, a.m, a.l] H H') (hA : MacAt K M H' a ρ μ) : ∀ y ∈ M, ∃ o, H' y = some o := fun y hy => by
  obtain ⟨o, e⟩ := hdom y hy
  by_cases z : y ∈ [a.x, a.m, a.l]
  · simp only [List.mem_cons, List.not_mem_nil, or_false] at z
    rcases z with rfl | rfl | rfl
    · obtain ⟨ru, e, -⟩ := hA.hx; exact ⟨_, e⟩
    · exact ⟨_, hA.hM.1⟩
    · exact ⟨_, hA.hM.2.1⟩
  · exact ⟨o, f y o z e⟩
theorem frML (f : Fr [a.m, a.l] H H') : Fr [a.x, a.m, a.l] H H' := f.wk fun y hy => List.mem_cons_of_mem _ hy
theorem frX (f : Fr [a.x] H H') : Fr [a.x, a.m, a.l] H H' := f.wk fun y hy => by rw [List.mem_singleton.mp hy]; exact List.mem_cons_self ..
end
/-! ### the machine's other deeds -/
def yesF (ρ : Option (Int × Str)) (cs : List (Option Int)) : List Wr × PyData × Option (Int × Str) := match ρ with
  | none => ([], .tuple [.str "down"], none)
  | some (s, w) => if w = "trial" then (noteW cs 4 (s, 0, 0), .tuple [.str "yes"], some (s, "trusted")) else ([], .tuple [.str "no"], some (s, w))
def updM (a : Ma) (ρ : Option (Int × Str)) (mn : Man) (ss : List (List Row)) (cs : List (Option Int)) : List Wr × PyData := match ρ with
  | none => ([], .tuple [.str "down"])
  | some (s, _) => if s = (bookedO cs).1 then (updW a.ks a.t mn ss cs, updD a.ks mn ss cs) else ([], .tuple [.str "trial"])
def dblM (a : Ma) (ρ : Option (Int × Str)) (cs : List (Option Int)) : List Wr × PyData := match ρ with
  | none => ([], .tuple [.str "down"])
  | some (s, _) => if s = (bookedO cs).1 then (doubleW a.ks cs, doubleD a.ks cs) else ([], .tuple [.str "trial"])
def runOk (ρ : Option (Int × Str)) : Prop := ∀ s w, ρ = some (s, w) → s = 0 ∨ s = 1
section
variable (CM C : Addr) (er : Er → Addr) (K : PySem.W.Frag)
def spMYes : Sp := fun vs H Q E => ∃ (M : List Addr) (a : Ma) (ρ : Option (Int × Str)) (μ : Mem) (j : Int), vs = [.ref a.x] ∧ a.CM = CM ∧ a.C = C ∧ (∀ y ∈ M, ∃ o, H y = some o) ∧ MacAt K M H a ρ μ ∧ runOk ρ ∧ μ.up = true ∧ μ.cells.length = 54 ∧ bnd μ.cells ∧ pgn j μ.cells ∧ 0 ≤ j ∧ j ≤ 9000 ∧
  mdX K M a μ (yesF ρ μ.cells).1 (yesF ρ μ.cells).2.2 (yesF ρ μ.cells).2.1 H Q (E (.ref (er .stopped)) none)
def spMUpdate : Sp := fun vs H Q E => ∃ (M : List Addr) (a : Ma) (ρ : Option (Int × Str)) (μ : Mem) (j : Int) (mn : Man) (ss : List (List Row)) (v u : V), vs = [.ref a.x, v, u] ∧ a.CM = CM ∧ a.C = C ∧ (∀ y ∈ M, ∃ o, H y = some o) ∧ MacAt K M H a ρ μ ∧ μ.up = true ∧ μ.cells.length = 54 ∧ bnd μ.cells ∧ bookOk μ.cells ∧ pgn j μ.cells ∧ 0 ≤ j ∧ j ≤ 9000 ∧ Dt K M H (manD mn) v ∧ gman mn ∧ Dt K M H (storesD ss) u ∧ gStores ss ∧
  mdX K M a μ (updM a ρ mn ss μ.cells).1 ρ (updM a ρ mn ss μ.cells).2 H Q (E (.ref (er .stopped)) none)
def spMDouble : Sp := fun vs H Q E => ∃ (M : List Addr) (a : Ma) (ρ : Option (Int × Str)) (μ : Mem), vs = [.ref a.x] ∧ a.CM = CM ∧ a.C = C ∧ (∀ y ∈ M, ∃ o, H y = some o) ∧ MacAt K M H a ρ μ ∧ μ.up = true ∧ μ.cells.length = 54 ∧ bnd μ.cells ∧ bookOk μ.cells ∧
  mdX K M a μ (dblM a ρ μ.cells).1 ρ (dblM a ρ μ.cells).2 H Q (E (.ref (er .stopped)) none)
def spMUp : Sp := fun vs H Q _ => ∃ (M : List Addr) (a : Ma) (ρ : Option (Int × Str)) (μ : Mem), vs = [.ref a.x] ∧ a.CM = CM ∧ a.C = C ∧ MacAt K M H a ρ μ ∧ ∀ H', Fr [a.x, a.m, a.l] H H' → MacAt K M H' a none { μ with up := true, left := none } → Q .non H'
def spMCut : Sp := fun vs H Q _ => ∃ (M : List Addr) (a : Ma) (ρ : Option (Int × Str)) (μ : Mem) (n : Int) (t : Str), vs = [.ref a.x, .int n, .str t] ∧ a.CM = CM ∧ a.C = C ∧ MacAt K M H a ρ μ ∧ 0 ≤ n ∧ n ≤ 100000 ∧ (t = "old" ∨ t = "broken" ∨ t = "new") ∧ ∀ H', Fr [a.m, a.l] H H' → MacAt K M H' a ρ { μ with left := some n, torn := t } → Q .non H'
def spMSpoil : Sp := fun vs H Q _ => ∃ (M : List Addr) (a : Ma) (ρ : Option (Int × Str)) (μ : Mem) (s i : Int) (w : Option Int), vs = [.ref a.x, .int s, .int i, ov w] ∧ a.CM = CM ∧ a.C = C ∧ MacAt K M H a ρ μ ∧ μ.cells.length = 54 ∧ (s = 0 ∨ s = 1) ∧ 0 ≤ i ∧ i < 19 ∧ (∀ n, w = some n → 0 ≤ n ∧ n ≤ 9972) ∧ ∀ H', Fr [a.m, a.l] H H' → MacAt K M H' a ρ { μ with cells := μ.cells.set (slotB s + i).toNat w } → Q .non H'
end
/-! ## deeds of a plan -/
inductive Deed where
  | start
  | yes
  | double
  | update (mn : Man) (ss : List (List Row))
  | cut (n : Int) (t : Str)
  | spoil (s i : Int) (w : Option Int)
def deedD : Deed → PyData
  | .start => .tuple [.str "start"]
  | .yes => .tuple [.str "yes"]
  | .double => .tuple [.str "double"]
  | .update mn ss => .tuple [.str "update", manD mn, storesD ss]
  | .cut n t => .tuple [.str "cut", .int n, .str t]
  | .spoil s i w => .tuple [.str "spoil", .int s, .int i, od w]
def gDeed : Deed → Prop
  | .update mn ss => gman mn ∧ gStores ss
  | .cut n t => 0 ≤ n ∧ n ≤ 100000 ∧ (t = "old" ∨ t = "broken" ∨ t = "new")
  | .spoil s i w => (s = 0 ∨ s = 1) ∧ 0 ≤ i ∧ i < 19 ∧ ∀ n, w = some n → 0 ≤ n ∧ n ≤ 9972
  | _ => True
def plainW : Deed → Bool
  | .start => true
  | .yes => true
  | .double => true
  | _ => false
/-- what a deed of a plan comes to -/
def doneP (K : PySem.W.Frag) (M : List Addr) (a : Ma) (ρ : Option (Int × Str)) (μ : Mem) (d : Deed) (H : Hp) (Q : VK) (S : Hp → Prop) : Prop := match d with
  | .start => mdX K M a μ (startF a.ks μ.cells).1 (startF a.ks μ.cells).2.2 (startF a.ks μ.cells).2.1 H Q S
  | .yes => mdX K M a μ (yesF ρ μ.cells).1 (yesF ρ μ.cells).2.2 (yesF ρ μ.cells).2.1 H Q S
  | .double => mdX K M a μ (dblM a ρ μ.cells).1 ρ (dblM a ρ μ.cells).2 H Q S
  | .update mn ss => mdX K M a μ (updM a ρ mn ss μ.cells).1 ρ (updM a ρ mn ss μ.cells).2 H Q S
  | .cut n t => ∀ H', Fr [a.x, a.m, a.l] H H' → MacAt K M H' a ρ { μ with left := some n, torn := t } → Q .non H'
  | .spoil s i w => ∀ H', Fr [a.x, a.m, a.l] H H' → MacAt K M H' a ρ { μ with cells := μ.cells.set (slotB s + i).toNat w } → Q .non H'
def spDone (CM C : Addr) (er : Er → Addr) (K : PySem.W.Frag) : Sp := fun vs H Q E => ∃ (M : List Addr) (a : Ma) (ρ : Option (Int × Str)) (μ : Mem) (j : Int) (d : Deed) (v : V), vs = [.ref a.x, v] ∧ a.CM = CM ∧ a.C = C ∧ (∀ y ∈ M, ∃ o, H y = some o) ∧ MacAt K M H a ρ μ ∧ runOk ρ ∧ μ.up = true ∧ μ.cells.length = 54 ∧ bnd μ.cells ∧ bookOk μ.cells ∧ pgn j μ.cells ∧ 0 ≤ j ∧ j ≤ 9000 ∧ Dt K M H (deedD d) v ∧ gDeed d ∧
  doneP K M a ρ μ d H Q (E (.ref (er .stopped)) none)
/-! ## calls in an except suite -/
section
open PyProof.Rows L2H
variable {X : Cx} {CX : CXT} {k : Nat} {f C : Addr} {fd : FuncData} {ps : List Str} {sp : Sp} {E : L2.St → XK} {x m : Str} {q pos apos : Pos} {e o : Expr} {es : List Expr} {ta : TE} {t : TA}
theorem pe_methXH0 {pl : Sem Bool} (he : PE X o ta) (c : Cls X.K C) (hm : Meth X.K C m f) (F : FnH X.prog X.w X.K X.mg X.base CX k f fd ps sp) (hr : RoomH k X.A) (hc : HotC X) (hb : Binds X.K fd ps []) (hx : ∀ σ, PassesAt CX X σ (E σ))
    (ht : eval (.Call (.Attribute o m apos) [] [] pos) X.env = (do
      let ov ← eval o X.env
      standAt apos.atName
      let (f, first) ← holding [ov] (getMethod ov m pl)
      callWith pos f first (backTo pos (starEach [] X.env)) (backToKw pos (keywordEach [] X.env))) := by rfl) :
    PE X (.Call (.Attribute o m apos) [] [] pos) (tMethX C m sp E ta tNil) := by
  refine ⟨fun pins s σ H Q I h => ?_⟩
  refine PySem.W.methodCall_KW (pl := pl) (thn (he.run pins s σ H _ I h) fun u s1 ⟨x, H1, I1, rx, a, dx, fs, ex, ea, l, q⟩ => ?_) ht
  subst ex
  obtain rfl : u = Value.ref a := rx
  refine getmeth_ok I1 ea c hm l ?_
  exact PySem.W.callWith_K0 (first := [.ref a]) I1.kIn hm.kp (run_fnH (us := [.ref a]) (vs := [.ref a]) F hr hc hb (hx σ) I1 (.cons rfl .nil) q)
theorem funOkH {P : Program} {w : World} {K : PySem.W.Frag} {mg : Str → Option Value} {base : Heap} {x qual : Str} {st : Stmt} {f : Addr} {fd : FuncData} {N ps : List Str} {k : Nat} {sp : Sp} (F : L2.Fun K x qual st f fd) (S : FnScope N ps (defScope st)) (len : ∀ vs H Q E, sp vs H Q E → vs.length = ps.length)
    (hbody : ∀ (cdv : Value) (A : Around) (outer : List Env) (s : Shared) (H : Hp) (vs : List V) (Q : VK) (E : XK) (p : Addr × Obj), Hot1 A p → RoomH k (A.deeper (envOfC qual (defScope st) s.heap.objs.size f cdv)) → sp vs H Q E →
      ∃ t, PSs (cxH CX P w K mg base N qual (defScope st) f cdv A outer s H E p) (defBody st) t ∧ t { nx := fun _ H' => Q .non H', rt := Q } (L2.start N vs) H) : FnH P w K mg base CX (k + 1) f fd ps sp := by
  obtain ⟨oc, od, kV, doc, pm, an, cdv, ct, osl, rfl, lk, hcd⟩ := F.ex
  exact fn_ofH lk hcd S len fun A outer s H vs Q E p hot hr hsp => hbody cdv A outer s H vs Q E p hot hr hsp
end
section
open PyProof.Rows L2H
variable {X : Cx} {CX : CXT} {k : Nat} {f C : Addr} {fd : FuncData} {ps : List Str} {sp : Sp} {E : XK} {m : Str} {pos apos : Pos} {o : Expr} {ta : TE}
theorem pe_methHot0 {pl : Sem Bool} (he : PE X o ta) (c : Cls X.K C) (hm : Meth X.K C m f) (F : FnH X.prog X.w X.K X.mg X.base CX k f fd ps sp) (hr : RoomH k X.A) (hc : HotC X) (hb : Binds X.K fd ps []) (hx : Passes CX X E)
    (ht : eval (.Call (.Attribute o m apos) [] [] pos) X.env = (do
      let ov ← eval o X.env
      standAt apos.atName
      let (f, first) ← holding [ov] (getMethod ov m pl)
      callWith pos f first (backTo pos (starEach [] X.env)) (backToKw pos (keywordEach [] X.env))) := by rfl) :
    PE X (.Call (.Attribute o m apos) [] [] pos) (tMeth C m sp [] E ta tNil) := by
  refine ⟨fun pins s σ H Q I h => ?_⟩
  refine PySem.W.methodCall_KW (pl := pl) (thn (he.run pins s σ H _ I h) fun u s1 ⟨x, H1, I1, rx, a, dx, fs, ex, ea, l, q⟩ => ?_) ht
  subst ex
  obtain rfl : u = Value.ref a := rx
  refine getmeth_ok I1 ea c hm l ?_
  exact PySem.W.callWith_K0 (first := [.ref a]) I1.kIn hm.kp (run_fnH (E := fun _ => E) (us := [.ref a]) (vs := [.ref a]) F hr hc hb (fun pins H s e s' I c => hx pins σ H s e s' I c) I1 (.cons rfl .nil) q)
end
/-! ## exceptions whose context is None -/
section
open PyProof.Rows
variable {X : Cx} {W : WX} {E : XK}
theorem passLN : Passes (L2N.CX X.prog X.w) X E0 := fun _ _ _ _ _ _ _ h => by
  obtain ⟨_, _, _, _, _, _, _, _, _, _, _, _, z⟩ := h
  exact z.elim
theorem passXN {E₁ : Value → Shared → Prop} (hs : X.stack = X.env :: X.outer) (hf : X.env.frame = some X.env.locals) (hex : X.ex = [])
    (hx : X.xe = fun e s' => wpAny (model X.prog X.w) X.A (leaving X.env e) (fun _ s'' => L2N.CX X.prog X.w X.outer X.H_0 X.s_0 E e s'') E₁ s') : Passes (L2N.CX X.prog X.w) X E :=
  L2N.passes_call (L2N.takes_of hs hf hex hx) (fun _ _ _ _ h => h)
theorem skyN {B h : Heap} {l : List Env} {a L : Addr} {Z Z' : Obj → Prop} (z : ∀ o, Z o → Z' o) (x : Sky B l a Z L h) : Sky B l a Z' L h := by
  rcases x with ⟨h1, h2, h3, oe, vs, h4, h5, h6, h7⟩ | x | ⟨h1, h2, h3, h4⟩
  · exact .inl ⟨h1, h2, h3, oe, vs, h4, z _ h5, h6, h7⟩
  · exact .inr (.inl (L2H.flyingZ_imp z x))
  · refine .inr (.inr ⟨h1, h2, h3, ?_⟩)
    obtain ⟨oe, vs, T, oT, ts, he, hz, r⟩ := h4
    exact ⟨oe, vs, T, oT, ts, he, z _ hz, r⟩
theorem takesN (tk : L2.Takes X W) : L2N.Takes X W := fun u s' ⟨a, B, sI, pins, σ, H, cls, d, e, I, nb, up, sky, na, os, ag, w⟩ =>
  tk u s' ⟨a, B, sI, pins, σ, H, cls, d, e, I, nb, up, skyN (fun _ z => z.zc) sky, na, os, ag, w⟩
end
theorem RoomH_of {k : Nat} {A : Around} {v : Option Value} (r : Room k A) : L2H.RoomH k (A.mark v) := ⟨r.dp, r.un⟩
/-! ## plans -/
/-- what a deed of writes comes to, power being there again behind a stop -/
def ranS (ws : List Wr) (ρ : Option (Int × Str)) (D : PyData) (μ : Mem) : PyData × Option (Int × Str) × Mem :=
  if (Mem.run ws μ).2 = true then (D, ρ, (Mem.run ws μ).1) else (.tuple [.str "stopped"], none, { (Mem.run ws μ).1 with up := true, left := none })
def deedS (a : Ma) (d : Deed) (ρ : Option (Int × Str)) (μ : Mem) : PyData × Option (Int × Str) × Mem := match d with
  | .start => ranS (startF a.ks μ.cells).1 (startF a.ks μ.cells).2.2 (startF a.ks μ.cells).2.1 μ
  | .yes => ranS (yesF ρ μ.cells).1 (yesF ρ μ.cells).2.2 (yesF ρ μ.cells).2.1 μ
  | .double => ranS (dblM a ρ μ.cells).1 ρ (dblM a ρ μ.cells).2 μ
  | .update mn ss => ranS (updM a ρ mn ss μ.cells).1 ρ (updM a ρ mn ss μ.cells).2 μ
  | .cut n t => (.none, ρ, { μ with left := some n, torn := t })
  | .spoil s i w => (.none, ρ, { μ with cells := μ.cells.set (slotB s + i).toNat w })
def playS (a : Ma) : List Deed → Option (Int × Str) → Mem → List PyData × Option (Int × Str) × Mem
  | [], ρ, μ => ([], ρ, μ)
  | d :: ds, ρ, μ => ((deedS a d ρ μ).1 :: (playS a ds (deedS a d ρ μ).2.1 (deedS a d ρ μ).2.2).1, (playS a ds (deedS a d ρ μ).2.1 (deedS a d ρ μ).2.2).2)
theorem playS_app (a : Ma) : ∀ (ds es : List Deed) (ρ : Option (Int × Str)) (μ : Mem), playS a (ds ++ es) ρ μ = ((playS a ds ρ μ).1 ++ (playS a es (playS a ds ρ μ).2.1 (playS a ds ρ μ).2.2).1, (playS a es (playS a ds ρ μ).2.1 (playS a ds ρ μ).2.2).2)
  | [], es, ρ, μ => rfl
  | d :: ds, es, ρ, μ => by
    show (_ :: (playS a (ds ++ es) _ _).1, (playS a (ds ++ es) _ _).2) = _
    rw [playS_app a ds es]; rfl
theorem playS_len (a : Ma) : ∀ (ds : List Deed) (ρ : Option (Int × Str)) (μ : Mem), (playS a ds ρ μ).1.length = ds.length
  | [], ρ, μ => rfl
  | d :: ds, ρ, μ => by show (_ :: (playS a ds _ _).1).length = _; simp [playS_len a ds]
theorem run_due' {ws : List Wr} {μ : Mem} (lf : ∀ n, μ.left = some n → 0 ≤ n) : ∃ n, (Mem.run ws μ).1.cells = dueF μ.torn n ws μ.cells ∧ ((Mem.run ws μ).2 = true → ws.length ≤ n) := by
  cases e : μ.left with
  | none =>
    have h := run_free (ws := ws) e
    refine ⟨ws.length, ?_, fun _ => Nat.le_refl _⟩
    rw [run_cells h]
    unfold dueF
    rw [if_neg (Nat.lt_irrefl _)]
  | some m =>
    have h0 := lf m e
    obtain ⟨k, rfl⟩ := Int.eq_ofNat_of_zero_le h0
    have := run_due (ws := ws) e
    refine ⟨k, this.1, fun h => ?_⟩
    rw [this.2] at h
    exact of_decide_eq_true h
theorem run_lf {ws : List Wr} {μ : Mem} (lf : ∀ n, μ.left = some n → 0 ≤ n) (h : (Mem.run ws μ).2 = true) : ∀ n, (Mem.run ws μ).1.left = some n → 0 ≤ n := by
  intro n e
  cases el : μ.left with
  | none => rw [run_whole h] at e; simp [el] at e
  | some m =>
    obtain ⟨k, rfl⟩ := Int.eq_ofNat_of_zero_le (lf m el)
    have h2 := run_left (ws := ws) el
    rw [h] at h2
    have h3 := of_decide_eq_true h2.symm
    rw [run_whole h] at e
    simp only [el] at e
    simp at e
    omega
theorem note_left {t t' j x y : Int} {cs : List (Option Int)} {tn : Str} (ht : t = 0 ∨ t = 1) (ht' : t' = 0 ∨ t' = 1) (h : Left t j cs) (j0 : 0 ≤ j) (j1 : j ≤ 9100) (hr : okRec (t', x, y)) (n : Nat) :
    ∃ s, (s = 0 ∨ s = 1) ∧ Left s (j + 1) (dueF tn n (noteW cs 4 (t', x, y)) cs) := by
  obtain ⟨hl, hb, ⟨z, e, ez⟩, hp⟩ := h
  have h1 := next_nn hb 4
  have h2 := next_pgn hp j0
  have hl' : (dueF tn n (noteW cs 4 (t', x, y)) cs).length = 54 := by rw [dueF_len]; exact hl
  have hb' : bnd (dueF tn n (noteW cs 4 (t', x, y)) cs) := bnd_dueF hb (noteW_ok ⟨h1, by omega⟩ hr)
  have hp' : pgn (j + 1) (dueF tn n (noteW cs 4 (t', x, y)) cs) := pgn_due (pgn_mono hp (by omega)) (noteW_pgn hp j0) n
  rcases note_due (cs := cs) (i := 4) (n := n) (r := (t', x, y)) (t := tn) (by omega) (by omega) with ⟨h3, _⟩ | h3
  · exact ⟨t, ht, hl', hb', ⟨z, h3.trans e, ez⟩, hp'⟩
  · exact ⟨t', ht', hl', hb', ⟨_, h3, rfl⟩, hp'⟩
def MLeft (j : Int) (cs : List (Option Int)) : Prop := ∃ s, (s = 0 ∨ s = 1) ∧ Left s j cs
theorem MLeft.more {j k : Int} {cs : List (Option Int)} (h : MLeft j cs) (hk : j ≤ k) : MLeft k cs := by
  obtain ⟨s, hs, h⟩ := h
  exact ⟨s, hs, h.len, h.bnd, h.tells, pgn_mono h.pgn hk⟩
theorem MLeft.due {t' j x y : Int} {cs : List (Option Int)} {tn : Str} (ht' : t' = 0 ∨ t' = 1) (h : MLeft j cs) (j0 : 0 ≤ j) (j1 : j ≤ 9100) (hr : okRec (t', x, y)) (n : Nat) : MLeft (j + 1) (dueF tn n (noteW cs 4 (t', x, y)) cs) := by
  obtain ⟨s, hs, h⟩ := h
  exact note_left hs ht' h j0 j1 hr n
theorem MLeft.len {j : Int} {cs : List (Option Int)} (h : MLeft j cs) : cs.length = 54 := by obtain ⟨s, hs, h⟩ := h; exact h.len
theorem MLeft.bnd {j : Int} {cs : List (Option Int)} (h : MLeft j cs) : Z.bnd cs := by obtain ⟨s, hs, h⟩ := h; exact h.bnd
theorem MLeft.pgn {j : Int} {cs : List (Option Int)} (h : MLeft j cs) : Z.pgn j cs := by obtain ⟨s, hs, h⟩ := h; exact h.pgn
theorem MLeft.book {j : Int} {cs : List (Option Int)} (h : MLeft j cs) : bookOk cs := by obtain ⟨s, hs, h⟩ := h; exact h.book hs
theorem start_left {j : Int} {cs : List (Option Int)} {ks : List Int} {tn : Str} (h : MLeft j cs) (j0 : 0 ≤ j) (j1 : j ≤ 9000) (n : Nat) : MLeft (j + 3) (dueF tn n (startF ks cs).1 cs) := by
  have hb := booked_ok h.bnd
  have ht := h.book
  unfold bookOk at ht
  unfold startF
  generalize bookedO cs = b at hb ht
  obtain ⟨b0, b1, b2⟩ := b
  obtain ⟨h0, h1, h2⟩ := hb
  dsimp only at h0 h1 h2 ht
  have a1 : ∀ n, MLeft (j + 1) (dueF tn n (stN1 (b0, b1, b2) cs) cs) := fun n => by
    unfold stN1
    split
    · rename_i z
      refine h.due ht j0 (by omega) ⟨h0, ⟨by dsimp only; omega, by dsimp only; omega⟩, ?_, ?_⟩ n
      · have := z.2; dsimp only at this ⊢; omega
      · dsimp only; omega
    · exact due_nil (h.more (by omega)) n
  by_cases hc : b1 = 1 ∧ 0 < b2 ∧ whyF cs ks (1 - b0) = ""
  · rw [startB_trial hc]
    have := a1 n
    unfold stN1 at this
    rw [if_pos ⟨hc.1, hc.2.1⟩] at this
    rw [List.append_nil]
    exact this.more (by omega)
  · rw [startB_rest hc]
    have c1 : MLeft (j + 1) (applyW (stN1 (b0, b1, b2) cs) cs) := due_last a1
    have a2 : ∀ n, MLeft (j + 2) (dueF tn n (stN2 (b0, b1, b2) (applyW (stN1 (b0, b1, b2) cs) cs)) (applyW (stN1 (b0, b1, b2) cs) cs)) := fun n => by
      unfold stN2
      split
      · exact (c1.due ht (by omega) (by omega) ⟨h0, ⟨by dsimp only; omega, by dsimp only; omega⟩, ⟨by dsimp only; omega, by dsimp only; omega⟩⟩ n).more (by omega)
      · exact due_nil (c1.more (by omega)) n
    have c2 : MLeft (j + 2) (applyW (stN2 (b0, b1, b2) (applyW (stN1 (b0, b1, b2) cs) cs)) (applyW (stN1 (b0, b1, b2) cs) cs)) := due_last a2
    refine due_all (fun n => (a1 n).more (by omega)) (fun n => due_all (fun n => (a2 n).more (by omega)) (fun n => ?_) n) n
    unfold restW
    split
    · exact due_nil (c2.more (by omega)) n
    · split
      · exact (c2.due (other_slot ht).1 (by omega) (by omega) ⟨⟨by dsimp only; omega, by dsimp only; omega⟩, ⟨by dsimp only; omega, by dsimp only; omega⟩, ⟨by dsimp only; omega, by dsimp only; omega⟩⟩ n).more (by omega)
      · exact due_nil (c2.more (by omega)) n
theorem yes_left {j : Int} {ρ : Option (Int × Str)} {cs : List (Option Int)} {tn : Str} (hr : runOk ρ) (h : MLeft j cs) (j0 : 0 ≤ j) (j1 : j ≤ 9000) (n : Nat) : MLeft (j + 3) (dueF tn n (yesF ρ cs).1 cs) := by
  unfold yesF
  split
  · exact due_nil (h.more (by omega)) n
  · rename_i s w
    have hs := hr s w rfl
    split
    · exact (h.due hs j0 (by omega) ⟨⟨by dsimp only; omega, by dsimp only; omega⟩, ⟨by dsimp only; omega, by dsimp only; omega⟩, ⟨by dsimp only; omega, by dsimp only; omega⟩⟩ n).more (by omega)
    · exact due_nil (h.more (by omega)) n
theorem updM_left {a : Ma} {j : Int} {ρ : Option (Int × Str)} {mn : Man} {ss : List (List Row)} {cs : List (Option Int)} {tn : Str} (h : MLeft j cs) (j0 : 0 ≤ j) (j1 : j ≤ 9000) (gm : gman mn) (gs : gStores ss) (t1 : 1 ≤ a.t) (t3 : a.t ≤ 3) (n : Nat) : MLeft (j + 3) (dueF tn n (updM a ρ mn ss cs).1 cs) := by
  unfold updM
  split
  · exact due_nil (h.more (by omega)) n
  · split
    · obtain ⟨s, hs, h⟩ := h
      exact MLeft.more ⟨s, hs, (upd_due hs h j0 j1 gm gs t1 t3 n).1⟩ (by omega)
    · exact due_nil (h.more (by omega)) n
theorem dblM_left {a : Ma} {j : Int} {ρ : Option (Int × Str)} {cs : List (Option Int)} {tn : Str} (h : MLeft j cs) (n : Nat) : MLeft (j + 3) (dueF tn n (dblM a ρ cs).1 cs) := by
  unfold dblM
  split
  · exact due_nil (h.more (by omega)) n
  · split
    · obtain ⟨s, hs, h⟩ := h
      exact MLeft.more ⟨s, hs, (dbl_due hs h n).1⟩ (by omega)
    · exact due_nil (h.more (by omega)) n
theorem spoil_left {j s i : Int} {w : Option Int} {cs : List (Option Int)} (h : MLeft j cs) (hs : s = 0 ∨ s = 1) (i0 : 0 ≤ i) (i1 : i < 19) (hw : ∀ n, w = some n → 0 ≤ n ∧ n ≤ 9972) : MLeft j (cs.set (slotB s + i).toNat w) := by
  obtain ⟨t, ht, hl, hb, ⟨z, e, ez⟩, hp⟩ := h
  have hk : 16 ≤ (slotB s + i).toNat := by rcases hs with rfl | rfl <;> simp [slotB] <;> omega
  refine ⟨t, ht, by rw [List.length_set]; exact hl, bnd_set hb hw, ⟨z, ?_, ez⟩, pgn_set hp (by omega) (by omega)⟩
  rw [← e]
  unfold newestO
  rw [page_same (cs := cs) (cs' := cs.set (slotB s + i).toNat w) (j := 4) fun k h1 h2 => List.getElem?_set_ne (by omega), page_same (cs := cs) (cs' := cs.set (slotB s + i).toNat w) (j := 4 + 6) fun k h1 h2 => List.getElem?_set_ne (by omega)]
/-- a machine whose book is one -/
structure MOk (j : Int) (ρ : Option (Int × Str)) (μ : Mem) : Prop where
  run : runOk ρ
  up : μ.up = true
  lf : ∀ n, μ.left = some n → 0 ≤ n
  left : MLeft j μ.cells
theorem runOk_none : runOk none := fun _ _ e => by cases e
theorem ranS_ok {j : Int} {ws : List Wr} {ρ : Option (Int × Str)} {D : PyData} {μ : Mem} (hr : runOk ρ) (up : μ.up = true) (lf : ∀ n, μ.left = some n → 0 ≤ n) (h : ∀ n, MLeft j (dueF μ.torn n ws μ.cells)) : MOk j (ranS ws ρ D μ).2.1 (ranS ws ρ D μ).2.2 := by
  obtain ⟨n, e, _⟩ := run_due' (ws := ws) lf
  have hl := h n
  rw [← e] at hl
  unfold ranS
  split
  · rename_i hw
    exact ⟨hr, by rw [run_upT hw]; exact up, run_lf lf hw, hl⟩
  · exact ⟨runOk_none, rfl, fun _ z => (by cases z), hl⟩
theorem start_run {ks : List Int} {cs : List (Option Int)} (h : bookOk cs) : runOk (startF ks cs).2.2 := by
  unfold bookOk at h
  have h2 := (other_slot h).1
  intro s w e
  unfold startF startB at e
  split at e
  · cases e; exact h2
  · split at e
    · cases e; exact h
    · split at e
      · cases e; exact h2
      · cases e
theorem yes_run {ρ : Option (Int × Str)} {cs : List (Option Int)} (h : runOk ρ) : runOk (yesF ρ cs).2.2 := by
  unfold yesF
  split
  · exact runOk_none
  · rename_i s w
    split
    · intro s' w' e; cases e; exact h s w rfl
    · intro s' w' e; cases e; exact h s w rfl
theorem MOk.more {j k : Int} {ρ : Option (Int × Str)} {μ : Mem} (h : MOk j ρ μ) (hk : j ≤ k) : MOk k ρ μ := ⟨h.run, h.up, h.lf, h.left.more hk⟩
theorem deed_ok {a : Ma} {j : Int} {ρ : Option (Int × Str)} {μ : Mem} {d : Deed} (h : MOk j ρ μ) (j0 : 0 ≤ j) (j1 : j ≤ 9000) (gd : gDeed d) (t1 : 1 ≤ a.t) (t3 : a.t ≤ 3) : MOk (j + 3) (deedS a d ρ μ).2.1 (deedS a d ρ μ).2.2 := by
  cases d with
  | start => exact ranS_ok (start_run h.left.book) h.up h.lf (start_left h.left j0 j1)
  | yes => exact ranS_ok (yes_run h.run) h.up h.lf (yes_left h.run h.left j0 j1)
  | double => exact ranS_ok h.run h.up h.lf (dblM_left h.left)
  | update mn ss => exact ranS_ok h.run h.up h.lf (updM_left h.left j0 j1 gd.1 gd.2 t1 t3)
  | cut n t => exact ⟨h.run, h.up, fun m e => (by cases e; exact gd.1), h.left.more (by omega)⟩
  | spoil s i w => exact ⟨h.run, h.up, h.lf, (spoil_left h.left gd.1 gd.2.1 gd.2.2.1 gd.2.2.2).more (by omega)⟩
theorem play_ok {a : Ma} (t1 : 1 ≤ a.t) (t3 : a.t ≤ 3) : ∀ {ds : List Deed} {j : Int} {ρ : Option (Int × Str)} {μ : Mem}, MOk j ρ μ → 0 ≤ j → j + 3 * ds.length ≤ 9000 → (∀ d ∈ ds, gDeed d) → MOk (j + 3 * ds.length) (playS a ds ρ μ).2.1 (playS a ds ρ μ).2.2
  | [], j, ρ, μ, h, j0, j1, g => by show MOk (j + 3 * ((0 : Nat) : Int)) ρ μ; exact h.more (by omega)
  | d :: ds, j, ρ, μ, h, j0, j1, g => by
    simp only [List.length_cons] at j1 ⊢
    have h1 := deed_ok (a := a) h j0 (by omega) (g d (List.mem_cons_self ..)) t1 t3
    have h2 := play_ok t1 t3 (ds := ds) h1 (by omega) (by omega) (fun x hx => g x (List.mem_cons_of_mem _ hx))
    have e : (playS a (d :: ds) ρ μ).2 = (playS a ds (deedS a d ρ μ).2.1 (deedS a d ρ μ).2.2).2 := rfl
    rw [e]
    exact h2.more (by omega)
section
variable (CM C : Addr) (K : PySem.W.Frag)
def spPlayed : Sp := fun vs H Q _ => ∃ (M : List Addr) (a : Ma) (ρ : Option (Int × Str)) (μ : Mem) (j : Int) (ds : List Deed) (v : V), vs = [.ref a.x, v] ∧ a.CM = CM ∧ a.C = C ∧ (∀ y ∈ M, ∃ o, H y = some o) ∧ MacAt K M H a ρ μ ∧ MOk j ρ μ ∧ 0 ≤ j ∧ j + 3 * ds.length ≤ 9000 ∧ Dt K M H (.list (ds.map deedD)) v ∧ ds.length ≤ 200 ∧ (∀ d ∈ ds, gDeed d) ∧
  ∀ H' p us, Fr [a.x, a.m, a.l] H H' → MacAt K M H' a (playS a ds ρ μ).2.1 (playS a ds ρ μ).2.2 → H p = none → H' p = some (.lst us) → DtL K (p :: M) H' (playS a ds ρ μ).1 us → Q (.ref p) H'
end
theorem poNever {X : Cx} (h : X.xe = fun _ _ => False) (hd : Option Value) : PySem.PassesOwnAt (model X.prog X.w) (X.A.mark hd) X.A X.env X.xe := by
  rw [h]; exact fun _ _ z => z.elim
/-- a list's method, its heap told of by K -/
theorem b_bm {X : Cx} {K : PySem.W.Frag} {o e : Expr} {es : List Expr} {to : TE} {t : TA} {name : Str} {apos cpos : Pos} {T id : String} {r : V → List V → Hp → VK → Prop} (pl : PlainAttrs T) (sl : Slot T name id) (ty : typeOf (Value.builtin id) = pure (Value.type "method_descriptor")) (hm : MtR X id r) (ho : PE X o to) (ha : PA X (e :: es) t)
    (hp : attributeBase o name X.env (eval o X.env) = eval o X.env := by rfl)
    (hfew : (((((backTo cpos (starEach (e :: es) X.env)).all fun x => !x.fst) && (backToKw cpos (keywordEach [] X.env)).all fun x => x.fst.isSome) && decide (((e :: es).length + ([] : List Expr).length + if ([] : List Expr).isEmpty = true then 0 else 1) < 30)) = true) := by rfl)
    (hline : (apos.endLine == cpos.line) = true := by rfl) (hs : starEach (e :: es) X.env = (false, eval e X.env) :: starEach es X.env := by rfl) (hst : ((backTo cpos (starEach es X.env)).any fun x => x.fst) = false := by rfl) (eK : X.K = K := by rfl) :
    PE X ((o.Attribute name apos).Call (e :: es) [] cpos) (tBM K T r to t) := by
  subst eK; exact pe_bm pl sl ty hm ho ha hp hfew hline hs hst
theorem mdX_mk {K : PySem.W.Frag} {M : List Addr} {H : Hp} {a : Ma} {ρ : Option (Int × Str)} {μ : Mem} {ws : List Wr} {D : PyData} {Q : VK} {S : Hp → Prop}
    (hq : ∀ H' v, Fr [a.x, a.m, a.l] H H' → MacAt K M H' a (ranS ws ρ D μ).2.1 (ranS ws ρ D μ).2.2 → Dt K M H' (ranS ws ρ D μ).1 v → Q v H')
    (hs : ∀ H' ρs μs, Fr [a.x, a.m, a.l] H H' → MacAt K M H' a ρs μs → ranS ws ρ D μ = (.tuple [.str "stopped"], none, { μs with up := true, left := none }) → S H') : mdX K M a μ ws ρ D H Q S := fun H' f => by
  unfold ranS at hq hs
  refine ⟨fun e hA u hu => ?_, fun e ⟨ρs, hA⟩ => ?_⟩
  · rw [if_pos e] at hq
    exact hq H' u f hA hu
  · rw [if_neg (by rw [e]; decide)] at hs
    exact hs H' ρs _ f hA rfl
theorem done_mk {K : PySem.W.Frag} {M : List Addr} {H : Hp} {a : Ma} {ρ : Option (Int × Str)} {μ : Mem} {d : Deed} {Q : VK} {S : Hp → Prop}
    (hq : ∀ H' v, Fr [a.x, a.m, a.l] H H' → MacAt K M H' a (deedS a d ρ μ).2.1 (deedS a d ρ μ).2.2 → Dt K M H' (deedS a d ρ μ).1 v → Q v H')
    (hs : ∀ H' ρs μs, Fr [a.x, a.m, a.l] H H' → MacAt K M H' a ρs μs → deedS a d ρ μ = (.tuple [.str "stopped"], none, { μs with up := true, left := none }) → S H') : doneP K M a ρ μ d H Q S := by
  cases d with
  | start => exact mdX_mk hq hs
  | yes => exact mdX_mk hq hs
  | double => exact mdX_mk hq hs
  | update mn ss => exact mdX_mk hq hs
  | cut n t => exact fun H' f hA => hq H' .non f hA Dt.non'
  | spoil s i w => exact fun H' f hA => hq H' .non f hA Dt.non'
theorem MacAt.cons {K : PySem.W.Frag} {M : List Addr} {H : Hp} {a : Ma} {ρ : Option (Int × Str)} {μ : Mem} {p : Addr} (h : MacAt K M H a ρ μ) (n : H p = none) : MacAt K (p :: M) H a ρ μ := by
  obtain ⟨⟨ru, h1, h2⟩, h3, h4, h5, h6, h7, h8, h9, h10, h11, h12⟩ := h
  exact ⟨⟨ru, h1, h2.cons n⟩, h3, h4.cons n, h5, h6, List.mem_cons_of_mem _ h7, List.mem_cons_of_mem _ h8, List.mem_cons_of_mem _ h9, h10, h11, h12⟩
theorem playS_snoc {a : Ma} {ds : List Deed} {i : Nat} {d : Deed} {ρ : Option (Int × Str)} {μ : Mem} (h : ds[i]? = some d) :
    playS a (ds.take (i + 1)) ρ μ = ((playS a (ds.take i) ρ μ).1 ++ [(deedS a d (playS a (ds.take i) ρ μ).2.1 (playS a (ds.take i) ρ μ).2.2).1], (deedS a d (playS a (ds.take i) ρ μ).2.1 (playS a (ds.take i) ρ μ).2.2).2) := by
  obtain ⟨hi, e⟩ := List.getElem?_eq_some_iff.mp h
  rw [List.take_succ_eq_append_getElem hi, e, playS_app]
  rfl
theorem MacAt.back {K : PySem.W.Frag} {M : List Addr} {H H0 : Hp} {a : Ma} {ρ ρ0 : Option (Int × Str)} {μ μ0 : Mem} {p : Addr} (h : MacAt K (p :: M) H a ρ μ) (h0 : MacAt K M H0 a ρ0 μ0) : MacAt K M H a ρ μ := by
  obtain ⟨⟨ru, h1, h2⟩, h3, h4, h5, h6, h7, h8, h9, h10, h11, h12⟩ := h
  have w : ∀ x, x ∈ M → x ∈ p :: M := fun x hx => List.mem_cons_of_mem _ hx
  exact ⟨⟨ru, h1, h2.wk w⟩, h3, h4.wk w, h5, h6, h0.mx, h0.mm, h0.ml, h10, h11, h12⟩
theorem MacAt.out {K : PySem.W.Frag} {M : List Addr} {H H' : Hp} {a : Ma} {ρ : Option (Int × Str)} {μ : Mem} {p : Addr} (h : MacAt K M H a ρ μ) (f : Fr [p] H H') (hp : p ∈ M) (hn : ∀ y ∈ [a.x, a.m, a.l], y ≠ p) : MacAt K M H' a ρ μ := by
  obtain ⟨⟨ru, h1, h2⟩, h3, h4, h5, h6, h7, h8, h9, h10, h11, h12⟩ := h
  have fM : Fr M H H' := f.wk fun y hy => by rw [List.mem_singleton.mp hy]; exact hp
  have hx : a.x ≠ p := hn _ (List.mem_cons_self ..)
  have hm : a.m ≠ p := hn _ (List.mem_cons_of_mem _ (List.mem_cons_self ..))
  have hl : a.l ≠ p := hn _ (List.mem_cons_of_mem _ (List.mem_cons_of_mem _ (List.mem_cons_self ..)))
  exact ⟨⟨ru, f _ _ (fun z => hx (List.mem_singleton.mp z)) h1, h2.mono fM⟩, h3.mono f (fun z => hm (List.mem_singleton.mp z)) (fun z => hl (List.mem_singleton.mp z)), h4.mono fM, h5, h6, h7, h8, h9, h10, h11, h12⟩
theorem x_appF {K : PySem.W.Frag} {M : List Addr} {H : Hp} {H0 : Bs} {L : List (Addr × HO)} {Ds : List (PyData × V)} {p : Addr} {xs : List V} {v : V} {Q : VK} (S : Sy K H0 M H L Ds) (i : Nat) (h : L[i]? = some (p, .lst xs)) (m : p ∈ M ∧ H0.may p) (hz : xs.length < 16777216) (q : ∀ H', Fr [p] H H' → Sy K H0 M H' (L.set i (p, .lst (xs ++ [v]))) Ds → Q .non H') : rAppend (.ref p) [v] H Q :=
  ⟨p, xs, v, rfl, rfl, S.get i h, szl hz, q _ (fun b o hb e => by rw [← e]; exact upd_ne (fun z => hb (List.mem_singleton.mpr z))) (S.set i h m)⟩
/-! ## led over -/
/-- the head of a slot in which a picture lies -/
def headP (ks : List Int) (p : Pic) : List (Option Int) := [some 1, some p.v, some (p.cells.length : Int), some (sumsF p.cells).1, some (sumsF p.cells).2, some p.n, some (sealF (keyOf ks p) (plainF p))]
/-- a slot holds a good picture, by its head and its sums -/
structure PicAt (ks : List Int) (s : Int) (p : Pic) (cs : List (Option Int)) : Prop where
  head : headL cs s = headP ks p
  good : whyF cs ks s = ""
structure PicIn (ks : List Int) (s : Int) (p : Pic) (cs : List (Option Int)) : Prop where
  m1 : 1 ≤ (p.cells.length : Int)
  m2 : (p.cells.length : Int) ≤ 12
  sums : (allI (partsL cs s p.cells.length)).map sumsF = some ((sumsF p.cells).1, (sumsF p.cells).2)
  f2 : floorO cs 2 ≤ p.n
  n : p.n < ks.length
  sl : sealF (ks.getD p.n.toNat 0) [p.v, p.cells.length, (sumsF p.cells).1, (sumsF p.cells).2, p.n] = sealF (keyOf ks p) (plainF p)
  f0 : floorO cs 0 ≤ p.v
theorem PicAt.inn {ks : List Int} {s : Int} {p : Pic} {cs : List (Option Int)} (h : PicAt ks s p cs) : PicIn ks s p cs := by
  obtain ⟨v, many, one, two, n, sl, e, h1, h2, h3, h4, h5, h6, h7⟩ := good_inv h.good
  rw [h.head] at e
  unfold headP at e
  simp only [List.cons.injEq, Option.some.injEq, and_true, true_and] at e
  obtain ⟨rfl, rfl, rfl, rfl, rfl, rfl⟩ := e
  exact ⟨h1, h2, h3, h4, h5, h6, h7⟩
theorem PicAt.move {ks : List Int} {s : Int} {p : Pic} {cs cs' : List (Option Int)} (h : PicAt ks s p cs) (hh : headL cs' s = headL cs s) (hp : partsL cs' s p.cells.length = partsL cs s p.cells.length) (f0 : floorO cs' 0 ≤ p.v) (f2 : floorO cs' 2 ≤ p.n) : PicAt ks s p cs' := by
  have i := h.inn
  have e : headL cs' s = headP ks p := by rw [hh]; exact h.head
  exact ⟨e, good_mk e i.m1 i.m2 (by rw [hp]; exact i.sums) f2 i.n i.sl f0⟩
theorem head_same {cs cs' : List (Option Int)} {s : Int} (h : ∀ k, 16 ≤ k → cs'[k]? = cs[k]?) (hs : s = 0 ∨ s = 1) : headL cs' s = headL cs s := by
  unfold headL
  have := slotB_b hs
  exact row_ext fun k h1 h2 => h k (by omega)
theorem parts_same {cs cs' : List (Option Int)} {s m : Int} (h : ∀ k, 16 ≤ k → cs'[k]? = cs[k]?) (hs : s = 0 ∨ s = 1) : partsL cs' s m = partsL cs s m := by
  unfold partsL
  have := slotB_b hs
  exact row_ext fun k h1 h2 => h k (by omega)
theorem PicAt.same {ks : List Int} {s : Int} {p : Pic} {cs cs' : List (Option Int)} (hs : s = 0 ∨ s = 1) (h : ∀ k, k < 4 ∨ 16 ≤ k → cs'[k]? = cs[k]?) (g : PicAt ks s p cs) : PicAt ks s p cs' :=
  ⟨by rw [head_same (fun k hk => h k (.inr hk)) hs]; exact g.head, by rw [why_same h hs]; exact g.good⟩
theorem PicAt.top {ks : List Int} {s : Int} {p : Pic} {cs : List (Option Int)} (h : PicAt ks s p cs) : topV cs s = p.v := by
  unfold topV; rw [h.head]; rfl
theorem PicAt.judged {ks : List Int} {s : Int} {p : Pic} {cs : List (Option Int)} (hs : s = 0 ∨ s = 1) (h : PicAt ks s p cs) : judgedD cs ks s = .tuple [.str "good", .int p.v] := judged_is hs h.good h.head
/-- a slot without its mark holds no good picture -/
theorem void_why {cs : List (Option Int)} {ks : List Int} {s : Int} (h : cs[(slotB s).toNat]? ≠ some (some 1)) : whyF cs ks s ≠ "" := fun z => by
  obtain ⟨v, many, one, two, n, sl, e, -⟩ := good_inv z
  have e0 := congrArg (fun l => l[0]?) e
  unfold headL at e0
  simp only [List.getElem?_take, List.getElem?_drop, Nat.add_zero] at e0
  exact h (by simpa using e0)
theorem noteW_out {cs : List (Option Int)} {r : Rec} {tn : Str} {n : Nat} : ∀ k, k < 4 ∨ 16 ≤ k → (dueF tn n (noteW cs 4 r) cs)[k]? = cs[k]? := fun k hk => dueF_out fun p hp => by
  have h1 := noteW_at _ _ _ p hp
  have h2 := pages_in cs 4
  omega
structure LSt (ks : List Int) (P N : Pic) (t j : Int) (cs : List (Option Int)) : Prop where
  left : Left t j cs
  top : PicAt ks t P cs ∨ PicAt ks t N cs
  oth : whyF cs ks (1 - t) = "" → PicAt ks (1 - t) P cs ∨ PicAt ks (1 - t) N cs
  tri : (bookedO cs).2.1 = 1 → PicAt ks t P cs ∧ PicAt ks (1 - t) N cs
def LS (ks : List Int) (P N : Pic) (j : Int) (cs : List (Option Int)) : Prop := ∃ t, (t = 0 ∨ t = 1) ∧ LSt ks P N t j cs
theorem Left.more {t j k : Int} {cs : List (Option Int)} (h : Left t j cs) (hk : j ≤ k) : Left t k cs := ⟨h.len, h.bnd, h.tells, pgn_mono h.pgn hk⟩
theorem LSt.more {ks : List Int} {P N : Pic} {t j k : Int} {cs : List (Option Int)} (h : LSt ks P N t j cs) (hk : j ≤ k) : LSt ks P N t k cs := ⟨h.left.more hk, h.top, h.oth, h.tri⟩
theorem LS.more {ks : List Int} {P N : Pic} {j k : Int} {cs : List (Option Int)} (h : LS ks P N j cs) (hk : j ≤ k) : LS ks P N k cs := by
  obtain ⟨t, ht, h⟩ := h; exact ⟨t, ht, h.more hk⟩
theorem booked_new {cs cs' : List (Option Int)} (h : newestO cs' 4 = newestO cs 4) : bookedO cs' = bookedO cs := by
  unfold bookedO recordO; rw [h]
theorem back_slot {t : Int} : 1 - (1 - t) = t := by omega
theorem note_LS {ks : List Int} {P N : Pic} {t t' j x y : Int} {cs : List (Option Int)} {tn : Str} (ht : t = 0 ∨ t = 1) (ht' : t' = 0 ∨ t' = 1) (h : LSt ks P N t j cs) (j0 : 0 ≤ j) (j1 : j ≤ 9100) (hr : okRec (t', x, y))
    (top' : PicAt ks t' P cs ∨ PicAt ks t' N cs) (tri' : x = 1 → PicAt ks t' P cs ∧ PicAt ks (1 - t') N cs) (n : Nat) : LS ks P N (j + 1) (dueF tn n (noteW cs 4 (t', x, y)) cs) := by
  obtain ⟨⟨hl, hb, ⟨z, e, ez⟩, hp⟩, top, oth, tri⟩ := h
  have h1 := next_nn hb 4
  have h2 := next_pgn hp j0
  have hl' : (dueF tn n (noteW cs 4 (t', x, y)) cs).length = 54 := by rw [dueF_len]; exact hl
  have hb' : bnd (dueF tn n (noteW cs 4 (t', x, y)) cs) := bnd_dueF hb (noteW_ok ⟨h1, by omega⟩ hr)
  have hp' : pgn (j + 1) (dueF tn n (noteW cs 4 (t', x, y)) cs) := pgn_due (pgn_mono hp (by omega)) (noteW_pgn hp j0) n
  have so := noteW_out (cs := cs) (r := (t', x, y)) (tn := tn) (n := n)
  have hso := (other_slot ht).1
  have hso' := (other_slot ht').1
  rcases note_due (cs := cs) (i := 4) (n := n) (r := (t', x, y)) (t := tn) (by omega) (by omega) with ⟨h3, _⟩ | h3
  · refine ⟨t, ht, ⟨hl', hb', ⟨z, h3.trans e, ez⟩, hp'⟩, top.imp (PicAt.same ht so) (PicAt.same ht so), fun hw => ?_, fun hx => ?_⟩
    · rw [why_same so hso] at hw
      exact (oth hw).imp (PicAt.same hso so) (PicAt.same hso so)
    · rw [booked_new h3] at hx
      exact ⟨(tri hx).1.same ht so, (tri hx).2.same hso so⟩
  · refine ⟨t', ht', ⟨hl', hb', ⟨_, h3, rfl⟩, hp'⟩, top'.imp (PicAt.same ht' so) (PicAt.same ht' so), fun hw => ?_, fun hx => ?_⟩
    · rw [why_same so hso'] at hw
      have : PicAt ks (1 - t') P cs ∨ PicAt ks (1 - t') N cs := by
        by_cases c : t' = t
        · subst c; exact oth hw
        · have : 1 - t' = t := by omega
          rw [this]; exact top
      exact this.imp (PicAt.same hso' so) (PicAt.same hso' so)
    · have : x = 1 := by
        unfold bookedO recordO at hx; rw [h3] at hx; exact hx
      exact ⟨(tri' this).1.same ht' so, (tri' this).2.same hso' so⟩
theorem LSt.booked {ks : List Int} {P N : Pic} {t j : Int} {cs : List (Option Int)} (h : LSt ks P N t j cs) : (bookedO cs).1 = t := tells_booked h.left.tells
theorem LSt.good {ks : List Int} {P N : Pic} {t j : Int} {cs : List (Option Int)} (h : LSt ks P N t j cs) : whyF cs ks t = "" := by
  rcases h.top with h | h <;> exact h.good
theorem start_is {ks : List Int} {P N : Pic} {t j : Int} {cs : List (Option Int)} (h : LSt ks P N t j cs) : startF ks cs =
    if (bookedO cs).2.1 = 1 then (if 0 < (bookedO cs).2.2 then (noteW cs 4 (t, 1, (bookedO cs).2.2 - 1), startedD (1 - t) N.v "trial", some (1 - t, ("trial" : Str))) else (noteW cs 4 (t, 0, 0), startedD t P.v "trusted", some (t, ("trusted" : Str))))
    else ([], startedD t (topV cs t) "trusted", some (t, ("trusted" : Str))) := by
  have hb := h.booked
  have hg := h.good
  have tri := h.tri
  unfold startF
  generalize bookedO cs = b at hb tri ⊢
  obtain ⟨b0, b1, b2⟩ := b
  dsimp only at hb tri ⊢
  subst hb
  by_cases h1 : b1 = 1
  · obtain ⟨tP, tN⟩ := tri h1
    rw [if_pos h1]
    by_cases h2 : 0 < b2
    · rw [if_pos h2, startB_trial ⟨h1, h2, tN.good⟩, tN.top, List.append_nil]
    · rw [if_neg h2, startB_rest (fun z => h2 z.2.1)]
      unfold restW restD restR stN1 stN2
      dsimp only
      rw [if_neg (fun z => h2 z.2), if_pos h1, if_pos hg, if_pos hg, if_pos hg, tP.top]
      simp [applyW]
  · rw [if_neg h1, startB_rest (fun z => h1 z.1)]
    unfold restW restD restR stN1 stN2
    dsimp only
    rw [if_neg (fun z => h1 z.1), if_neg h1, if_pos hg, if_pos hg, if_pos hg]
    simp
theorem start_LS {ks : List Int} {P N : Pic} {t j : Int} {cs : List (Option Int)} {tn : Str} (ht : t = 0 ∨ t = 1) (h : LSt ks P N t j cs) (j0 : 0 ≤ j) (j1 : j ≤ 9000) (n : Nat) : LS ks P N (j + 1) (dueF tn n (startF ks cs).1 cs) := by
  have hb := booked_ok h.left.bnd
  rw [start_is h]
  split
  · rename_i h1
    split
    · rename_i h2
      refine note_LS ht ht h j0 (by omega) ⟨by dsimp only; omega, by dsimp only; omega, ?_⟩ h.top (fun _ => h.tri h1) n
      have := hb.2.2; dsimp only; omega
    · exact note_LS ht ht h j0 (by omega) ⟨by dsimp only; omega, by dsimp only; omega, by dsimp only; omega⟩ h.top (fun z => by omega) n
  · exact due_nil (LS.more ⟨t, ht, h⟩ (by omega)) n
/-- what the other slot and the book come to tell -/
def Oth (ks : List Int) (o : Int) (X N : Pic) (cs : List (Option Int)) : Prop := (whyF cs ks o = "" → PicAt ks o X cs ∨ PicAt ks o N cs) ∧ ((bookedO cs).2.1 = 1 → PicAt ks o N cs)
theorem oth_note {ks : List Int} {o : Int} {X N : Pic} {cs : List (Option Int)} {r : Rec} {tn : Str} (ho : o = 0 ∨ o = 1) (hl : cs.length = 54) (hb : bnd cs) (h : Oth ks o X N cs) (hx : r.2.1 = 1 → PicAt ks o N cs) (n : Nat) : Oth ks o X N (dueF tn n (noteW cs 4 r) cs) := by
  have so := noteW_out (cs := cs) (r := r) (tn := tn) (n := n)
  have h1 := next_nn hb 4
  refine ⟨fun hw => ?_, fun hz => ?_⟩
  · rw [why_same so ho] at hw
    exact (h.1 hw).imp (PicAt.same ho so) (PicAt.same ho so)
  · rcases note_due (cs := cs) (i := 4) (n := n) (r := r) (t := tn) (by omega) (by omega) with ⟨h3, _⟩ | h3
    · rw [booked_new h3] at hz
      exact (h.2 hz).same ho so
    · unfold bookedO recordO at hz; rw [h3] at hz
      exact (hx hz).same ho so
theorem booked_due {cs : List (Option Int)} {tn : Str} {n : Nat} {ws : List Wr} (h : ∀ p ∈ ws, p.1 < 4 ∨ 16 ≤ p.1) : bookedO (dueF tn n ws cs) = bookedO cs := by
  refine booked_new ?_
  unfold newestO
  rw [page_same (cs := cs) (cs' := dueF tn n ws cs) (j := 4) fun k h1 h2 => dueF_out fun p hp => by have := h p hp; omega, page_same (cs := cs) (cs' := dueF tn n ws cs) (j := 4 + 6) fun k h1 h2 => dueF_out fun p hp => by have := h p hp; omega]
theorem oth_void {ks : List Int} {o : Int} {X N : Pic} {cs : List (Option Int)} (hm : cs[(slotB o).toNat]? ≠ some (some 1)) (hst : (bookedO cs).2.1 ≠ 1) : Oth ks o X N cs := ⟨fun z => absurd z (void_why hm), fun z => absurd z hst⟩
/-- one write, with a cut: as ahead, broken, or written -/
theorem due_one {cs : List (Option Int)} {tn : Str} {n : Nat} {p : Wr} : dueF tn n [p] cs = cs ∨ dueF tn n [p] cs = cs.set p.1 none ∨ dueF tn n [p] cs = cs.set p.1 (some p.2) := by
  unfold dueF
  split
  · rename_i h
    have : n = 0 := by simpa using h
    subst this
    unfold tornW
    split
    · exact .inr (.inl rfl)
    · split
      · exact .inr (.inr rfl)
      · exact .inl rfl
  · exact .inr (.inr rfl)
theorem oth_open {ks : List Int} {o : Int} {X N : Pic} {cs : List (Option Int)} {tn : Str} (ho : o = 0 ∨ o = 1) (hl : cs.length = 54) (h : Oth ks o X N cs) (hst : (bookedO cs).2.1 ≠ 1) (n : Nat) : Oth ks o X N (dueF tn n (openW o cs) cs) := by
  have hs := slotB_b ho
  have hb : (bookedO (dueF tn n (openW o cs) cs)).2.1 ≠ 1 := by rw [booked_due fun p hp => .inr (openW_16 ho p hp)]; exact hst
  unfold openW at hb ⊢
  split at hb
  · rename_i hm
    rw [if_pos hm]
    rcases due_one (cs := cs) (tn := tn) (n := n) (p := ((slotB o).toNat, 0)) with e | e | e
    · rw [e]; exact h
    · rw [e] at hb ⊢
      exact oth_void (by rw [List.getElem?_set_self (by omega)]; exact fun z => nomatch z) hb
    · rw [e] at hb ⊢
      exact oth_void (by rw [List.getElem?_set_self (by omega)]; simp) hb
  · rename_i hm
    rw [if_neg hm]
    exact due_nil h n
theorem open_mark {o : Int} {cs : List (Option Int)} (ho : o = 0 ∨ o = 1) (hl : cs.length = 54) : (applyW (openW o cs) cs)[(slotB o).toNat]? = some (some 0) := by
  have hs := slotB_b ho
  unfold openW
  split
  · show (cs.set (slotB o).toNat (some 0))[_]? = _
    rw [List.getElem?_set_self (by omega)]
  · rename_i hm
    have := Decidable.of_not_not hm
    show cs[_]? = _
    rw [List.getD_eq_getElem?_getD] at this
    cases e : cs[(slotB o).toNat]? with
    | none => rw [List.getElem?_eq_none_iff] at e; omega
    | some y => rw [e] at this; rw [show y = some 0 from this]
theorem upd_oth {ks : List Int} {tries j t : Int} {N X : Pic} {ss : List (List Row)} {cs : List (Option Int)} {tn : Str} (ht : t = 0 ∨ t = 1) (h : Left t j cs) (j0 : 0 ≤ j) (j1 : j ≤ 9000) (gm : gman (manOf ks N)) (gs : gStores ss) (t1 : 1 ≤ tries) (t3 : tries ≤ 3) (hr : refB t cs ks (manOf ks N) = "") (ho : Oth ks (1 - t) X N cs) (n : Nat) :
    Oth ks (1 - t) X N (dueF tn n (updW ks tries (manOf ks N) ss cs) cs) := by
  have hL := h
  obtain ⟨hl, hbd, hte, hpg⟩ := h
  have hbt := tells_booked hte
  have hso := (other_slot ht).1
  have hsb := slotB_b hso
  obtain ⟨a1, a2, a3, a4, a5, a6⟩ := upd_mid (b := bookedO cs) (ks := ks) hl hbd rfl (by rw [hbt]; exact ht) hpg j0 j1 (by rw [hbt]; exact refB_good hr)
  obtain ⟨e1, e2, e3⟩ := upd_end (b := bookedO cs) (ks := ks) (mn := manOf ks N) (ss := ss) hl hbd rfl (by rw [hbt]; exact ht) hpg j0 j1 (by rw [hbt]; exact refB_good hr) gm gs
  have hnb := updN_booked (b := bookedO cs) hl hbd rfl
  have hfin := upd_fin (ks := ks) (tries := tries) (ss := ss) ht hL j0 j1 gm gs t1 t3 hr
  have hW : updW ks tries (manOf ks N) ss cs = updN (bookedO cs) cs ++ (openW (1 - t) (applyW (updN (bookedO cs) cs) cs) ++ ((updR (bookedO cs) (manOf ks N) ss cs).1 ++ (if (updR (bookedO cs) (manOf ks N) ss cs).2.2 = true then [] else updE (bookedO cs) tries (manOf ks N) (applyW (updR (bookedO cs) (manOf ks N) ss cs).1 (updC (bookedO cs) cs))))) := by
    unfold updW updWb
    rw [hbt, if_neg (fun z => z hr)]
  have hC : applyW (openW (1 - t) (applyW (updN (bookedO cs) cs) cs)) (applyW (updN (bookedO cs) cs) cs) = updC (bookedO cs) cs := by unfold updC; rw [hbt]
  have p1 : ∀ n, Oth ks (1 - t) X N (dueF tn n (updN (bookedO cs) cs) cs) := fun n => by
    unfold updN
    split
    · exact oth_note hso hl hbd ho (fun z => by dsimp only at z; omega) n
    · exact due_nil ho n
  have hst0 : (bookedO (applyW (updN (bookedO cs) cs) cs)).2.1 ≠ 1 := by
    rw [hnb]; split
    · dsimp only; omega
    · assumption
  have l0 : (applyW (updN (bookedO cs) cs) cs).length = 54 := by rw [applyW_len, hl]
  have p2 := oth_open (tn := tn) hso l0 (due_last p1) hst0
  have m2 := open_mark hso l0
  rw [hC] at m2
  have st2 : (bookedO (updC (bookedO cs) cs)).2.1 ≠ 1 := by
    rw [← hC, booked_out fun p hp => .inr (openW_16 hso p hp)]; exact hst0
  have hfit := gm.fits hso
  have r16 : ∀ p ∈ (updR (bookedO cs) (manOf ks N) ss cs).1, (slotB (1 - t)).toNat + 7 ≤ p.1 := fun p hp => by
    unfold updR at hp; rw [hbt] at hp
    have := (layF_at gs (known_b hbd t) hfit p hp).1
    omega
  have p3 : ∀ n, Oth ks (1 - t) X N (dueF tn n (updR (bookedO cs) (manOf ks N) ss cs).1 (updC (bookedO cs) cs)) := fun n => by
    refine oth_void ?_ ?_
    · rw [dueF_out fun p hp => by have := r16 p hp; omega, m2]; simp
    · rw [booked_due fun p hp => by have := r16 p hp; omega]; exact st2
  have m3 : (applyW (updR (bookedO cs) (manOf ks N) ss cs).1 (updC (bookedO cs) cs))[(slotB (1 - t)).toNat]? = some (some 0) := by
    rw [applyW_out fun p hp => by have := r16 p hp; omega, m2]
  have st3 : (bookedO (applyW (updR (bookedO cs) (manOf ks N) ss cs).1 (updC (bookedO cs) cs))).2.1 ≠ 1 := by
    rw [booked_out fun p hp => by have := r16 p hp; omega]; exact st2
  rw [hW]
  rw [hW] at hfin
  refine due_all p1 (fun n => due_all p2 (fun n => ?_) n) n
  rw [hC]
  refine due_all p3 (fun n => ?_) n
  split
  · exact due_nil (due_last p3) n
  · rename_i hn
    have hn : (updR (bookedO cs) (manOf ks N) ss cs).2.2 = false := Bool.eq_false_iff.mpr hn
    obtain ⟨-, -, -, f4, f5⟩ := hfin hn
    rw [hn, if_neg Bool.false_ne_true, applyW_app, applyW_app, applyW_app, hC] at f4 f5
    generalize applyW (updR (bookedO cs) (manOf ks N) ss cs).1 (updC (bookedO cs) cs) = c3 at *
    unfold updE thenW at f4 f5 ⊢
    rw [hbt] at f4 f5 e2 ⊢
    rw [applyW_app] at f4 f5
    have hc5 : applyW (closeW (1 - t) (manOf ks N).h c3) c3 = (applyW (putW c3 ((slotB (1 - t)).toNat + 1) (manOf ks N).h) c3).set (slotB (1 - t)).toNat (some 1) := by
      show applyW (putW c3 ((slotB (1 - t)).toNat + 1) (manOf ks N).h ++ [((slotB (1 - t)).toNat, 1)]) c3 = _
      rw [applyW_app]; rfl
    have g5 : PicAt ks (1 - t) N (applyW (closeW (1 - t) (manOf ks N).h c3) c3) := by
      have so : ∀ k, k < 4 ∨ 16 ≤ k → (applyW (noteW (applyW (closeW (1 - t) (manOf ks N).h c3) c3) 4 (t, 1, tries)) (applyW (closeW (1 - t) (manOf ks N).h c3) c3))[k]? = (applyW (closeW (1 - t) (manOf ks N).h c3) c3)[k]? := note_same
      exact PicAt.same hso (fun k hk => (so k hk).symm) ⟨f4, f5⟩
    have st5 : (bookedO (applyW (closeW (1 - t) (manOf ks N).h c3) c3)).2.1 ≠ 1 := by
      rw [booked_out fun p hp => by have := closeW_at (by rfl) p hp; omega]; exact st3
    have o5 : Oth ks (1 - t) X N (applyW (closeW (1 - t) (manOf ks N).h c3) c3) := ⟨fun _ => .inr g5, fun z => absurd z st5⟩
    refine due_all (fun n => ?_) (fun n => ?_) n
    · show Oth ks (1 - t) X N (dueF tn n (putW c3 ((slotB (1 - t)).toNat + 1) (manOf ks N).h ++ [((slotB (1 - t)).toNat, 1)]) c3)
      have put16 : ∀ p ∈ putW c3 ((slotB (1 - t)).toNat + 1) (manOf ks N).h, (slotB (1 - t)).toNat + 1 ≤ p.1 := fun p hp => (putU_mem hp).1
      have p4 : ∀ n, Oth ks (1 - t) X N (dueF tn n (putW c3 ((slotB (1 - t)).toNat + 1) (manOf ks N).h) c3) := fun n => by
        refine oth_void ?_ ?_
        · rw [dueF_out fun p hp => by have := put16 p hp; omega, m3]; simp
        · rw [booked_due fun p hp => by have := put16 p hp; omega]; exact st3
      refine due_all p4 (fun n => ?_) n
      have b4 : (bookedO (dueF tn n [((slotB (1 - t)).toNat, 1)] (applyW (putW c3 ((slotB (1 - t)).toNat + 1) (manOf ks N).h) c3))).2.1 ≠ 1 := by
        rw [booked_due fun p hp => by rw [List.mem_singleton.mp hp]; right; dsimp only; omega, booked_out fun p hp => by have := put16 p hp; omega]; exact st3
      rcases due_one (cs := applyW (putW c3 ((slotB (1 - t)).toNat + 1) (manOf ks N).h) c3) (tn := tn) (n := n) (p := ((slotB (1 - t)).toNat, 1)) with e | e | e
      · rw [e]; exact due_last p4
      · rw [e] at b4 ⊢
        exact oth_void (by rw [List.getElem?_set_self (by rw [applyW_len]; omega)]; exact fun z => nomatch z) b4
      · rw [e, ← hc5]; exact o5
    · exact oth_note hso (by rw [applyW_len]; omega) e2 o5 (fun _ => g5) n
theorem floor_cut {cs : List (Option Int)} {i : Nat} {n : Int} {tn : Str} {k : Nat} (hl : i + 2 ≤ cs.length) (h0 : 0 ≤ n) (h : floorO cs i ≤ n) : floorO (dueF tn k (raiseW cs i n) cs) i ≤ n := by
  have hw := floor_raise hl h0 h
  unfold raiseW at hw ⊢
  split at hw
  · rename_i hn
    rw [if_pos hn]
    rcases due_one (cs := cs) (tn := tn) (n := k) (p := (i + posF (cs.getD i none) (cs.getD (i + 1) none), n)) with e | e | e
    · rw [e]; exact h
    · rw [e]
      dsimp only
      clear e hw
      unfold floorO at h ⊢
      generalize ha : cs.getD i none = a at *
      generalize hb : cs.getD (i + 1) none = b at *
      have hp : posF a b = 0 ∨ posF a b = 1 := by unfold posF; split <;> omega
      rcases hp with hp | hp
      · rw [hp, Nat.add_zero, getD_setS (by omega), getD_setN (by omega), hb]
        cases b with
        | none => simp [countF]; exact h0
        | some y =>
          cases a with
          | none => simpa [countF] using h
          | some x => simp [countF] at h ⊢; omega
      · rw [hp, getD_setN (by omega), getD_setS (by omega), ha]
        cases a with
        | none => simp [countF]; exact h0
        | some x =>
          cases b with
          | none => simpa [countF] using h
          | some y => simp [countF] at h ⊢; omega
    · rw [e]; exact hw
  · rename_i hn
    rw [if_neg hn]
    exact due_nil (P := fun c => floorO c i ≤ n) h k
theorem floor_is {cs : List (Option Int)} {i : Nat} {n : Int} (hl : i + 2 ≤ cs.length) (h0 : 0 ≤ n) (h : floorO cs i ≤ n) : floorO (applyW (raiseW cs i n) cs) i = n := by
  have hw := floor_raise hl h0 h
  refine Int.le_antisymm hw ?_
  unfold raiseW
  split
  · rename_i hn
    show n ≤ floorO (cs.set (i + posF (cs.getD i none) (cs.getD (i + 1) none)) (some n)) i
    unfold floorO
    generalize ha : cs.getD i none = a at *
    generalize hb : cs.getD (i + 1) none = b at *
    have hp : posF a b = 0 ∨ posF a b = 1 := by unfold posF; split <;> omega
    rcases hp with hp | hp
    · rw [hp, Nat.add_zero, getD_setS (by omega), getD_setN (by omega), hb]
      cases b with
      | none => simp [countF]
      | some y => simp [countF]; omega
    · rw [hp, getD_setN (by omega), getD_setS (by omega), ha]
      cases a with
      | none => simp [countF]
      | some x => simp [countF]; omega
  · rename_i hn
    show n ≤ floorO cs i
    unfold needF at hn
    unfold floorO
    cases e : countF (cs.getD i none) (cs.getD (i + 1) none) with
    | none => rw [e] at hn; exact absurd rfl hn
    | some y => rw [e] at hn; simp only [decide_eq_true_eq] at hn; rw [Option.getD_some]; omega
theorem dblL_oth {ks : List Int} {t : Int} {cs : List (Option Int)} {X A B : Pic} {tn : Str} (hl : cs.length = 54) (ht : t = 0 ∨ t = 1) (hX : PicAt ks t X cs) (hst : (bookedO cs).2.1 ≠ 1) (ho : Oth ks (1 - t) A B cs) (hAB : X = A ∨ X = B) :
    (∀ n, Oth ks (1 - t) A B (dueF tn n (doubleL ks t cs) cs)) ∧ PicAt ks (1 - t) X (applyW (doubleL ks t cs) cs) ∧ ∀ p ∈ doubleL ks t cs, (slotB (1 - t)).toNat ≤ p.1 ∧ p.1 < (slotB (1 - t)).toNat + 19 := by
  have hsa := other_slot ht
  have hb1 := slotB_b ht
  have hb2 := slotB_b hsa.1
  obtain ⟨v, many, one, two, n, sl, nsp, hh, m1, m2, hpt, hpl, hsum, hf2, hn, hseal, hf0⟩ := good_parts hl ht hX.good
  have hcp : copyW cs t = nsp := by
    unfold copyW
    rw [hh]
    show wholeF (partsL cs t many) = nsp
    rw [hpt, whole_map]
  have hhd : wholeF ((headL cs t).drop 1) = [v, many, one, two, n, sl] := by rw [hh]; rfl
  have hD := doubleL_at (ks := ks) hcp (by omega) (by rw [hhd]; rfl)
  have hf01 : floorO (applyW (doubleL ks t cs) cs) 0 = floorO cs 0 := floor_out fun p hp => by have := hD p hp; omega
  have hf21 : floorO (applyW (doubleL ks t cs) cs) 2 = floorO cs 2 := floor_out fun p hp => by have := hD p hp; omega
  have hst1 : (bookedO (applyW (doubleL ks t cs) cs)).2.1 ≠ 1 := by rw [booked_out fun p hp => by have := hD p hp; omega]; exact hst
  have fin : ∀ c, PicAt ks (1 - t) X c → PicAt ks (1 - t) A c ∨ PicAt ks (1 - t) B c := fun c h => by
    rcases hAB with rfl | rfl
    · exact .inl h
    · exact .inr h
  by_cases hneed : needsL cs ks t = true
  · have e : doubleL ks t cs = thenW (openW (1 - t)) (thenW (fun c => putW c ((slotB (1 - t)).toNat + 7) nsp) (closeW (1 - t) [v, many, one, two, n, sl])) cs := by
      unfold doubleL; rw [if_pos hneed, hcp, hhd]
    have hlt := laid_there (v := v) (one := one) (two := two) (n := n) (sl := sl) (cs := cs) hl ht m1 m2 hpl e
    have g5 : PicAt ks (1 - t) X (applyW (doubleL ks t cs) cs) :=
      ⟨by rw [hlt.1, ← hh]; exact hX.head, good_mk hlt.1 m1 m2 (by rw [hlt.2, allI_some, Option.map_some, hsum]) (by rw [hf21]; exact hf2) hn hseal (by rw [hf01]; exact hf0)⟩
    refine ⟨?_, g5, hD⟩
    rw [e] at g5 hst1 ⊢
    unfold thenW at g5 hst1 ⊢
    have p2 := oth_open (tn := tn) hsa.1 hl ho hst
    have m2' := open_mark hsa.1 hl
    have st2 : (bookedO (applyW (openW (1 - t) cs) cs)).2.1 ≠ 1 := by rw [booked_out fun p hp => .inr (openW_16 hsa.1 p hp)]; exact hst
    have l2 : (applyW (openW (1 - t) cs) cs).length = 54 := by rw [applyW_len, hl]
    rw [applyW_app] at g5 hst1
    refine due_all p2 (fun k => ?_)
    generalize applyW (openW (1 - t) cs) cs = c2 at *
    have r16 : ∀ p ∈ putW c2 ((slotB (1 - t)).toNat + 7) nsp, (slotB (1 - t)).toNat + 7 ≤ p.1 := fun p hp => (putU_mem hp).1
    rw [applyW_app] at g5 hst1
    have p3 : ∀ n, Oth ks (1 - t) A B (dueF tn n (putW c2 ((slotB (1 - t)).toNat + 7) nsp) c2) := fun n => by
      refine oth_void ?_ ?_
      · rw [dueF_out fun p hp => by have := r16 p hp; omega, m2']; simp
      · rw [booked_due fun p hp => by have := r16 p hp; omega]; exact st2
    have m3 : (applyW (putW c2 ((slotB (1 - t)).toNat + 7) nsp) c2)[(slotB (1 - t)).toNat]? = some (some 0) := by
      rw [applyW_out fun p hp => by have := r16 p hp; omega, m2']
    have st3 : (bookedO (applyW (putW c2 ((slotB (1 - t)).toNat + 7) nsp) c2)).2.1 ≠ 1 := by
      rw [booked_out fun p hp => by have := r16 p hp; omega]; exact st2
    have l3 : (applyW (putW c2 ((slotB (1 - t)).toNat + 7) nsp) c2).length = 54 := by rw [applyW_len, l2]
    refine due_all p3 (fun k => ?_) k
    generalize applyW (putW c2 ((slotB (1 - t)).toNat + 7) nsp) c2 = c3 at *
    have hc5 : applyW (closeW (1 - t) [v, many, one, two, n, sl] c3) c3 = (applyW (putW c3 ((slotB (1 - t)).toNat + 1) [v, many, one, two, n, sl]) c3).set (slotB (1 - t)).toNat (some 1) := by
      show applyW (putW c3 ((slotB (1 - t)).toNat + 1) [v, many, one, two, n, sl] ++ [((slotB (1 - t)).toNat, 1)]) c3 = _
      rw [applyW_app]; rfl
    show Oth ks (1 - t) A B (dueF tn k (putW c3 ((slotB (1 - t)).toNat + 1) [v, many, one, two, n, sl] ++ [((slotB (1 - t)).toNat, 1)]) c3)
    have put16 : ∀ p ∈ putW c3 ((slotB (1 - t)).toNat + 1) [v, many, one, two, n, sl], (slotB (1 - t)).toNat + 1 ≤ p.1 := fun p hp => (putU_mem hp).1
    have p4 : ∀ k, Oth ks (1 - t) A B (dueF tn k (putW c3 ((slotB (1 - t)).toNat + 1) [v, many, one, two, n, sl]) c3) := fun k => by
      refine oth_void ?_ ?_
      · rw [dueF_out fun p hp => by have := put16 p hp; omega, m3]; simp
      · rw [booked_due fun p hp => by have := put16 p hp; omega]; exact st3
    refine due_all p4 (fun k => ?_) k
    have b4 : (bookedO (dueF tn k [((slotB (1 - t)).toNat, 1)] (applyW (putW c3 ((slotB (1 - t)).toNat + 1) [v, many, one, two, n, sl]) c3))).2.1 ≠ 1 := by
      rw [booked_due fun p hp => by rw [List.mem_singleton.mp hp]; right; dsimp only; omega, booked_out fun p hp => by have := put16 p hp; omega]; exact st3
    rcases due_one (cs := applyW (putW c3 ((slotB (1 - t)).toNat + 1) [v, many, one, two, n, sl]) c3) (tn := tn) (n := k) (p := ((slotB (1 - t)).toNat, 1)) with e | e | e
    · rw [e]; exact due_last p4
    · rw [e] at b4 ⊢
      exact oth_void (by rw [List.getElem?_set_self (by rw [applyW_len]; omega)]; exact fun z => nomatch z) b4
    · rw [e, ← hc5]; exact ⟨fun _ => fin _ g5, fun z => absurd z hst1⟩
  · have e : doubleL ks t cs = [] := by unfold doubleL; rw [if_neg hneed]
    refine ⟨?_, ?_, hD⟩
    · rw [e]; exact due_nil ho
    · rw [e]
      show PicAt ks (1 - t) X cs
      unfold needsL at hneed
      simp only [Bool.or_eq_true, decide_eq_true_eq, Bool.not_eq_true', not_or, ne_eq, Decidable.not_not, Bool.not_eq_false] at hneed
      obtain ⟨h1, h2⟩ := hneed
      obtain ⟨v', e', hj⟩ := judged_good ht hX.good
      rw [hj] at h2
      refine ⟨by rw [h1]; exact hX.head, ?_⟩
      by_cases z : whyF cs ks (1 - t) = ""
      · exact z
      · exact absurd (judged_bad z) (eqv_good h2)
/-- the doubling's writes -/
theorem dbl_is {ks : List Int} {t st lf : Int} {cs : List (Option Int)} {X : Pic} (hX : PicAt ks t X cs) (hb : bookedO cs = (t, st, lf)) (hst : st ≠ 1) :
    doubleW ks cs = doubleL ks t cs ++ (raiseW (applyW (doubleL ks t cs) cs) 0 X.v ++ raiseW (applyW (raiseW (applyW (doubleL ks t cs) cs) 0 X.v) (applyW (doubleL ks t cs) cs)) 2 X.n) ∧
    doubleD ks cs = .tuple [.str "doubled", .int (laidN ks t cs)] := by
  have ok : doubleOk (t, st, lf) cs ks = true := by
    unfold doubleOk
    simp only [Bool.and_eq_true, decide_eq_true_eq]
    exact ⟨hst, hX.good⟩
  unfold doubleW doubleD
  rw [hb]
  unfold doubleWb doubleDb
  rw [if_pos ok, if_pos ok, hX.head]
  exact ⟨rfl, rfl⟩
theorem dbl_oth {ks : List Int} {t j : Int} {cs : List (Option Int)} {X A B : Pic} {tn : Str} (ht : t = 0 ∨ t = 1) (h : Left t j cs) (hX : PicAt ks t X cs) (hst : (bookedO cs).2.1 ≠ 1) (ho : Oth ks (1 - t) A B cs) (hAB : X = A ∨ X = B) :
    (∀ n, PicAt ks t X (dueF tn n (doubleW ks cs) cs) ∧ Oth ks (1 - t) A B (dueF tn n (doubleW ks cs) cs)) ∧
    PicAt ks t X (applyW (doubleW ks cs) cs) ∧ PicAt ks (1 - t) X (applyW (doubleW ks cs) cs) ∧ floorO (applyW (doubleW ks cs) cs) 0 = X.v ∧ floorO (applyW (doubleW ks cs) cs) 2 = X.n ∧ bookedO (applyW (doubleW ks cs) cs) = bookedO cs := by
  obtain ⟨hl, hbd, hte, hpg⟩ := h
  have hsa := other_slot ht
  have hb1 := slotB_b ht
  have hb2 := slotB_b hsa.1
  have hbk : bookedO cs = (t, (bookedO cs).2.1, (bookedO cs).2.2) := by rw [← tells_booked hte]
  obtain ⟨hW, -⟩ := dbl_is hX hbk hst
  obtain ⟨q1, q2, q3⟩ := dblL_oth (tn := tn) hl ht hX hst ho hAB
  have i0 := hX.inn
  have hv := headL_b hbd (s := t) (n := X.v) (by rw [hX.head]; simp [headP])
  have hnn := headL_b hbd (s := t) (n := X.n) (by rw [hX.head]; simp [headP])
  have hl1 : (applyW (doubleL ks t cs) cs).length = 54 := by rw [applyW_len, hl]
  have t1 : ∀ n, PicAt ks t X (dueF tn n (doubleL ks t cs) cs) := fun n => by
    refine hX.move ?_ ?_ ?_ ?_
    · unfold headL; exact row_ext fun k h1 h2 => dueF_out fun p hp => by have := q3 p hp; omega
    · unfold partsL; exact row_ext fun k h1 h2 => dueF_out fun p hp => by have := q3 p hp; have := i0.m2; omega
    · unfold floorO
      rw [List.getD_eq_getElem?_getD, List.getD_eq_getElem?_getD, dueF_out fun p hp => by have := q3 p hp; omega, dueF_out fun p hp => by have := q3 p hp; omega, ← List.getD_eq_getElem?_getD, ← List.getD_eq_getElem?_getD]
      exact i0.f0
    · unfold floorO
      rw [List.getD_eq_getElem?_getD, List.getD_eq_getElem?_getD, dueF_out fun p hp => by have := q3 p hp; omega, dueF_out fun p hp => by have := q3 p hp; omega, ← List.getD_eq_getElem?_getD, ← List.getD_eq_getElem?_getD]
      exact i0.f2
  have bk1 : bookedO (applyW (doubleL ks t cs) cs) = bookedO cs := booked_out fun p hp => by have := q3 p hp; omega
  have tc1 : PicAt ks t X (applyW (doubleL ks t cs) cs) := due_last t1
  rw [hW]
  generalize hc1 : applyW (doubleL ks t cs) cs = c1 at *
  have r1 := raiseW_at (cs := c1) (i := 0) (n := X.v)
  have r2 := raiseW_at (cs := applyW (raiseW c1 0 X.v) c1) (i := 2) (n := X.n)
  have it := tc1.inn
  have mv : ∀ {c c' : List (Option Int)} {s : Int}, (s = 0 ∨ s = 1) → PicAt ks s X c → (∀ k, 16 ≤ k → c'[k]? = c[k]?) → floorO c' 0 ≤ X.v → floorO c' 2 ≤ X.n → PicAt ks s X c' := fun hs g so f0 f2 =>
    g.move (head_same so hs) (parts_same so hs) f0 f2
  have floorS : ∀ {c c' : List (Option Int)} {i : Nat}, c'[i]? = c[i]? → c'[i + 1]? = c[i + 1]? → floorO c' i = floorO c i := fun {c c' i} e1 e2 => by
    unfold floorO
    rw [List.getD_eq_getElem?_getD, List.getD_eq_getElem?_getD, e1, e2, ← List.getD_eq_getElem?_getD, ← List.getD_eq_getElem?_getD]
  have a1 : ∀ n, PicAt ks t X (dueF tn n (raiseW c1 0 X.v) c1) ∧ PicAt ks (1 - t) X (dueF tn n (raiseW c1 0 X.v) c1) := fun n => by
    have so : ∀ k, 2 ≤ k → (dueF tn n (raiseW c1 0 X.v) c1)[k]? = c1[k]? := fun k hk => dueF_out fun p hp => by have := r1 p hp; omega
    have f0 := floor_cut (tn := tn) (k := n) (cs := c1) (i := 0) (by omega) hv.1 it.f0
    have f2 : floorO (dueF tn n (raiseW c1 0 X.v) c1) 2 ≤ X.n := by rw [floorS (so 2 (by omega)) (so 3 (by omega))]; exact it.f2
    exact ⟨mv ht tc1 (fun k hk => so k (by omega)) f0 f2, mv hsa.1 q2 (fun k hk => so k (by omega)) f0 f2⟩
  have a2 := due_last (P := fun c => PicAt ks t X c ∧ PicAt ks (1 - t) X c) a1
  have l2 : (applyW (raiseW c1 0 X.v) c1).length = 54 := by rw [applyW_len, hl1]
  have f0 : floorO (applyW (raiseW c1 0 X.v) c1) 0 = X.v := floor_is (by omega) hv.1 it.f0
  have bk2 : bookedO (applyW (raiseW c1 0 X.v) c1) = bookedO cs := by rw [booked_out fun p hp => by have := r1 p hp; omega, bk1]
  have e2 : applyW (raiseW c1 0 X.v) c1 = applyW (raiseW c1 0 X.v) c1 := rfl
  generalize hc2 : applyW (raiseW c1 0 X.v) c1 = c2 at *
  have a3 : ∀ n, PicAt ks t X (dueF tn n (raiseW c2 2 X.n) c2) ∧ PicAt ks (1 - t) X (dueF tn n (raiseW c2 2 X.n) c2) := fun n => by
    have so : ∀ k, k < 2 ∨ 4 ≤ k → (dueF tn n (raiseW c2 2 X.n) c2)[k]? = c2[k]? := fun k hk => dueF_out fun p hp => by have := r2 p hp; omega
    have f2 := floor_cut (tn := tn) (k := n) (cs := c2) (i := 2) (by omega) hnn.1 a2.1.inn.f2
    have f0 : floorO (dueF tn n (raiseW c2 2 X.n) c2) 0 ≤ X.v := by rw [floorS (so 0 (by omega)) (so 1 (by omega))]; exact a2.1.inn.f0
    exact ⟨mv ht a2.1 (fun k hk => so k (by omega)) f0 f2, mv hsa.1 a2.2 (fun k hk => so k (by omega)) f0 f2⟩
  have a4 := due_last (P := fun c => PicAt ks t X c ∧ PicAt ks (1 - t) X c) a3
  have fin : ∀ c, PicAt ks (1 - t) X c → PicAt ks (1 - t) A c ∨ PicAt ks (1 - t) B c := fun c h => by
    rcases hAB with rfl | rfl
    · exact .inl h
    · exact .inr h
  have oo : ∀ {c c' : List (Option Int)}, PicAt ks (1 - t) X c → bookedO c = bookedO cs → Oth ks (1 - t) A B c := fun g hb => ⟨fun _ => fin _ g, fun z => by rw [hb] at z; exact absurd z hst⟩
  refine ⟨fun n => ?_, ?_⟩
  · refine ⟨due_all t1 (fun n => ?_) n, due_all q1 (fun n => ?_) n⟩
    · rw [hc1]
      refine due_all (fun n => (a1 n).1) (fun n => ?_) n
      rw [hc2]; exact (a3 n).1
    · rw [hc1]
      refine due_all (fun n => ?_) (fun n => ?_) n
      · exact oo (c' := []) (a1 n).2 (by rw [booked_due fun p hp => by have := r1 p hp; omega, bk1])
      · rw [hc2]
        exact oo (c' := []) (a3 n).2 (by rw [booked_due fun p hp => by have := r2 p hp; omega, bk2])
  · rw [applyW_app, applyW_app, hc1, hc2]
    refine ⟨a4.1, a4.2, ?_, floor_is (by omega) hnn.1 a2.1.inn.f2, ?_⟩
    · rw [floor_out fun p hp => by have := r2 p hp; omega]; exact f0
    · rw [booked_out fun p hp => by have := r2 p hp; omega, bk2]
theorem LSt.oths {ks : List Int} {P N : Pic} {t j : Int} {cs : List (Option Int)} (h : LSt ks P N t j cs) : Oth ks (1 - t) P N cs := ⟨h.oth, fun z => (h.tri z).2⟩
theorem upd_none {ks : List Int} {tries t j : Int} {mn : Man} {ss : List (List Row)} {cs : List (Option Int)} (h : Left t j cs) (hr : refB t cs ks mn ≠ "") : updW ks tries mn ss cs = [] ∧ updD ks mn ss cs = .tuple [.str (refB t cs ks mn)] := by
  unfold updW updD updWb updDb
  rw [tells_booked h.tells, if_pos hr, if_pos hr]
  exact ⟨rfl, rfl⟩
theorem upd_LS {ks : List Int} {tries j t : Int} {P N : Pic} {ss : List (List Row)} {cs : List (Option Int)} {tn : Str} (ht : t = 0 ∨ t = 1) (h : LSt ks P N t j cs) (j0 : 0 ≤ j) (j1 : j ≤ 9000) (gm : gman (manOf ks N)) (gs : gStores ss) (t1 : 1 ≤ tries) (t3 : tries ≤ 3) (n : Nat) :
    LSt ks P N t (j + 2) (dueF tn n (updW ks tries (manOf ks N) ss cs) cs) := by
  by_cases hr : refB t cs ks (manOf ks N) = ""
  · obtain ⟨hl, hbd, hte, hpg⟩ := _root_.id h.left
    have hbt := tells_booked hte
    have hbo : bookOk cs := h.left.book ht
    have hfar := (updW_at (ks := ks) (tries := tries) hl hbd hbo hpg j0 j1 gm gs t1 t3).1
    rw [hbt] at hfar
    have hv := (refB_in hr).2.2.2
    have tP : PicAt ks t P cs := by
      rcases h.top with h | h
      · exact h
      · rw [h.top] at hv
        exact absurd hv (by show ¬ (N.v < N.v); omega)
    have tP' : PicAt ks t P (dueF tn n (updW ks tries (manOf ks N) ss cs) cs) :=
      tP.move (head_due ht hfar) (parts_due ht hfar tP.inn.m2) (by rw [floor_due hfar (by decide)]; exact tP.inn.f0) (by rw [floor_due hfar (by decide)]; exact tP.inn.f2)
    have o := upd_oth (tn := tn) (X := P) ht h.left j0 j1 gm gs t1 t3 hr h.oths n
    exact ⟨(upd_due ht h.left j0 j1 gm gs t1 t3 n).1, .inl tP', o.1, fun z => ⟨tP', o.2 z⟩⟩
  · rw [(upd_none h.left hr).1]
    exact due_nil (h.more (by omega)) n
theorem dbl_LS {ks : List Int} {j t : Int} {P N : Pic} {cs : List (Option Int)} {tn : Str} (ht : t = 0 ∨ t = 1) (h : LSt ks P N t j cs) (n : Nat) : LSt ks P N t (j + 2) (dueF tn n (doubleW ks cs) cs) := by
  by_cases hst : (bookedO cs).2.1 = 1
  · have e : doubleW ks cs = [] := by
      unfold doubleW doubleWb doubleOk
      rw [if_neg (by simp [hst])]
    rw [e]
    exact due_nil (h.more (by omega)) n
  · have L := (dbl_due (ks := ks) (tn := tn) ht h.left n).1
    have bk : ∀ {X : Pic}, PicAt ks t X cs → X = P ∨ X = N → LSt ks P N t (j + 2) (dueF tn n (doubleW ks cs) cs) := fun {X} hX hAB => by
      have q := (dbl_oth (tn := tn) ht h.left hX hst h.oths hAB).1 n
      have hok := doubleW_ok (ks := ks) h.left.len (h.left.book ht) h.left.bnd
      have hb : bookedO (dueF tn n (doubleW ks cs) cs) = bookedO cs := booked_due fun p hp => (hok p hp).1
      refine ⟨L, ?_, q.2.1, fun z => by rw [hb] at z; exact absurd z hst⟩
      rcases hAB with rfl | rfl
      · exact .inl q.1
      · exact .inr q.1
    rcases h.top with g | g
    · exact bk g (.inl rfl)
    · exact bk g (.inr rfl)
def RunI (ρ : Option (Int × Str)) (cs : List (Option Int)) : Prop := ∀ s w, ρ = some (s, w) → (w = "trusted" ∧ s = (bookedO cs).1) ∨ (w = "trial" ∧ s = 1 - (bookedO cs).1 ∧ (bookedO cs).2.1 = 1)
structure LM (ks : List Int) (P N : Pic) (j : Int) (ρ : Option (Int × Str)) (μ : Mem) : Prop where
  up : μ.up = true
  lf : ∀ n, μ.left = some n → 0 ≤ n
  st : LS ks P N j μ.cells
  run : RunI ρ μ.cells
theorem RunI.none {cs : List (Option Int)} : RunI none cs := fun _ _ e => by cases e
theorem ranS_LM {ks : List Int} {P N : Pic} {j : Int} {ws : List Wr} {ρ : Option (Int × Str)} {D : PyData} {μ : Mem} (up : μ.up = true) (lf : ∀ n, μ.left = some n → 0 ≤ n) (h : ∀ n, LS ks P N j (dueF μ.torn n ws μ.cells)) (hr : RunI ρ (applyW ws μ.cells)) : LM ks P N j (ranS ws ρ D μ).2.1 (ranS ws ρ D μ).2.2 := by
  obtain ⟨n, e, _⟩ := run_due' (ws := ws) lf
  have hl := h n
  rw [← e] at hl
  unfold ranS
  split
  · rename_i hw
    exact ⟨by rw [run_upT hw]; exact up, run_lf lf hw, hl, by dsimp only; rw [run_cells hw]; exact hr⟩
  · exact ⟨rfl, fun _ z => (by cases z), hl, RunI.none⟩
theorem booked_note {cs : List (Option Int)} {r : Rec} (hl : cs.length = 54) (hb : bnd cs) : bookedO (applyW (noteW cs 4 r) cs) = r := by
  unfold bookedO recordO
  rw [note_whole (by omega) (by have := next_nn hb 4; omega)]; rfl
def lDeed (ks : List Int) (N : Pic) : Deed → Prop
  | .start => True
  | .yes => True
  | .double => True
  | .update mn ss => mn = manOf ks N ∧ gStores ss
  | .cut n t => gDeed (.cut n t)
  | .spoil _ _ _ => False
theorem deed_LM {a : Ma} {P N : Pic} {j : Int} {ρ : Option (Int × Str)} {μ : Mem} {d : Deed} (h : LM a.ks P N j ρ μ) (j0 : 0 ≤ j) (j1 : j ≤ 9000) (gm : gman (manOf a.ks N)) (ld : lDeed a.ks N d) (t1 : 1 ≤ a.t) (t3 : a.t ≤ 3) :
    LM a.ks P N (j + 3) (deedS a d ρ μ).2.1 (deedS a d ρ μ).2.2 := by
  obtain ⟨up, lf, ⟨t, ht, hS⟩, run⟩ := h
  have hbt := hS.booked
  have hl := hS.left.len
  have hbd := hS.left.bnd
  have same : LS a.ks P N (j + 3) μ.cells := LS.more ⟨t, ht, hS⟩ (by omega)
  cases d with
  | start =>
    refine ranS_LM up lf (fun n => (start_LS ht hS j0 j1 n).more (by omega)) ?_
    rw [start_is hS]
    split
    · split
      · intro s w e; cases e
        right
        rw [booked_note hl hbd]
        exact ⟨rfl, rfl, rfl⟩
      · intro s w e; cases e
        left
        rw [booked_note hl hbd]
        exact ⟨rfl, rfl⟩
    · intro s w e; cases e
      exact .inl ⟨rfl, hbt.symm⟩
  | yes =>
    show LM a.ks P N (j + 3) (ranS _ _ _ μ).2.1 (ranS _ _ _ μ).2.2
    cases ρ with
    | none => exact ranS_LM up lf (fun n => due_nil same n) RunI.none
    | some r =>
      obtain ⟨s, w⟩ := r
      unfold yesF
      dsimp only
      rcases run s w rfl with ⟨rfl, hs⟩ | ⟨rfl, hs, hst⟩
      · rw [if_neg (by decide)]
        exact ranS_LM up lf (fun n => due_nil same n) run
      · rw [if_pos rfl]
        rw [hbt] at hs
        subst hs
        have ho := (other_slot ht).1
        obtain ⟨tP, tN⟩ := hS.tri hst
        refine ranS_LM up lf (fun n => (note_LS ht ho hS j0 (by omega) ⟨by dsimp only; omega, by dsimp only; omega, by dsimp only; omega⟩ (.inr tN) (fun z => by omega) n).more (by omega)) ?_
        intro s w e; cases e
        rw [booked_note hl hbd]
        exact .inl ⟨rfl, rfl⟩
  | double =>
    show LM a.ks P N (j + 3) (ranS _ _ _ μ).2.1 (ranS _ _ _ μ).2.2
    cases ρ with
    | none => exact ranS_LM up lf (fun n => due_nil same n) RunI.none
    | some r =>
      obtain ⟨s, w⟩ := r
      unfold dblM
      dsimp only
      rcases run s w rfl with ⟨rfl, hs⟩ | ⟨rfl, hs, hst⟩
      · rw [if_pos hs]
        refine ranS_LM up lf (fun n => LS.more ⟨t, ht, dbl_LS ht hS n⟩ (by omega)) ?_
        have hok := doubleW_ok (ks := a.ks) hl (hS.left.book ht) hbd
        intro s w e; cases e
        rw [booked_out fun p hp => (hok p hp).1]
        exact .inl ⟨rfl, hs⟩
      · rw [if_neg (by omega)]
        exact ranS_LM up lf (fun n => due_nil same n) run
  | update mn ss =>
    obtain ⟨rfl, gs⟩ := ld
    show LM a.ks P N (j + 3) (ranS _ _ _ μ).2.1 (ranS _ _ _ μ).2.2
    cases ρ with
    | none => exact ranS_LM up lf (fun n => due_nil same n) RunI.none
    | some r =>
      obtain ⟨s, w⟩ := r
      unfold updM
      dsimp only
      rcases run s w rfl with ⟨rfl, hs⟩ | ⟨rfl, hs, hst⟩
      · rw [if_pos hs]
        refine ranS_LM up lf (fun n => LS.more ⟨t, ht, upd_LS ht hS j0 j1 gm gs t1 t3 n⟩ (by omega)) ?_
        intro s w e; cases e
        have := (upd_LS (tn := μ.torn) (ss := ss) (tries := a.t) ht hS j0 j1 gm gs t1 t3)
        have hL := due_last this
        rw [hL.booked, hs, hbt]
        exact .inl ⟨rfl, rfl⟩
      · rw [if_neg (by omega)]
        exact ranS_LM up lf (fun n => due_nil same n) run
  | cut n t => exact ⟨up, fun m e => by cases e; exact ld.1, same, run⟩
  | spoil s i w => exact ld.elim
theorem ranS_free {ws : List Wr} {ρ : Option (Int × Str)} {D : PyData} {μ : Mem} (h : μ.left = none) : ranS ws ρ D μ = (D, ρ, { μ with cells := applyW ws μ.cells, many := μ.many + ws.length }) := by
  have hf := run_free (ws := ws) h
  unfold ranS
  rw [if_pos hf, run_whole hf]
  cases μ
  dsimp only at h ⊢
  rw [h]; rfl
/-- a machine whose power stays -/
structure FM (ks : List Int) (P N : Pic) (t j : Int) (μ : Mem) : Prop where
  t01 : t = 0 ∨ t = 1
  up : μ.up = true
  lf : μ.left = none
  st : LSt ks P N t j μ.cells
theorem FM.more {ks : List Int} {P N : Pic} {t j k : Int} {μ : Mem} (h : FM ks P N t j μ) (hk : j ≤ k) : FM ks P N t k μ := ⟨h.t01, h.up, h.lf, h.st.more hk⟩
theorem FM.lm {ks : List Int} {P N : Pic} {t j : Int} {ρ : Option (Int × Str)} {μ : Mem} (h : FM ks P N t j μ) (hr : RunI ρ μ.cells) : LM ks P N j ρ μ := ⟨h.up, fun n e => (by rw [h.lf] at e; cases e), ⟨t, h.t01, h.st⟩, hr⟩
theorem LS.at {ks : List Int} {P N : Pic} {j : Int} {cs : List (Option Int)} {r : Rec} (h : LS ks P N j cs) (e : bookedO cs = r) : (r.1 = 0 ∨ r.1 = 1) ∧ LSt ks P N r.1 j cs := by
  obtain ⟨t, ht, h⟩ := h
  have := h.booked
  rw [e] at this
  rw [this]; exact ⟨ht, h⟩
section
variable {a : Ma} {P N X : Pic} {t j l : Int} {ρ : Option (Int × Str)} {μ : Mem} {ss : List (List Row)}
/-- steady, X trusted -/
def Std (ks : List Int) (P N X : Pic) (t j : Int) (μ : Mem) : Prop := FM ks P N t j μ ∧ (bookedO μ.cells).2.1 ≠ 1 ∧ PicAt ks t X μ.cells
/-- on trial -/
def Tri (ks : List Int) (P N : Pic) (t l j : Int) (μ : Mem) : Prop := FM ks P N t j μ ∧ bookedO μ.cells = (t, 1, l)
theorem Std.more {ks : List Int} {k : Int} (h : Std ks P N X t j μ) (hk : j ≤ k) : Std ks P N X t k μ := ⟨h.1.more hk, h.2⟩
theorem Tri.more {ks : List Int} {k : Int} (h : Tri ks P N t l j μ) (hk : j ≤ k) : Tri ks P N t l k μ := ⟨h.1.more hk, h.2⟩
theorem Tri.tP {ks : List Int} (h : Tri ks P N t l j μ) : PicAt ks t P μ.cells := (h.1.st.tri (by rw [h.2])).1
theorem Tri.tN {ks : List Int} (h : Tri ks P N t l j μ) : PicAt ks (1 - t) N μ.cells := (h.1.st.tri (by rw [h.2])).2
theorem fm_ran {ks : List Int} {ws : List Wr} {D : PyData} {c : List (Option Int)} (h : FM ks P N t j μ) {t' k : Int} (ht' : t' = 0 ∨ t' = 1) (e : applyW ws μ.cells = c) (hs : LSt ks P N t' k c) : ranS ws ρ D μ = (D, ρ, { μ with cells := c, many := μ.many + ws.length }) ∧ FM ks P N t' k { μ with cells := c, many := μ.many + ws.length } := by
  subst e
  exact ⟨ranS_free h.lf, ht', h.up, h.lf, hs⟩
theorem free_start (h : Std a.ks P N X t j μ) : ∃ μ', deedS a .start ρ μ = (startedD t X.v "trusted", some (t, ("trusted" : Str)), μ') ∧ Std a.ks P N X t j μ' ∧ μ'.cells = μ.cells ∧ μ'.many = μ.many := by
  obtain ⟨hF, hst, hX⟩ := h
  have e : deedS a .start ρ μ = ranS (startF a.ks μ.cells).1 (startF a.ks μ.cells).2.2 (startF a.ks μ.cells).2.1 μ := rfl
  rw [e, start_is hF.st, if_neg hst]
  dsimp only
  obtain ⟨e1, e2⟩ := fm_ran (ρ := some (t, ("trusted" : Str))) (ws := []) (D := startedD t (topV μ.cells t) "trusted") hF hF.t01 rfl hF.st
  rw [hX.top] at e1 ⊢
  exact ⟨_, e1, ⟨e2, hst, hX⟩, rfl, by show μ.many + ((0 : Nat) : Int) = _; omega⟩
theorem free_startT (h : Tri a.ks P N t l j μ) (hl : 0 < l) (j0 : 0 ≤ j) (j1 : j ≤ 9000) : ∃ μ', deedS a .start ρ μ = (startedD (1 - t) N.v "trial", some (1 - t, ("trial" : Str)), μ') ∧ Tri a.ks P N t (l - 1) (j + 3) μ' := by
  obtain ⟨hF, hb⟩ := h
  have e : deedS a .start ρ μ = ranS (startF a.ks μ.cells).1 (startF a.ks μ.cells).2.2 (startF a.ks μ.cells).2.1 μ := rfl
  have L := due_last (start_LS (tn := "old") hF.t01 hF.st j0 j1)
  rw [e]
  rw [start_is hF.st, hb, if_pos rfl, if_pos hl] at L ⊢
  have hbn := booked_note (cs := μ.cells) (r := (t, 1, l - 1)) hF.st.left.len hF.st.left.bnd
  obtain ⟨e1, e2⟩ := fm_ran (ρ := some (1 - t, ("trial" : Str))) (D := startedD (1 - t) N.v "trial") hF hF.t01 rfl (L.at hbn).2
  exact ⟨_, e1, e2.more (by omega), hbn⟩
theorem free_start0 (h : Tri a.ks P N t l j μ) (hl : l ≤ 0) (j0 : 0 ≤ j) (j1 : j ≤ 9000) : ∃ μ', deedS a .start ρ μ = (startedD t P.v "trusted", some (t, ("trusted" : Str)), μ') ∧ Std a.ks P N P t (j + 3) μ' ∧ bookedO μ'.cells = (t, 0, 0) := by
  have hP := h.tP
  obtain ⟨hF, hb⟩ := h
  have e : deedS a .start ρ μ = ranS (startF a.ks μ.cells).1 (startF a.ks μ.cells).2.2 (startF a.ks μ.cells).2.1 μ := rfl
  have L := due_last (start_LS (tn := "old") hF.t01 hF.st j0 j1)
  rw [e]
  rw [start_is hF.st, hb, if_pos rfl, if_neg (by dsimp only; omega)] at L ⊢
  have hbn := booked_note (cs := μ.cells) (r := (t, 0, 0)) hF.st.left.len hF.st.left.bnd
  obtain ⟨e1, e2⟩ := fm_ran (ρ := some (t, ("trusted" : Str))) (D := startedD t P.v "trusted") hF hF.t01 rfl (L.at hbn).2
  exact ⟨_, e1, ⟨e2.more (by omega), by show (bookedO (applyW _ μ.cells)).2.1 ≠ 1; rw [hbn]; dsimp only; omega, hP.same hF.t01 note_same⟩, hbn⟩
/-- a newer picture is let in -/
theorem pic_ref {ks : List Int} {cs : List (Option Int)} (gg : gk ks) (hP : PicAt ks t P cs) (hN : gp ks N) (hn : P.n ≤ N.n) (hv : P.v < N.v) : refB t cs ks (manOf ks N) = "" := by
  have hk := keyOf_ok gg hN
  have i := hP.inn
  refine refB_mk hP.good ⟨by have := i.f2; show floorO cs 2 ≤ N.n; omega, hN.2.2.2.2.2.2⟩ ?_ (by have := i.f0; show floorO cs 0 ≤ N.v; omega) (by rw [hP.top]; exact hv)
  show sealF (ks.getD N.n.toNat 0) (plainF N) = sealF (keyOf ks N) (plainF N)
  rw [getD_of hk.1]
theorem free_upd {w : Str} (gg : gk a.ks) (hN : gp a.ks N) (hn : P.n ≤ N.n) (hv : P.v < N.v) (gs : gStores ss) (ha : hasAll ss (manOf a.ks N).ts) (t1 : 1 ≤ a.t) (t3 : a.t ≤ 3) (h : Std a.ks P N P t j μ) (j0 : 0 ≤ j) (j1 : j ≤ 9000) :
    ∃ μ' x y z, deedS a (.update (manOf a.ks N) ss) (some (t, w)) μ = (PyData.tuple [.str "laid", .int x, .int y, .int z], some (t, w), μ') ∧ Tri a.ks P N t a.t (j + 3) μ' := by
  obtain ⟨hF, hst, hX⟩ := h
  have gm := manOf_ok gg hN
  have hr := pic_ref gg hX hN hn hv
  obtain ⟨⟨x, y, z, hD, -⟩, -, hb, -⟩ := upd_whole (tries := a.t) hF.t01 hF.st.left j0 j1 gm gs t1 t3 hr ha
  have L := due_last (upd_LS (tn := "old") (ss := ss) (tries := a.t) hF.t01 hF.st j0 j1 gm gs t1 t3)
  have e : deedS a (.update (manOf a.ks N) ss) (some (t, w)) μ = ranS (updW a.ks a.t (manOf a.ks N) ss μ.cells) (some (t, w)) (updD a.ks (manOf a.ks N) ss μ.cells) μ := by
    show ranS (updM a (some (t, w)) (manOf a.ks N) ss μ.cells).1 _ (updM a (some (t, w)) (manOf a.ks N) ss μ.cells).2 μ = _
    unfold updM
    dsimp only
    rw [if_pos hF.st.booked.symm]
  rw [e, hD]
  obtain ⟨e1, e2⟩ := fm_ran (ρ := some (t, w)) (D := PyData.tuple [.str "laid", .int x, .int y, .int z]) hF hF.t01 rfl L
  exact ⟨_, x, y, z, e1, e2.more (by omega), hb⟩
/-- an update that isn't let in -/
theorem free_updX {mn : Man} {w : Str} (h : FM a.ks P N t j μ) (hr : refB t μ.cells a.ks mn ≠ "") : deedS a (.update mn ss) (some (t, w)) μ = (PyData.tuple [.str (refB t μ.cells a.ks mn)], some (t, w), { μ with cells := μ.cells, many := μ.many + ((0 : Nat) : Int) }) := by
  have e : deedS a (.update mn ss) (some (t, w)) μ = ranS (updW a.ks a.t mn ss μ.cells) (some (t, w)) (updD a.ks mn ss μ.cells) μ := by
    show ranS (updM a (some (t, w)) mn ss μ.cells).1 _ (updM a (some (t, w)) mn ss μ.cells).2 μ = _
    unfold updM
    dsimp only
    rw [if_pos h.st.booked.symm]
  obtain ⟨e1, e2⟩ := upd_none (tries := a.t) (ss := ss) h.st.left hr
  rw [e, e1, e2]
  exact ranS_free h.lf
theorem mem_same {μ : Mem} : ({ μ with cells := μ.cells, many := μ.many + ((0 : Nat) : Int) } : Mem) = μ := by
  cases μ; simp
theorem free_updT {mn : Man} {w : Str} (h : FM a.ks P N t j μ) : deedS a (.update mn ss) (some (1 - t, w)) μ = (PyData.tuple [.str "trial"], some (1 - t, w), μ) := by
  show ranS (updM a (some (1 - t, w)) mn ss μ.cells).1 _ (updM a (some (1 - t, w)) mn ss μ.cells).2 μ = _
  unfold updM
  dsimp only
  have hb := h.st.booked
  rw [if_neg (by omega), ranS_free h.lf]
  exact congrArg (fun m => (_, _, m)) mem_same
theorem free_yes (h : Tri a.ks P N t l j μ) (j0 : 0 ≤ j) (j1 : j ≤ 9000) : ∃ μ', deedS a .yes (some (1 - t, ("trial" : Str))) μ = (PyData.tuple [.str "yes"], some (1 - t, ("trusted" : Str)), μ') ∧ Std a.ks P N N (1 - t) (j + 3) μ' ∧ bookedO μ'.cells = (1 - t, 0, 0) := by
  have hN := h.tN
  obtain ⟨hF, hb⟩ := h
  have ho := (other_slot hF.t01).1
  have L : LS a.ks P N (j + 1) (applyW (noteW μ.cells 4 (1 - t, 0, 0)) μ.cells) := due_last (note_LS (tn := "old") hF.t01 ho hF.st j0 (by omega) ⟨by dsimp only; omega, by dsimp only; omega, by dsimp only; omega⟩ (.inr hN) (fun z => by omega))
  have hbn := booked_note (cs := μ.cells) (r := (1 - t, 0, 0)) hF.st.left.len hF.st.left.bnd
  have e : deedS a .yes (some (1 - t, ("trial" : Str))) μ = ranS (noteW μ.cells 4 (1 - t, 0, 0)) (some (1 - t, ("trusted" : Str))) (PyData.tuple [.str "yes"]) μ := rfl
  rw [e]
  obtain ⟨e1, e2⟩ := fm_ran (ρ := some (1 - t, ("trusted" : Str))) (D := PyData.tuple [.str "yes"]) hF ho rfl (L.at hbn).2
  exact ⟨_, e1, ⟨e2.more (by omega), by show (bookedO (applyW _ μ.cells)).2.1 ≠ 1; rw [hbn]; dsimp only; omega, hN.same ho note_same⟩, hbn⟩
theorem free_no (h : FM a.ks P N t j μ) : deedS a .yes (some (t, ("trusted" : Str))) μ = (PyData.tuple [.str "no"], some (t, ("trusted" : Str)), μ) := by
  have e : deedS a .yes (some (t, ("trusted" : Str))) μ = ranS [] (some (t, ("trusted" : Str))) (PyData.tuple [.str "no"]) μ := rfl
  rw [e, ranS_free h.lf]
  exact congrArg (fun m => (_, _, m)) mem_same
theorem free_dbl {w : Str} (h : Std a.ks P N X t j μ) (hX : X = P ∨ X = N) : ∃ μ' n, deedS a .double (some (t, w)) μ = (PyData.tuple [.str "doubled", .int n], some (t, w), μ') ∧ Std a.ks P N X t (j + 3) μ' ∧ PicAt a.ks (1 - t) X μ'.cells ∧ floorO μ'.cells 0 = X.v ∧ floorO μ'.cells 2 = X.n ∧ bookedO μ'.cells = bookedO μ.cells := by
  obtain ⟨hF, hst, hXt⟩ := h
  have hb := hF.st.booked
  have e : deedS a .double (some (t, w)) μ = ranS (doubleW a.ks μ.cells) (some (t, w)) (doubleD a.ks μ.cells) μ := by
    show ranS (dblM a (some (t, w)) μ.cells).1 _ (dblM a (some (t, w)) μ.cells).2 μ = _
    unfold dblM
    dsimp only
    rw [if_pos hb.symm]
  have L := due_last (dbl_LS (tn := "old") hF.t01 hF.st)
  have hbk : bookedO μ.cells = (t, (bookedO μ.cells).2.1, (bookedO μ.cells).2.2) := by rw [← hb]
  obtain ⟨-, q1, q2, q3, q4, q5⟩ := dbl_oth (tn := "old") hF.t01 hF.st.left hXt hst hF.st.oths hX
  rw [e, (dbl_is hXt hbk hst).2]
  obtain ⟨e1, e2⟩ := fm_ran (ρ := some (t, w)) (D := PyData.tuple [.str "doubled", .int (laidN a.ks t μ.cells)]) hF hF.t01 rfl L
  exact ⟨_, _, e1, ⟨e2.more (by omega), by show (bookedO (applyW _ μ.cells)).2.1 ≠ 1; rw [q5]; exact hst, q1⟩, q2, q3, q4, q5⟩
end
theorem playS_step {a : Ma} {d : Deed} {ds : List Deed} {ρ ρ' : Option (Int × Str)} {μ μ' : Mem} {D : PyData} (h : deedS a d ρ μ = (D, ρ', μ')) : playS a (d :: ds) ρ μ = (D :: (playS a ds ρ' μ').1, (playS a ds ρ' μ').2) := by
  show ((deedS a d ρ μ).1 :: (playS a ds (deedS a d ρ μ).2.1 (deedS a d ρ μ).2.2).1, (playS a ds (deedS a d ρ μ).2.1 (deedS a d ρ μ).2.2).2) = _
  rw [h]
/-- what is told is no stranding, and no start of a version below -/
def fineD (lo : Int) (D : PyData) : Prop := (∃ s v w, D = startedD s v w ∧ lo ≤ v) ∨ ∃ w xs, D = .tuple (.str w :: xs) ∧ w ≠ "stranded" ∧ w ≠ "started"
theorem refB_word {t : Int} {cs : List (Option Int)} {ks : List Int} {m : Man} : refB t cs ks m = "" ∨ refB t cs ks m = "hurt" ∨ refB t cs ks m = "key" ∨ refB t cs ks m = "seal" ∨ refB t cs ks m = "old" := by
  unfold refB
  split
  · exact .inr (.inl rfl)
  · split
    · exact .inr (.inr (.inl rfl))
    · split
      · exact .inr (.inr (.inr (.inl rfl)))
      · split
        · exact .inr (.inr (.inr (.inr rfl)))
        · exact .inl rfl
section
variable {a : Ma} {P N X : Pic} {t j l : Int} {ρ : Option (Int × Str)} {μ : Mem} {ss : List (List Row)}
/-- led over: the newer one in both slots, trusted, the floors raised -/
structure LedN (a : Ma) (P N : Pic) (t j : Int) (ρ : Option (Int × Str)) (μ : Mem) : Prop where
  std : Std a.ks P N N t j μ
  oth : PicAt a.ks (1 - t) N μ.cells
  f0 : floorO μ.cells 0 = N.v
  f2 : floorO μ.cells 2 = N.n
  run : ρ = some (t, ("trusted" : Str))
theorem fine_refB {lo : Int} {w : Str} (h : w = "hurt" ∨ w = "key" ∨ w = "seal" ∨ w = "old") : fineD lo (.tuple [.str w]) := by
  refine .inr ⟨w, [], rfl, ?_⟩
  rcases h with rfl | rfl | rfl | rfl <;> exact ⟨by decide, by decide⟩
theorem fine_start {lo s v : Int} {w : Str} (h : lo ≤ v) : fineD lo (startedD s v w) := .inl ⟨s, v, w, rfl, h⟩
theorem tail_X (hX : X = P ∨ X = N) (h : Std a.ks P N X t j μ) : ∃ n μ', playS a [.double, .start] (some (t, ("trusted" : Str))) μ = ([PyData.tuple [.str "doubled", .int n], startedD t X.v "trusted"], some (t, ("trusted" : Str)), μ') ∧
    Std a.ks P N X t (j + 3) μ' ∧ PicAt a.ks (1 - t) X μ'.cells ∧ floorO μ'.cells 0 = X.v ∧ floorO μ'.cells 2 = X.n ∧ bookedO μ'.cells = bookedO μ.cells := by
  obtain ⟨μ1, n, e1, s1, o1, f1, f2, b1⟩ := free_dbl (w := "trusted") h hX
  obtain ⟨μ2, e2, s2, c2, m2⟩ := free_start (ρ := some (t, ("trusted" : Str))) s1
  refine ⟨n, μ2, ?_, s2, by rw [c2]; exact o1, by rw [c2]; exact f1, by rw [c2]; exact f2, by rw [c2]; exact b1⟩
  rw [playS_step e1, playS_step e2]; rfl
def sixD (mn : Man) (ss : List (List Row)) : List Deed := [.start, .update mn ss, .start, .yes, .double, .start]
theorem six_is {mn : Man} {ρ1 ρ2 ρ3 ρ4 ρ6 : Option (Int × Str)} {μ1 μ2 μ3 μ4 μ6 : Mem} {D1 D2 D3 D4 : PyData} {rs : List PyData} (e1 : deedS a .start ρ μ = (D1, ρ1, μ1)) (e2 : deedS a (.update mn ss) ρ1 μ1 = (D2, ρ2, μ2)) (e3 : deedS a .start ρ2 μ2 = (D3, ρ3, μ3)) (e4 : deedS a .yes ρ3 μ3 = (D4, ρ4, μ4)) (e6 : playS a [.double, .start] ρ4 μ4 = (rs, ρ6, μ6)) :
    playS a (sixD mn ss) ρ μ = (D1 :: D2 :: D3 :: D4 :: rs, ρ6, μ6) := by
  unfold sixD
  rw [playS_step e1, playS_step e2, playS_step e3, playS_step e4, e6]
theorem six_N (h : Std a.ks P N N t j μ) (hv : P.v < N.v) : ∃ rs ρ' μ', playS a (sixD (manOf a.ks N) ss) ρ μ = (rs, ρ', μ') ∧ (∀ r ∈ rs, fineD P.v r) ∧ LedN a P N t (j + 3) ρ' μ' ∧ bookedO μ'.cells = bookedO μ.cells := by
  obtain ⟨μ1, e1, s1, c1, m1⟩ := free_start (ρ := ρ) h
  have hr : refB t μ1.cells a.ks (manOf a.ks N) ≠ "" := fun z => by
    have := (refB_in z).2.2.2
    rw [s1.2.2.top] at this
    exact absurd this (by show ¬ (N.v < N.v); omega)
  have e2 := free_updX (a := a) (mn := manOf a.ks N) (ss := ss) (w := "trusted") s1.1 hr
  rw [mem_same] at e2
  obtain ⟨μ3, e3, s3, c3, m3⟩ := free_start (ρ := some (t, ("trusted" : Str))) s1
  have e4 := free_no (a := a) s3.1
  obtain ⟨n, μ6, e6, s6, o6, f6, g6, b6⟩ := tail_X (.inr rfl) s3
  refine ⟨_, _, μ6, six_is e1 e2 e3 e4 e6, ?_, ⟨s6, o6, f6, g6, rfl⟩, by rw [b6, c3, c1]⟩
  intro r hrm
  simp only [List.mem_cons, List.not_mem_nil, or_false] at hrm
  rcases hrm with rfl | rfl | rfl | rfl | rfl | rfl
  · exact fine_start (by omega)
  · refine fine_refB ?_
    rcases refB_word (t := t) (cs := μ1.cells) (ks := a.ks) (m := manOf a.ks N) with z | z
    · exact absurd z hr
    · exact z
  · exact fine_start (by omega)
  · exact .inr ⟨"no", [], rfl, by decide, by decide⟩
  · exact .inr ⟨"doubled", _, rfl, by decide, by decide⟩
  · exact fine_start (by omega)
/-- led over at once -/
theorem six_P (gg : gk a.ks) (hN : gp a.ks N) (hn : P.n ≤ N.n) (hv : P.v < N.v) (gs : gStores ss) (ha : hasAll ss (manOf a.ks N).ts) (t1 : 1 ≤ a.t) (t3 : a.t ≤ 3) (h : Std a.ks P N P t j μ) (j0 : 0 ≤ j) (j1 : j + 18 ≤ 9000) :
    ∃ x y z n μ', playS a (sixD (manOf a.ks N) ss) ρ μ = ([startedD t P.v "trusted", .tuple [.str "laid", .int x, .int y, .int z], startedD (1 - t) N.v "trial", .tuple [.str "yes"], .tuple [.str "doubled", .int n], startedD (1 - t) N.v "trusted"], some (1 - t, ("trusted" : Str)), μ') ∧
    LedN a P N (1 - t) (j + 12) (some (1 - t, ("trusted" : Str))) μ' ∧ bookedO μ'.cells = (1 - t, 0, 0) := by
  obtain ⟨μ1, e1, s1, c1, m1⟩ := free_start (ρ := ρ) h
  obtain ⟨μ2, x, y, z, e2, s2⟩ := free_upd (w := "trusted") gg hN hn hv gs ha t1 t3 s1 j0 (by omega)
  obtain ⟨μ3, e3, s3⟩ := free_startT (ρ := some (t, ("trusted" : Str))) s2 (by omega) (by omega) (by omega)
  obtain ⟨μ4, e4, s4, b4⟩ := free_yes s3 (by omega) (by omega)
  obtain ⟨n, μ6, e6, s6, o6, f6, g6, b6⟩ := tail_X (.inr rfl) s4
  refine ⟨x, y, z, n, μ6, ?_, ⟨s6.more (by omega), o6, f6, g6, rfl⟩, by rw [b6, b4]⟩
  unfold sixD
  rw [playS_step e1, playS_step e2, playS_step e3, playS_step e4, e6]
theorem five_P (gg : gk a.ks) (hN : gp a.ks N) (hn : P.n ≤ N.n) (hv : P.v < N.v) (gs : gStores ss) (ha : hasAll ss (manOf a.ks N).ts) (t1 : 1 ≤ a.t) (t3 : a.t ≤ 3) (h : Tri a.ks P N t l j μ) (hl : 0 < l) (j0 : 0 ≤ j) (j1 : j + 18 ≤ 9000) :
    ∃ rs ρ' μ', playS a (sixD (manOf a.ks N) ss) ρ μ = (rs, ρ', μ') ∧ (∀ r ∈ rs, fineD P.v r) ∧ ((LedN a P N (1 - t) (j + 18) ρ' μ' ∧ bookedO μ'.cells = (1 - t, 0, 0)) ∨ (Std a.ks P N P t (j + 18) μ' ∧ l = 1)) := by
  obtain ⟨μ1, e1, s1⟩ := free_startT (ρ := ρ) h hl j0 (by omega)
  have e2 := free_updT (a := a) (mn := manOf a.ks N) (ss := ss) (w := "trial") s1.1
  by_cases hl2 : 0 < l - 1
  · obtain ⟨μ3, e3, s3⟩ := free_startT (ρ := some (1 - t, ("trial" : Str))) s1 hl2 (by omega) (by omega)
    obtain ⟨μ4, e4, s4, b4⟩ := free_yes s3 (by omega) (by omega)
    obtain ⟨n, μ6, e6, s6, o6, f6, g6, b6⟩ := tail_X (.inr rfl) s4
    refine ⟨_, _, μ6, six_is e1 e2 e3 e4 e6, ?_, .inl ⟨⟨s6.more (by omega), o6, f6, g6, rfl⟩, by rw [b6, b4]⟩⟩
    intro r hrm
    simp only [List.mem_cons, List.not_mem_nil, or_false] at hrm
    rcases hrm with rfl | rfl | rfl | rfl | rfl | rfl
    · exact fine_start (by omega)
    · exact .inr ⟨"trial", [], rfl, by decide, by decide⟩
    · exact fine_start (by omega)
    · exact .inr ⟨"yes", [], rfl, by decide, by decide⟩
    · exact .inr ⟨"doubled", _, rfl, by decide, by decide⟩
    · exact fine_start (by omega)
  · obtain ⟨μ3, e3, s3, b3⟩ := free_start0 (ρ := some (1 - t, ("trial" : Str))) s1 (by omega) (by omega) (by omega)
    have e4 := free_no (a := a) s3.1
    obtain ⟨n, μ6, e6, s6, o6, f6, g6, b6⟩ := tail_X (.inl rfl) s3
    refine ⟨_, _, μ6, six_is e1 e2 e3 e4 e6, ?_, .inr ⟨s6.more (by omega), by omega⟩⟩
    intro r hrm
    simp only [List.mem_cons, List.not_mem_nil, or_false] at hrm
    rcases hrm with rfl | rfl | rfl | rfl | rfl | rfl
    · exact fine_start (by omega)
    · exact .inr ⟨"trial", [], rfl, by decide, by decide⟩
    · exact fine_start (by omega)
    · exact .inr ⟨"no", [], rfl, by decide, by decide⟩
    · exact .inr ⟨"doubled", _, rfl, by decide, by decide⟩
    · exact fine_start (by omega)
theorem six_0 (gg : gk a.ks) (hN : gp a.ks N) (hn : P.n ≤ N.n) (hv : P.v < N.v) (gs : gStores ss) (ha : hasAll ss (manOf a.ks N).ts) (t1 : 1 ≤ a.t) (t3 : a.t ≤ 3) (h : Tri a.ks P N t l j μ) (hl : l ≤ 0) (j0 : 0 ≤ j) (j1 : j + 18 ≤ 9000) :
    ∃ rs ρ' μ', playS a (sixD (manOf a.ks N) ss) ρ μ = (rs, ρ', μ') ∧ (∀ r ∈ rs, fineD P.v r) ∧ LedN a P N (1 - t) (j + 18) ρ' μ' ∧ bookedO μ'.cells = (1 - t, 0, 0) := by
  obtain ⟨μ1, e1, s1, b1⟩ := free_start0 (ρ := ρ) h hl j0 (by omega)
  obtain ⟨μ2, x, y, z, e2, s2⟩ := free_upd (w := "trusted") gg hN hn hv gs ha t1 t3 s1 (by omega) (by omega)
  obtain ⟨μ3, e3, s3⟩ := free_startT (ρ := some (t, ("trusted" : Str))) s2 (by omega) (by omega) (by omega)
  obtain ⟨μ4, e4, s4, b4⟩ := free_yes s3 (by omega) (by omega)
  obtain ⟨n, μ6, e6, s6, o6, f6, g6, b6⟩ := tail_X (.inr rfl) s4
  refine ⟨_, _, μ6, six_is e1 e2 e3 e4 e6, ?_, ⟨s6.more (by omega), o6, f6, g6, rfl⟩, by rw [b6, b4]⟩
  intro r hrm
  simp only [List.mem_cons, List.not_mem_nil, or_false] at hrm
  rcases hrm with rfl | rfl | rfl | rfl | rfl | rfl
  · exact fine_start (by omega)
  · exact .inr ⟨"laid", _, rfl, by decide, by decide⟩
  · exact fine_start (by omega)
  · exact .inr ⟨"yes", [], rfl, by decide, by decide⟩
  · exact .inr ⟨"doubled", _, rfl, by decide, by decide⟩
  · exact fine_start (by omega)
/-- a round: led over, or steady with the elder one, which a round ahead was its last trial -/
theorem six_any (gg : gk a.ks) (hN : gp a.ks N) (hn : P.n ≤ N.n) (hv : P.v < N.v) (gs : gStores ss) (ha : hasAll ss (manOf a.ks N).ts) (t1 : 1 ≤ a.t) (t3 : a.t ≤ 3) (h : FM a.ks P N t j μ) (j0 : 0 ≤ j) (j1 : j + 18 ≤ 9000) :
    ∃ rs ρ' μ', playS a (sixD (manOf a.ks N) ss) ρ μ = (rs, ρ', μ') ∧ (∀ r ∈ rs, fineD P.v r) ∧ ((∃ t', LedN a P N t' (j + 18) ρ' μ' ∧ (bookedO μ'.cells).2.1 ≠ 1) ∨ (Std a.ks P N P t (j + 18) μ' ∧ (bookedO μ.cells).2.1 = 1)) := by
  by_cases hst : (bookedO μ.cells).2.1 = 1
  · have hb : bookedO μ.cells = (t, 1, (bookedO μ.cells).2.2) := by rw [← hst, ← h.st.booked]
    by_cases hl : 0 < (bookedO μ.cells).2.2
    · obtain ⟨rs, ρ', μ', e, f, q⟩ := five_P (ρ := ρ) gg hN hn hv gs ha t1 t3 ⟨h, hb⟩ hl j0 j1
      refine ⟨rs, ρ', μ', e, f, ?_⟩
      rcases q with ⟨q, b⟩ | q
      · exact .inl ⟨_, q, by rw [b]; dsimp only; omega⟩
      · exact .inr ⟨q.1, hst⟩
    · obtain ⟨rs, ρ', μ', e, f, q, b⟩ := six_0 (ρ := ρ) gg hN hn hv gs ha t1 t3 ⟨h, hb⟩ (by omega) j0 j1
      exact ⟨rs, ρ', μ', e, f, .inl ⟨_, q, by rw [b]; dsimp only; omega⟩⟩
  · rcases h.st.top with g | g
    · obtain ⟨x, y, z, n, μ', e, q, b⟩ := six_P (ρ := ρ) gg hN hn hv gs ha t1 t3 ⟨h, hst, g⟩ j0 j1
      refine ⟨_, _, μ', e, ?_, .inl ⟨_, ⟨q.std.more (by omega), q.oth, q.f0, q.f2, q.run⟩, by rw [b]; dsimp only; omega⟩⟩
      intro r hrm
      simp only [List.mem_cons, List.not_mem_nil, or_false] at hrm
      rcases hrm with rfl | rfl | rfl | rfl | rfl | rfl
      · exact fine_start (by omega)
      · exact .inr ⟨"laid", _, rfl, by decide, by decide⟩
      · exact fine_start (by omega)
      · exact .inr ⟨"yes", [], rfl, by decide, by decide⟩
      · exact .inr ⟨"doubled", _, rfl, by decide, by decide⟩
      · exact fine_start (by omega)
    · obtain ⟨rs, ρ', μ', e, f, q, b⟩ := six_N (ρ := ρ) (ss := ss) ⟨h, hst, g⟩ hv
      exact ⟨rs, ρ', μ', e, f, .inl ⟨t, ⟨q.std.more (by omega), q.oth, q.f0, q.f2, q.run⟩, by rw [b]; exact hst⟩⟩
end
/-! ## a cut that comes -/
def plainR : Deed → Prop
  | .start => True
  | .yes => True
  | .double => True
  | .update _ _ => True
  | _ => False
theorem run_deed {d : Deed} (h : plainR d) (a : Ma) (ρ : Option (Int × Str)) (cs : List (Option Int)) : ∃ ws ρ' D, ∀ μ : Mem, μ.cells = cs → deedS a d ρ μ = ranS ws ρ' D μ := by
  cases d with
  | start => exact ⟨(startF a.ks cs).1, (startF a.ks cs).2.2, (startF a.ks cs).2.1, fun μ e => by subst e; rfl⟩
  | yes => exact ⟨(yesF ρ cs).1, (yesF ρ cs).2.2, (yesF ρ cs).2.1, fun μ e => by subst e; rfl⟩
  | double => exact ⟨(dblM a ρ cs).1, ρ, (dblM a ρ cs).2, fun μ e => by subst e; rfl⟩
  | update mn ss => exact ⟨(updM a ρ mn ss cs).1, ρ, (updM a ρ mn ss cs).2, fun μ e => by subst e; rfl⟩
  | cut n t => exact h.elim
  | spoil s i w => exact h.elim
theorem play_free {a : Ma} : ∀ {ds : List Deed} {ρ : Option (Int × Str)} {μ : Mem}, (∀ d ∈ ds, plainR d) → μ.left = none → (playS a ds ρ μ).2.2.left = none
  | [], ρ, μ, _, h => h
  | d :: ds, ρ, μ, hp, h => by
    obtain ⟨ws, ρ', D, e⟩ := run_deed (hp d (List.mem_cons_self ..)) a ρ μ.cells
    rw [playS_step ((e μ rfl).trans (ranS_free h))]
    exact play_free (fun x hx => hp x (List.mem_cons_of_mem _ hx)) h
theorem play_stop {a : Ma} : ∀ {ds : List Deed} {ρ : Option (Int × Str)} {μ μ0 : Mem} {n : Nat}, (∀ d ∈ ds, plainR d) → μ.left = some (n : Int) → μ0.left = none → μ0.cells = μ.cells → (n : Int) < (playS a ds ρ μ0).2.2.many - μ0.many →
    PyData.tuple [.str "stopped"] ∈ (playS a ds ρ μ).1 ∧ (playS a ds ρ μ).2.2.left = none
  | [], ρ, μ, μ0, n, _, _, _, _, hn => by
    exfalso
    have : (playS a [] ρ μ0).2.2.many = μ0.many := rfl
    omega
  | d :: ds, ρ, μ, μ0, n, hp, hl, h0, hc, hn => by
    obtain ⟨ws, ρ', D, e⟩ := run_deed (hp d (List.mem_cons_self ..)) a ρ μ.cells
    have e0 := (e μ0 hc).trans (ranS_free h0)
    rw [playS_step e0] at hn
    have hr := run_left (ws := ws) hl
    by_cases hw : ws.length ≤ n
    · have hr : (Mem.run ws μ).2 = true := by rw [hr]; exact decide_eq_true hw
      have e1 : deedS a d ρ μ = (D, ρ', (Mem.run ws μ).1) := by
        rw [e μ rfl]; unfold ranS; rw [if_pos hr]
      rw [playS_step e1]
      have hl1 : (Mem.run ws μ).1.left = some ((n - ws.length : Nat) : Int) := by
        rw [run_whole hr]
        show μ.left.map (· - (ws.length : Int)) = _
        rw [hl, Option.map_some]
        congr 1
        omega
      have ih := play_stop (a := a) (ds := ds) (ρ := ρ') (μ := (Mem.run ws μ).1) (μ0 := { μ0 with cells := applyW ws μ0.cells, many := μ0.many + ws.length }) (n := n - ws.length) (fun x hx => hp x (List.mem_cons_of_mem _ hx)) hl1 h0 (by rw [run_cells hr, hc]) (by
        show ((n - ws.length : Nat) : Int) < _ - (μ0.many + ws.length)
        have hn : (n : Int) < (playS a ds ρ' { μ0 with cells := applyW ws μ0.cells, many := μ0.many + ws.length }).2.2.many - μ0.many := hn
        omega)
      exact ⟨List.mem_cons_of_mem _ ih.1, ih.2⟩
    · have hr : (Mem.run ws μ).2 = false := by rw [hr]; exact decide_eq_false hw
      have e1 : deedS a d ρ μ = (.tuple [.str "stopped"], none, { (Mem.run ws μ).1 with up := true, left := none }) := by
        rw [e μ rfl]; unfold ranS; rw [if_neg (by rw [hr]; decide)]
      rw [playS_step e1]
      exact ⟨List.mem_cons_self .., play_free (fun x hx => hp x (List.mem_cons_of_mem _ hx)) rfl⟩
theorem note_len7 {cs : List (Option Int)} {r : Rec} : (noteW cs 4 r).length = 7 := rfl
theorem start_len {ks : List Int} {cs : List (Option Int)} : (startF ks cs).1.length ≤ 21 := by
  have h1 : ∀ {b : Rec} {c : List (Option Int)}, (stN1 b c).length ≤ 7 := fun {b c} => by unfold stN1; split <;> simp [note_len7]
  have h2 : ∀ {b : Rec} {c : List (Option Int)}, (stN2 b c).length ≤ 7 := fun {b c} => by unfold stN2; split <;> simp [note_len7]
  unfold startF startB thenW
  split
  · have := h1 (b := bookedO cs) (c := cs); dsimp only; omega
  · split
    · have := h1 (b := bookedO cs) (c := cs); have := h2 (b := bookedO cs) (c := applyW (stN1 (bookedO cs) cs) cs)
      dsimp only; rw [List.length_append]; omega
    · split
      · have := h1 (b := bookedO cs) (c := cs); have := h2 (b := bookedO cs) (c := applyW (stN1 (bookedO cs) cs) cs)
        dsimp only; rw [List.length_append, List.length_append, note_len7]; omega
      · have := h1 (b := bookedO cs) (c := cs); have := h2 (b := bookedO cs) (c := applyW (stN1 (bookedO cs) cs) cs)
        dsimp only; rw [List.length_append]; omega
/-- a deed has few writes -/
theorem deed_many {a : Ma} {j : Int} {ρ : Option (Int × Str)} {μ : Mem} {d : Deed} (h : MOk j ρ μ) (hp : plainR d) (gd : gDeed d) (hl : μ.left = none) : μ.many ≤ (deedS a d ρ μ).2.2.many ∧ (deedS a d ρ μ).2.2.many ≤ μ.many + 40 := by
  have go : ∀ {ws : List Wr} {ρ' : Option (Int × Str)} {D : PyData}, ws.length ≤ 40 → μ.many ≤ (ranS ws ρ' D μ).2.2.many ∧ (ranS ws ρ' D μ).2.2.many ≤ μ.many + 40 := fun {ws ρ' D} hw => by
    rw [ranS_free hl]; dsimp only; omega
  cases d with
  | start => exact go (Nat.le_trans start_len (by omega))
  | yes =>
    refine go ?_
    unfold yesF; split
    · simp
    · split
      · simp [note_len7]
      · simp
  | double =>
    refine go ?_
    unfold dblM; split
    · simp
    · split
      · exact doubleW_len h.left.len h.left.book
      · simp
  | update mn ss =>
    refine go ?_
    unfold updM; split
    · simp
    · split
      · exact updW_len h.left.bnd h.left.book gd.1 gd.2
      · simp
  | cut n t => exact hp.elim
  | spoil s i w => exact hp.elim
theorem play_many {a : Ma} (t1 : 1 ≤ a.t) (t3 : a.t ≤ 3) : ∀ {ds : List Deed} {j : Int} {ρ : Option (Int × Str)} {μ : Mem}, MOk j ρ μ → 0 ≤ j → j + 3 * ds.length ≤ 9000 → (∀ d ∈ ds, plainR d) → (∀ d ∈ ds, gDeed d) → μ.left = none →
    μ.many ≤ (playS a ds ρ μ).2.2.many ∧ (playS a ds ρ μ).2.2.many ≤ μ.many + 40 * ds.length
  | [], j, ρ, μ, _, _, _, _, _, _ => by show μ.many ≤ μ.many ∧ μ.many ≤ μ.many + 40 * ((0 : Nat) : Int); omega
  | d :: ds, j, ρ, μ, h, j0, j1, hp, hg, hl => by
    simp only [List.length_cons] at j1 ⊢
    have h1 := deed_ok (a := a) h j0 (by omega) (hg d (List.mem_cons_self ..)) t1 t3
    have h2 := deed_many (a := a) h (hp d (List.mem_cons_self ..)) (hg d (List.mem_cons_self ..)) hl
    have hl1 : (deedS a d ρ μ).2.2.left = none := by
      obtain ⟨ws, ρ', D, e⟩ := run_deed (hp d (List.mem_cons_self ..)) a ρ μ.cells
      rw [e μ rfl, ranS_free hl]; exact hl
    have h3 := play_many t1 t3 (ds := ds) h1 (by omega) (by omega) (fun x hx => hp x (List.mem_cons_of_mem _ hx)) (fun x hx => hg x (List.mem_cons_of_mem _ hx)) hl1
    have e : (playS a (d :: ds) ρ μ).2 = (playS a ds (deedS a d ρ μ).2.1 (deedS a d ρ μ).2.2).2 := rfl
    rw [e]
    push_cast
    omega
theorem play_LM {a : Ma} {P N : Pic} (gm : gman (manOf a.ks N)) (t1 : 1 ≤ a.t) (t3 : a.t ≤ 3) : ∀ {ds : List Deed} {j : Int} {ρ : Option (Int × Str)} {μ : Mem}, LM a.ks P N j ρ μ → 0 ≤ j → j + 3 * ds.length ≤ 9000 → (∀ d ∈ ds, lDeed a.ks N d) → LM a.ks P N (j + 3 * ds.length) (playS a ds ρ μ).2.1 (playS a ds ρ μ).2.2
  | [], j, ρ, μ, h, j0, j1, g => by
    show LM a.ks P N (j + 3 * ((0 : Nat) : Int)) ρ μ
    rw [show j + 3 * ((0 : Nat) : Int) = j by omega]; exact h
  | d :: ds, j, ρ, μ, h, j0, j1, g => by
    simp only [List.length_cons] at j1 ⊢
    have h1 := deed_LM (a := a) h j0 (by omega) gm (g d (List.mem_cons_self ..)) t1 t3
    have h2 := play_LM gm t1 t3 (ds := ds) h1 (by omega) (by omega) (fun x hx => g x (List.mem_cons_of_mem _ hx))
    have e : (playS a (d :: ds) ρ μ).2 = (playS a ds (deedS a d ρ μ).2.1 (deedS a d ρ μ).2.2).2 := rfl
    rw [e, show j + 3 * ((ds.length + 1 : Nat) : Int) = j + 3 + 3 * (ds.length : Int) by push_cast; omega]
    exact h2
theorem LS.mleft {ks : List Int} {P N : Pic} {j : Int} {cs : List (Option Int)} (h : LS ks P N j cs) : MLeft j cs := by
  obtain ⟨t, ht, h⟩ := h; exact ⟨t, ht, h.left⟩
theorem LM.ok {ks : List Int} {P N : Pic} {j : Int} {ρ : Option (Int × Str)} {μ : Mem} (h : LM ks P N j ρ μ) : MOk j ρ μ := by
  obtain ⟨up, lf, hs, run⟩ := h
  refine ⟨fun s w e => ?_, up, lf, hs.mleft⟩
  have hb := hs.mleft.book
  unfold bookOk at hb
  rcases run s w e with ⟨_, hs⟩ | ⟨_, hs, _⟩
  · rw [hs]; exact hb
  · rw [hs]; exact (other_slot hb).1
theorem LM.free {ks : List Int} {P N : Pic} {j : Int} {ρ : Option (Int × Str)} {μ : Mem} (h : LM ks P N j ρ μ) (hl : μ.left = none) : ∃ t, FM ks P N t j μ := by
  obtain ⟨t, ht, hS⟩ := h.st
  exact ⟨t, ht, h.up, hl, hS⟩
/-- a start with power tells of a good picture, the elder or the newer one -/
theorem start_good {a : Ma} {P N : Pic} {t j : Int} {ρ : Option (Int × Str)} {μ : Mem} (h : FM a.ks P N t j μ) (j0 : 0 ≤ j) (j1 : j ≤ 9000) :
    ∃ s v w ρ' μ' t', deedS a .start ρ μ = (startedD s v w, ρ', μ') ∧ FM a.ks P N t' (j + 3) μ' ∧ (s = 0 ∨ s = 1) ∧ (v = P.v ∨ v = N.v) ∧ judgedD μ'.cells a.ks s = .tuple [.str "good", .int v] := by
  by_cases hst : (bookedO μ.cells).2.1 = 1
  · have hb : bookedO μ.cells = (t, 1, (bookedO μ.cells).2.2) := by rw [← hst, ← h.st.booked]
    by_cases hl : 0 < (bookedO μ.cells).2.2
    · obtain ⟨μ', e, s⟩ := free_startT (ρ := ρ) ⟨h, hb⟩ hl j0 j1
      exact ⟨_, _, _, _, μ', t, e, s.1, (other_slot h.t01).1, .inr rfl, s.tN.judged (other_slot h.t01).1⟩
    · obtain ⟨μ', e, s, -⟩ := free_start0 (ρ := ρ) ⟨h, hb⟩ (by omega) j0 j1
      exact ⟨_, _, _, _, μ', t, e, s.1, h.t01, .inl rfl, s.2.2.judged h.t01⟩
  · rcases h.st.top with g | g
    · obtain ⟨μ', e, s, -⟩ := free_start (ρ := ρ) ⟨h, hst, g⟩
      exact ⟨_, _, _, _, μ', t, e, s.1.more (by omega), h.t01, .inl rfl, s.2.2.judged h.t01⟩
    · obtain ⟨μ', e, s, -⟩ := free_start (ρ := ρ) ⟨h, hst, g⟩
      exact ⟨_, _, _, _, μ', t, e, s.1.more (by omega), h.t01, .inr rfl, s.2.2.judged h.t01⟩
end Z

namespace Z
open PySem L2 PySem.W PyProof.Rows
section
variable {P : Program} {w : World} {K : PySem.W.Frag} {mg : Str → Option Value} {base : Heap}
/-- as okX, where a suite may call -/
theorem _root_.L2.Fun.okXN {x qual : Str} {st : Stmt} {f : Addr} {fd : FuncData} {N ps : List Str} {k : Nat} {sp : Sp} (F : Fun K x qual st f fd) (S : FnScope N ps (defScope st)) (len : ∀ vs H Q E, sp vs H Q E → vs.length = ps.length)
    (hbody : ∀ (cdv : Value) (A : Around) (outer : List Env) (s : Shared) (H : Hp) (vs : List V) (Q : VK) (E : XK), Room k (A.deeper (envOfC qual (defScope st) s.heap.objs.size f cdv)) → sp vs H Q E →
      ∃ t, PSs (cxOf (L2N.CX P w) P w K mg base N qual (defScope st) f cdv A outer s H E) (defBody st) t ∧ t { nx := fun _ H' => Q .non H', rt := Q } (start N vs) H) : FnOk P w K mg base (L2N.CX P w) (k + 1) f fd ps sp := by
  obtain ⟨oc, od, kV, doc, pm, an, cdv, ct, osl, rfl, lk, hcd⟩ := F.ex
  exact fn_of lk hcd S len fun A outer s H vs Q E hr hsp => hbody cdv A outer s H vs Q E hr hsp
end
/-! ## the book's state is steady or trial -/
def S01 (cs : List (Option Int)) : Prop := (bookedO cs).2.1 = 0 ∨ (bookedO cs).2.1 = 1
theorem S01.note {cs : List (Option Int)} {r : Rec} {tn : Str} (hl : 16 ≤ cs.length) (hb : bnd cs) (h : S01 cs) (hr : r.2.1 = 0 ∨ r.2.1 = 1) (n : Nat) : S01 (dueF tn n (noteW cs 4 r) cs) := by
  have h1 := next_nn hb 4
  rcases note_due (cs := cs) (i := 4) (n := n) (r := r) (t := tn) (by omega) (by omega) with ⟨h3, _⟩ | h3
  · unfold S01; rw [booked_new h3]; exact h
  · unfold S01 bookedO recordO; rw [h3]; exact hr
theorem S01.out {cs : List (Option Int)} {tn : Str} {ws : List Wr} (h : S01 cs) (ho : ∀ p ∈ ws, p.1 < 4 ∨ 16 ≤ p.1) (n : Nat) : S01 (dueF tn n ws cs) := by
  unfold S01; rw [booked_due ho]; exact h
theorem start_S01 {j : Int} {cs : List (Option Int)} {ks : List Int} {tn : Str} (h : MLeft j cs) (j0 : 0 ≤ j) (j1 : j ≤ 9000) (hs : S01 cs) (n : Nat) : S01 (dueF tn n (startF ks cs).1 cs) := by
  have hb := booked_ok h.bnd
  have ht := h.book
  have hl := h.len
  have hbd := h.bnd
  have s1 := h.pgn
  unfold bookOk at ht
  unfold startF
  generalize bookedO cs = b at hb ht
  obtain ⟨b0, b1, b2⟩ := b
  obtain ⟨h0, h1, h2⟩ := hb
  dsimp only at h0 h1 h2 ht
  have a1 : ∀ n, S01 (dueF tn n (stN1 (b0, b1, b2) cs) cs) := fun n => by
    unfold stN1
    split
    · exact hs.note (by omega) hbd (.inr rfl) n
    · exact due_nil hs n
  have m1 : MLeft (j + 1) (applyW (stN1 (b0, b1, b2) cs) cs) := due_last (t := tn) fun n => by
    unfold stN1
    split
    · rename_i z
      refine h.due ht j0 (by omega) ⟨h0, ⟨by dsimp only; omega, by dsimp only; omega⟩, ?_, ?_⟩ n
      · have := z.2; dsimp only at this ⊢; omega
      · dsimp only; omega
    · exact due_nil (h.more (by omega)) n
  by_cases hc : b1 = 1 ∧ 0 < b2 ∧ whyF cs ks (1 - b0) = ""
  · rw [startB_trial hc]
    have := a1 n
    unfold stN1 at this
    rw [if_pos ⟨hc.1, hc.2.1⟩] at this
    rw [List.append_nil]
    exact this
  · rw [startB_rest hc]
    have c1 : S01 (applyW (stN1 (b0, b1, b2) cs) cs) := due_last a1
    have a2 : ∀ n, S01 (dueF tn n (stN2 (b0, b1, b2) (applyW (stN1 (b0, b1, b2) cs) cs)) (applyW (stN1 (b0, b1, b2) cs) cs)) := fun n => by
      unfold stN2
      split
      · exact c1.note (by have := m1.len; omega) m1.bnd (.inl rfl) n
      · exact due_nil c1 n
    have m2 : MLeft (j + 2) (applyW (stN2 (b0, b1, b2) (applyW (stN1 (b0, b1, b2) cs) cs)) (applyW (stN1 (b0, b1, b2) cs) cs)) := due_last (t := tn) fun n => by
      unfold stN2
      split
      · exact (m1.due ht (by omega) (by omega) ⟨h0, ⟨by dsimp only; omega, by dsimp only; omega⟩, ⟨by dsimp only; omega, by dsimp only; omega⟩⟩ n).more (by omega)
      · exact due_nil (m1.more (by omega)) n
    refine due_all a1 (fun n => due_all a2 (fun n => ?_) n) n
    unfold restW
    split
    · exact due_nil (due_last a2) n
    · split
      · exact (due_last a2).note (by have := m2.len; omega) m2.bnd (.inl rfl) n
      · exact due_nil (due_last a2) n
theorem upd_S01 {ks : List Int} {tries t j : Int} {mn : Man} {ss : List (List Row)} {cs : List (Option Int)} {tn : Str} (ht : t = 0 ∨ t = 1) (h : Left t j cs) (j0 : 0 ≤ j) (j1 : j ≤ 9000) (gm : gman mn) (gs : gStores ss) (hs : S01 cs) (n : Nat) : S01 (dueF tn n (updW ks tries mn ss cs) cs) := by
  by_cases hr : refB t cs ks mn = ""
  · obtain ⟨hl, hbd, hte, hpg⟩ := h
    have hbt := tells_booked hte
    have hso := (other_slot ht).1
    have hsb := slotB_b hso
    have hbo : (bookedO cs).1 = 0 ∨ (bookedO cs).1 = 1 := by rw [hbt]; exact ht
    obtain ⟨e1, e2, e3⟩ := upd_end (b := bookedO cs) (ks := ks) (mn := mn) (ss := ss) hl hbd rfl hbo hpg j0 j1 (by rw [hbt]; exact refB_good hr) gm gs
    unfold updW updWb
    rw [hbt, if_neg (fun z => z hr)]
    have p1 : ∀ n, S01 (dueF tn n (updN (bookedO cs) cs) cs) := fun n => by
      unfold updN
      split
      · exact hs.note (by omega) hbd (.inl rfl) n
      · exact due_nil hs n
    have p2 := fun n => (due_last p1).out (tn := tn) (fun p hp => .inr (openW_16 (cs := applyW (updN (bookedO cs) cs) cs) hso p hp)) n
    have hC : applyW (openW (1 - t) (applyW (updN (bookedO cs) cs) cs)) (applyW (updN (bookedO cs) cs) cs) = updC (bookedO cs) cs := by unfold updC; rw [hbt]
    refine due_all p1 (fun n => due_all p2 (fun n => ?_) n) n
    have q2 := due_last p2
    rw [hC] at q2 ⊢
    have hfit := gm.fits hso
    have r16 : ∀ p ∈ (updR (bookedO cs) mn ss cs).1, p.1 < 4 ∨ 16 ≤ p.1 := fun p hp => by
      unfold updR at hp; rw [hbt] at hp
      have := (layF_at gs (known_b hbd t) hfit p hp).1
      omega
    have p3 := fun n => q2.out (tn := tn) r16 n
    refine due_all p3 (fun n => ?_) n
    split
    · exact due_nil (due_last p3) n
    · unfold updE thenW
      have p4 := fun n => (due_last p3).out (tn := tn) (ws := closeW (1 - (bookedO cs).1) mn.h (applyW (updR (bookedO cs) mn ss cs).1 (updC (bookedO cs) cs))) (fun p hp => by
        have := closeW_at (by rfl) p hp
        rw [hbt] at this; omega) n
      refine due_all p4 (fun n => ?_) n
      exact (due_last p4).note (by rw [applyW_len]; omega) e2 (.inr rfl) n
  · rw [(upd_none h hr).1]
    exact due_nil hs n
theorem ranS_S01 {ws : List Wr} {ρ : Option (Int × Str)} {D : PyData} {μ : Mem} (lf : ∀ n, μ.left = some n → 0 ≤ n) (h : ∀ n, S01 (dueF μ.torn n ws μ.cells)) : S01 (ranS ws ρ D μ).2.2.cells := by
  obtain ⟨n, e, _⟩ := run_due' (ws := ws) lf
  have hl := h n
  rw [← e] at hl
  unfold ranS
  split <;> exact hl
theorem deed_S01 {a : Ma} {j : Int} {ρ : Option (Int × Str)} {μ : Mem} {d : Deed} (h : MOk j ρ μ) (j0 : 0 ≤ j) (j1 : j ≤ 9000) (gd : gDeed d) (hs : S01 μ.cells) : S01 (deedS a d ρ μ).2.2.cells := by
  have hl := h.left.len
  have hb := h.left.bnd
  cases d with
  | start => exact ranS_S01 h.lf (start_S01 h.left j0 j1 hs)
  | yes =>
    refine ranS_S01 h.lf fun n => ?_
    unfold yesF
    split
    · exact due_nil hs n
    · split
      · exact hs.note (by omega) hb (.inl rfl) n
      · exact due_nil hs n
  | double =>
    refine ranS_S01 h.lf fun n => ?_
    unfold dblM
    split
    · exact due_nil hs n
    · split
      · exact hs.out (fun p hp => (doubleW_ok hl h.left.book hb p hp).1) n
      · exact due_nil hs n
  | update mn ss =>
    refine ranS_S01 h.lf fun n => ?_
    unfold updM
    split
    · exact due_nil hs n
    · split
      · obtain ⟨t, ht, hL⟩ := h.left
        exact upd_S01 ht hL j0 j1 gd.1 gd.2 hs n
      · exact due_nil hs n
  | cut n t => exact hs
  | spoil s i w =>
    show S01 (μ.cells.set (slotB s + i).toNat w)
    have hk : 16 ≤ (slotB s + i).toNat := by rcases gd.1 with rfl | rfl <;> have := gd.2.1 <;> simp [slotB] <;> omega
    unfold S01
    rw [booked_new (cs := μ.cells) (by
      unfold newestO
      rw [page_same (cs := μ.cells) (cs' := μ.cells.set (slotB s + i).toNat w) (j := 4) fun k h1 h2 => List.getElem?_set_ne (by omega), page_same (cs := μ.cells) (cs' := μ.cells.set (slotB s + i).toNat w) (j := 4 + 6) fun k h1 h2 => List.getElem?_set_ne (by omega)])]
    exact hs
theorem play_S01 {a : Ma} (t1 : 1 ≤ a.t) (t3 : a.t ≤ 3) : ∀ {ds : List Deed} {j : Int} {ρ : Option (Int × Str)} {μ : Mem}, MOk j ρ μ → 0 ≤ j → j + 3 * ds.length ≤ 9000 → (∀ d ∈ ds, gDeed d) → S01 μ.cells → S01 (playS a ds ρ μ).2.2.cells
  | [], j, ρ, μ, h, j0, j1, g, hs => hs
  | d :: ds, j, ρ, μ, h, j0, j1, g, hs => by
    simp only [List.length_cons] at j1
    have h1 := deed_ok (a := a) h j0 (by omega) (g d (List.mem_cons_self ..)) t1 t3
    exact play_S01 t1 t3 (ds := ds) h1 (by omega) (by omega) (fun x hx => g x (List.mem_cons_of_mem _ hx)) (deed_S01 h j0 (by omega) (g d (List.mem_cons_self ..)) hs)
/-! ## a machine from the factory, led over -/
theorem mach_pic {ks : List Int} {p : Pic} (gg : gk ks) (hp : gp ks p) {s : Int} (hs : s = 0 ∨ s = 1) : PicAt ks s p (machC ks p) :=
  ⟨head_of_slot hs (machC_len ks p) (mach_slot (ks := ks) hp.2.2.2.1 hs) (by rw [slotRow_len]; omega), mach_good gg hp hs⟩
theorem fac_std {ks : List Int} {P N : Pic} (gg : gk ks) (hp : gp ks P) : Std ks P N P 0 9 (Mem.of (machC ks P)) := by
  have hb := mach_book (ks := ks) (p := P)
  refine ⟨⟨.inl rfl, rfl, rfl, (FacC.mach gg hp).left, .inl (mach_pic gg hp (.inl rfl)), fun _ => .inl (mach_pic gg hp (.inr rfl)), fun z => ?_⟩, ?_, mach_pic gg hp (.inl rfl)⟩
  · have z : (bookedO (machC ks P)).2.1 = 1 := z
    rw [hb] at z; exact absurd z (by decide)
  · show (bookedO (machC ks P)).2.1 ≠ 1
    rw [hb]; decide
theorem fac_S01 {ks : List Int} {P : Pic} : S01 (machC ks P) := by unfold S01; rw [mach_book]; exact .inl rfl
theorem fac_ok {ks : List Int} {P : Pic} (gg : gk ks) (hp : gp ks P) : MOk 9 none (Mem.of (machC ks P)) :=
  ((fac_std (N := P) gg hp).1.lm RunI.none).ok
def fiveD (mn : Man) (ss : List (List Row)) : List Deed := [.start, .update mn ss, .start, .yes, .double]
section
variable {a : Ma} {P N X : Pic} {t j l : Int} {ρ : Option (Int × Str)} {μ : Mem} {ss : List (List Row)}
theorem five_is (gg : gk a.ks) (hN : gp a.ks N) (hn : P.n ≤ N.n) (hv : P.v < N.v) (gs : gStores ss) (ha : hasAll ss (manOf a.ks N).ts) (t1 : 1 ≤ a.t) (t3 : a.t ≤ 3) (h : Std a.ks P N P t j μ) (j0 : 0 ≤ j) (j1 : j + 18 ≤ 9000) :
    ∃ x y z n μ', playS a (fiveD (manOf a.ks N) ss) ρ μ = ([startedD t P.v "trusted", .tuple [.str "laid", .int x, .int y, .int z], startedD (1 - t) N.v "trial", .tuple [.str "yes"], .tuple [.str "doubled", .int n]], some (1 - t, ("trusted" : Str)), μ') ∧
    LedN a P N (1 - t) (j + 12) (some (1 - t, ("trusted" : Str))) μ' ∧ bookedO μ'.cells = (1 - t, 0, 0) := by
  obtain ⟨μ1, e1, s1, c1, m1⟩ := free_start (ρ := ρ) h
  obtain ⟨μ2, x, y, z, e2, s2⟩ := free_upd (w := "trusted") gg hN hn hv gs ha t1 t3 s1 j0 (by omega)
  obtain ⟨μ3, e3, s3⟩ := free_startT (ρ := some (t, ("trusted" : Str))) s2 (by omega) (by omega) (by omega)
  obtain ⟨μ4, e4, s4, b4⟩ := free_yes s3 (by omega) (by omega)
  obtain ⟨μ6, n, e6, s6, o6, f6, g6, b6⟩ := free_dbl (w := "trusted") s4 (.inr rfl)
  refine ⟨x, y, z, n, μ6, ?_, ⟨s6.more (by omega), o6, f6, g6, rfl⟩, by rw [b6, b4]⟩
  unfold fiveD
  rw [playS_step e1, playS_step e2, playS_step e3, playS_step e4, playS_step e6]
  rfl
theorem five_deeds (gm : gman (manOf a.ks N)) (gs : gStores ss) : ∀ d ∈ fiveD (manOf a.ks N) ss, gDeed d ∧ lDeed a.ks N d ∧ plainR d := fun d hd => by
  simp only [fiveD, List.mem_cons, List.not_mem_nil, or_false] at hd
  rcases hd with rfl | rfl | rfl | rfl | rfl
  all_goals first | exact ⟨trivial, trivial, trivial⟩ | exact ⟨⟨gm, gs⟩, ⟨rfl, gs⟩, trivial⟩
/-- a cut that comes in the leading; then a start -/
theorem cut_led (gg : gk a.ks) (hP : gp a.ks P) (hN : gp a.ks N) (gs : gStores ss) (t1 : 1 ≤ a.t) (t3 : a.t ≤ 3) {n : Nat} {tn : Str} (htn : tn = "old" ∨ tn = "broken" ∨ tn = "new") (hn : (n : Int) < (playS a (fiveD (manOf a.ks N) ss) none (Mem.of (machC a.ks P))).2.2.many) :
    ∃ rs ρ' μ', playS a (.cut n tn :: fiveD (manOf a.ks N) ss) none (Mem.of (machC a.ks P)) = (rs, ρ', μ') ∧ PyData.tuple [.str "stopped"] ∈ rs ∧ LM a.ks P N 30 ρ' μ' ∧ μ'.left = none ∧ S01 μ'.cells := by
  have gm := manOf_ok gg hN
  have hd := five_deeds (a := a) gm gs
  have h5 : (fiveD (manOf a.ks N) ss).length = 5 := rfl
  have hm0 : (Mem.of (machC a.ks P)).many = 0 := rfl
  have hfo := fac_ok gg hP
  have hfm := (fac_std (N := N) gg hP).1.lm RunI.none
  have h0 := fac_S01 (ks := a.ks) (P := P)
  have l0 : (Mem.of (machC a.ks P)).left = none := rfl
  have s0 : S01 (Mem.of (machC a.ks P)).cells := h0
  generalize Mem.of (machC a.ks P) = μ at *
  generalize fiveD (manOf a.ks N) ss = ds at *
  have hst := play_many (a := a) t1 t3 (ds := ds) hfo (by decide) (by rw [h5]; decide) (fun d h => (hd d h).2.2) (fun d h => (hd d h).1) l0
  rw [hm0, h5] at hst
  have gc : gDeed (.cut n tn) := ⟨by omega, by omega, htn⟩
  have hs := play_stop (a := a) (ds := ds) (ρ := none) (μ := { μ with left := some (n : Int), torn := tn }) (μ0 := μ) (n := n) (fun d h => (hd d h).2.2) rfl l0 rfl (by rw [hm0]; omega)
  have h6 : (Deed.cut n tn :: ds).length = 6 := by rw [List.length_cons, h5]
  have hl := play_LM (a := a) gm t1 t3 (ds := .cut n tn :: ds) hfm (by decide) (by rw [h6]; decide) (fun d h => by
    rcases List.mem_cons.mp h with rfl | h
    · exact gc
    · exact (hd d h).2.1)
  have h01 := play_S01 (a := a) t1 t3 (ds := .cut n tn :: ds) hfo (by decide) (by rw [h6]; decide) (fun d h => by
    rcases List.mem_cons.mp h with rfl | h
    · exact gc
    · exact (hd d h).1) s0
  have e0 : deedS a (.cut n tn) none μ = (.none, none, { μ with left := some (n : Int), torn := tn }) := rfl
  rw [playS_step e0] at hl h01 ⊢
  refine ⟨_, _, _, rfl, List.mem_cons_of_mem _ hs.1, ?_, hs.2, h01⟩
  obtain ⟨u, l, s, r⟩ := hl
  exact ⟨u, l, s.more (by rw [h6]; decide), r⟩
end
theorem deedS_congr {a a' : Ma} (h1 : a.ks = a'.ks) (h2 : a.t = a'.t) (d : Deed) (ρ : Option (Int × Str)) (μ : Mem) : deedS a d ρ μ = deedS a' d ρ μ := by
  cases a; cases a'
  dsimp only at h1 h2
  subst h1 h2
  cases d <;> rfl
theorem playS_congr {a a' : Ma} (h1 : a.ks = a'.ks) (h2 : a.t = a'.t) : ∀ (ds : List Deed) (ρ : Option (Int × Str)) (μ : Mem), playS a ds ρ μ = playS a' ds ρ μ
  | [], ρ, μ => rfl
  | d :: ds, ρ, μ => by
    show ((deedS a d ρ μ).1 :: (playS a ds (deedS a d ρ μ).2.1 (deedS a d ρ μ).2.2).1, (playS a ds (deedS a d ρ μ).2.1 (deedS a d ρ μ).2.2).2) = ((deedS a' d ρ μ).1 :: (playS a' ds (deedS a' d ρ μ).2.1 (deedS a' d ρ μ).2.2).1, (playS a' ds (deedS a' d ρ μ).2.1 (deedS a' d ρ μ).2.2).2)
    rw [deedS_congr h1 h2, playS_congr h1 h2 ds]
/-! ## what deeds tell, laid in the heap -/
section
variable {K : PySem.W.Frag} {M : List Addr} {H : Hp} {Q : VK} {d : PyData} {ds : List PyData} {v u : V} {neg : Bool} {X : Cx}
def rInL (K : PySem.W.Frag) (neg : Bool) : R2 := fun x y H Q => ∃ d ds, Dp K H x d ∧ Dp K H y (.list ds) ∧ SeqAt.shaped d = true ∧ PyData.canLayAll0 ds = true ∧ Q (.bl (if neg then !ds.any fun z => PyData.eqv z d else ds.any fun z => PyData.eqv z d)) H
theorem op_inL (hu : X.A.units + 65 < cLine) : OpR X (compareOp .In) (rInL X.K false) := by
  intro pins s σ H x y v u Q I rx ry h
  obtain ⟨d, ds, hd, he, sd, se, q⟩ := h
  obtain ⟨as, r1⟩ := Dp.reads I d x v hd rx
  obtain ⟨bs, r2⟩ := Dp.reads I (.list ds) y u he ry
  exact SeqAt.in_list_reads r2 r1 se (SeqAt.canLay_of_shaped sd) (PyProof.Rows.room_in_shaped sd hu) ⟨.bl _, H, I, rfl, q⟩
theorem op_notInL (hu : X.A.units + 65 < cLine) : OpR X (compareOp .NotIn) (rInL X.K true) := by
  intro pins s σ H x y v u Q I rx ry h
  obtain ⟨d, ds, hd, he, sd, se, q⟩ := h
  obtain ⟨as, r1⟩ := Dp.reads I d x v hd rx
  obtain ⟨bs, r2⟩ := Dp.reads I (.list ds) y u he ry
  exact SeqAt.notIn_list_reads r2 r1 se (SeqAt.canLay_of_shaped sd) (PyProof.Rows.room_in_shaped sd hu) ⟨.bl _, H, I, rfl, q⟩
theorem b_inL (hu : X.A.units + 65 < cLine) (e : X.K = K := by rfl) : OpR X (compareOp .In) (rInL K false) := by subst e; exact op_inL hu
theorem b_notInL (hu : X.A.units + 65 < cLine) (e : X.K = K := by rfl) : OpR X (compareOp .NotIn) (rInL K true) := by subst e; exact op_notInL hu
theorem d_inL (h1 : Dt K M H d v) (h2 : Dt K M H (.list ds) u) (s1 : SeqAt.shaped d = true) (s2 : PyData.canLayAll0 ds = true) (q : Q (.bl (if neg then !ds.any fun z => PyData.eqv z d else ds.any fun z => PyData.eqv z d)) H) : rInL K neg v u H Q := ⟨d, ds, h1.dp, h2.dp, s1, s2, q⟩
theorem any_mem (h : d ∈ ds) (s : SeqAt.shaped d = true) : (ds.any fun z => PyData.eqv z d) = true :=
  List.any_eq_true.mpr ⟨d, h, SeqAt.eqv_refl d (SeqAt.canLay_of_shaped s)⟩
end
theorem layAll : ∀ {ds : List PyData}, (∀ d ∈ ds, PyData.canLay0 d = true) → PyData.canLayAll0 ds = true
  | [], _ => rfl
  | d :: ds, h => by
    simp only [PyData.canLayAll0, Bool.and_eq_true]
    exact ⟨h d (List.mem_cons_self ..), layAll fun x hx => h x (List.mem_cons_of_mem _ hx)⟩
theorem lay_word {w : Str} {ds : List PyData} (h : PyData.strOk w = true) (hd : PyData.canLayAll0 ds = true) : PyData.canLay0 (.tuple (.str w :: ds)) = true := by
  simp only [PyData.canLay0, PyData.canLayAll0, Bool.and_eq_true]
  exact ⟨h, hd⟩
theorem lay_started (s v : Int) {w : Str} (h : PyData.strOk w = true) : PyData.canLay0 (startedD s v w) = true := by
  refine lay_word (by decide +kernel) ?_
  simp only [PyData.canLay0, PyData.canLayAll0, Bool.and_eq_true]
  simp [h]
theorem lay_judged (cs : List (Option Int)) (ks : List Int) {s : Int} (hs : s = 0 ∨ s = 1) : PyData.canLay0 (judgedD cs ks s) = true := SeqAt.canLay_of_shaped (judged_shaped cs ks hs)
theorem strOk_refB (t : Int) (cs : List (Option Int)) (ks : List Int) (m : Man) : PyData.strOk (refB t cs ks m) = true := by
  rcases refB_word (t := t) (cs := cs) (ks := ks) (m := m) with h | h | h | h | h <;> rw [h] <;> decide +kernel
theorem lay_start (ks : List Int) (cs : List (Option Int)) : PyData.canLay0 (startF ks cs).2.1 = true := by
  unfold startF startB
  split
  · exact lay_started _ _ (by decide +kernel)
  · split
    · exact lay_started _ _ (by decide +kernel)
    · split
      · exact lay_started _ _ (by decide +kernel)
      · refine lay_word (by decide +kernel) ?_
        simp only [PyData.canLay0, PyData.canLayAll0, Bool.and_eq_true]
        simp [strOk_why]
theorem lay_upd (ks : List Int) (mn : Man) (ss : List (List Row)) (cs : List (Option Int)) : PyData.canLay0 (updD ks mn ss cs) = true := by
  unfold updD updDb
  split
  · exact lay_word (strOk_refB _ _ _ _) rfl
  · split
    · exact lay_word (by decide +kernel) rfl
    · refine lay_word (by decide +kernel) (layAll fun d hd => ?_)
      obtain ⟨n, -, rfl⟩ := List.mem_map.mp hd
      rfl
theorem lay_dbl (ks : List Int) (cs : List (Option Int)) : PyData.canLay0 (doubleD ks cs) = true := by
  unfold doubleD doubleDb
  split
  · exact lay_word (by decide +kernel) rfl
  · refine lay_word (by decide +kernel) ?_
    simp only [PyData.canLayAll0, PyData.canLay0, Bool.and_true]
    split
    · decide +kernel
    · exact strOk_why _ _ _
theorem lay_ranS {ws : List Wr} {ρ : Option (Int × Str)} {D : PyData} {μ : Mem} (h : PyData.canLay0 D = true) : PyData.canLay0 (ranS ws ρ D μ).1 = true := by
  unfold ranS
  split
  · exact h
  · exact lay_word (by decide +kernel) rfl
theorem lay_deed (a : Ma) (d : Deed) (ρ : Option (Int × Str)) (μ : Mem) : PyData.canLay0 (deedS a d ρ μ).1 = true := by
  cases d with
  | start => exact lay_ranS (lay_start _ _)
  | yes =>
    refine lay_ranS ?_
    unfold yesF
    split
    · exact lay_word (by decide +kernel) rfl
    · split <;> exact lay_word (by decide +kernel) rfl
  | double =>
    refine lay_ranS ?_
    unfold dblM
    split
    · exact lay_word (by decide +kernel) rfl
    · split
      · exact lay_dbl _ _
      · exact lay_word (by decide +kernel) rfl
  | update mn ss =>
    refine lay_ranS ?_
    unfold updM
    split
    · exact lay_word (by decide +kernel) rfl
    · split
      · exact lay_upd _ _ _ _
      · exact lay_word (by decide +kernel) rfl
  | cut n t => rfl
  | spoil s i w => rfl
theorem lay_play (a : Ma) : ∀ (ds : List Deed) (ρ : Option (Int × Str)) (μ : Mem), PyData.canLayAll0 (playS a ds ρ μ).1 = true
  | [], _, _ => rfl
  | d :: ds, ρ, μ => by
    show PyData.canLayAll0 ((deedS a d ρ μ).1 :: (playS a ds (deedS a d ρ μ).2.1 (deedS a d ρ μ).2.2).1) = true
    simp only [PyData.canLayAll0, Bool.and_eq_true]
    exact ⟨lay_deed a d ρ μ, lay_play a ds _ _⟩
abbrev goodD (v : Int) : PyData := .tuple [.str "good", .int v]
/-! ## what is told is no stranding -/
def notStr (D : PyData) : Prop := D = .none ∨ ∃ (w : Str) (xs : List PyData), D = .tuple (.str w :: xs) ∧ w ≠ "stranded"
theorem notStr.w {w : Str} {xs : List PyData} (h : w ≠ "stranded") : notStr (.tuple (.str w :: xs)) := .inr ⟨w, xs, rfl, h⟩
theorem ranS_notStr {ws : List Wr} {ρ : Option (Int × Str)} {D : PyData} {μ : Mem} (h : notStr D) : notStr (ranS ws ρ D μ).1 := by
  unfold ranS
  split
  · exact h
  · exact notStr.w (by decide)
theorem upd_notStr (ks : List Int) (mn : Man) (ss : List (List Row)) (cs : List (Option Int)) : notStr (updD ks mn ss cs) := by
  unfold updD updDb
  split
  · refine notStr.w ?_
    rcases refB_word (t := (bookedO cs).1) (cs := cs) (ks := ks) (m := mn) with h | h | h | h | h <;> rw [h] <;> decide
  · split
    · exact notStr.w (by decide)
    · exact notStr.w (by decide)
theorem dbl_notStr (ks : List Int) (cs : List (Option Int)) : notStr (doubleD ks cs) := by
  unfold doubleD doubleDb
  split <;> exact notStr.w (by decide)
/-- but for a start -/
theorem deed_notStr {a : Ma} {ρ : Option (Int × Str)} {μ : Mem} {d : Deed} (h : notStr (startF a.ks μ.cells).2.1) : notStr (deedS a d ρ μ).1 := by
  cases d with
  | start => exact ranS_notStr h
  | yes =>
    refine ranS_notStr ?_
    unfold yesF
    split
    · exact notStr.w (by decide)
    · split <;> exact notStr.w (by decide)
  | double =>
    refine ranS_notStr ?_
    unfold dblM
    split
    · exact notStr.w (by decide)
    · split
      · exact dbl_notStr _ _
      · exact notStr.w (by decide)
  | update mn ss =>
    refine ranS_notStr ?_
    unfold updM
    split
    · exact notStr.w (by decide)
    · split
      · exact upd_notStr _ _ _ _
      · exact notStr.w (by decide)
  | cut n t => exact .inl rfl
  | spoil s i w => exact .inl rfl
theorem LS.notStr {ks : List Int} {P N : Pic} {j : Int} {cs : List (Option Int)} (h : LS ks P N j cs) : notStr (startF ks cs).2.1 := by
  obtain ⟨t, ht, h⟩ := h
  rw [start_is h]
  split
  · split <;> exact notStr.w (by decide)
  · exact notStr.w (by decide)
theorem play_notStr {a : Ma} {P N : Pic} (gm : gman (manOf a.ks N)) (t1 : 1 ≤ a.t) (t3 : a.t ≤ 3) : ∀ {ds : List Deed} {j : Int} {ρ : Option (Int × Str)} {μ : Mem}, LM a.ks P N j ρ μ → 0 ≤ j → j + 3 * ds.length ≤ 9000 → (∀ d ∈ ds, lDeed a.ks N d) → ∀ D ∈ (playS a ds ρ μ).1, notStr D
  | [], j, ρ, μ, h, j0, j1, g => fun D hD => by cases hD
  | d :: ds, j, ρ, μ, h, j0, j1, g => by
    simp only [List.length_cons] at j1
    have h1 := deed_LM (a := a) h j0 (by omega) gm (g d (List.mem_cons_self ..)) t1 t3
    intro D hD
    rcases List.mem_cons.mp (show D ∈ (deedS a d ρ μ).1 :: (playS a ds (deedS a d ρ μ).2.1 (deedS a d ρ μ).2.2).1 from hD) with rfl | hD
    · exact deed_notStr h.st.notStr
    · exact play_notStr gm t1 t3 (ds := ds) h1 (by omega) (by omega) (fun x hx => g x (List.mem_cons_of_mem _ hx)) D hD
theorem LM.up' {ks : List Int} {P N : Pic} {j : Int} {ρ : Option (Int × Str)} {μ : Mem} (h : LM ks P N j ρ μ) : LM ks P N j none { μ with up := true, left := none } := ⟨rfl, fun _ z => (by cases z), h.st, RunI.none⟩
theorem LM.more {ks : List Int} {P N : Pic} {j k : Int} {ρ : Option (Int × Str)} {μ : Mem} (h : LM ks P N j ρ μ) (hk : j ≤ k) : LM ks P N k ρ μ := ⟨h.up, h.lf, h.st.more hk, h.run⟩
/-- the trusted slot is good -/
theorem LS.good {ks : List Int} {P N : Pic} {j : Int} {cs : List (Option Int)} (h : LS ks P N j cs) : ((bookedO cs).1 = 0 ∨ (bookedO cs).1 = 1) ∧ ∃ v, judgedD cs ks (bookedO cs).1 = goodD v := by
  obtain ⟨t, ht, h⟩ := h
  rw [h.booked]
  refine ⟨ht, ?_⟩
  rcases h.top with g | g
  · exact ⟨_, g.judged ht⟩
  · exact ⟨_, g.judged ht⟩
theorem start_run_at {a : Ma} {ρ ρ' : Option (Int × Str)} {μ μ' : Mem} {D : PyData} {P N : Pic} {j : Int} (h : LM a.ks P N j ρ μ) (j0 : 0 ≤ j) (j1 : j ≤ 8000) (gm : gman (manOf a.ks N)) (t1 : 1 ≤ a.t) (t3 : a.t ≤ 3) (hs : S01 μ.cells) (e : deedS a .start ρ μ = (D, ρ', μ')) : LM a.ks P N (j + 3) ρ' μ' ∧ S01 μ'.cells := by
  have h1 := deed_LM (a := a) (d := .start) h j0 (by omega) gm trivial t1 t3
  have h2 := deed_S01 (a := a) (d := .start) h.ok j0 (by omega) trivial hs
  rw [e] at h1 h2
  exact ⟨h1, h2⟩
section
variable {K : PySem.W.Frag} {M : List Addr} {H : Hp} {ds : List PyData} {p : Addr} {te : TE} {tt : TT} {σ : L2.St} {Q : VK} {j : Nat}
/-- [e for x in list if ..], of which none is -/
theorem lc_noneL (h : Dt K M H (.list ds) (.ref p)) (ht : ∀ d x H' Q', d ∈ ds → Dt K M H' d x → Q' false H' → tt ((σ.set j none).set j (some x)) H' Q') (k : ∀ D, H D = none → Q (.ref D) (upd H D (.lst []))) : LcO (gName j) tt te [j] σ Q (Itl K p) H := by
  intro D hD
  obtain ⟨vs, s, r⟩ := h.lst
  have f : Fr M H (upd H D (.lst [])) := Fr.new hD
  refine lc_list (xs := vs) (fun _ H' => H' = upd H D (.lst [])) rfl (fun i H' _ e => by rw [e]; exact (s.mono f).1) ?_ ?_
  · rintro i x H' hi rfl
    refine ⟨wipe_one _, ?_⟩
    have hj := (List.getElem?_eq_some_iff.mp hi).1
    rw [r.len] at hj
    obtain ⟨d, hdd⟩ := at_lt hj
    obtain ⟨v, hv, w⟩ := r.at hdd
    rw [hi] at hv; cases hv
    refine ht d x _ _ (List.mem_of_getElem? hdd) (w.mono f) ?_
    rw [if_neg Bool.false_ne_true]
  · rintro H' rfl
    exact k D hD
end
/-! ## never stranded -/
theorem judged_top {cs : List (Option Int)} {ks : List Int} {s : Int} (hs : s = 0 ∨ s = 1) (h : whyF cs ks s = "") : judgedD cs ks s = goodD (topV cs s) ∧ floorO cs 0 ≤ topV cs s := by
  obtain ⟨v, many, one, two, n, sl, e, h1, h2, h3, h4, h5, h6, h7⟩ := good_inv h
  have ht : topV cs s = v := by unfold topV; rw [e]; rfl
  rw [ht]
  exact ⟨judged_is hs h e, h7⟩
/-- what lies in a good slot is a picture -/
theorem good_pic {cs : List (Option Int)} {ks : List Int} {s : Int} (gg : gk ks) (hl : cs.length = 54) (hs : s = 0 ∨ s = 1) (h : whyF cs ks s = "") : ∃ X, PicAt ks s X cs := by
  obtain ⟨v, many, one, two, n, sl, ns, e, h1, h2, h3, h4, h5, h6, h7, h8, h9⟩ := good_parts hl hs h
  have hm : (ns.length : Int) = many := by omega
  have hk := gg.1
  refine ⟨⟨v, ns, n⟩, ?_, h⟩
  have hp : plainF ⟨v, ns, n⟩ = [v, many, one, two, n] := by
    unfold plainF
    dsimp only
    rw [h5, hm]
  have hkey : keyOf ks ⟨v, ns, n⟩ = ks.getD n.toNat 0 := by
    unfold keyOf
    dsimp only
    have hlt : n.toNat < ks.length := by omega
    rw [List.getD_eq_getElem?_getD, List.getD_eq_getElem?_getD, List.getElem?_eq_getElem hlt]
    rfl
  rw [e]
  unfold headP
  rw [hp, hkey, h8]
  dsimp only
  rw [h5, hm]
/-- a slot that is good stays so if its cells and the floors do -/
theorem good_keep {cs cs' : List (Option Int)} {ks : List Int} {s : Int} (hs : s = 0 ∨ s = 1) (h4 : ∀ k, k < 4 → cs'[k]? = cs[k]?) (h19 : ∀ k, (slotB s).toNat ≤ k → k < (slotB s).toNat + 19 → cs'[k]? = cs[k]?) (h : whyF cs ks s = "") : whyF cs' ks s = "" := by
  obtain ⟨v, many, one, two, n, sl, e, h1, h2, h3, h5, h6, h7, h8⟩ := good_inv h
  have hb := slotB_b hs
  have hh : headL cs' s = headL cs s := by unfold headL; exact row_ext fun k k1 k2 => h19 k (by omega) (by omega)
  have hp : partsL cs' s many = partsL cs s many := by unfold partsL; exact row_ext fun k k1 k2 => h19 k (by omega) (by omega)
  have hf : ∀ i : Nat, i < 3 → floorO cs' i = floorO cs i := fun i hi => by
    unfold floorO
    rw [List.getD_eq_getElem?_getD, List.getD_eq_getElem?_getD, h4 i (by omega), h4 (i + 1) (by omega), ← List.getD_eq_getElem?_getD, ← List.getD_eq_getElem?_getD]
  exact good_mk (by rw [hh]; exact e) h1 h2 (by rw [hp]; exact h3) (by rw [hf 2 (by decide)]; exact h5) h6 h7 (by rw [hf 0 (by decide)]; exact h8)
theorem floor_up {cs : List (Option Int)} {i : Nat} {n : Int} {tn : Str} {k : Nat} (hl : i + 2 ≤ cs.length) (h : 1 ≤ floorO cs i) : floorO cs i ≤ floorO (dueF tn k (raiseW cs i n) cs) i := by
  unfold raiseW
  split
  · have key : ∀ w : Option Int, (w = none ∨ w = some n) → floorO cs i ≤ floorO (cs.set (i + posF (cs.getD i none) (cs.getD (i + 1) none)) w) i := fun w hw => by
      unfold floorO at h ⊢
      by_cases hz : (cs.getD (i + 1) none).getD (-1) < (cs.getD i none).getD (-1)
      · have e : posF (cs.getD i none) (cs.getD (i + 1) none) = 1 := by unfold posF; rw [if_pos hz]
        rw [e, getD_setN (by omega), getD_setS (by omega)]
        generalize cs.getD i none = x at *
        generalize cs.getD (i + 1) none = y at *
        rcases hw with rfl | rfl <;> cases x <;> cases y <;> simp [countF] at h hz ⊢ <;> omega
      · have e : posF (cs.getD i none) (cs.getD (i + 1) none) = 0 := by unfold posF; rw [if_neg hz]
        rw [e, show i + 0 = i from rfl, getD_setS (by omega), getD_setN (by omega)]
        generalize cs.getD i none = x at *
        generalize cs.getD (i + 1) none = y at *
        rcases hw with rfl | rfl <;> cases x <;> cases y <;> simp [countF] at h hz ⊢ <;> omega
    rcases due_one (cs := cs) (tn := tn) (n := k) (p := (i + posF (cs.getD i none) (cs.getD (i + 1) none), n)) with e | e | e
    · rw [e]; exact Int.le_refl _
    · rw [e]; exact key _ (.inl rfl)
    · rw [e]; exact key _ (.inr rfl)
  · exact due_nil (P := fun c => floorO cs i ≤ floorO c i) (Int.le_refl _) k
theorem raiseW_mem {cs : List (Option Int)} {i : Nat} {n : Int} : ∀ p ∈ raiseW cs i n, p.1 = i ∨ p.1 = i + 1 := fun p hp => by
  unfold raiseW at hp
  split at hp
  · rw [List.mem_singleton.mp hp]
    dsimp only
    unfold posF
    split <;> omega
  · cases hp
theorem note_book (cs : List (Option Int)) (r : Rec) : ∀ p ∈ noteW cs 4 r, 4 ≤ p.1 ∧ p.1 < 16 := fun p hp => by
  have h1 := noteW_at _ _ _ p hp
  have h2 := pages_in cs 4
  omega
theorem start_book (ks : List Int) (cs : List (Option Int)) : ∀ p ∈ (startF ks cs).1, 4 ≤ p.1 ∧ p.1 < 16 := by
  have h1 : ∀ {b : Rec} {c : List (Option Int)}, ∀ p ∈ stN1 b c, 4 ≤ p.1 ∧ p.1 < 16 := fun {b c} p hp => by
    unfold stN1 at hp; split at hp
    · exact note_book _ _ p hp
    · cases hp
  have h2 : ∀ {b : Rec} {c : List (Option Int)}, ∀ p ∈ stN2 b c, 4 ≤ p.1 ∧ p.1 < 16 := fun {b c} p hp => by
    unfold stN2 at hp; split at hp
    · exact note_book _ _ p hp
    · cases hp
  intro p hp
  unfold startF startB thenW at hp
  split at hp
  · exact h1 p hp
  · split at hp
    · rcases List.mem_append.mp hp with hp | hp
      · exact h1 p hp
      · exact h2 p hp
    · split at hp
      · rcases List.mem_append.mp hp with hp | hp
        · exact h1 p hp
        · rcases List.mem_append.mp hp with hp | hp
          · exact h2 p hp
          · exact note_book _ _ p hp
      · rcases List.mem_append.mp hp with hp | hp
        · exact h1 p hp
        · exact h2 p hp
/-- one slot is good, and the floor is not below -/
def Fine (ks : List Int) (fl : Int) (cs : List (Option Int)) : Prop := (whyF cs ks 0 = "" ∨ whyF cs ks 1 = "") ∧ fl ≤ floorO cs 0
section
variable {ks : List Int} {fl t j : Int} {cs : List (Option Int)} {tn : Str} {ws : List Wr}
theorem Fine.of {s : Int} (hs : s = 0 ∨ s = 1) (h : whyF cs ks s = "") (hf : fl ≤ floorO cs 0) : Fine ks fl cs := by
  rcases hs with rfl | rfl
  · exact ⟨.inl h, hf⟩
  · exact ⟨.inr h, hf⟩
theorem Fine.book (h : Fine ks fl cs) (hw : ∀ p ∈ ws, 4 ≤ p.1 ∧ p.1 < 16) (n : Nat) : Fine ks fl (dueF tn n ws cs) := by
  have hs : ∀ k, k < 4 ∨ 16 ≤ k → (dueF tn n ws cs)[k]? = cs[k]? := fun k hk => dueF_out fun p hp => by have := hw p hp; omega
  refine ⟨?_, ?_⟩
  · rw [why_same hs (.inl rfl), why_same hs (.inr rfl)]; exact h.1
  · unfold floorO
    rw [List.getD_eq_getElem?_getD, List.getD_eq_getElem?_getD, hs 0 (by omega), hs (0 + 1) (by omega), ← List.getD_eq_getElem?_getD, ← List.getD_eq_getElem?_getD]
    exact h.2
theorem Fine.far (h : Fine ks fl cs) (ht : t = 0 ∨ t = 1) (hw : farW t ws) (hg : whyF cs ks t = "") (n : Nat) : Fine ks fl (dueF tn n ws cs) :=
  Fine.of ht (good_due ht hw hg) (by rw [floor_due hw (by decide)]; exact h.2)
theorem Fine.dbl (gg : gk ks) (h : Fine ks fl cs) (h1 : 1 ≤ fl) (ht : t = 0 ∨ t = 1) (hL : Left t j cs) (n : Nat) : Fine ks fl (dueF tn n (doubleW ks cs) cs) := by
  have hb := tells_booked hL.tells
  by_cases ok : (bookedO cs).2.1 ≠ 1 ∧ whyF cs ks t = ""
  · obtain ⟨hst, hg⟩ := ok
    have ho := (other_slot ht).1
    obtain ⟨X, hX⟩ := good_pic gg hL.len ht hg
    obtain ⟨Y, hO⟩ : ∃ Y, Oth ks (1 - t) X Y cs := by
      by_cases hw : whyF cs ks (1 - t) = ""
      · obtain ⟨Y, hY⟩ := good_pic gg hL.len ho hw
        exact ⟨Y, fun _ => .inr hY, fun z => absurd z hst⟩
      · exact ⟨X, fun z => absurd z hw, fun z => absurd z hst⟩
    refine Fine.of ht ((dbl_oth (tn := tn) ht hL hX hst hO (.inl rfl)).1 n).1.good ?_
    have hbk : bookedO cs = (t, (bookedO cs).2.1, (bookedO cs).2.2) := by rw [← hb]
    rw [(dbl_is hX hbk hst).1]
    obtain ⟨-, -, q⟩ := dblL_oth (tn := tn) hL.len ht hX hst hO (.inl rfl)
    have hsb := slotB_b ho
    have a1 : ∀ n, fl ≤ floorO (dueF tn n (doubleL ks t cs) cs) 0 := fun n => by
      unfold floorO
      rw [List.getD_eq_getElem?_getD, List.getD_eq_getElem?_getD, dueF_out fun p hp => by have := q p hp; omega, dueF_out fun p hp => by have := q p hp; omega, ← List.getD_eq_getElem?_getD, ← List.getD_eq_getElem?_getD]
      exact h.2
    have c1 : fl ≤ floorO (applyW (doubleL ks t cs) cs) 0 := due_last (P := fun c => fl ≤ floorO c 0) a1
    have hl1 : (applyW (doubleL ks t cs) cs).length = 54 := by rw [applyW_len]; exact hL.len
    refine due_all (P := fun c => fl ≤ floorO c 0) a1 (fun n => due_all (P := fun c => fl ≤ floorO c 0) (fun n => ?_) (fun n => ?_) n) n
    · exact Int.le_trans c1 (floor_up (by omega) (by omega))
    · have c2 : fl ≤ floorO (applyW (raiseW (applyW (doubleL ks t cs) cs) 0 X.v) (applyW (doubleL ks t cs) cs)) 0 := due_last (P := fun c => fl ≤ floorO c 0) (t := tn) fun n => Int.le_trans c1 (floor_up (by omega) (by omega))
      unfold floorO
      rw [List.getD_eq_getElem?_getD, List.getD_eq_getElem?_getD, dueF_out fun p hp => by have := raiseW_mem p hp; omega, dueF_out fun p hp => by have := raiseW_mem p hp; omega, ← List.getD_eq_getElem?_getD, ← List.getD_eq_getElem?_getD]
      exact c2
  · have e : doubleW ks cs = [] := by
      unfold doubleW doubleWb doubleOk
      rw [hb]
      rw [if_neg (by simp only [Bool.and_eq_true, decide_eq_true_eq]; exact ok)]
    rw [e]
    exact due_nil h n
end
/-- what a start tells of cells of which one slot is good -/
theorem start_fine {ks : List Int} {fl : Int} {cs : List (Option Int)} (h : Fine ks fl cs) (hb : bookOk cs) : ∃ s v w ρ, (startF ks cs).2.1 = startedD s v w ∧ (startF ks cs).2.2 = ρ ∧ (s = 0 ∨ s = 1) ∧ judgedD cs ks s = goodD v ∧ fl ≤ v := by
  unfold bookOk at hb
  have go : ∀ s, (s = 0 ∨ s = 1) → whyF cs ks s = "" → judgedD cs ks s = goodD (topV cs s) ∧ fl ≤ topV cs s := fun s hs hw => by
    obtain ⟨h1, h2⟩ := judged_top hs hw
    have := h.2
    exact ⟨h1, by omega⟩
  have ho := (other_slot hb).1
  unfold startF
  generalize hbb : bookedO cs = b at *
  by_cases hc : b.2.1 = 1 ∧ 0 < b.2.2 ∧ whyF cs ks (1 - b.1) = ""
  · rw [startB_trial hc]
    obtain ⟨g1, g2⟩ := go _ ho hc.2.2
    exact ⟨_, _, _, _, rfl, rfl, ho, g1, g2⟩
  · rw [startB_rest hc]
    unfold restD restR
    dsimp only
    split
    · rename_i hw
      obtain ⟨g1, g2⟩ := go _ hb hw
      exact ⟨_, _, _, _, rfl, rfl, hb, g1, g2⟩
    · rename_i hw
      have hw1 : whyF cs ks (1 - b.1) = "" := by
        rcases h.1 with z | z <;> rcases hb with y | y <;> rw [y] at hw ⊢
        · exact absurd z hw
        · exact z
        · exact z
        · exact absurd z hw
      rw [if_pos hw1, if_pos hw1]
      obtain ⟨g1, g2⟩ := go _ ho hw1
      exact ⟨_, _, _, _, rfl, rfl, ho, g1, g2⟩
/-- told of neither a start nor a stranding -/
def quietD (D : PyData) : Prop := D = .none ∨ ∃ (w : Str) (xs : List PyData), D = .tuple (.str w :: xs) ∧ w ≠ "stranded" ∧ w ≠ "started"
theorem quietD.w {w : Str} {xs : List PyData} (h : w ≠ "stranded") (h2 : w ≠ "started") : quietD (.tuple (.str w :: xs)) := .inr ⟨w, xs, rfl, h, h2⟩
theorem ranS_quiet {ws : List Wr} {ρ : Option (Int × Str)} {D : PyData} {μ : Mem} (h : quietD D) : quietD (ranS ws ρ D μ).1 := by
  unfold ranS
  split
  · exact h
  · exact quietD.w (by decide) (by decide)
theorem deed_quiet {a : Ma} {ρ : Option (Int × Str)} {μ : Mem} {d : Deed} (h : d ≠ .start) : quietD (deedS a d ρ μ).1 := by
  cases d with
  | start => exact absurd rfl h
  | yes =>
    refine ranS_quiet ?_
    unfold yesF
    split
    · exact quietD.w (by decide) (by decide)
    · split <;> exact quietD.w (by decide) (by decide)
  | double =>
    refine ranS_quiet ?_
    unfold dblM
    split
    · exact quietD.w (by decide) (by decide)
    · split
      · unfold doubleD doubleDb
        split <;> exact quietD.w (by decide) (by decide)
      · exact quietD.w (by decide) (by decide)
  | update mn ss =>
    refine ranS_quiet ?_
    unfold updM
    split
    · exact quietD.w (by decide) (by decide)
    · split
      · unfold updD updDb
        split
        · rcases refB_word (t := (bookedO μ.cells).1) (cs := μ.cells) (ks := a.ks) (m := mn) with h | h | h | h | h <;> rw [h] <;> exact quietD.w (by decide) (by decide)
        · split <;> exact quietD.w (by decide) (by decide)
      · exact quietD.w (by decide) (by decide)
  | cut n t => exact .inl rfl
  | spoil s i w => exact .inl rfl
theorem ranS_fine {ks : List Int} {fl : Int} {ws : List Wr} {ρ : Option (Int × Str)} {D : PyData} {μ : Mem} (lf : ∀ n, μ.left = some n → 0 ≤ n) (h : ∀ n, Fine ks fl (dueF μ.torn n ws μ.cells)) : Fine ks fl (ranS ws ρ D μ).2.2.cells := by
  obtain ⟨n, e, _⟩ := run_due' (ws := ws) lf
  have hl := h n
  rw [← e] at hl
  unfold ranS
  split <;> exact hl
theorem deed_fine {a : Ma} {fl j : Int} {ρ : Option (Int × Str)} {μ : Mem} {d : Deed} (h : MOk j ρ μ) (j0 : 0 ≤ j) (j1 : j ≤ 9000) (gd : gDeed d) (gg : gk a.ks) (t1 : 1 ≤ a.t) (t3 : a.t ≤ 3) (hf : Fine a.ks fl μ.cells) (h1 : 1 ≤ fl) (hsp : ∀ s i w, d = .spoil s i w → whyF μ.cells a.ks (1 - s) = "") : Fine a.ks fl (deedS a d ρ μ).2.2.cells := by
  have hl := h.left.len
  have hb := h.left.bnd
  cases d with
  | start => exact ranS_fine h.lf fun n => hf.book (start_book _ _) n
  | yes =>
    refine ranS_fine h.lf fun n => ?_
    unfold yesF
    split
    · exact due_nil hf n
    · split
      · exact hf.book (note_book _ _) n
      · exact due_nil hf n
  | double =>
    refine ranS_fine h.lf fun n => ?_
    unfold dblM
    split
    · exact due_nil hf n
    · split
      · obtain ⟨t, ht, hL⟩ := h.left
        exact hf.dbl gg h1 ht hL n
      · exact due_nil hf n
  | update mn ss =>
    refine ranS_fine h.lf fun n => ?_
    unfold updM
    split
    · exact due_nil hf n
    · split
      · obtain ⟨t, ht, hL⟩ := h.left
        by_cases hr : refB t μ.cells a.ks mn = ""
        · have hfar := (updW_at (ks := a.ks) (tries := a.t) (mn := mn) (ss := ss) hl hb (hL.book ht) hL.pgn j0 j1 gd.1 gd.2 t1 t3).1
          rw [tells_booked hL.tells] at hfar
          exact hf.far ht hfar (refB_good hr) n
        · rw [(upd_none hL hr).1]
          exact due_nil hf n
      · exact due_nil hf n
  | cut n t => exact hf
  | spoil s i w =>
    show Fine a.ks fl (μ.cells.set (slotB s + i).toNat w)
    obtain ⟨hs, i0, i19, -⟩ := gd
    have hso := (other_slot hs).1
    have hw := hsp s i w rfl
    have hk : 16 ≤ (slotB s + i).toNat := by rcases hs with rfl | rfl <;> simp [slotB] <;> omega
    refine Fine.of hso (good_keep hso (fun k hk4 => List.getElem?_set_ne (by omega)) (fun k k1 k2 => List.getElem?_set_ne ?_) hw) ?_
    · rcases hs with rfl | rfl <;> simp [slotB] at k1 k2 ⊢ <;> omega
    · unfold floorO
      rw [getD_setN (by omega), getD_setN (by omega)]
      exact hf.2
theorem start_told {a : Ma} {fl j : Int} {ρ : Option (Int × Str)} {μ : Mem} (h : MOk j ρ μ) (hf : Fine a.ks fl μ.cells) : (deedS a .start ρ μ).1 = .tuple [.str "stopped"] ∨ ∃ s v w, (deedS a .start ρ μ).1 = startedD s v w ∧ (s = 0 ∨ s = 1) ∧ judgedD (deedS a .start ρ μ).2.2.cells a.ks s = goodD v ∧ fl ≤ v := by
  obtain ⟨s, v, w, ρ', e, -, hs, hj, hv⟩ := start_fine hf h.left.book
  show (ranS _ _ _ μ).1 = _ ∨ ∃ s v w, (ranS _ _ _ μ).1 = _ ∧ _ ∧ judgedD (ranS _ _ _ μ).2.2.cells _ _ = _ ∧ _
  unfold ranS
  split
  · rename_i hr
    refine .inr ⟨s, v, w, e, hs, ?_, hv⟩
    dsimp only
    rw [run_cells hr]
    have hso : ∀ k, k < 4 ∨ 16 ≤ k → (applyW (startF a.ks μ.cells).1 μ.cells)[k]? = μ.cells[k]? := fun k hk => applyW_out fun p hp => by have := start_book _ _ p hp; omega
    unfold judgedD at hj ⊢
    rw [why_same hso hs]
    have e1 : (applyW (startF a.ks μ.cells).1 μ.cells).getD (slotB s + 1).toNat none = μ.cells.getD (slotB s + 1).toNat none := by
      have := slotB_b hs
      rw [List.getD_eq_getElem?_getD, List.getD_eq_getElem?_getD, hso _ (by omega)]
    rw [e1]; exact hj
  · exact .inl rfl
theorem mach_fine {ks : List Int} {P : Pic} (gg : gk ks) (hP : gp ks P) : Fine ks P.v (machC ks P) := ⟨.inl (mach_good gg hP (.inl rfl)), by rw [(FacC.mach gg hP).f0]; exact Int.le_refl _⟩
/-! ## machines in a symbolic heap -/
section
variable {K : PySem.W.Frag} {M : List Addr} {H H' HX : Hp} {B : Bs} {L : List (Addr × HO)} {Ds : List (PyData × V)} {a : Ma} {ρ ρ' : Option (Int × Str)} {μ μ' : Mem} {ru : V} {Q : VK} {E : XK} {CM C : Addr} {i k r : Nat} {D : PyData}
abbrev macE (CM : Addr) (a : Ma) (ru : V) : Addr × HO := (a.x, macO CM a.dx (.ref a.bk) a.t ru a.m)
abbrev memE (C : Addr) (a : Ma) (μ : Mem) : Addr × HO := (a.m, memO C a.dm a.l μ)
abbrev celE (a : Ma) (μ : Mem) : Addr × HO := (a.l, cellsO μ)
/-- the entries i, i+1, i+2, of a machine, changed -/
abbrev set3 (L : List (Addr × HO)) (i : Nat) (CM C : Addr) (a : Ma) (ru : V) (μ : Mem) : List (Addr × HO) := ((L.set i (macE CM a ru)).set (i + 1) (memE C a μ)).set (i + 2) (celE a μ)
/-- what of a machine never changes -/
structure MC (B : Bs) (M : List Addr) (CM C : Addr) (a : Ma) : Prop where
  ec : a.CM = CM
  em : a.C = C
  mx : a.x ∈ M ∧ B.may a.x
  mm : a.m ∈ M ∧ B.may a.m
  ml : a.l ∈ M ∧ B.may a.l
  gg : gk a.ks
  t1 : 1 ≤ a.t
  t3 : a.t ≤ 3
/-- where a machine lies: entries i, i+1, i+2, its keys at k, what runs at r -/
structure MP (L : List (Addr × HO)) (Ds : List (PyData × V)) (CM C : Addr) (a : Ma) (i k r : Nat) (ρ : Option (Int × Str)) (ru : V) (μ : Mem) : Prop where
  hi : L[i]? = some (macE CM a ru)
  hj : L[i + 1]? = some (memE C a μ)
  hk : L[i + 2]? = some (celE a μ)
  ks : Ds[k]? = some (keysD a.ks, V.ref a.bk)
  run : Ds[r]? = some (runD ρ, ru)
theorem MC.cons {p : Addr} (h : MC B M CM C a) : MC B (p :: M) CM C a :=
  ⟨h.ec, h.em, ⟨List.mem_cons_of_mem _ h.mx.1, h.mx.2⟩, ⟨List.mem_cons_of_mem _ h.mm.1, h.mm.2⟩, ⟨List.mem_cons_of_mem _ h.ml.1, h.ml.2⟩, h.gg, h.t1, h.t3⟩
theorem MC.own {HB : Hp} (h : MC B M CM C a) : MC ⟨HB, [a.x, a.m, a.l]⟩ M CM C a :=
  ⟨h.ec, h.em, ⟨h.mx.1, .inl (by simp)⟩, ⟨h.mm.1, .inl (by simp)⟩, ⟨h.ml.1, .inl (by simp)⟩, h.gg, h.t1, h.t3⟩
theorem Sy.mac (S : Sy K B M H L Ds) (c : MC B M CM C a) (h : MP L Ds CM C a i k r ρ ru μ) : MacAt K M H a ρ μ := by
  have e1 : H a.x = _ := S.get i h.hi
  have e2 : H a.m = _ := S.get (i + 1) h.hj
  have e3 : H a.l = _ := S.get (i + 2) h.hk
  have n1 := S.ne i (i + 1) h.hi h.hj (by omega)
  have n2 := S.ne i (i + 2) h.hi h.hk (by omega)
  have n3 := S.ne (i + 1) (i + 2) h.hj h.hk (by omega)
  rw [← c.ec] at e1; rw [← c.em] at e2
  exact ⟨⟨ru, e1, S.d r h.run⟩, ⟨e2, e3, n3⟩, S.d k h.ks, n1, n2, c.mx.1, c.mm.1, c.ml.1, c.gg, c.t1, c.t3⟩
theorem Sy.put3 {a b c : Addr} {o o2 o3 o' o2' o3' : HO} (S : Sy K B M H L Ds) (i j k : Nat) (h1 : L[i]? = some (a, o)) (h2 : L[j]? = some (b, o2)) (h3 : L[k]? = some (c, o3)) (hij : i ≠ j) (hik : i ≠ k) (hjk : j ≠ k) (ma : a ∈ M ∧ B.may a) (mb : b ∈ M ∧ B.may b) (mc : c ∈ M ∧ B.may c) (f : Fr [a, b, c] H H') (e1 : H' a = some o') (e2 : H' b = some o2') (e3 : H' c = some o3') :
    Sy K B M H' (((L.set i (a, o')).set j (b, o2')).set k (c, o3')) Ds := by
  have nij := S.ne i j h1 h2 hij
  have nik := S.ne i k h1 h3 hik
  have njk := S.ne j k h2 h3 hjk
  have S1 := S.put2 (H' := fun x => if x = c then H x else H' x) (o' := o') (o2' := o2') i j h1 h2 hij ma mb (fun x u n e => by
    show (if x = c then H x else H' x) = _
    by_cases hb : x = c
    · rw [if_pos hb]; exact e
    · rw [if_neg hb]; exact f x u (by simp at n ⊢; exact ⟨n.1, n.2, hb⟩) e) (by
    show (if a = c then H a else H' a) = _
    rw [if_neg nik]; exact e1) (by
    show (if b = c then H b else H' b) = _
    rw [if_neg njk]; exact e2)
  exact S1.put (H' := H') (o' := o3') k (by rw [List.getElem?_set_ne hjk, List.getElem?_set_ne hik]; exact h3) mc (fun x u n e => by
    have e : (if x = c then H x else H' x) = some u := e
    rw [if_neg (by simpa using n)] at e; exact e) e3
theorem Sy.putMac (S : Sy K B M H L Ds) (c : MC B M CM C a) (h : MP L Ds CM C a i k r ρ ru μ) (f : Fr [a.x, a.m, a.l] H H') (hA : MacAt K M H' a ρ' μ') : ∃ ru', Sy K B M H' (set3 L i CM C a ru' μ') (Ds ++ [(runD ρ', ru')]) := by
  obtain ⟨ru', e1, hr⟩ := hA.hx
  have e2 := hA.hM.1
  rw [c.ec] at e1
  rw [c.em] at e2
  exact ⟨ru', (S.put3 i (i + 1) (i + 2) h.hi h.hj h.hk (by omega) (by omega) (by omega) c.mx c.mm c.ml f e1 e2 hA.hM.2.1).addD hr⟩
theorem mdX_free {ws : List Wr} {S : Hp → Prop} (hl : μ.left = none) (q : ∀ H' v, Fr [a.x, a.m, a.l] H H' → MacAt K M H' a ρ { μ with cells := applyW ws μ.cells, many := μ.many + ws.length } → Dt K M H' D v → Q v H') : mdX K M a μ ws ρ D H Q S := by
  intro H' f
  have hr := run_free (ws := ws) hl
  have e : (Mem.run ws μ).1 = { μ with cells := applyW ws μ.cells, many := μ.many + ws.length } := by
    rw [run_whole hr]
    cases μ
    dsimp only at hl ⊢
    rw [hl]; rfl
  rw [e]
  exact ⟨fun _ hA u hu => q H' u f hA hu, fun e2 _ => by rw [hr] at e2; cases e2⟩
/-- a deed that is not cut, in a symbolic heap -/
theorem mdX_sy {ws : List Wr} {S' : Hp → Prop} {D' : PyData} {ρ1 : Option (Int × Str)} (S : Sy K B M H L Ds) (c : MC B M CM C a) (h : MP L Ds CM C a i k r ρ1 ru μ) (hl : μ.left = none) (e : ranS ws ρ D μ = (D', ρ', μ')) (q : ∀ v ru' H', Sy K B M H' (set3 L i CM C a ru' μ') (Ds ++ [(runD ρ', ru'), (D', v)]) → Q v H') : mdX K M a μ ws ρ D H Q S' := by
  rw [ranS_free hl] at e
  cases e
  refine mdX_free hl fun H' v f hA hD => ?_
  obtain ⟨ru', S'⟩ := S.putMac c h f hA
  have S2 := S'.addD hD
  rw [List.append_assoc] at S2
  exact q v ru' H' S2
variable {j : Int} {er : Er → Addr}
theorem use_mstart (S : Sy K B M H L Ds) (c : MC B M CM C a) (h : MP L Ds CM C a i k r ρ ru μ) (ok : MOk j ρ μ) (j0 : 0 ≤ j) (j1 : j ≤ 9000) (hl : μ.left = none) (e : deedS a .start ρ μ = (D, ρ', μ')) (q : ∀ v ru' H', Sy K B M H' (set3 L i CM C a ru' μ') (Ds ++ [(runD ρ', ru'), (D, v)]) → Q v H') : spMStart CM C er K [.ref a.x] H Q E :=
  ⟨M, a, ρ, μ, j, rfl, c.ec, c.em, S.dom, S.mac c h, ok.up, ok.left.len, ok.left.bnd, ok.left.book, ok.left.pgn, j0, j1, mdX_sy S c h hl e q⟩
theorem use_myes (S : Sy K B M H L Ds) (c : MC B M CM C a) (h : MP L Ds CM C a i k r ρ ru μ) (ok : MOk j ρ μ) (j0 : 0 ≤ j) (j1 : j ≤ 9000) (hl : μ.left = none) (e : deedS a .yes ρ μ = (D, ρ', μ')) (q : ∀ v ru' H', Sy K B M H' (set3 L i CM C a ru' μ') (Ds ++ [(runD ρ', ru'), (D, v)]) → Q v H') : spMYes CM C er K [.ref a.x] H Q E :=
  ⟨M, a, ρ, μ, j, rfl, c.ec, c.em, S.dom, S.mac c h, ok.run, ok.up, ok.left.len, ok.left.bnd, ok.left.pgn, j0, j1, mdX_sy S c h hl e q⟩
theorem use_mdouble (S : Sy K B M H L Ds) (c : MC B M CM C a) (h : MP L Ds CM C a i k r ρ ru μ) (ok : MOk j ρ μ) (hl : μ.left = none) (e : deedS a .double ρ μ = (D, ρ', μ')) (q : ∀ v ru' H', Sy K B M H' (set3 L i CM C a ru' μ') (Ds ++ [(runD ρ', ru'), (D, v)]) → Q v H') : spMDouble CM C er K [.ref a.x] H Q E :=
  ⟨M, a, ρ, μ, rfl, c.ec, c.em, S.dom, S.mac c h, ok.up, ok.left.len, ok.left.bnd, ok.left.book, mdX_sy S c h hl e q⟩
theorem use_mupdate {mn : Man} {ss : List (List Row)} {v u : V} (S : Sy K B M H L Ds) (c : MC B M CM C a) (h : MP L Ds CM C a i k r ρ ru μ) (ok : MOk j ρ μ) (j0 : 0 ≤ j) (j1 : j ≤ 9000) (hm : Dt K M H (manD mn) v) (gm : gman mn) (hs : Dt K M H (storesD ss) u) (gs : gStores ss) (hl : μ.left = none) (e : deedS a (.update mn ss) ρ μ = (D, ρ', μ')) (q : ∀ v ru' H', Sy K B M H' (set3 L i CM C a ru' μ') (Ds ++ [(runD ρ', ru'), (D, v)]) → Q v H') : spMUpdate CM C er K [.ref a.x, v, u] H Q E :=
  ⟨M, a, ρ, μ, j, mn, ss, v, u, rfl, c.ec, c.em, S.dom, S.mac c h, ok.up, ok.left.len, ok.left.bnd, ok.left.book, ok.left.pgn, j0, j1, hm, gm, hs, gs, mdX_sy S c h hl e q⟩
theorem use_mup (S : Sy K B M H L Ds) (c : MC B M CM C a) (h : MP L Ds CM C a i k r ρ ru μ) (q : ∀ ru' H', Sy K B M H' (set3 L i CM C a ru' { μ with up := true, left := none }) (Ds ++ [(runD none, ru')]) → Q .non H') : spMUp CM C K [.ref a.x] H Q E :=
  ⟨M, a, ρ, μ, rfl, c.ec, c.em, S.mac c h, fun H' f hA => by obtain ⟨ru', S'⟩ := S.putMac c h f hA; exact q ru' H' S'⟩
theorem use_mcut {n : Int} {t : Str} (S : Sy K B M H L Ds) (c : MC B M CM C a) (h : MP L Ds CM C a i k r ρ ru μ) (n0 : 0 ≤ n) (n1 : n ≤ 100000) (ht : t = "old" ∨ t = "broken" ∨ t = "new") (q : ∀ ru' H', Sy K B M H' (set3 L i CM C a ru' { μ with left := some n, torn := t }) (Ds ++ [(runD ρ, ru')]) → Q .non H') : spMCut CM C K [.ref a.x, .int n, .str t] H Q E :=
  ⟨M, a, ρ, μ, n, t, rfl, c.ec, c.em, S.mac c h, n0, n1, ht, fun H' f hA => by obtain ⟨ru', S'⟩ := S.putMac c h (f.wk fun y hy => List.mem_cons_of_mem _ hy) hA; exact q ru' H' S'⟩
theorem use_mspoil {s n : Int} {w : Option Int} (S : Sy K B M H L Ds) (c : MC B M CM C a) (h : MP L Ds CM C a i k r ρ ru μ) (hl : μ.cells.length = 54) (hs : s = 0 ∨ s = 1) (n0 : 0 ≤ n) (n1 : n < 19) (hw : ∀ x, w = some x → 0 ≤ x ∧ x ≤ 9972) (q : ∀ ru' H', Sy K B M H' (set3 L i CM C a ru' { μ with cells := μ.cells.set (slotB s + n).toNat w }) (Ds ++ [(runD ρ, ru')]) → Q .non H') : spMSpoil CM C K [.ref a.x, .int s, .int n, ov w] H Q E :=
  ⟨M, a, ρ, μ, s, n, w, rfl, c.ec, c.em, S.mac c h, hl, hs, n0, n1, hw, fun H' f hA => by obtain ⟨ru', S'⟩ := S.putMac c h (f.wk fun y hy => List.mem_cons_of_mem _ hy) hA; exact q ru' H' S'⟩
theorem MP.ex (S : Sy K B M H L Ds) (h : MP L Ds CM C a i k r ρ ru μ) : H a.x = some (macO CM a.dx (.ref a.bk) a.t ru a.m) := S.get i h.hi
theorem MP.em (S : Sy K B M H L Ds) (h : MP L Ds CM C a i k r ρ ru μ) : MemAt C H a.m a.dm a.l μ := ⟨S.get (i + 1) h.hj, S.get (i + 2) h.hk, S.ne (i + 1) (i + 2) h.hj h.hk (by omega)⟩
theorem use_mruns (S : Sy K B M H L Ds) (h : MP L Ds CM C a i k r ρ ru μ) (q : Q ru H) : spMRuns CM [.ref a.x] H Q E := ⟨a.x, a.dx, _, a.t, ru, a.m, rfl, h.ex S, q⟩
theorem use_mwrites (S : Sy K B M H L Ds) (h : MP L Ds CM C a i k r ρ ru μ) (q : Q (.int μ.many) H) : spMWrites CM C [.ref a.x] H Q E := ⟨a.x, a.dx, _, a.t, ru, a.m, a.dm, a.l, μ, rfl, h.ex S, h.em S, q⟩
theorem use_mbook (S : Sy K B M H L Ds) (h : MP L Ds CM C a i k r ρ ru μ) (up : μ.up = true) (hl : μ.cells.length = 54) (q : ∀ v H', Sy K B M H' L (Ds ++ [(recD (bookedO μ.cells), v)]) → Q v H') : spMBook CM C K [.ref a.x] H Q E :=
  ⟨M, a.x, a.dx, _, a.t, ru, a.m, a.dm, a.l, μ, rfl, S.dom, h.ex S, h.em S, up, hl, fun v H' f hd => q v H' ((S.ex f).addD hd)⟩
theorem use_mfloors (S : Sy K B M H L Ds) (h : MP L Ds CM C a i k r ρ ru μ) (up : μ.up = true) (hl : μ.cells.length = 54) (q : ∀ v H', Sy K B M H' L (Ds ++ [(floorsD μ.cells, v)]) → Q v H') : spMFloors CM C K [.ref a.x] H Q E :=
  ⟨M, a.x, a.dx, _, a.t, ru, a.m, a.dm, a.l, μ, rfl, S.dom, h.ex S, h.em S, up, hl, fun v H' f hd => q v H' ((S.ex f).addD hd)⟩
def slotsD (cs : List (Option Int)) (ks : List Int) : PyData := .list [judgedD cs ks 0, judgedD cs ks 1]
theorem use_mslots (S : Sy K B M H L Ds) (c : MC B M CM C a) (h : MP L Ds CM C a i k r ρ ru μ) (up : μ.up = true) (hl : μ.cells.length = 54) (hb : bnd μ.cells) (q : ∀ p H', Sy K B M H' L (Ds ++ [(slotsD μ.cells a.ks, .ref p)]) → Q (.ref p) H') : spMSlots CM C K [.ref a.x] H Q E :=
  ⟨M, a.x, a.dx, _, a.t, ru, a.m, a.dm, a.l, μ, a.ks, rfl, S.dom, h.ex S, h.em S, up, hl, hb, S.d k h.ks, c.gg, fun p u0 u1 H' f hp e d0 d1 => by
    have hpM : p ∉ M := fun z => by obtain ⟨o, e⟩ := S.dom p z; rw [hp] at e; cases e
    exact q p H' ((S.ex f).addD (Dt.lstI ⟨.inl (.inl e), .inl hpM⟩ (DtL.cons' (d0.wk fun x hx => List.mem_cons_of_mem _ hx) (DtL.cons' (d1.wk fun x hx => List.mem_cons_of_mem _ hx) DtL.nil'))))⟩
theorem use_mcells (S : Sy K B M H L Ds) (h : MP L Ds CM C a i k r ρ ru μ) (q : ∀ p H', H p = none → Sy K B M H' (L ++ [(p, .lst (μ.cells.map ov))]) Ds → Q (.ref p) H') : spMCells CM C [.ref a.x] H Q E :=
  ⟨a.x, a.dx, _, a.t, ru, a.m, a.dm, a.l, μ, rfl, h.ex S, h.em S, fun p H' f hp e => q p H' hp (S.exN f hp e)⟩
/-- played, the frame told, too -/
theorem use_playedF {ds : List Deed} {v : V} (S : Sy K B M H L Ds) (c : MC B M CM C a) (h : MP L Ds CM C a i k r ρ ru μ) (hok : MOk j ρ μ) (j0 : 0 ≤ j) (j1 : j + 3 * ds.length ≤ 9000) (hd : Dt K M H (.list (ds.map deedD)) v) (hl : ds.length ≤ 200) (gd : ∀ d ∈ ds, gDeed d)
    (q : ∀ p ru' us H', Fr [a.x, a.m, a.l] H H' → Sy K B M H' (set3 L i CM C a ru' (playS a ds ρ μ).2.2) (Ds ++ [(runD (playS a ds ρ μ).2.1, ru'), (.list (playS a ds ρ μ).1, .ref p)]) → H p = none → H' p = some (.lst us) → DtL K M H' (playS a ds ρ μ).1 us → Q (.ref p) H') : spPlayed CM C K [.ref a.x, v] H Q E := by
  refine ⟨M, a, ρ, μ, j, ds, v, rfl, c.ec, c.em, S.dom, S.mac c h, hok, j0, j1, hd, hl, gd, fun H' p us f hA hp e hus => ?_⟩
  obtain ⟨ru', S'⟩ := S.putMac c h f hA
  have hus' := hus.wk (N := M) fun x hx => List.mem_cons_of_mem _ hx
  have hpM : p ∉ M := fun z => by obtain ⟨o, e⟩ := S.dom p z; rw [hp] at e; cases e
  have S2 := S'.addD (d := .list (playS a ds ρ μ).1) (v := .ref p) (Dt.lstI ⟨.inl (.inl e), .inl hpM⟩ hus')
  rw [List.append_assoc] at S2
  exact q p ru' us H' f S2 hp e hus'
theorem use_played {ds : List Deed} {v : V} (S : Sy K B M H L Ds) (c : MC B M CM C a) (h : MP L Ds CM C a i k r ρ ru μ) (hok : MOk j ρ μ) (j0 : 0 ≤ j) (j1 : j + 3 * ds.length ≤ 9000) (hd : Dt K M H (.list (ds.map deedD)) v) (hl : ds.length ≤ 200) (gd : ∀ d ∈ ds, gDeed d)
    (q : ∀ p ru' us H', Sy K B M H' (set3 L i CM C a ru' (playS a ds ρ μ).2.2) (Ds ++ [(runD (playS a ds ρ μ).2.1, ru'), (.list (playS a ds ρ μ).1, .ref p)]) → H p = none → H' p = some (.lst us) → DtL K M H' (playS a ds ρ μ).1 us → Q (.ref p) H') : spPlayed CM C K [.ref a.x, v] H Q E := by
  refine ⟨M, a, ρ, μ, j, ds, v, rfl, c.ec, c.em, S.dom, S.mac c h, hok, j0, j1, hd, hl, gd, fun H' p us f hA hp e hus => ?_⟩
  obtain ⟨ru', S'⟩ := S.putMac c h f hA
  have hus' := hus.wk (N := M) fun x hx => List.mem_cons_of_mem _ hx
  have hpM : p ∉ M := fun z => by obtain ⟨o, e⟩ := S.dom p z; rw [hp] at e; cases e
  have S2 := S'.addD (d := .list (playS a ds ρ μ).1) (v := .ref p) (Dt.lstI ⟨.inl (.inl e), .inl hpM⟩ hus')
  rw [List.append_assoc] at S2
  exact q p ru' us H' S2 hp e hus'
theorem Sy.ofMac (hd : ∀ y ∈ M, ∃ o, H y = some o) (h : MacAt K M H a ρ μ) (ec : a.CM = CM) (em : a.C = C) : ∃ ru, Sy K ⟨H, [a.x, a.m, a.l]⟩ M H [macE CM a ru, memE C a μ, celE a μ] [(keysD a.ks, .ref a.bk), (runD ρ, ru)] ∧ MC ⟨H, [a.x, a.m, a.l]⟩ M CM C a := by
  obtain ⟨ru, hx, hr⟩ := h.hx
  have e2 := h.hM.1
  have e3 := h.hM.2.1
  rw [ec] at hx
  rw [em] at e2
  refine ⟨ru, ⟨Fr.refl _ _, fun x hx => ?_, ?_, fun x hx => ?_, hd, fun y hy => ?_⟩, ec, em, ⟨h.mx, .inl (by simp)⟩, ⟨h.mm, .inl (by simp)⟩, ⟨h.ml, .inl (by simp)⟩, h.gg, h.t1, h.t3⟩
  · simp only [List.mem_cons, List.not_mem_nil, or_false] at hx
    rcases hx with rfl | rfl | rfl
    · assumption
    · exact e2
    · exact e3
  · simp [h.xm, h.xl, h.hM.2.2]
  · simp only [List.mem_cons, List.not_mem_nil, or_false] at hx
    rcases hx with rfl | rfl
    · exact h.hk
    · exact hr
  · simp only [List.mem_cons, List.not_mem_nil, or_false] at hy
    rcases hy with rfl | rfl | rfl
    · exact ⟨_, hx⟩
    · exact ⟨_, e2⟩
    · exact ⟨_, e3⟩
/-- a machine from the factory -/
theorem use_mnew {ks : List Int} {t : Int} {p : Pic} {b : Addr} {u : V} (S : Sy K B M H L Ds) (i j : Nat) (hi : Ds[i]? = some (keysD ks, .ref b)) (hj : Ds[j]? = some (picD p, u)) (gg : gk ks) (hp : gp ks p) (t1 : 1 ≤ t) (t2 : t ≤ 3)
    (q : ∀ (a : Ma) H', a.ks = ks → a.t = t → a.bk = b → MC B (a.l :: a.m :: a.x :: M) CM C a → Sy K B (a.l :: a.m :: a.x :: M) H' (((L ++ [macE CM a .non]) ++ [memE C a (Mem.of (machC ks p))]) ++ [celE a (Mem.of (machC ks p))]) (Ds ++ [(runD none, .non)]) → Q (.ref a.x) H') : MakeO CM (spMInit CM C K) [.ref b, .int t, u] E H Q := by
  refine use_minit S i j hi hj gg hp t1 t2 fun x dx m dm l H' S' hx hm hl _ _ _ => ?_
  exact q ⟨CM, C, x, dx, b, m, dm, l, t, ks⟩ H' rfl rfl rfl ⟨rfl, rfl, ⟨by simp, .inr hx⟩, ⟨by simp, .inr hm⟩, ⟨by simp, .inr hl⟩, gg, t1, t2⟩ (S'.addD Dt.non')
end
section
variable {K : PySem.W.Frag} {M : List Addr} {H : Hp} {ds : List PyData} {p : Addr} {te : TE} {σ : L2.St} {Q : VK} {j : Nat}
/-- [e for x in list], what lies in the heap told of by Pv -/
theorem lc_dataL (h : Dt K M H (.list ds) (.ref p)) (hz : ds.length ≤ 100000) (Pv : Nat → Addr → List V → Hp → Prop) (h0 : ∀ D, H D = none → Pv 0 D [] (upd H D (.lst [])))
    (hf : ∀ i D acc H', H D = none → Pv i D acc H' → Fr (D :: M) H H' ∧ acc.length = i)
    (hs : ∀ i d x D acc H' Q', ds[i]? = some d → H D = none → Dt K (D :: M) H' d x → Pv i D acc H' → (∀ y H'', H'' D = some (.lst acc) → Pv (i + 1) D (acc ++ [y]) (upd H'' D (.lst (acc ++ [y]))) → Q' y H'') → te ((σ.set j none).set j (some x)) H' Q')
    (k : ∀ D acc H', H D = none → Pv ds.length D acc H' → Q (.ref D) H') : LcO (gName j) tYes te [j] σ Q (Itl K p) H := by
  intro D hD
  obtain ⟨vs, s, r⟩ := (h.cons hD).lst
  refine lc_list (xs := vs) (fun i H' => ∃ acc, Pv i D acc H') ⟨[], h0 D hD⟩ (fun i H' _ ⟨acc, q⟩ => (s.mono (hf i D acc H' hD q).1).1) ?_ ?_
  · rintro i x H' hi ⟨acc, q⟩
    refine ⟨wipe_one _, ?_⟩
    have hj := (List.getElem?_eq_some_iff.mp hi).1
    rw [r.len] at hj
    obtain ⟨d, hdd⟩ := at_lt hj
    obtain ⟨v, hv, w⟩ := r.at hdd
    rw [hi] at hv; cases hv
    refine hs i d x D acc H' _ hdd hD (w.mono (hf i D acc H' hD q).1) q fun y H'' e q2 => ?_
    have hl := (hf i D acc H' hD q).2
    exact ⟨acc, e, szl (by omega), acc ++ [y], q2⟩
  · rintro H' ⟨acc, q⟩
    exact k D acc H' hD (by rw [← r.len]; exact q)
end
theorem shaped_started (s v : Int) (w : Str) (h : PyData.strOk w = true) : SeqAt.shaped (startedD s v w) = true := by
  simp [startedD, SeqAt.shaped, PyData.canLay0, PyData.canLayAll0, PyData.depth, PyData.depthAll, h]
  decide +kernel
theorem d_ixTS {K : PySem.W.Frag} {M : List Addr} {H : Hp} {Q : VK} {p : Addr} {i : Int} {ds : List PyData} {w : Str} (h : Dt K M H (.tuple ds) (.ref p)) (e : atI ds i = some (.str w)) (q : Q (.str w) H) : rIxT K (.ref p) (.int i) H Q := by
  obtain ⟨xs, s, r⟩ := h.tup
  unfold atI at e
  cases hj : ixN ds.length i with
  | none => rw [hj] at e; cases e
  | some j =>
    rw [hj] at e
    obtain ⟨v, hv, hd⟩ := r.at e
    simp only [Dt] at hd
    subst hd
    exact x_ixT s.1 (by unfold atI; rw [r.len, hj]; exact hv) q
theorem torn_at {x : Int} (h0 : 0 ≤ x) (h1 : x < 3) : ∃ tn : Str, atI ([.str "old", .str "broken", .str "new"] : List V) x = some (.str tn) ∧ (tn = "old" ∨ tn = "broken" ∨ tn = "new") := by
  have : x = 0 ∨ x = 1 ∨ x = 2 := by omega
  rcases this with rfl | rfl | rfl
  · exact ⟨"old", rfl, .inl rfl⟩
  · exact ⟨"broken", rfl, .inr (.inl rfl)⟩
  · exact ⟨"new", rfl, .inr (.inr rfl)⟩
theorem judged_or (cs : List (Option Int)) (ks : List Int) {s : Int} (hs : s = 0 ∨ s = 1) : (∃ v, judgedD cs ks s = goodD v) ∨ ∃ w : Str, judgedD cs ks s = .tuple [.str w] := by
  by_cases h : whyF cs ks s = ""
  · obtain ⟨v, -, e⟩ := judged_good hs h
    exact .inl ⟨v, e⟩
  · exact .inr ⟨_, judged_bad h⟩
theorem eqv_judgedF {cs : List (Option Int)} {ks : List Int} {s v : Int} (hs : s = 0 ∨ s = 1) (h : judgedD cs ks s ≠ goodD v) : PyData.eqv (judgedD cs ks s) (goodD v) = false := by
  rcases judged_or cs ks hs with ⟨x, e⟩ | ⟨w, e⟩ <;> rw [e] at h ⊢
  · have : x ≠ v := fun z => h (by rw [z])
    simp [PyData.eqv, PyData.eqvAll, this]
  · simp [PyData.eqv, PyData.eqvAll]
theorem shaped_slots (cs : List (Option Int)) (ks : List Int) : SeqAt.shaped (slotsD cs ks) = true := by
  have h0 := judged_shaped cs ks (s := 0) (.inl rfl)
  have h1 := judged_shaped cs ks (s := 1) (.inr rfl)
  have d0 := judgedD_dep cs ks 0
  have d1 := judgedD_dep cs ks 1
  simp only [SeqAt.shaped, Bool.and_eq_true, decide_eq_true_eq] at h0 h1
  simp [SeqAt.shaped, slotsD, PyData.canLay0, PyData.canLayAll0, PyData.depth, PyData.depthAll, h0.1, h1.1]
  omega
theorem shaped_goods (v : Int) : SeqAt.shaped (.list [goodD v, goodD v]) = true := by
  have h := shaped_good v
  simp only [SeqAt.shaped, Bool.and_eq_true, decide_eq_true_eq] at h
  simp [SeqAt.shaped, PyData.canLay0, PyData.canLayAll0, PyData.depth, PyData.depthAll]
  simpa [PyData.canLay0, PyData.canLayAll0] using h.1
section
variable {K : PySem.W.Frag} {M : List Addr} {H : Hp} {Q : VK} {x y : V} {cs : List (Option Int)} {ks : List Int} {v : Int}
theorem eqv_slotsF (h : judgedD cs ks 0 ≠ goodD v ∨ judgedD cs ks 1 ≠ goodD v) : PyData.eqv (slotsD cs ks) (.list [goodD v, goodD v]) = false := by
  unfold slotsD
  rcases h with h | h
  · have a := eqv_judgedF (.inl rfl) h
    simp only [PyData.eqv, PyData.eqvAll] at a ⊢
    rw [a]; rfl
  · have a := eqv_judgedF (.inr rfl) h
    simp only [PyData.eqv, PyData.eqvAll] at a ⊢
    rw [a]; simp
theorem d_eqSlotsT (h1 : Dt K M H (slotsD cs ks) x) (h2 : Dt K M H (.list [goodD v, goodD v]) y) (e0 : judgedD cs ks 0 = goodD v) (e1 : judgedD cs ks 1 = goodD v) (q : Q (.bl true) H) : rEqD K x y H Q := by
  have e : slotsD cs ks = .list [goodD v, goodD v] := by unfold slotsD; rw [e0, e1]
  rw [e] at h1
  exact d_eqS h1 h2 (shaped_goods v) q
theorem d_neSlotsT (h1 : Dt K M H (slotsD cs ks) x) (h2 : Dt K M H (.list [goodD v, goodD v]) y) (e0 : judgedD cs ks 0 = goodD v) (e1 : judgedD cs ks 1 = goodD v) (q : Q (.bl false) H) : rNeD K x y H Q := by
  have e : slotsD cs ks = .list [goodD v, goodD v] := by unfold slotsD; rw [e0, e1]
  rw [e] at h1
  exact d_neS h1 h2 (shaped_goods v) q
theorem d_eqSlotsF (h1 : Dt K M H (slotsD cs ks) x) (h2 : Dt K M H (.list [goodD v, goodD v]) y) (h : judgedD cs ks 0 ≠ goodD v ∨ judgedD cs ks 1 ≠ goodD v) (q : Q (.bl false) H) : rEqD K x y H Q :=
  n_eqD h1.dp h2.dp (shaped_slots _ _) (shaped_goods v) (by rw [eqv_slotsF h]; exact q)
end
theorem floor_some {cs : List (Option Int)} {i : Nat} {v : Int} (h : floorO cs i = v) (h0 : v ≠ 0) : countF (cs.getD i none) (cs.getD (i + 1) none) = some v := by
  unfold floorO at h
  cases e : countF (cs.getD i none) (cs.getD (i + 1) none) with
  | none => rw [e] at h; exact absurd h.symm h0
  | some x => rw [e] at h; simp at h; rw [h]
section
variable (CM C : Addr) (K : PySem.W.Frag)
def spLGood : Sp := fun vs H Q _ => ∃ (M : List Addr) (a : Ma) (ρ : Option (Int × Str)) (μ : Mem) (kv tv ru : V) (s v : Int) (w : Str) (lo : Int), vs = [.ref a.x, kv, tv, .int lo] ∧ (∀ y ∈ M, ∃ o, H y = some o) ∧ H a.x = some (macO CM a.dx (.ref a.bk) a.t ru a.m) ∧ MemAt C H a.m a.dm a.l μ ∧ gk a.ks ∧ μ.cells.length = 54 ∧ bnd μ.cells ∧ Dt K M H (keysD a.ks) kv ∧ Dt K M H (startedD s v w) tv ∧ (s = 0 ∨ s = 1) ∧ judgedD μ.cells a.ks s = .tuple [.str "good", .int v] ∧ lo ≤ v ∧ ∀ H', Fr [] H H' → Q (.bl true) H'
def spLLed : Sp := fun vs H Q _ => ∃ (M : List Addr) (a : Ma) (P N : Pic) (ss : List (List Row)) (t j : Int) (ρ : Option (Int × Str)) (μ : Mem) (mv sv kv : V), vs = [.ref a.x, mv, sv, kv, .int P.v] ∧ a.CM = CM ∧ a.C = C ∧ (∀ y ∈ M, ∃ o, H y = some o) ∧ MacAt K M H a ρ μ ∧ FM a.ks P N t j μ ∧ RunI ρ μ.cells ∧ S01 μ.cells ∧ 0 ≤ j ∧ j + 100 ≤ 9000 ∧
  gp a.ks N ∧ P.n ≤ N.n ∧ P.v < N.v ∧ gStores ss ∧ hasAll ss (manOf a.ks N).ts ∧ Dt K M H (manD (manOf a.ks N)) mv ∧ Dt K M H (storesD ss) sv ∧ ∀ H' ρ' μ', Fr [a.x, a.m, a.l] H H' → MacAt K M H' a ρ' μ' → Q (.bl true) H'
end
section
variable {K : PySem.W.Frag} {M : List Addr} {H H' HX : Hp} {B : Bs} {L : List (Addr × HO)} {Ds : List (PyData × V)} {a : Ma} {ρ : Option (Int × Str)} {μ : Mem} {ru : V} {Q : VK} {E : XK} {CM C : Addr} {i k r : Nat} {kv tv mv sv : V} {s v lo t j : Int} {w : Str} {P N : Pic} {ss : List (List Row)}
theorem use_lgood (S : Sy K B M H L Ds) (c : MC B M CM C a) (h : MP L Ds CM C a i k r ρ ru μ) (hl : μ.cells.length = 54) (hb : bnd μ.cells) (hk : Dt K M H (keysD a.ks) kv) (ht : Dt K M H (startedD s v w) tv) (hs : s = 0 ∨ s = 1) (hj : judgedD μ.cells a.ks s = .tuple [.str "good", .int v]) (hlo : lo ≤ v) (q : ∀ H', Sy K B M H' L Ds → Q (.bl true) H') : spLGood CM C K [.ref a.x, kv, tv, .int lo] H Q E :=
  ⟨M, a, ρ, μ, kv, tv, ru, s, v, w, lo, rfl, S.dom, h.ex S, h.em S, c.gg, hl, hb, hk, ht, hs, hj, hlo, fun H' f => q H' (S.ex f)⟩
theorem use_lled (S : Sy K B M H L Ds) (c : MC B M CM C a) (h : MP L Ds CM C a i k r ρ ru μ) (hF : FM a.ks P N t j μ) (hR : RunI ρ μ.cells) (h01 : S01 μ.cells) (j0 : 0 ≤ j) (j1 : j + 100 ≤ 9000) (hN : gp a.ks N) (hn : P.n ≤ N.n) (hv : P.v < N.v) (gs : gStores ss) (ha : hasAll ss (manOf a.ks N).ts) (hm : Dt K M H (manD (manOf a.ks N)) mv) (hs : Dt K M H (storesD ss) sv)
    (q : ∀ H' ρ' ru' μ', Sy K B M H' (set3 L i CM C a ru' μ') (Ds ++ [(runD ρ', ru')]) → Q (.bl true) H') : spLLed CM C K [.ref a.x, mv, sv, kv, .int P.v] H Q E :=
  ⟨M, a, P, N, ss, t, j, ρ, μ, mv, sv, kv, rfl, c.ec, c.em, S.dom, S.mac c h, hF, hR, h01, j0, j1, hN, hn, hv, gs, ha, hm, hs, fun H' ρ' μ' f hA => by
    obtain ⟨ru', S'⟩ := S.putMac c h f hA
    exact q H' ρ' ru' μ' S'⟩
end
/-- deeds of a plan, drawn -/
def spLDeeds (K : PySem.W.Frag) : Sp := fun vs H Q _ => ∃ (M : List Addr) (r a g : Addr) (q : Rho) (ns : List Int) (kvs : List (Str × V)) (i : Nat) (kv tv : V) (ks : List Int) (T : Pic) (most : Int), vs = [.ref r, .ref g, tv, .int most] ∧
  H r = some (rowO a q) ∧ q.ok ∧ SLA K M H a (ns.map V.int) ∧ ns.length ≤ 63 ∧ r ∈ M ∧ (∀ b ∈ M, ∃ o, H b = some o) ∧ H g = some (.dK (kvT kvs)) ∧ kvs[i]? = some (("keys" : Str), kv) ∧ (kvs.map (·.1)).Nodup ∧ Dt K M H (keysD ks) kv ∧ gk ks ∧ Dt K M H (picD T) tv ∧ gp ks T ∧ 0 ≤ most ∧ most ≤ 1000 ∧
  ∀ p us (ds : List Deed) q' H', H p = none → q'.ok → Fr [r] H H' → H' r = some (rowO a q') → H' p = some (.lst us) → DtL K (p :: M) H' (ds.map deedD) us → (∀ d ∈ ds, gDeed d) → (ds.length : Int) ≤ most → Q (.ref p) H'
section
variable {K : PySem.W.Frag} {M : List Addr} {H : Hp} {B : Bs} {L : List (Addr × HO)} {Ds : List (PyData × V)} {Q : VK} {E : XK} {r a0 g : Addr} {q : Rho} {ns : List Int} {kvs : List (Str × V)} {kv tv : V} {ks : List Int} {Y : Pic} {most : Int}
theorem use_ldeeds (S : Sy K B M H ((r, rowO a0 q) :: L) ((script ns, .ref a0) :: Ds)) (hM : r ∈ M ∧ B.may r) (hq : q.ok) (hl : ns.length ≤ 63) (i : Nat) (hg : H g = some (.dK (kvT kvs))) (hk : kvs[i]? = some (("keys" : Str), kv)) (nd : (kvs.map (·.1)).Nodup) (hd : Dt K M H (keysD ks) kv) (gg : gk ks) (ht : Dt K M H (picD Y) tv) (hY : gp ks Y) (m0 : 0 ≤ most) (m1 : most ≤ 1000)
    (k : ∀ p us (ds : List Deed) q' H', H p = none → q'.ok → Sy K B (p :: M) H' ((r, rowO a0 q') :: (L ++ [(p, .lst us)])) ((script ns, .ref a0) :: Ds) → DtL K (p :: M) H' (ds.map deedD) us → (∀ d ∈ ds, gDeed d) → (ds.length : Int) ≤ most → Q (.ref p) H') : spLDeeds K [.ref r, .ref g, tv, .int most] H Q E :=
  ⟨M, r, a0, g, q, ns, kvs, i, kv, tv, ks, Y, most, rfl, S.get 0 rfl, hq, dt_script.mp (S.d 0 rfl), hl, hM.1, S.dom, hg, hk, nd, hd, gg, ht, hY, m0, m1, fun p us ds q' H' hp ok f e e2 hus hgd hlen => k p us ds q' H' hp ok (S.drawnNM hM f e hp e2) hus hgd hlen⟩
end
/-- a test whose answer is known, however it is found -/
theorem x_tt {t : TT} {σ : L2.St} {H : Hp} {Q : Bool → Hp → Prop} (c : Bool) (h : ∀ Q' : Bool → Hp → Prop, Q' c H → t σ H Q') (q : Q c H) : t σ H Q := h Q q
/-- a slot may be spoilt while the other one is good -/
def spoilOk (cs : List (Option Int)) (ks : List Int) : Deed → Bool
  | .spoil s _ _ => decide (whyF cs ks (1 - s) = "")
  | _ => true
end Z

namespace Z
open PySem L2

/-! ## own exceptions with an __init__ of their own -/
/-- what the written part says of such a class, to be looked up -/
def oexB (K : PySem.W.Frag) (C : Addr) : Bool := match K.lookup C with
  | some ⟨.type "type", _, .cls cd, sl⟩ => (match cd.mro, sl.toList with
    | .ref C' :: bm, [_, _, _, _, some (.builtin n), _] => C' == C && n == "ValueError.__new__" && !cd.hasDel && cd.hasDict && PySem.HandSPX.refsVE bm
    | _, _ => false)
  | _ => false
theorem oex_mk {K : PySem.W.Frag} {C : Addr} (q : oexB K C = true) (sa : PySem.W.findIn K (.ref C) "__setattr__" = some (some (.builtin "object.__setattr__"))) (b : PySem.W.subIn K (.ref C) (.type "BaseException") = some true) (t : PySem.W.typeIn K (.ref C) = some (.type "type"))
    (k : PySem.W.keepIn K (.ref C) = true) : OexC K C := by
  refine ⟨?_, sa, b, t, k⟩
  unfold oexB at q
  split at q
  · rename_i dd cd sl ho
    split at q
    · rename_i C' bm k0 k1 k2 k3 n k5 hm hs
      simp only [Bool.and_eq_true, beq_iff_eq, Bool.not_eq_true'] at q
      obtain ⟨⟨⟨⟨rfl, rfl⟩, hdel⟩, hd⟩, hr⟩ := q
      obtain ⟨nm, bs, mro, ns, qn, hd', sn, sub, ab, col, del⟩ := cd
      dsimp only at hm hdel hd
      subst hm hdel hd
      have hsl : sl = #[k0, k1, k2, k3, some (.builtin "ValueError.__new__"), k5] := by
        obtain ⟨l⟩ := sl
        simp only at hs
        rw [hs]
      subst hsl
      exact ⟨nm, qn, ns, bs, bm, sn, sub, ab, col, dd, k0, k1, k2, k3, k5, ho, hr⟩
    · cases q
  · cases q
/-- what the class says to isinstance, and to the one who reads a field -/
structure EisC (K : PySem.W.Frag) (D : Addr) : Prop where
  hg : PySem.W.findIn K (.ref D) "__getattribute__" = some (some (.builtin "BaseException.__getattribute__"))
  hk : PySem.W.findIn K (.ref D) "__getattr__" = some none
  hs : PySem.W.subIn K (.ref D) (.type "BaseException") = some true
  hd : PySem.W.hasDictIn K D = true
  ha : PySem.W.findIn K (.ref D) "__class__" = some (some (.builtin "object.__class__"))
  hn : PySem.W.specialIn K (.builtin "object.__class__") "__get__" = some (some (.builtin "getset_descriptor.__get__"))
  ht : PySem.W.takesIn K (.builtin "object.__class__") = some true
  hm : PySem.W.mroIn K D (.type "object") = some true
theorem EisC.xf {K : PySem.W.Frag} {D : Addr} (h : EisC K D) : XfC K D := ⟨h.hg, h.hk, h.hs, h.hd⟩
theorem EisC.cl {K : PySem.W.Frag} {D : Addr} (h : EisC K D) : (PySem.W.clsIn K D).isSome = true := by
  have := h.hd
  obtain ⟨cd, hc, _⟩ := PySem.W.any_some this
  rw [hc]; rfl
/-- C0.__init__(self, ..), C0 an own class that has none of its own -/
theorem pe_clinit {X : Cx} {x : Str} {C0 : Addr} {e : Expr} {es : List Expr} {ta : TA} {p1 p2 pos : Pos} {pl : Sem Bool} (hg : Gl X x) (hm : X.mg x = some (.ref C0)) (hr : PySem.W.readsIn X.K C0 (.type "type") = true)
    (hsp : PySem.W.specialIn X.K (.ref C0) "__getattribute__" = some (some (.builtin "type.__getattribute__"))) (vV : PySem.W.findCls X.K (.ref C0) (.type "type") "__init__" = some (.val (.builtin "ValueError.__init__"))) (ha : PA X (e :: es) ta)
    (hdb : (x == ("__debug__" : Str)) = false := by decide)
    (hc : eval (.Call (.Attribute (.Name x p1) "__init__" p2) (e :: es) [] pos) X.env = (do
      let ov ← eval (.Name x p1) X.env
      standAt p2.atName
      let (f, first) ← holding [ov] (getMethod ov "__init__" pl)
      callWith pos f first (backTo pos (starEach (e :: es) X.env)) (backToKw pos (keywordEach [] X.env))) := by rfl)
    (he : starEach (e :: es) X.env = (false, eval e X.env) :: starEach es X.env := by rfl) (hpl : (backTo pos (starEach es X.env)).any (·.1) = false := by rfl) :
    PE X (.Call (.Attribute (.Name x p1) "__init__" p2) (e :: es) [] pos) (tVeI X.K ta) := by
  refine ⟨fun pins s σ H Q I h => ?_⟩
  refine PySem.W.methodCall_KW (ld_glob I hg hm ?_ hdb) hc
  refine PySem.W.method_cls I.kIn hsp ?_
  refine PySem.W.cls_value I.kIn hr vV (by decide +kernel) ?_
  show wpAny _ _ (callWith pos (Value.builtin "ValueError.__init__") [] (backTo pos (starEach (e :: es) X.env)) []) _ _ _
  refine PyProof.Rows.callWith_method1 (thn (ha.run pos pins _ σ H _ (I.tok _) h) fun us s1 ⟨vs, H1, I1, r1, a, C, ws, ev, hl, T, ea, q⟩ => ?_) he hpl
  subst ev
  cases r1 with
  | @cons _ u0 _ ur ra rw' =>
    obtain rfl : u0 = Value.ref a := ra
    have hlen : ur.length ≤ sizeLine := by
      rw [← Paired.length rw', sizeLine_eq]
      omega
    exact oinit_ok T I1 ea hlen fun s' J => ⟨.non, H1, J, rfl, q⟩
/-- isinstance(e, c), e the exception that the suite holds; c a class, or a tuple of such -/
def rIsX (K : PySem.W.Frag) (cls : Value) (d : Option Addr) (a : Addr) : List V → Hp → VK → Prop := fun xs H Q => ∃ (c : V) (D : Addr) (b : Bool), xs = [.ref a, c] ∧ cls = .ref D ∧ EisC K D ∧ (∀ dd, d = some dd → ∃ fs, H dd = some (.xd fs)) ∧
  ((∃ cv, (∀ u, RelV c u → u = cv) ∧ PySem.W.kitOne K (.ref D) cv = some b) ∨ ∃ (p : Addr) (ys : List V) (cs : List Value), c = .ref p ∧ H p = some (.tup ys) ∧ (∀ us, Vals ys us → us = cs) ∧ PySem.W.kitAny K (.ref D) cs = some b) ∧ Q (.bl b) H
theorem call_isX {X : Cx} {a : Addr} {oe : Obj} {cls : Value} {d : Option Addr} {pn : List (Addr × Obj)} (hz : Zc cls d oe) (hf : ∃ vs, oe.data = .fields vs) : CallR (X.suite a ((a, oe) :: pn)) (.builtin "isinstance") (rIsX X.K cls d a) := by
  intro pins s σ H xs us Q I r h
  obtain ⟨c, D, b, rfl, rfl, C, hd, hcv, q⟩ := h
  cases r with
  | cons rx rr =>
    cases rr with
    | cons rt rr =>
      cases rr
      cases rx
      obtain ⟨hget, _⟩ := I.pin (a, oe) (List.mem_append.mpr (.inl List.mem_cons_self))
      obtain ⟨vs, hv⟩ := hf
      obtain ⟨od, J⟩ : ∃ od, PySem.W.InstAt s.heap a oe D od := by
        obtain ⟨h1, h2⟩ := hz
        cases d with
        | none => exact ⟨none, hget, h1, by unfold PySem.W.notCls; rw [hv] <;> rfl, by rw [h2]; exact trivial⟩
        | some dd =>
          obtain ⟨fs, ea⟩ := hd dd rfl
          have hx : ObjOk X.prog X.w H s.heap dd (.xd fs) := I.hok dd _ ea
          obtain ⟨mA, hns, hr⟩ := hx
          obtain ⟨od, ho, hl⟩ := lookIn_ns hns
          exact ⟨some od, hget, h1, by unfold PySem.W.notCls; rw [hv] <;> rfl, by rw [h2]; exact ho⟩
      rcases hcv with ⟨cv, hcv, e⟩ | ⟨p, ys, cs, rfl, hp, hcs, e⟩
      · have ec := hcv _ rt
        subst ec
        exact PySem.W.kia_one (PySem.W.kitx_exc C.cl C.hg C.hk C.hs C.ha C.hn C.ht C.hm) I.kIn J e (fun z => nomatch z) fun tk => ⟨.bl b, H, I.kept (t' := tk) fun _ _ z => z, rfl, q⟩
      · cases rt
        obtain ⟨_, its, rv, o, h1, h2, n, h3⟩ := (show ObjOk X.prog X.w H s.heap p (.tup ys) from I.hok p _ hp)
        have ec := hcs _ rv
        subst ec
        obtain ⟨oc, od', oda, osl⟩ := o
        dsimp only at h2 h3
        subst h2 h3
        exact PySem.W.kia_tup (PySem.W.kitx_exc C.cl C.hg C.hk C.hs C.ha C.hn C.ht C.hm) I.kIn J h1 e (fun z => nomatch z) fun tk => ⟨.bl b, H, I.kept (t' := tk) fun _ _ z => z, rfl, q⟩

/-! ### a def that calls what it got, in a try -/
theorem takes_len {Y : Cx} {W : WX} {n : Nat} (hn : Y.N.length = n) (t : Takes Y W) : Takes Y (fun c d σ H => σ.length = n → W c d σ H) := fun u s' ⟨a, B, sI, pins, σ, H, cls, d, e, I, nb, up, sky, na, os, ag, w⟩ =>
  t u s' ⟨a, B, sI, pins, σ, H, cls, d, e, I, nb, up, sky, na, os, ag, w (by rw [I.len, hn])⟩
theorem bodyE_act {Y : Cx} {W : WX} {n : Nat} {a q : Str} {f c' : Addr} {tl : XK → Hp → VK → Prop} {p1 p2 p3 : Pos} (hn : Y.N.length = n) (tk : Takes Y W)
    (act : ∀ (W' : WX) (E : XK), Takes Y W' → (∀ cls d σ' H', E cls d H' → W' cls d σ' H') → PE Y (.Call (.Name a p1) [] [] p2) (fun σZ HZ Q => σZ[0]? = some (some (.ref f)) ∧ HZ c' = some (LamX.CodeO c' q) ∧ tl E HZ Q)) :
    PSs Y [.Expr (.Call (.Name a p1) [] [] p2) p3] (fun D σ H => ∃ Ech : XK, (∀ cls d σ' H', σ'.length = n → Ech cls d H' → W cls d σ' H') ∧ σ[0]? = some (some (.ref f)) ∧ H c' = some (LamX.CodeO c' q) ∧ tl Ech H (fun _ H' => D.nx σ H')) := by
  refine ⟨fun pins s' σ H' D I h' => ?_⟩
  obtain ⟨Ech, hW, h1, h2, h3⟩ := h'
  exact (pss_one (ps_expr (pos := p3) (act _ Ech (takes_len hn tk) (fun cls d σ' H' hE hl => hW cls d σ' H' hl hE)))).run pins s' σ H' D I ⟨h1, h2, h3⟩
theorem bodyR_act {Y : Cx} {W : WX} {n : Nat} {a q : Str} {f c' : Addr} {tl : XK → Hp → VK → Prop} {p1 p2 p3 : Pos} (hn : Y.N.length = n) (tk : Takes Y W)
    (act : ∀ (W' : WX) (E : XK), Takes Y W' → (∀ cls d σ' H', E cls d H' → W' cls d σ' H') → PE Y (.Call (.Name a p1) [] [] p2) (fun σZ HZ Q => σZ[0]? = some (some (.ref f)) ∧ HZ c' = some (LamX.CodeO c' q) ∧ tl E HZ Q)) :
    PSs Y [.Return (some (.Call (.Name a p1) [] [] p2)) p3] (fun D σ H => ∃ Ech : XK, (∀ cls d σ' H', σ'.length = n → Ech cls d H' → W cls d σ' H') ∧ σ[0]? = some (some (.ref f)) ∧ H c' = some (LamX.CodeO c' q) ∧ tl Ech H D.rt) := by
  refine ⟨fun pins s' σ H' D I h' => ?_⟩
  obtain ⟨Ech, hW, h1, h2, h3⟩ := h'
  exact (pss_one (ps_ret (pos := p3) (act _ Ech (takes_len hn tk) (fun cls d σ' H' hE hl => hW cls d σ' H' hl hE)))).run pins s' σ H' D I ⟨h1, h2, h3⟩
/-- e.f in a suite, e of any class that says so -/
def tXg (K : PySem.W.Frag) (a : Addr) (cls : Value) (d : Option Addr) (f : Str) (te : TE) : TE := fun σ H Q => te σ H fun x H1 => x = .ref a ∧ ∃ C : Addr, cls = .ref C ∧ EisC K C ∧ PySem.W.findIn K (.ref C) f = some none ∧ ∃ (dd : Addr) (fs : List (Str × V)) (v : V), d = some dd ∧ H1 dd = some (.xd fs) ∧ fs.lookup f = some v ∧ Q v H1
theorem pe_xg {X : Cx} {a : Addr} {oe : Obj} {cls : Value} {d : Option Addr} {pn : List (Addr × Obj)} {e : Expr} {te : TE} {pos : Pos} {n : Str}
    (hz : Zc cls d oe) (hf : ∃ vs, oe.data = .fields vs) (he : PE (X.suite a ((a, oe) :: pn)) e te) (hb : attributeBase e n X.env (eval e X.env) = eval e X.env := by rfl) :
    PE (X.suite a ((a, oe) :: pn)) (.Attribute e n pos) (tXg X.K a cls d n te) := by
  refine ⟨fun pins s σ H Q I h => ?_⟩
  refine attr_of hb (thn (he.run pins s σ H _ I h) fun u s1 hh => ?_)
  obtain ⟨x, H1, I1, rx, ex, C, ec, T, hno, dd, fs, v, ed, ea, l, q⟩ := hh
  subst ex
  obtain rfl : u = Value.ref a := rx
  subst ec
  subst ed
  obtain ⟨ha, _⟩ := I1.pin (a, oe) (List.mem_append_left _ List.mem_cons_self)
  obtain ⟨vs, hd⟩ := hf
  have hx : ObjOk X.prog X.w H1 s1.heap dd (.xd fs) := I1.hok dd _ ea
  obtain ⟨mA, hns, hr⟩ := hx
  obtain ⟨od, ho, hl⟩ := lookIn_ns hns
  obtain ⟨u, hu, ru⟩ := RelO.some_of (v := v) (o := mA n) (by rw [← l]; exact hr n)
  have J : PySem.W.InstAt s1.heap a oe C (some od) := ⟨ha, hz.1, by unfold PySem.W.notCls; rw [hd] <;> rfl, by rw [hz.2]; exact ho⟩
  exact HandSPX.exc_get I1.kIn J T.hg T.hk T.hs (PySem.W.findObj_own T.hd hno rfl (by rw [hl, hu])) (handed_of ru) ⟨v, H1, I1.tok _, ru, q⟩
/-! ### the steps -/
section
variable {K : PySem.W.Frag} {σ : L2.St} {H : Hp} {Q : VK} {ta : TA} {C a : Addr} {f : Str}
/-- what __init__ of such a class keeps: one field -/
def spExI (K : PySem.W.Frag) (C : Addr) (f : Str) : Sp := fun vs H Q _ => ∃ (a : Addr) (v : V), vs = [.ref a, v] ∧ OexC K C ∧ H a = some (exo a C none) ∧ ∀ dx, H dx = none → dx ≠ a → Q .non (upd (upd H dx (exd dx [(f, v)])) a (exo a C (some dx)))
/-- C(v), made to be raised -/
def MkO (sp : Sp) (C : Addr) (Q : XK) : List V → Hp → Prop := fun vs H1 => vs.length ≤ 1000 ∧ ∀ a, H1 a = none → sp (.ref a :: (vs ++ [])) (upd H1 a (exo a C none))
  (fun v H2 => v = .non ∧ ∃ (d : Addr) (fs : List (Str × V)), H2 a = some (exo a C (some d)) ∧ H2 d = some (exd d fs) ∧ H1 d = none ∧ Q (.ref C) (some d) (upd (del H2 a) d (.xd fs))) (fun _ _ _ => False)
theorem x_mkO {XQ : XK} {sp : Sp} (q : ta σ H (MkO sp C XQ)) : tMkO C sp [] ta σ H XQ := q
theorem n_mkO {XQ : XK} {v : V} (T : OexC K C) (q : ∀ d H', Fr [] H H' → H d = none → H' d = some (.xd [(f, v)]) → XQ (.ref C) (some d) H') : MkO (spExI K C f) C XQ [v] H := by
  refine ⟨by simp, fun a ha => ⟨a, v, rfl, T, upd_same, fun dx hdx hda => ⟨rfl, dx, [(f, v)], upd_same, ?_, ?_, ?_⟩⟩⟩
  · rw [upd_ne hda, upd_same]
  · rw [upd_ne hda] at hdx; exact hdx
  · have hdx' : H dx = none := by rw [upd_ne hda] at hdx; exact hdx
    refine q dx _ (fun b o _ hb => ?_) hdx' upd_same
    have h1 : b ≠ dx := fun z => by rw [z, hdx'] at hb; cases hb
    have h2 : b ≠ a := fun z => by rw [z, ha] at hb; cases hb
    rw [upd_ne h1, del_ne h2, upd_ne h2, upd_ne h1, upd_ne h2]
    exact hb
/-- C0.__init__(self, v) -/
def VeO (K : PySem.W.Frag) (Q : VK) : List V → Hp → Prop := fun us H1 => ∃ (a C : Addr) (ws : List V), us = .ref a :: ws ∧ ws.length ≤ 1000 ∧ OexC K C ∧ H1 a = some (exo a C none) ∧ Q .non H1
theorem x_ve (q : ta σ H (VeO K Q)) : tVeI K ta σ H Q := q
theorem n_ve {vs : List V} (T : OexC K C) (h : H a = some (exo a C none)) (hl : vs.length ≤ 1000) (q : Q .non H) : VeO K Q (.ref a :: vs) H := ⟨a, C, vs, rfl, hl, T, h, q⟩
/-- self.f = v -/
def OstO (K : PySem.W.Frag) (f : Str) (D : Ends) (σ : L2.St) (y x : V) (H2 : Hp) : Prop := ∃ a C : Addr, x = .ref a ∧ OexC K C ∧ PySem.W.findIn K (.ref C) f = some none ∧
  ((H2 a = some (exo a C none) ∧ ∀ dx, H2 dx = none → dx ≠ a → D.nx σ (upd (upd H2 dx (exd dx [(f, y)])) a (exo a C (some dx)))) ∨
    ∃ (dx : Addr) (fs : List (Str × V)), H2 a = some (exo a C (some dx)) ∧ H2 dx = some (exd dx fs) ∧ fs.length ≤ 900 ∧ D.nx σ (upd H2 dx (exd dx ((f, y) :: fs))))
theorem x_ost {to te : TE} {D : Ends} (q : te σ H fun y H1 => to σ H1 fun x H2 => OstO K f D σ y x H2) : tOst K f to te D σ H := q
theorem n_ost {D : Ends} {y : V} (T : OexC K C) (n : NoAttr K C f) (h : H a = some (exo a C none)) (q : ∀ dx, H dx = none → dx ≠ a → D.nx σ (upd (upd H dx (exd dx [(f, y)])) a (exo a C (some dx)))) : OstO K f D σ y (.ref a) H := ⟨a, C, rfl, T, n, .inl ⟨h, q⟩⟩
/-- e.f -/
def XgO (K : PySem.W.Frag) (a : Addr) (cls : Value) (d : Option Addr) (f : Str) (Q : VK) (x : V) (H1 : Hp) : Prop := x = .ref a ∧ ∃ C : Addr, cls = .ref C ∧ EisC K C ∧ PySem.W.findIn K (.ref C) f = some none ∧ ∃ (dd : Addr) (fs : List (Str × V)) (v : V), d = some dd ∧ H1 dd = some (.xd fs) ∧ fs.lookup f = some v ∧ Q v H1
theorem x_xg {cls : Value} {d : Option Addr} {te : TE} (q : te σ H fun x H1 => XgO K a cls d f Q x H1) : tXg K a cls d f te σ H Q := q
theorem n_xg {dd : Addr} {v : V} (T : EisC K C) (n : NoAttr K C f) (h : H dd = some (.xd [(f, v)])) (q : Q v H) : XgO K a (.ref C) (some dd) f Q (.ref a) H := ⟨rfl, C, rfl, T, n, dd, _, v, rfl, h, by simp [List.lookup], q⟩
theorem n_isX {c : V} {cv : Value} {b : Bool} {dd : Addr} {fs : List (Str × V)} (T : EisC K C) (h : H dd = some (.xd fs)) (hc : ∀ u, RelV c u → u = cv) (e : PySem.W.kitOne K (.ref C) cv = some b) (q : Q (.bl b) H) : rIsX K (.ref C) (some dd) a [.ref a, c] H Q :=
  ⟨c, C, b, rfl, rfl, T, fun d' e' => by cases e'; exact ⟨fs, h⟩, .inl ⟨cv, hc, e⟩, q⟩
theorem n_isX0 {c : V} {cv : Value} {b : Bool} (T : EisC K C) (hc : ∀ u, RelV c u → u = cv) (e : PySem.W.kitOne K (.ref C) cv = some b) (q : Q (.bl b) H) : rIsX K (.ref C) none a [.ref a, c] H Q :=
  ⟨c, C, b, rfl, rfl, T, (fun _ z => nomatch z), .inl ⟨cv, hc, e⟩, q⟩
theorem n_isXT {p : Addr} {ys : List V} {cs : List Value} {b : Bool} {d : Option Addr} (T : EisC K C) (h : ∀ dd, d = some dd → ∃ fs, H dd = some (.xd fs)) (hp : H p = some (.tup ys)) (hc : ∀ us, Vals ys us → us = cs) (e : PySem.W.kitAny K (.ref C) cs = some b) (q : Q (.bl b) H) : rIsX K (.ref C) d a [.ref a, .ref p] H Q :=
  ⟨.ref p, C, b, rfl, rfl, T, h, .inr ⟨p, ys, cs, rfl, hp, hc, e⟩, q⟩
theorem vals_refs : ∀ {as : List Addr} {us : List Value}, Vals (as.map V.ref) us → us = as.map Value.ref
  | [], _, r => by cases r; rfl
  | a :: as, _, r => by
    cases r with
    | cons h t =>
      rw [vals_refs t]
      cases h
      rfl
theorem kit_nil {t : Value} : PySem.W.kitAny K t [] = some false := rfl
theorem kit_no {t c : Value} {cs : List Value} {r : Bool} (h : PySem.W.kitOne K t c = some false) (q : PySem.W.kitAny K t cs = some r) : PySem.W.kitAny K t (c :: cs) = some r := by
  unfold PySem.W.kitAny
  rw [h]
  exact q
theorem kit_yes {t c : Value} {cs : List Value} (h : PySem.W.kitOne K t c = some true) : PySem.W.kitAny K t (c :: cs) = some true := by
  unfold PySem.W.kitAny
  rw [h]
theorem fn_type {u : Value} (h : PySem.W.isFn K u = true) : PySem.W.typeIn K u = some (.type "function") := beq_iff_eq.mp h
end

/-- [x for x in t if test], t a tuple of whole numbers -/
theorem lcD_filT {K : PySem.W.Frag} {M : List Addr} {H : Hp} {H0 : Bs} {L : List (Addr × HO)} {Ds : List (PyData × V)} {Q : VK} {σ : L2.St} {tt : TT} {te : TE} {j : Nat} {p : Addr} (S : Sy K H0 M H L Ds) {ns : List Int} (h : Dt K M H (.tuple (ns.map .int)) (.ref p)) (hz : ns.length ≤ 1000) (P : Int → Bool)
    (ht : ∀ (n : Int) (D : Addr) (acc : List V) (H' : Hp) (Q' : Bool → Hp → Prop), n ∈ ns → Sy K (b0 H) (D :: M) H' (L ++ [(D, .lst acc)]) Ds →
      (∀ H'', Sy K (b0 H) (D :: M) H'' (L ++ [(D, .lst acc)]) Ds → Q' (P n) H'') → tt ((σ.set j none).set j (some (.int n))) H' Q')
    (hte : ∀ (n : Int) (D : Addr) (acc : List V) (H' : Hp) (Q' : VK), Sy K (b0 H) (D :: M) H' (L ++ [(D, .lst acc)]) Ds → Q' (.int n) H' → te ((σ.set j none).set j (some (.int n))) H' Q')
    (k : ∀ D H', Sy K H0 M H' L (Ds ++ [(.list ((ns.filter P).map .int), .ref D)]) → Q (.ref D) H') : LcO (gName j) tt te [j] σ Q (Itt K p) H := by
  obtain ⟨xs, s, r⟩ := h.tup
  have ex := DtL.ints.mp r
  subst ex
  intro D hD
  have DF := hD
  have w : Walk (Itt K p) ns.length (fun H => SqT K H p (ns.map V.int)) (fun i H x H' => H' = H ∧ (ns.map V.int)[i]? = some x) := by
    have : ns.length = (ns.map V.int).length := (List.length_map _).symm
    rw [this]; exact walk_tup
  refine lc_it w (fun m H' => Sy K (b0 H) (D :: M) H' (L ++ [(D, .lst (((ns.take m).filter P).map V.int))]) Ds) (by simpa using S.rebase.newM hD) (fun m H' _ T => s.still D H' hD (Fr.wk0 T.fr)) ?_ ?_
  · rintro m x H2 H' hi T ⟨rfl, hy⟩
    refine ⟨wipe_one _, ?_⟩
    obtain ⟨n, hn, rfl⟩ := of_map hy
    refine ht n D _ H' _ (List.mem_of_getElem? hn) T fun H'' T2 => ?_
    cases hP : P n with
    | false =>
      refine x_iteF rfl ?_
      rw [take_more hn, List.filter_append]
      simpa [hP] using T2
    | true =>
      refine x_iteT rfl ?_
      refine hte n D _ H'' _ T2 ?_
      have gD : ∀ acc : List V, (L ++ [(D, HO.lst acc)])[L.length]? = some (D, .lst acc) := fun acc => by simp
      refine ⟨_, T2.get L.length (gD _), ?_, ?_⟩
      · have h1 : ((ns.take m).filter P).length ≤ (ns.take m).length := List.length_filter_le ..
        rw [List.length_map]
        rw [List.length_take] at h1
        exact szl (by omega)
      · have T4 := T2.set (o' := .lst (((ns.take m).filter P).map V.int ++ [.int n])) L.length (gD _) ⟨List.mem_cons_self .., .inr DF⟩
        rw [take_more hn, List.filter_append]
        simpa [hP] using T4
  · intro H' T
    rw [List.take_length] at T
    have T1 : Sy K (b0 H) (D :: M) H' L Ds := T.sub (List.sublist_append_left _ _)
    have T2 := (S.over T1).dropM
    refine k D H' (T2.addD ?_)
    have gD : (L ++ [(D, HO.lst ((ns.filter P).map V.int))])[L.length]? = some (D, .lst ((ns.filter P).map V.int)) := by simp
    exact Dt.lstI ⟨T.sl L.length gD, .inl (S.notM hD)⟩ (DtL.ints.mpr rfl)
theorem d_neNilI {K : PySem.W.Frag} {M : List Addr} {H : Hp} {Q : VK} {v u : V} {ns : List Int} (h1 : Dt K M H (.list (ns.map .int)) v) (h2 : Dt K M H (.list []) u) (q : Q (.bl (!decide (ns = []))) H) : rNeD K v u H Q := by
  refine n_neD h1.dp h2.dp (sh_ints ns) (by decide +kernel) ?_
  cases ns with
  | nil => exact q
  | cons a t => exact q

/-! ### list + list, both read -/
def rCatS (K : PySem.W.Frag) : R2 := fun x y H Q => ∃ l b xs zs, x = .ref l ∧ y = .ref b ∧ SqL K H l xs ∧ SqL K H b zs ∧ xs.length + zs.length ≤ sizeLine ∧ NewO H (.lst (xs ++ zs)) Q
theorem op_catS {X : Cx} : OpR X (binaryOp .Add) (rCatS X.K) := by
  intro pins s σ H x y v u Q I rx ry h
  obtain ⟨l, b, xs, zs, rfl, rfl, hH, hB, hz, q⟩ := h
  cases rx
  cases ry
  obtain ⟨its, r, ⟨o, n, e, ec, ed, ei⟩, -⟩ := I.list hH
  obtain ⟨its2, r2, ⟨o2, n2, e2, ec2, ed2, ei2⟩, -⟩ := I.list hB
  have l1 := r.length
  have l2 := r2.length
  obtain ⟨cls, dd, data, sl⟩ := o
  obtain ⟨cls2, dd2, data2, sl2⟩ := o2
  dsimp only at ec ed ei ec2 ed2 ei2
  subst ec ed ei ec2 ed2 ei2
  refine concat_meets ⟨_, e, rfl⟩ ⟨_, e2, rfl⟩ noFill_list_add seq_list_add PySem.F.slot_list_add PySem.F.entry_list_add (PySem.F.args_list_add_2 _ _) (PyProof.Rows.list_addW l b its.toArray its2.toArray n n2 none none sl sl2 (by simp only [List.size_toArray]; omega)) ⟨e, e2, ?_⟩
  have ea : its.toArray ++ its2.toArray = (its ++ its2).toArray := by simp
  rw [ea]
  exact ⟨.ref _, _, I.lnew (t' := s.toks) (r.append r2) (by rw [List.length_append]; omega), rfl, q _ I.fresh⟩
section
variable {K : PySem.W.Frag} {M : List Addr} {H : Hp} {H0 : Bs} {L : List (Addr × HO)} {Ds : List (PyData × V)} {Q : VK} {ds es : List PyData} {p a : Addr} {i : Int} {xs : List V}
theorem n_catS {ys : List V} (h1 : SqL K H p xs) (h2 : SqL K H a ys) (hz : xs.length + ys.length ≤ 16777216) (q : NewO H (.lst (xs ++ ys)) Q) : rCatS K (.ref p) (.ref a) H Q := ⟨p, a, xs, ys, rfl, rfl, h1, h2, szL hz, q⟩
theorem d_catS (S : Sy K H0 M H L Ds) (h1 : Dt K M H (.list ds) (.ref p)) (h2 : Dt K M H (.list es) (.ref a)) (hz : ds.length + es.length ≤ 100000)
    (q : ∀ p H', Sy K H0 M H' L (Ds ++ [(.list (ds ++ es), .ref p)]) → Q (.ref p) H') : rCatS K (.ref p) (.ref a) H Q := by
  obtain ⟨xs, s1, r1⟩ := h1.lst
  obtain ⟨ys, s2, r2⟩ := h2.lst
  exact n_catS s1.1 s2.1 (by rw [r1.len, r2.len]; omega) (d_newL S (r1.append r2) q)
theorem DtL.rep {v : V} {d : PyData} (h : Dt K M H d v) : ∀ n : Nat, DtL K M H (List.replicate n d) (List.replicate n v)
  | 0 => DtL.nil'
  | n + 1 => by rw [List.replicate_succ, List.replicate_succ]; exact DtL.cons' h (DtL.rep h n)
/-- [x] * i, the list as it was just made -/
theorem d_rep1 {d : PyData} {v : V} (S : Sy K H0 M H L Ds) (h1 : H p = some (.lst [v])) (hd : Dt K M H d v) (k0 : -(2 ^ 63) ≤ i) (k1 : i < 2 ^ 63) (hz : i.toNat ≤ 16777216) (q : ∀ p H', Sy K H0 M H' L (Ds ++ [(.list (List.replicate i.toNat d), .ref p)]) → Q (.ref p) H') : rRep (.ref p) (.int i) H Q := by
  refine n_rep h1 k0 k1 (by simpa using hz) ?_
  rw [show (List.replicate i.toNat [v]).flatten = List.replicate i.toNat v by simp]
  exact d_newL S (DtL.rep hd _) q
theorem cutG_from {xs : List PyData} {b : Int} (h : 0 ≤ b) : cutG xs (some b) none = xs.drop b.toNat := by
  unfold cutG
  have e1 : HT.sIx xs.length 0 (some b) = min b.toNat xs.length := by simp only [HT.sIx]; split <;> omega
  have e2 : HT.sIx xs.length xs.length none = xs.length := rfl
  rw [e1, e2]
  rcases Nat.le_total b.toNat xs.length with h1 | h1
  · rw [Nat.min_eq_left h1, ← List.length_drop]; exact List.take_length
  · rw [Nat.min_eq_right h1, List.drop_length, List.drop_eq_nil_of_le h1]; simp
end
end Z

namespace ZL
open PySem L2 Z
/-! ### the text -/
def topS (i : Nat) : Stmt := PySem.Challenge.pw_twoimages_k13_stores_that_hand_out_piece.main.body.getD i (.Pass ⟨0, 0, 0, 0⟩)
abbrev s__law_taken : Stmt := topS 21
abbrev s__law_keys : Stmt := topS 28
abbrev s__law_worth : Stmt := topS 23
abbrev s__law_picture : Stmt := topS 29
abbrev s__law_pieces : Stmt := topS 26
abbrev s__law_sums : Stmt := topS 24
abbrev s__law_title : Stmt := topS 25
abbrev s__law_store : Stmt := topS 30
abbrev s__law_stores : Stmt := topS 31
abbrev s_BadStores___init__ : Stmt := inClass (topS 5) 0
abbrev s_is_worth : Stmt := topS 15
abbrev s_is_store : Stmt := topS 16
abbrev s_need_stores : Stmt := topS 17
abbrev s_sums : Stmt := topS 9
abbrev s_name : Stmt := topS 10
abbrev s_asked : Stmt := topS 18
abbrev s_fetched : Stmt := topS 19
abbrev s__law_asked : Stmt := topS 27
abbrev s__law_alike : Stmt := topS 22
abbrev s__law_odd : Stmt := topS 33
abbrev s__law_number : Stmt := topS 32
abbrev s_law : Stmt := topS 34
theorem sc__law_taken : FnScope ["_law_row", "_law_many", "_law_found", "_law_cell"] ["_law_row", "_law_many"] (defScope s__law_taken) := ⟨rfl, rfl, rfl, by decide +kernel, rfl, by decide +kernel, by decide +kernel⟩
theorem sc__law_keys : FnScope ["_law_row", "_law_k"] ["_law_row"] (defScope s__law_keys) := ⟨rfl, rfl, rfl, by decide +kernel, rfl, by decide +kernel, by decide +kernel⟩
theorem sc__law_worth : FnScope ["_law_row"] ["_law_row"] (defScope s__law_worth) := ⟨rfl, rfl, rfl, by decide +kernel, rfl, by decide +kernel, by decide +kernel⟩
theorem sc__law_picture : FnScope ["_law_row", "_law_keys_here", "_law_most", "_law_cells", "_law_k"] ["_law_row", "_law_keys_here", "_law_most"] (defScope s__law_picture) := ⟨rfl, rfl, rfl, by decide +kernel, rfl, by decide +kernel, by decide +kernel⟩
theorem sc__law_pieces : FnScope ["_law_some", "_law_k"] ["_law_some"] (defScope s__law_pieces) := ⟨rfl, rfl, rfl, by decide +kernel, rfl, by decide +kernel, by decide +kernel⟩
theorem sc__law_sums : FnScope ["_law_some", "_law_one", "_law_two", "_law_number_here", "_law_k"] ["_law_some"] (defScope s__law_sums) := ⟨rfl, rfl, rfl, by decide +kernel, rfl, by decide +kernel, by decide +kernel⟩
theorem sc__law_title : FnScope ["_law_piece", "_law_both"] ["_law_piece"] (defScope s__law_title) := ⟨rfl, rfl, rfl, by decide +kernel, rfl, by decide +kernel, by decide +kernel⟩
theorem sc__law_store : FnScope ["_law_row", "_law_picture_here", "_law_often", "_law_found", "_law_piece", "_law_title_here", "_law_turn", "_law_some"] ["_law_row", "_law_picture_here", "_law_often"] (defScope s__law_store) := ⟨rfl, rfl, rfl, by decide +kernel, rfl, by decide +kernel, by decide +kernel⟩
theorem sc__law_stores : FnScope ["_law_row", "_law_picture_here", "_law_sure", "_law_found", "_law_k"] ["_law_row", "_law_picture_here", "_law_sure"] (defScope s__law_stores) := ⟨rfl, rfl, rfl, by decide +kernel, rfl, by decide +kernel, by decide +kernel⟩
theorem sc_BadStores___init__ : FnScope ["self", "number"] ["self", "number"] (defScope s_BadStores___init__) := ⟨rfl, rfl, rfl, by decide +kernel, rfl, by decide +kernel, by decide +kernel⟩
theorem sc_is_worth : FnScope ["number"] ["number"] (defScope s_is_worth) := ⟨rfl, rfl, rfl, by decide +kernel, rfl, by decide +kernel, by decide +kernel⟩
theorem sc_is_store : FnScope ["store", "title", "piece", "cell"] ["store"] (defScope s_is_store) := ⟨rfl, rfl, rfl, by decide +kernel, rfl, by decide +kernel, by decide +kernel⟩
theorem sc_need_stores : FnScope ["stores", "number"] ["stores"] (defScope s_need_stores) := ⟨rfl, rfl, rfl, by decide +kernel, rfl, by decide +kernel, by decide +kernel⟩
theorem sc_sums : FnScope ["row", "one", "two", "number"] ["row"] (defScope s_sums) := ⟨rfl, rfl, rfl, by decide +kernel, rfl, by decide +kernel, by decide +kernel⟩
theorem sc_name : FnScope ["piece", "both"] ["piece"] (defScope s_name) := ⟨rfl, rfl, rfl, by decide +kernel, rfl, by decide +kernel, by decide +kernel⟩
theorem sc_asked : FnScope ["stores", "title", "looks", "store", "known", "piece"] ["stores", "title"] (defScope s_asked) := ⟨rfl, rfl, rfl, by decide +kernel, rfl, by decide +kernel, by decide +kernel⟩
theorem sc_fetched : FnScope ["stores", "title"] ["stores", "title"] (defScope s_fetched) := ⟨rfl, rfl, rfl, by decide +kernel, rfl, by decide +kernel, by decide +kernel⟩
theorem sc__law_asked : FnScope ["_law_stores_here", "_law_title_here", "_law_some", "_law_store_here", "_law_k", "_law_known", "_law_piece"] ["_law_stores_here", "_law_title_here"] (defScope s__law_asked) := ⟨rfl, rfl, rfl, by decide +kernel, rfl, by decide +kernel, by decide +kernel⟩
theorem sc__law_alike : FnScope ["_law_found", "_law_due", "_law_k"] ["_law_found", "_law_due"] (defScope s__law_alike) := ⟨rfl, rfl, rfl, by decide +kernel, rfl, by decide +kernel, by decide +kernel⟩
theorem sc__law_odd : FnScope ["_law_row", "_law_far", "_law_some"] ["_law_row"] (defScope s__law_odd) := ⟨rfl, rfl, rfl, by decide +kernel, rfl, by decide +kernel, by decide +kernel⟩
theorem sc__law_number : FnScope ["_law_work", "e", "_law_other"] ["_law_work"] (defScope s__law_number) := ⟨rfl, rfl, rfl, by decide +kernel, rfl, by decide +kernel, by decide +kernel⟩
theorem sc_law : FnScope ["_law_script", "_law_turn", "_law_keys_here", "_law_picture_here", "_law_stores_here", "_law_title_here", "_law_handed", "_law_long", "_law_at", "_law_odd_here", "_law_row", "_law_titles", "_law_piece", "_law_store_here"] ["_law_script"] (defScope s_law) := ⟨rfl, rfl, rfl, by decide +kernel, rfl, by decide +kernel, by decide +kernel⟩
/-! ### what the top has made -/
structure Ad where
  a__law_taken : Addr
  d__law_taken : FuncData
  a__law_keys : Addr
  d__law_keys : FuncData
  a__law_worth : Addr
  d__law_worth : FuncData
  a__law_picture : Addr
  d__law_picture : FuncData
  a__law_pieces : Addr
  d__law_pieces : FuncData
  a__law_sums : Addr
  d__law_sums : FuncData
  a__law_title : Addr
  d__law_title : FuncData
  a__law_store : Addr
  d__law_store : FuncData
  a__law_stores : Addr
  d__law_stores : FuncData
  a_BadStores___init__ : Addr
  d_BadStores___init__ : FuncData
  a_is_worth : Addr
  d_is_worth : FuncData
  a_is_store : Addr
  d_is_store : FuncData
  a_need_stores : Addr
  d_need_stores : FuncData
  a_sums : Addr
  d_sums : FuncData
  a_name : Addr
  d_name : FuncData
  a_asked : Addr
  d_asked : FuncData
  a_fetched : Addr
  d_fetched : FuncData
  a__law_asked : Addr
  d__law_asked : FuncData
  a__law_alike : Addr
  d__law_alike : FuncData
  a__law_odd : Addr
  d__law_odd : FuncData
  a__law_number : Addr
  d__law_number : FuncData
  a_law : Addr
  d_law : FuncData
  c_BadKeys : Addr
  c_BadManifest : Addr
  c_BadPicture : Addr
  c_BadStores : Addr
  c_ImageError : Addr
  cd_law : Addr
  tb_law : Addr
abbrev lamq_law : Str := (PyProof.Rows.envOfC "law" (defScope s_law) 0 0 .none).qual ++ "<lambda>"
abbrev erF (A : Ad) : Z.Er → Addr
  | .size => 0
  | .place => 0
  | .worth => 0
  | .cut => 0
  | .stopped => 0
structure Txt (K : PySem.W.Frag) (mg : Str → Option Value) (base : Heap) (A : Ad) : Prop where
  F__law_taken : Fun K "_law_taken" "_law_taken" s__law_taken A.a__law_taken A.d__law_taken
  b__law_taken : Binds K A.d__law_taken ["_law_row", "_law_many"] []
  g__law_taken : mg "_law_taken" = some (.ref A.a__law_taken)
  F__law_keys : Fun K "_law_keys" "_law_keys" s__law_keys A.a__law_keys A.d__law_keys
  b__law_keys : Binds K A.d__law_keys ["_law_row"] []
  g__law_keys : mg "_law_keys" = some (.ref A.a__law_keys)
  F__law_worth : Fun K "_law_worth" "_law_worth" s__law_worth A.a__law_worth A.d__law_worth
  b__law_worth : Binds K A.d__law_worth ["_law_row"] []
  g__law_worth : mg "_law_worth" = some (.ref A.a__law_worth)
  F__law_picture : Fun K "_law_picture" "_law_picture" s__law_picture A.a__law_picture A.d__law_picture
  b__law_picture : Binds K A.d__law_picture ["_law_row", "_law_keys_here", "_law_most"] []
  g__law_picture : mg "_law_picture" = some (.ref A.a__law_picture)
  F__law_pieces : Fun K "_law_pieces" "_law_pieces" s__law_pieces A.a__law_pieces A.d__law_pieces
  b__law_pieces : Binds K A.d__law_pieces ["_law_some"] []
  g__law_pieces : mg "_law_pieces" = some (.ref A.a__law_pieces)
  F__law_sums : Fun K "_law_sums" "_law_sums" s__law_sums A.a__law_sums A.d__law_sums
  b__law_sums : Binds K A.d__law_sums ["_law_some"] []
  g__law_sums : mg "_law_sums" = some (.ref A.a__law_sums)
  F__law_title : Fun K "_law_title" "_law_title" s__law_title A.a__law_title A.d__law_title
  b__law_title : Binds K A.d__law_title ["_law_piece"] []
  g__law_title : mg "_law_title" = some (.ref A.a__law_title)
  F__law_store : Fun K "_law_store" "_law_store" s__law_store A.a__law_store A.d__law_store
  b__law_store : Binds K A.d__law_store ["_law_row", "_law_picture_here", "_law_often"] []
  g__law_store : mg "_law_store" = some (.ref A.a__law_store)
  F__law_stores : Fun K "_law_stores" "_law_stores" s__law_stores A.a__law_stores A.d__law_stores
  b__law_stores : Binds K A.d__law_stores ["_law_row", "_law_picture_here", "_law_sure"] []
  g__law_stores : mg "_law_stores" = some (.ref A.a__law_stores)
  F_BadStores___init__ : Fun K "__init__" "BadStores.__init__" s_BadStores___init__ A.a_BadStores___init__ A.d_BadStores___init__
  b_BadStores___init__ : Binds K A.d_BadStores___init__ ["self", "number"] []
  m_BadStores___init__ : Meth K A.c_BadStores "__init__" A.a_BadStores___init__
  F_is_worth : Fun K "is_worth" "is_worth" s_is_worth A.a_is_worth A.d_is_worth
  b_is_worth : Binds K A.d_is_worth ["number"] []
  g_is_worth : mg "is_worth" = some (.ref A.a_is_worth)
  F_is_store : Fun K "is_store" "is_store" s_is_store A.a_is_store A.d_is_store
  b_is_store : Binds K A.d_is_store ["store"] []
  g_is_store : mg "is_store" = some (.ref A.a_is_store)
  F_need_stores : Fun K "need_stores" "need_stores" s_need_stores A.a_need_stores A.d_need_stores
  b_need_stores : Binds K A.d_need_stores ["stores"] []
  g_need_stores : mg "need_stores" = some (.ref A.a_need_stores)
  F_sums : Fun K "sums" "sums" s_sums A.a_sums A.d_sums
  b_sums : Binds K A.d_sums ["row"] []
  g_sums : mg "sums" = some (.ref A.a_sums)
  F_name : Fun K "name" "name" s_name A.a_name A.d_name
  b_name : Binds K A.d_name ["piece"] []
  g_name : mg "name" = some (.ref A.a_name)
  F_asked : Fun K "asked" "asked" s_asked A.a_asked A.d_asked
  b_asked : Binds K A.d_asked ["stores", "title"] []
  g_asked : mg "asked" = some (.ref A.a_asked)
  F_fetched : Fun K "fetched" "fetched" s_fetched A.a_fetched A.d_fetched
  b_fetched : Binds K A.d_fetched ["stores", "title"] []
  g_fetched : mg "fetched" = some (.ref A.a_fetched)
  F__law_asked : Fun K "_law_asked" "_law_asked" s__law_asked A.a__law_asked A.d__law_asked
  b__law_asked : Binds K A.d__law_asked ["_law_stores_here", "_law_title_here"] []
  g__law_asked : mg "_law_asked" = some (.ref A.a__law_asked)
  F__law_alike : Fun K "_law_alike" "_law_alike" s__law_alike A.a__law_alike A.d__law_alike
  b__law_alike : Binds K A.d__law_alike ["_law_found", "_law_due"] []
  g__law_alike : mg "_law_alike" = some (.ref A.a__law_alike)
  F__law_odd : Fun K "_law_odd" "_law_odd" s__law_odd A.a__law_odd A.d__law_odd
  b__law_odd : Binds K A.d__law_odd ["_law_row"] []
  g__law_odd : mg "_law_odd" = some (.ref A.a__law_odd)
  F__law_number : Fun K "_law_number" "_law_number" s__law_number A.a__law_number A.d__law_number
  b__law_number : Binds K A.d__law_number ["_law_work"] []
  g__law_number : mg "_law_number" = some (.ref A.a__law_number)
  FC_law : Z.FunC K "law" "law" s_law A.a_law A.d_law A.cd_law
  TB_law : LamX.TabB base mg A.cd_law A.tb_law
  F_law : Fun K "law" "law" s_law A.a_law A.d_law
  b_law : Binds K A.d_law ["_law_script"] []
  g_law : mg "law" = some (.ref A.a_law)
  g_BadKeys : mg "BadKeys" = some (.ref A.c_BadKeys)
  g_BadManifest : mg "BadManifest" = some (.ref A.c_BadManifest)
  g_BadPicture : mg "BadPicture" = some (.ref A.c_BadPicture)
  g_BadStores : mg "BadStores" = some (.ref A.c_BadStores)
  g_ImageError : mg "ImageError" = some (.ref A.c_ImageError)
  o_BadStores : OexC K A.c_BadStores
  ri_ImageError : PySem.W.readsIn K A.c_ImageError (.type "type") = true
  si_ImageError : PySem.W.specialIn K (.ref A.c_ImageError) "__getattribute__" = some (some (.builtin "type.__getattribute__"))
  vi_ImageError : PySem.W.findCls K (.ref A.c_ImageError) (.type "type") "__init__" = some (.val (.builtin "ValueError.__init__"))
  es_BadStores : Z.EisC K A.c_BadStores
  ki_BadStores_BadKeys : PySem.W.kitOne K (.ref A.c_BadStores) (.ref A.c_BadKeys) = some false
  ki_BadStores_BadManifest : PySem.W.kitOne K (.ref A.c_BadStores) (.ref A.c_BadManifest) = some false
  ki_BadStores_BadPicture : PySem.W.kitOne K (.ref A.c_BadStores) (.ref A.c_BadPicture) = some false
  ki_BadStores_BadStores : PySem.W.kitOne K (.ref A.c_BadStores) (.ref A.c_BadStores) = some true
  ki_BadStores_ValueError : PySem.W.kitOne K (.ref A.c_BadStores) (.type "ValueError") = some true
  e_BadStores_ImageError : PySem.W.exmOne K (.ref A.c_BadStores) (.ref A.c_ImageError) = some true
  n_BadStores_number : NoAttr K A.c_BadStores "number"
  z_ValueError : mg "ValueError" = none
  z_bool : mg "bool" = none
  z_int : mg "int" = none
  z_isinstance : mg "isinstance" = none
  z_len : mg "len" = none
  z_list : mg "list" = none
  z_range : mg "range" = none
  z_str : mg "str" = none
  z_sum : mg "sum" = none
  z_tuple : mg "tuple" = none
  c_MOST_ROWS : ∃ t, mg "MOST_ROWS" = some (.int 40 t)
  c_MOST_STORES : ∃ t, mg "MOST_STORES" = some (.int 4 t)
  c_MOST_WORTH : ∃ t, mg "MOST_WORTH" = some (.int 9972 t)
  c_PIECE : ∃ t, mg "PIECE" = some (.int 3 t)
  c_PRIME : ∃ t, mg "PRIME" = some (.int 9973 t)
abbrev sp__law_alike := spAlike
def sp_law (tb : Addr) (K : PySem.W.Frag) : Sp := fun vs H Q _ => ∃ (a : Addr) (ns : List Int), vs = [.ref a] ∧ SqL K H a (ns.map V.int) ∧ ns.length ≤ 63 ∧ H tb = some (.tbl #[]) ∧ ∀ H', Q (.bl true) H'
abbrev sp__law_taken := spTaken
abbrev sp__law_worth := spDraw (fun x => 0 ≤ x ∧ x < 9973)
abbrev sp_sums := spSums
abbrev sp__law_sums := spEO (fun xs => xs.length ≤ 10000) sumsD
abbrev sp__law_keys := spDrawD (fun (_ : Unit) => []) (fun _ => True) (fun _ d => ∃ ks, d = keysD ks ∧ gk ks)
abbrev sp__law_picture := spDrawD (fun (x : List Int × Int) => [keysD x.1, .int x.2]) (fun x => gk x.1 ∧ 1 ≤ x.2 ∧ x.2 ≤ 999) (fun x d => ∃ pic, d = picD pic ∧ gp x.1 pic ∧ pic.v ≤ x.2)
abbrev sp_name := spName
abbrev sp_joined := spJoined
abbrev sp_pieces := spE (fun ns => ns.length ≤ 10000) (fun ns => .list ((piecesF ns).map fun c => .tuple (c.map .int)))
abbrev sp_need_keys := spD (fun (x : List Int × Int) => [keysD x.1, .int x.2]) (fun x => gk x.1 ∧ 1 ≤ x.2 ∧ x.2 ≤ 3) (fun _ => .none)
abbrev sp_need_picture := spD (fun (x : List Int × Pic) => [keysD x.1, picD x.2]) (fun x => gk x.1 ∧ gp x.1 x.2) (fun _ => .none)
abbrev sp_sealed_head := spD (fun (x : List Int × Pic) => [keysD x.1, picD x.2]) (fun x => gk x.1 ∧ gp x.1 x.2) (fun x => .tuple ((headF x.1 x.2).map .int))
abbrev sp_manifest_of := spD (fun (x : List Int × Pic) => [keysD x.1, picD x.2]) (fun x => gk x.1 ∧ gp x.1 x.2) (fun x => maniD x.1 x.2)
abbrev sp_is_worth := spWorth
abbrev sp_sizes := spD (fun (n : Int) => [.int n]) (fun n => 1 ≤ n ∧ n ≤ 12) (fun n => .list ((sizesF n).map .int))
abbrev sp_why_none := spD (fun (m : Man) => [manD m]) gman (fun _ => .str "")
abbrev sp_need_manifest := spD (fun (m : Man) => [manD m]) gman (fun _ => .none)
abbrev sp__law_refused := spLRef
abbrev sp__law_asked := spD (fun (x : List (List Row) × (Int × Int × Int)) => [storesD x.1, tripD x.2]) (fun x => gStores x.1) (fun x => askD (askF x.1 x.2))
abbrev sp__law_title := spTitleN
abbrev sp__law_pieces := spE (fun ns => ns.length ≤ 10000) (fun ns => .list ((piecesF ns).map fun c => .tuple (c.map .int)))
abbrev sp__law_manifest := spD (fun (x : List Int × Pic) => [keysD x.1, picD x.2]) (fun x => gk x.1 ∧ gp x.1 x.2) (fun x => maniD x.1 x.2)
abbrev sp_asked := spD (fun (x : List (List Row) × (Int × Int × Int)) => [storesD x.1, tripD x.2]) (fun x => gStores x.1) (fun x => askD (askF x.1 x.2))
abbrev sp__law_note := spLNote
abbrev sp__law_store := spDrawD (fun (x : Pic × Int) => [picD x.1, .int x.2]) (fun x => (∃ ks, gp ks x.1) ∧ 1 ≤ x.2 ∧ x.2 ≤ 10) (fun x d => ∃ st, d = storeD st ∧ gStore st ∧ (x.2 = 1 → ∀ c ∈ piecesF x.1.cells, (titleF c, c) ∈ st))
abbrev sp__law_stores := spDrawD (fun (x : Pic × Bool) => [picD x.1, .bool x.2]) (fun x => ∃ ks, gp ks x.1) (fun x d => ∃ ss, d = storesD ss ∧ gStores ss ∧ (x.2 = true → ∃ st ∈ ss, ∀ c ∈ piecesF x.1.cells, (titleF c, c) ∈ st))
abbrev sp__law_twins := spDrawD (fun (ks : List Int) => [keysD ks]) gk (fun ks d => ∃ p1 p2, d = .tuple [picD p1, picD p2] ∧ gp ks p1 ∧ gp ks p2)
/-- rows of a store, whatever they hold -/
abbrev GRow := List Int × List Int
def growD (g : GRow) : PyData := .tuple [.tuple (g.1.map .int), .tuple (g.2.map .int)]
def gstD (st : List GRow) : PyData := .list (st.map growD)
def gstsD (gs : List (List GRow)) : PyData := .list (gs.map gstD)
def emb (r : Row) : GRow := ([r.1.1, r.1.2.1, r.1.2.2], r.2)
theorem growD_emb (r : Row) : growD (emb r) = rowD r := rfl
theorem gstD_emb (st : List Row) : gstD (st.map emb) = storeD st := by unfold gstD storeD; rw [List.map_map]; rfl
theorem gstsD_emb (ss : List (List Row)) : gstsD (ss.map (·.map emb)) = storesD ss := by
  unfold gstsD storesD
  rw [List.map_map]
  congr 1
  exact List.map_congr_left fun st _ => gstD_emb st
def okC (n : Int) : Bool := decide (0 ≤ n) && decide (n ≤ 9972)
def isRow (g : GRow) : Bool := decide (g.1.length = 3) && (decide (1 ≤ g.2.length) && decide (g.2.length ≤ 3) && g.2.all okC)
def isSt (st : List GRow) : Bool := st.all isRow && decide (st.length ≤ 40)
def small (st : List GRow) : Prop := st.length ≤ 1000 ∧ ∀ g ∈ st, g.1.length ≤ 100 ∧ g.2.length ≤ 100
def badFrom : List (List GRow) → Nat → Option Nat
  | [], _ => none
  | st :: r, n => if 4 ≤ n ∨ isSt st = false then some n else badFrom r (n + 1)
def badF (gs : List (List GRow)) : Option Nat := if gs = [] then some 0 else badFrom gs 0
abbrev sp_is_store := spD (fun (st : List GRow) => [gstD st]) small (fun st => .bool (isSt st))
def spNeedX (C : Addr) (K : PySem.W.Frag) : Sp := fun vs H Q E => ∃ (M : List Addr) (gs : List (List GRow)) (v : V), vs = [v] ∧ (∀ a ∈ M, ∃ o, H a = some o) ∧ Dt K M H (gstsD gs) v ∧ gs.length ≤ 1000 ∧ (∀ st ∈ gs, small st) ∧
  ((badF gs = none ∧ ∀ H', Fr [] H H' → Q .non H') ∨ ∃ n : Nat, badF gs = some n ∧ ∀ d H', Fr [] H H' → H d = none → H' d = some (.xd [("number", .int n)]) → E (.ref C) (some d) H')
abbrev sp_need_stores (A : Ad) (K : PySem.W.Frag) : Sp := spNeedX A.c_BadStores K
def spFetchX (C : Addr) (K : PySem.W.Frag) : Sp := fun vs H Q E => ∃ (M : List Addr) (gs : List (List GRow)) (v u : V), vs = [v, u] ∧ (∀ a ∈ M, ∃ o, H a = some o) ∧ Dt K M H (gstsD gs) v ∧ gs.length ≤ 1000 ∧ (∀ st ∈ gs, small st) ∧
  ((∃ (ss : List (List Row)) (t : Int × Int × Int), gs = ss.map (·.map emb) ∧ gStores ss ∧ badF gs = none ∧ Dt K M H (tripD t) u ∧ ∀ w H', Fr [] H H' → Dt K M H' (askD (askF ss t)) w → Q w H') ∨ ∃ n : Nat, badF gs = some n ∧ ∀ d H', Fr [] H H' → H d = none → H' d = some (.xd [("number", .int n)]) → E (.ref C) (some d) H')
abbrev sp_fetched (A : Ad) (K : PySem.W.Frag) : Sp := spFetchX A.c_BadStores K
def TT__law_number (A : Ad) (K : PySem.W.Frag) : (XK → Hp → VK → Prop) → Hp → VK → Prop := fun tl H Q =>
  tl (fun cls d H' => cls = .ref A.c_BadStores ∧ ∃ dd n, d = some dd ∧ H' dd = some (.xd [("number", .int n)]) ∧ ∀ H'', Fr [] H' H'' → Q (.int n) H'') H (fun _ H' => Q .non H')
abbrev sp__law_odd := spDrawD (fun (_ : Unit) => []) (fun _ => True) (fun _ d => ∃ st, d = gstD st ∧ small st ∧ isSt st = false)
theorem dtl_rep {K : PySem.W.Frag} {M : List Addr} {H : Hp} {d : PyData} {v : V} (h : Dt K M H d v) : ∀ n : Nat, DtL K M H (List.replicate n d) (List.replicate n v)
  | 0 => DtL.nil'
  | n + 1 => by rw [List.replicate_succ, List.replicate_succ]; exact DtL.cons' h (dtl_rep h n)
theorem st_bad {g1 g2 : GRow} (h : isRow g2 = false) : isSt [g1, g2] = false := by unfold isSt; simp [h]
theorem isRow_emb {r : Row} (h : 1 ≤ r.2.length ∧ r.2.length ≤ 3 ∧ ∀ n ∈ r.2, 0 ≤ n ∧ n ≤ 9972) : isRow (emb r) = true := by
  obtain ⟨h1, h2, h3⟩ := h
  have : r.2.all okC = true := List.all_eq_true.mpr fun n hn => by unfold okC; simp [h3 n hn]
  unfold isRow emb
  simp [h1, h2, this]
theorem isSt_emb {st : List Row} (g : gStore st) : isSt (st.map emb) = true := by
  unfold isSt
  have h1 : (st.map emb).all isRow = true := List.all_eq_true.mpr fun x hx => by
    obtain ⟨r, hr, rfl⟩ := List.mem_map.mp hx
    exact isRow_emb (g.2 r hr)
  rw [h1, List.length_map]
  simp [g.1]
theorem badFrom_good : ∀ (gs : List (List GRow)) (n : Nat), (∀ st ∈ gs, isSt st = true) → n + gs.length ≤ 4 → badFrom gs n = none
  | [], _, _, _ => rfl
  | st :: r, n, h, hl => by
    have h1 := h st (by simp)
    rw [List.length_cons] at hl
    rw [badFrom, if_neg (by rw [h1]; simp; omega)]
    exact badFrom_good r (n + 1) (fun x hx => h x (List.mem_cons_of_mem _ hx)) (by omega)
theorem badF_good {ss : List (List Row)} (g : gStores ss) : badF (ss.map (·.map emb)) = none := by
  obtain ⟨g1, g2, g3⟩ := g
  have hne : ss.map (·.map emb) ≠ [] := fun z => by rw [List.map_eq_nil_iff] at z; rw [z] at g1; simp at g1
  rw [badF, if_neg hne]
  refine badFrom_good _ 0 (fun st hst => ?_) (by rw [List.length_map]; omega)
  obtain ⟨s0, hs0, rfl⟩ := List.mem_map.mp hst
  exact isSt_emb (g3 s0 hs0)
theorem small_emb {st : List Row} (g : gStore st) : small (st.map emb) := by
  refine ⟨by rw [List.length_map]; have := g.1; omega, fun x hx => ?_⟩
  obtain ⟨r, hr, rfl⟩ := List.mem_map.mp hx
  have := g.2 r hr
  exact ⟨by unfold emb; simp, by unfold emb; dsimp only; omega⟩
theorem rng_get (ds : List PyData) (n : Nat) (h : n = ds.length) : (List.range n).map (fun i => ds.getD i .none) = ds := by
  subst h
  rw [range_map_get (fun x => x) ds .none, List.map_id']
theorem emb_sizes {ss : List (List Row)} (g : gStores ss) : (ss.map (·.map emb)).length ≤ 1000 ∧ ∀ st ∈ ss.map (·.map emb), small st := by
  obtain ⟨g1, g2, g3⟩ := g
  refine ⟨by rw [List.length_map]; omega, fun st hst => ?_⟩
  obtain ⟨s0, hs0, rfl⟩ := List.mem_map.mp hst
  exact small_emb (g3 s0 hs0)
theorem askR_mem {t : Int × Int × Int} {ns : List Int} : ∀ {rs : List Row} {n : Nat}, (askR t rs n).1 = some ns → ∃ r ∈ rs, r.2 = ns
  | [], n, h => by simp [askR] at h
  | r :: rs, n, h => by
    unfold askR at h
    split at h
    · split at h
      · exact ⟨r, by simp, Option.some.inj h⟩
      · obtain ⟨x, hx, e⟩ := askR_mem h
        exact ⟨x, List.mem_cons_of_mem _ hx, e⟩
    · obtain ⟨x, hx, e⟩ := askR_mem h
      exact ⟨x, List.mem_cons_of_mem _ hx, e⟩
theorem askD_ok {ss : List (List Row)} {t : Int × Int × Int} (g : gStores ss) : okD (askD (askF ss t)) = true := by
  obtain ⟨g1, g2, g3⟩ := g
  have h : ∀ ns, (askF ss t).1 = some ns → ns.length ≤ 100000 := fun ns e => by
    obtain ⟨r, hr, rfl⟩ := askR_mem e
    obtain ⟨st, hst, hr⟩ := List.mem_flatten.mp hr
    have := ((g3 st hst).2 r hr).2.1
    omega
  generalize askF ss t = x at h
  obtain ⟨x, n⟩ := x
  cases x with
  | none => rfl
  | some ns => simp [askD, okD, okD.okDL, okDL_ints, h ns rfl]
theorem askD_dep (x : Option (List Int) × Nat) : (askD x).depth ≤ 4 := by
  obtain ⟨x, n⟩ := x
  cases x with
  | none => simp [askD, PyData.depth, PyData.depthAll]
  | some ns => simp [askD, PyData.depth, PyData.depthAll, dep_ints]

theorem badFrom_at {od : List GRow} {B : List (List GRow)} (hb : isSt od = false) : ∀ (A : List (List GRow)) (n : Nat), (∀ st ∈ A, isSt st = true) → n + A.length < 4 → badFrom (A ++ od :: B) n = some (n + A.length)
  | [], n, _, _ => by rw [List.nil_append, badFrom, if_pos (.inr hb)]; rfl
  | st :: r, n, h, hl => by
    rw [List.length_cons] at hl
    rw [List.cons_append, badFrom, if_neg (by rw [h st (by simp)]; simp; omega), badFrom_at hb r (n + 1) (fun x hx => h x (List.mem_cons_of_mem _ hx)) (by omega), List.length_cons]
    congr 1; omega
theorem badF_at {od : List GRow} {A B : List (List GRow)} (hb : isSt od = false) (h : ∀ st ∈ A, isSt st = true) (hl : A.length < 4) : badF ((A ++ od :: B).take 4) = some A.length := by
  obtain ⟨k, hk⟩ : ∃ k, 4 - A.length = k + 1 := ⟨3 - A.length, by omega⟩
  have e : (A ++ od :: B).take 4 = A ++ od :: B.take k := by
    rw [List.take_append, List.take_of_length_le (by omega), hk, List.take_succ_cons]
  rw [e, badF, if_neg (by simp), badFrom_at hb A 0 h (by omega)]
  simp
theorem badF_many {m : Nat} (h : 5 ≤ m) : badF (List.replicate m ([] : List GRow)) = some 4 := by
  obtain ⟨k, rfl⟩ : ∃ k, m = k + 5 := ⟨m - 5, by omega⟩
  rw [badF, if_neg (by simp)]
  simp [List.replicate_succ, badFrom, isSt]
theorem badF_four : badF (List.replicate 4 ([] : List GRow)) = none := by decide
theorem small_nil : small ([] : List GRow) := ⟨by decide, fun _ z => nomatch z⟩
theorem take_emb (ss : List (List Row)) (n : Nat) : (ss.map storeD).take n = ((ss.map (·.map emb)).take n).map gstD := by
  rw [List.map_take, List.map_map]
  congr 1
  exact (List.map_congr_left fun st _ => (gstD_emb st)).symm
theorem drop_emb (ss : List (List Row)) (n : Nat) : (ss.map storeD).drop n = ((ss.map (·.map emb)).drop n).map gstD := by
  rw [List.map_drop, List.map_map]
  congr 1
  exact (List.map_congr_left fun st _ => (gstD_emb st)).symm
local macro_rules | `(tactic| walk_at "zsq") => `(tactic| (first | assumption | (have hS' : Sy _ _ _ _ _ _ := (by assumption); with_reducible first | exact hS'.sl 0 rfl | exact hS'.sl 1 rfl | exact hS'.sl 2 rfl | exact hS'.sl 3 rfl | exact hS'.sl 4 rfl | exact hS'.sl 5 rfl | exact hS'.sl 6 rfl | exact hS'.sl 7 rfl | exact hS'.sl 8 rfl | exact hS'.sl 9 rfl | exact hS'.sl 10 rfl | exact hS'.sl 11 rfl | exact hS'.sl 12 rfl | exact hS'.sl 13 rfl | exact hS'.sl 14 rfl | exact hS'.sl 15 rfl)))
local macro_rules | `(tactic| walk_at "zst") => `(tactic| (first | exact TupK.st (by assumption) | (first | assumption | (have hS' : Sy _ _ _ _ _ _ := (by assumption); with_reducible first | exact hS'.st 0 rfl | exact hS'.st 1 rfl | exact hS'.st 2 rfl | exact hS'.st 3 rfl | exact hS'.st 4 rfl | exact hS'.st 5 rfl | exact hS'.st 6 rfl | exact hS'.st 7 rfl | exact hS'.st 8 rfl | exact hS'.st 9 rfl | exact hS'.st 10 rfl | exact hS'.st 11 rfl | exact hS'.st 12 rfl | exact hS'.st 13 rfl | exact hS'.st 14 rfl | exact hS'.st 15 rfl))))
local macro_rules | `(tactic| walk_at "zen") => `(tactic| (first | assumption | (have hS' : Sy _ _ _ _ _ _ := (by assumption); with_reducible first | exact hS'.get 0 rfl | exact hS'.get 1 rfl | exact hS'.get 2 rfl | exact hS'.get 3 rfl | exact hS'.get 4 rfl | exact hS'.get 5 rfl | exact hS'.get 6 rfl | exact hS'.get 7 rfl | exact hS'.get 8 rfl | exact hS'.get 9 rfl | exact hS'.get 10 rfl | exact hS'.get 11 rfl | exact hS'.get 12 rfl | exact hS'.get 13 rfl | exact hS'.get 14 rfl | exact hS'.get 15 rfl)))
local macro_rules | `(tactic| walk_at "zsqe") => `(tactic| (first | assumption | (apply SqE.ofL; walk_at "zsq") | (apply SqE.ofT; walk_at "zst")))
local macro_rules | `(tactic| walk_at "zkb") => `(tactic| (first | exact kb_NoneType_tuple | exact kb_NoneType_list | exact kb_NoneType_bool | exact kb_NoneType_str | exact kb_NoneType_int | exact kb_bool_tuple | exact kb_bool_list | exact kb_bool_bool | exact kb_bool_str | exact kb_bool_int | exact kb_int_tuple | exact kb_int_list | exact kb_int_bool | exact kb_int_str | exact kb_int_int | exact kb_str_tuple | exact kb_str_list | exact kb_str_bool | exact kb_str_str | exact kb_str_int | exact kb_list_tuple | exact kb_list_list | exact kb_list_bool | exact kb_list_str | exact kb_list_int | exact kb_tuple_tuple | exact kb_tuple_list | exact kb_tuple_bool | exact kb_tuple_str | exact kb_tuple_int))
local macro_rules | `(tactic| walk_at "zsub") => `(tactic| (repeat (first | exact List.Sublist.slnil | exact List.nil_sublist _ | apply List.Sublist.cons₂ | apply List.Sublist.cons)))
local macro_rules | `(tactic| walk_at "zs") => `(tactic| (with_reducible first | refine x_seq ?_ | refine x_asg ?_ | refine x_op ?_ | (refine' x_var ?zzh ?_; (case zzh => with_unfolding_all rfl)) | refine x_c ?_ | refine x_I0 ?_ | walk_at "zs2"))
local macro_rules | `(tactic| walk_at "zs2") => `(tactic| (first | (refine' x_I ?zzh ?_; (case zzh => with_unfolding_all (first | exact ⟨by omega, by omega⟩ | omega | decide | (exact .inl ⟨by omega, by omega⟩) | (exact .inr ⟨by omega, by omega⟩)))) | (refine' x_ixL ?zzh ?zza ?_; (case zzh => walk_at "zsq"); (case zza => with_unfolding_all rfl)) | (refine' x_ixT ?zzh ?zza ?_; (case zzh => walk_at "zst"); (case zza => with_unfolding_all rfl)) | refine x_call ?_ | refine x_callS ?_ | refine x_methX ?_ | refine x_cb ?_ | refine x_cons ?_ | refine x_nil ?_ | refine x_ret ?_ | refine x_ifs ?_ | refine x_test ?_ | refine x_k ?_ | (refine' n_len ?zzh ?_; (case zzh => walk_at "zsqe")) | refine x_if ?_ | refine x_B ?_ | refine x_and ?_ | refine x_or ?_ | refine x_not ?_ | refine x_chain ?_ | refine n_tup ?_ | refine n_lst ?_ | refine x_drop ?_ | refine x_sub ?_ | (refine' x_eq ?zzh ?_; (case zzh => with_unfolding_all rfl)) | (refine' x_ne ?zzh ?_; (case zzh => with_unfolding_all rfl)) | refine x_yes ?_ | refine x_next ?_ | (refine' x_setR ?zzh ?zze ?zzf ?_; (case zzh => walk_at "zen"); (case zze => with_unfolding_all rfl); (case zzf => with_unfolding_all rfl)) | (refine' n_list ?zzh ?_; (case zzh => walk_at "zsqe")) | refine n_isN ?_ | refine n_notN ?_ | refine n_intI ?_ | refine n_intB ?_ | refine n_min2 ?_ | refine n_max2 ?_ | refine n_sl ?_ | (refine' n_slL ?zzh ?_; (case zzh => walk_at "zsq")) | refine n_noPart ?_ | refine n_part ?_ | refine n_i ?_ | refine n_bm ?_ | refine x_bm0 ?_ | refine x_for ?_ | refine x_iR1 ?_ | refine x_iR2 ?_ | refine x_lc ?_ | refine x_iL ?_ | (refine' x_iLa ?zzh ?_; (case zzh => walk_at "zsq")) | refine x_iT ?_ | (refine' x_iTa ?zzh ?_; (case zzh => walk_at "zst")) | (refine' x_gtup ?zzh ?zze ?_; (case zzh => walk_at "zst"); (case zze => with_unfolding_all rfl)) | refine x_gcons ?_ | refine x_gnil ?_ | refine x_fld ?_ | refine x_meth ?_ | refine x_sfld ?_ | refine x_make ?_ | (refine' n_worths ?zzh ?zza ?zzb ?_; (case zzh => walk_at "zen"); (case zza => assumption); (case zzb => assumption)) | (refine' n_left ?zzh ?zza ?zzb ?_; (case zzh => walk_at "zen"); (case zza => assumption); (case zzb => assumption)) | (refine' n_torn ?zzh ?zza ?zzb ?_; (case zzh => walk_at "zen"); (case zza => assumption); (case zzb => assumption)) | (refine' n_up ?zzh ?zza ?zzb ?_; (case zzh => walk_at "zen"); (case zza => assumption); (case zzb => assumption)) | (refine' n_many ?zzh ?zza ?zzb ?_; (case zzh => walk_at "zen"); (case zza => assumption); (case zzb => assumption)) | (refine' n_meth ?zzh ?zza ?_; (case zzh => walk_at "zen"); (case zza => exact memF_no (by decide +kernel))) | (refine' n_xbunch ?zzh ?zza ?zzb ?_; (case zzh => walk_at "zen"); (case zza => assumption); (case zzb => assumption)) | (refine' n_xtries ?zzh ?zza ?zzb ?_; (case zzh => walk_at "zen"); (case zza => assumption); (case zzb => assumption)) | (refine' n_xrunning ?zzh ?zza ?zzb ?_; (case zzh => walk_at "zen"); (case zza => assumption); (case zzb => assumption)) | (refine' n_xmemory ?zzh ?zza ?zzb ?_; (case zzh => walk_at "zen"); (case zza => assumption); (case zzb => assumption)) | (refine' n_xmeth ?zzh ?zza ?_; (case zzh => walk_at "zen"); (case zza => exact macF_no (by decide +kernel))) | refine x_pair ?_ | refine x_pair0 ?_ | refine x_dgT ?_ | refine x_iS ?_ | refine x_sv ?_ | refine x_m1 ?_ | refine x_m1s ?_ | refine n_notInS ?_ | (refine' n_neLL ?zzh ?zzg ?_; (case zzh => walk_at "zsq"); (case zzg => walk_at "zsq")) | (refine' n_eqLL ?zzh ?zzg ?_; (case zzh => walk_at "zsq"); (case zzg => walk_at "zsq")) | refine x_un ?_ | refine x_U ?_ | refine x_andV ?_ | refine x_orV ?_ | refine x_notV ?_ | (refine' x_iteT ?zzh ?_; (case zzh => first | exact decide_eq_true rfl | with_unfolding_all rfl)) | (refine' x_iteF ?zzh ?_; (case zzh => first | exact nd_self | with_unfolding_all rfl)) | (refine' n_isiN ?zze ?_; (case zze => walk_at "zkb")) | (refine' n_isiB ?zze ?_; (case zze => walk_at "zkb")) | (refine' n_isiI ?zze ?_; (case zze => walk_at "zkb")) | (refine' n_isiS ?zze ?_; (case zze => walk_at "zkb")) | (refine' n_isiL ?zzh ?zze ?_; (case zzh => walk_at "zsq"); (case zze => walk_at "zkb")) | (refine' n_isiT ?zzh ?zze ?_; (case zzh => walk_at "zst"); (case zze => walk_at "zkb")) | refine x_par3 ?_ | refine x_par2 ?_ | refine x_iRevA ?_ | refine x_iRev ?_ | refine x_lstRg ?_ | refine x_rg2 ?_ | refine n_rg2 ?_ | (refine' n_sum ?zzh ?_; (case zzh => walk_at "zsq")) | (refine' n_sumT ?zzh ?_; (case zzh => walk_at "zst")) | (refine' n_tupleL ?zzh ?_; (case zzh => walk_at "zsq")) | refine x_ve ?_ | refine x_ost ?_ | refine x_mkO ?_ | refine x_xg ?_))
local macro_rules | `(tactic| walk_at "zdt") => `(tactic| (first | exact Dt.int' | exact Dt.non' | exact Dt.bl' | exact Dt.str' | assumption | (have hS' : Sy _ _ _ _ _ _ := (by assumption); with_unfolding_all first | exact hS'.d 0 rfl | exact hS'.d 1 rfl | exact hS'.d 2 rfl | exact hS'.d 3 rfl | exact hS'.d 4 rfl | exact hS'.d 5 rfl | exact hS'.d 6 rfl | exact hS'.d 7 rfl | exact hS'.d 8 rfl | exact hS'.d 9 rfl | exact hS'.d 10 rfl | exact hS'.d 11 rfl | exact hS'.d 12 rfl | exact hS'.d 13 rfl | exact hS'.d 14 rfl | exact hS'.d 15 rfl | exact hS'.d 16 rfl | exact hS'.d 17 rfl | exact hS'.d 18 rfl | exact hS'.d 19 rfl | exact hS'.d 20 rfl | exact hS'.d 21 rfl | exact hS'.d 22 rfl | exact hS'.d 23 rfl | exact hS'.d 24 rfl | exact hS'.d 25 rfl | exact hS'.d 26 rfl | exact hS'.d 27 rfl | exact hS'.d 28 rfl | exact hS'.d 29 rfl | exact hS'.d 30 rfl | exact hS'.d 31 rfl | exact hS'.d 32 rfl | exact hS'.d 33 rfl | exact hS'.d 34 rfl | exact hS'.d 35 rfl | exact hS'.d 36 rfl | exact hS'.d 37 rfl | exact hS'.d 38 rfl | exact hS'.d 39 rfl)))
local macro_rules | `(tactic| walk_at "zdl") => `(tactic| (first | exact DtL.nil' | (refine' DtL.cons' ?zzdl1 ?zzdl2; (case zzdl1 => walk_at "zdt"); (case zzdl2 => walk_at "zdl"))))
local macro_rules | `(tactic| walk_at "zdata") => `(tactic| (first | (refine' d_ixTI ?zzh ?zze ?_; (case zzh => walk_at "zdt"); (case zze => with_unfolding_all rfl)) | (refine' d_ixTT ?zzs ?zzh ?zze ?_; (case zzs => assumption); (case zzh => walk_at "zdt"); (case zze => with_unfolding_all rfl); intro _ _) | (refine' d_ixT ?zzs ?zzh ?zze ?_; (case zzs => assumption); (case zzh => walk_at "zdt"); (case zze => with_unfolding_all rfl); intro _ _) | (refine' d_lenT ?zzh ?_; (case zzh => walk_at "zdt")) | (refine' d_lenL ?zzh ?_; (case zzh => walk_at "zdt")) | (refine' d_tup ?zzs ?zzh ?zze ?_; (case zzs => assumption); (case zzh => (first | exact Nat.le_of_ble_eq_true (by with_unfolding_all rfl) | (simp only [List.length_cons, List.length_nil, List.length_append, List.length_map]; omega))); (case zze => walk_at "zdl"); intro _ _ _) | (refine' d_catT ?zzs ?zzh ?zzg ?zza ?zzb ?zzc ?_; (case zzs => assumption); (case zzh => walk_at "zdt"); (case zzg => walk_at "zdt"); (case zza => simp); (case zzb => simp); (case zzc => simp); intro _ _ _) | (refine' d_tupleL ?zzs ?zzh ?_; (case zzs => assumption); (case zzh => walk_at "zdt"); intro _ _ _) | (refine' d_tupleT ?zzh ?_; (case zzh => walk_at "zdt")) | (refine' d_listT ?zzs ?zzh ?_; (case zzs => assumption); (case zzh => walk_at "zdt"); intro _ _ _) | (refine' d_slL ?zzs ?zzh ?_; (case zzs => assumption); (case zzh => walk_at "zdt"); intro _ _ _) | refine x_iR3 ?_))
local macro_rules | `(tactic| walk_at "zc") => `(tactic| (first | (refine' x_iteT ?zzc ?_; (case zzc => first | exact decide_eq_true (by omega) | exact nd_not (by omega))) | (refine' x_iteF ?zzc ?_; (case zzc => first | exact decide_eq_false (by omega) | exact nd_of (by omega)))))
local macro_rules | `(tactic| walk_at "zD1") => `(tactic| (repeat (with_reducible first | (refine' x_name (σ' := [_]) ?zzh ?_; (case zzh => with_unfolding_all rfl)) | walk_at "zs" | walk_at "zdata")))
local macro_rules | `(tactic| walk_at "zC1") => `(tactic| (repeat (first | (with_reducible first | (refine' x_name (σ' := [_]) ?zzh ?_; (case zzh => with_unfolding_all rfl)) | walk_at "zs" | walk_at "zdata") | walk_at "zc")))
local macro_rules | `(tactic| walk_at "zS1") => `(tactic| (repeat (with_reducible first | (refine' x_name (σ' := [_]) ?zzh ?_; (case zzh => with_unfolding_all rfl)) | walk_at "zs")))
local macro_rules | `(tactic| walk_at "zD2") => `(tactic| (repeat (with_reducible first | (refine' x_name (σ' := [_, _]) ?zzh ?_; (case zzh => with_unfolding_all rfl)) | walk_at "zs" | walk_at "zdata")))
local macro_rules | `(tactic| walk_at "zC2") => `(tactic| (repeat (first | (with_reducible first | (refine' x_name (σ' := [_, _]) ?zzh ?_; (case zzh => with_unfolding_all rfl)) | walk_at "zs" | walk_at "zdata") | walk_at "zc")))
local macro_rules | `(tactic| walk_at "zS2") => `(tactic| (repeat (with_reducible first | (refine' x_name (σ' := [_, _]) ?zzh ?_; (case zzh => with_unfolding_all rfl)) | walk_at "zs")))
local macro_rules | `(tactic| walk_at "zD3") => `(tactic| (repeat (with_reducible first | (refine' x_name (σ' := [_, _, _]) ?zzh ?_; (case zzh => with_unfolding_all rfl)) | walk_at "zs" | walk_at "zdata")))
local macro_rules | `(tactic| walk_at "zC3") => `(tactic| (repeat (first | (with_reducible first | (refine' x_name (σ' := [_, _, _]) ?zzh ?_; (case zzh => with_unfolding_all rfl)) | walk_at "zs" | walk_at "zdata") | walk_at "zc")))
local macro_rules | `(tactic| walk_at "zS3") => `(tactic| (repeat (with_reducible first | (refine' x_name (σ' := [_, _, _]) ?zzh ?_; (case zzh => with_unfolding_all rfl)) | walk_at "zs")))
local macro_rules | `(tactic| walk_at "zD4") => `(tactic| (repeat (with_reducible first | (refine' x_name (σ' := [_, _, _, _]) ?zzh ?_; (case zzh => with_unfolding_all rfl)) | walk_at "zs" | walk_at "zdata")))
local macro_rules | `(tactic| walk_at "zC4") => `(tactic| (repeat (first | (with_reducible first | (refine' x_name (σ' := [_, _, _, _]) ?zzh ?_; (case zzh => with_unfolding_all rfl)) | walk_at "zs" | walk_at "zdata") | walk_at "zc")))
local macro_rules | `(tactic| walk_at "zS4") => `(tactic| (repeat (with_reducible first | (refine' x_name (σ' := [_, _, _, _]) ?zzh ?_; (case zzh => with_unfolding_all rfl)) | walk_at "zs")))
local macro_rules | `(tactic| walk_at "zD5") => `(tactic| (repeat (with_reducible first | (refine' x_name (σ' := [_, _, _, _, _]) ?zzh ?_; (case zzh => with_unfolding_all rfl)) | walk_at "zs" | walk_at "zdata")))
local macro_rules | `(tactic| walk_at "zC5") => `(tactic| (repeat (first | (with_reducible first | (refine' x_name (σ' := [_, _, _, _, _]) ?zzh ?_; (case zzh => with_unfolding_all rfl)) | walk_at "zs" | walk_at "zdata") | walk_at "zc")))
local macro_rules | `(tactic| walk_at "zS5") => `(tactic| (repeat (with_reducible first | (refine' x_name (σ' := [_, _, _, _, _]) ?zzh ?_; (case zzh => with_unfolding_all rfl)) | walk_at "zs")))
local macro_rules | `(tactic| walk_at "zD6") => `(tactic| (repeat (with_reducible first | (refine' x_name (σ' := [_, _, _, _, _, _]) ?zzh ?_; (case zzh => with_unfolding_all rfl)) | walk_at "zs" | walk_at "zdata")))
local macro_rules | `(tactic| walk_at "zC6") => `(tactic| (repeat (first | (with_reducible first | (refine' x_name (σ' := [_, _, _, _, _, _]) ?zzh ?_; (case zzh => with_unfolding_all rfl)) | walk_at "zs" | walk_at "zdata") | walk_at "zc")))
local macro_rules | `(tactic| walk_at "zS6") => `(tactic| (repeat (with_reducible first | (refine' x_name (σ' := [_, _, _, _, _, _]) ?zzh ?_; (case zzh => with_unfolding_all rfl)) | walk_at "zs")))
local macro_rules | `(tactic| walk_at "zD7") => `(tactic| (repeat (with_reducible first | (refine' x_name (σ' := [_, _, _, _, _, _, _]) ?zzh ?_; (case zzh => with_unfolding_all rfl)) | walk_at "zs" | walk_at "zdata")))
local macro_rules | `(tactic| walk_at "zC7") => `(tactic| (repeat (first | (with_reducible first | (refine' x_name (σ' := [_, _, _, _, _, _, _]) ?zzh ?_; (case zzh => with_unfolding_all rfl)) | walk_at "zs" | walk_at "zdata") | walk_at "zc")))
local macro_rules | `(tactic| walk_at "zS7") => `(tactic| (repeat (with_reducible first | (refine' x_name (σ' := [_, _, _, _, _, _, _]) ?zzh ?_; (case zzh => with_unfolding_all rfl)) | walk_at "zs")))
local macro_rules | `(tactic| walk_at "zD8") => `(tactic| (repeat (with_reducible first | (refine' x_name (σ' := [_, _, _, _, _, _, _, _]) ?zzh ?_; (case zzh => with_unfolding_all rfl)) | walk_at "zs" | walk_at "zdata")))
local macro_rules | `(tactic| walk_at "zC8") => `(tactic| (repeat (first | (with_reducible first | (refine' x_name (σ' := [_, _, _, _, _, _, _, _]) ?zzh ?_; (case zzh => with_unfolding_all rfl)) | walk_at "zs" | walk_at "zdata") | walk_at "zc")))
local macro_rules | `(tactic| walk_at "zS8") => `(tactic| (repeat (with_reducible first | (refine' x_name (σ' := [_, _, _, _, _, _, _, _]) ?zzh ?_; (case zzh => with_unfolding_all rfl)) | walk_at "zs")))
local macro_rules | `(tactic| walk_at "zD14") => `(tactic| (repeat (with_reducible first | (refine' x_name (σ' := [_, _, _, _, _, _, _, _, _, _, _, _, _, _]) ?zzh ?_; (case zzh => with_unfolding_all rfl)) | walk_at "zs" | walk_at "zdata")))
local macro_rules | `(tactic| walk_at "zC14") => `(tactic| (repeat (first | (with_reducible first | (refine' x_name (σ' := [_, _, _, _, _, _, _, _, _, _, _, _, _, _]) ?zzh ?_; (case zzh => with_unfolding_all rfl)) | walk_at "zs" | walk_at "zdata") | walk_at "zc")))
local macro_rules | `(tactic| walk_at "zS14") => `(tactic| (repeat (with_reducible first | (refine' x_name (σ' := [_, _, _, _, _, _, _, _, _, _, _, _, _, _]) ?zzh ?_; (case zzh => with_unfolding_all rfl)) | walk_at "zs")))
section
variable {P : Program} {w : World} {K : PySem.W.Frag} {mg : Str → Option Value} {base : Heap} {A : Ad}
theorem ok__law_taken (T : Txt K mg base A) : FnOk P w K mg base CX0 1 A.a__law_taken A.d__law_taken ["_law_row", "_law_many"] (sp__law_taken K) := by
  refine T.F__law_taken.ok sc__law_taken (fun vs H Q E h => ?_) (fun cdv A_ outer s H0 vs Q E hr h => ?_)
  · obtain ⟨_, h⟩ := h; obtain ⟨_, h⟩ := h; obtain ⟨_, h⟩ := h; obtain ⟨_, h⟩ := h; obtain ⟨_, h⟩ := h; obtain ⟨rfl, _⟩ := h; rfl
  · obtain ⟨r, a, m, q, ns, rfl, hm, hm2, ho, hq, hsa, hl, k⟩ := h
    have hu := hu_of hr
    have hu2 := hu2_of hr
    refine ⟨_, pss_cons (ps_if (pt_cmpR op_gt (pe_ix (b_ixL (K := K)) (pv 0) pe_int (fun _ _ => rfl)) pe_int (nomark _)) (pss_cons (ps_set (i := 2) sc__law_taken.nd rfl (Or.inl rfl) (pe_op op_mod (pe_ix (b_ixL (K := K)) (pv 0) pe_int (fun _ _ => rfl)) (pv 1)))
      (pss_cons (ps_asg (pe_op op_fdiv (pe_ix (b_ixL (K := K)) (pv 0) pe_int (fun _ _ => rfl)) (pv 1)) (pg_sub (pv 0) pe_int set_list))
      (pss_one (ps_ret (pv 2))))) pss_nil)
      (pss_cons (ps_asg (pe_op op_add (pe_ix (b_ixL (K := K)) (pv 0) pe_int (fun _ _ => rfl)) pe_int) (pg_sub (pv 0) pe_int set_list))
      (pss_cons (ps_if (pt_cmpR op_gt (pe_ix (b_ixL (K := K)) (pv 0) pe_int (fun _ _ => rfl)) (pe_callB (b_len (K := K)) (by rfl) T.z_len (by decide +kernel) (pa_cons (pe_ix (b_ixL (K := K)) (pv 0) pe_int (fun _ _ => rfl)) pa_nil)) (nomark _)) (pss_cons (ps_asg (pe_op op_mod (pe_op op_add (pe_op op_mul (pe_ix (b_ixL (K := K)) (pv 0) pe_int (fun _ _ => rfl)) pe_int) pe_int) pe_int) (pg_sub (pv 0) pe_int set_list))
      (pss_one (ps_ret (pe_op op_mod (pe_op op_fdiv (pe_ix (b_ixL (K := K)) (pv 0) pe_int (fun _ _ => rfl)) pe_int) (pv 1))))) pss_nil)
      (pss_cons (ps_set (i := 3) sc__law_taken.nd rfl (Or.inl rfl) (pe_ix (b_ixL (K := K)) (pe_ix (b_ixL (K := K)) (pv 0) pe_int (fun _ _ => rfl)) (pe_op op_sub (pe_ix (b_ixL (K := K)) (pv 0) pe_int (fun _ _ => rfl)) pe_int) (fun _ _ => rfl)))
      (pss_cons (ps_asg (pe_op op_mod (pe_op op_add (pe_op op_add (pe_op op_mul (pe_ix (b_ixL (K := K)) (pv 0) pe_int (fun _ _ => rfl)) pe_int) (pv 3)) pe_int) pe_int) (pg_sub (pv 0) pe_int set_list))
      (pss_cons (ps_if (pt_cmpR op_ge (pv 3) (pe_op op_pow pe_int pe_int) (nomark _)) (pss_one (ps_asg (pe_op op_fdiv (pv 3) (pv 1)) (pg_sub (pv 0) pe_int set_list))) pss_nil)
      (pss_one (ps_ret (pe_op op_mod (pv 3) (pv 1))))))))), ?_⟩
    try dsimp only [cxOf, Cx.nox, Cx.wish]
    refine x_st (σ' := [some _, some _, none, none]) rfl ?_
    have h0 : SqL K H0 r [.ref a, .int q.i, .int q.x, .int q.g] := .inl (.inl ho)
    obtain ⟨q1, q2, q3, q4⟩ := hq
    have ho1 : H0 r = some (.lst [.ref a, .int q.i, .int q.x, .int q.g]) := ho
    walk_at "zS4"
    (refine x_ite (fun hc => ?_) (fun hc => ?_) <;> simp only [decide_eq_true_eq, decide_eq_false_iff_not, Bool.not_eq_true', Bool.not_eq_false', V.int.injEq, reduceCtorEq, not_false_eq_true] at hc)
    · walk_at "zS4"
      refine k _ ⟨q.i, q.x, q.g / m⟩ (Int.emod_nonneg _ (by omega)) (Int.emod_lt_of_pos _ hm) ⟨q1, q2, q3, Int.ediv_nonneg q4 (by omega)⟩
    · walk_at "zS4"
      have h1 : ∀ o, SqL K (upd H0 r o) a (ns.map V.int) := fun o => (hsa.mono (Fr.set (List.mem_singleton.mpr rfl))).1
      have h2 : SqL K (upd H0 r (.lst [.ref a, .int (q.i + 1), .int q.x, .int q.g])) r [.ref a, .int (q.i + 1), .int q.x, .int q.g] := .inl (.inl upd_same)
      have h3 := h1 (.lst [.ref a, .int (q.i + 1), .int q.x, .int q.g])
      have ho2 : upd H0 r (.lst [.ref a, .int (q.i + 1), .int q.x, .int q.g]) r = some (.lst [.ref a, .int (q.i + 1), .int q.x, .int q.g]) := upd_same
      walk_at "zS4"
      rw [List.length_map]
      walk_at "zS4"
      (refine x_ite (fun hc => ?_) (fun hc => ?_) <;> simp only [decide_eq_true_eq, decide_eq_false_iff_not, Bool.not_eq_true', Bool.not_eq_false', V.int.injEq, reduceCtorEq, not_false_eq_true] at hc)
      · walk_at "zS4"
        rw [upd_upd]
        have h4 : SqL K (upd H0 r (.lst [.ref a, .int (q.i + 1), .int ((q.x * 48271 + 11) % 2147483647), .int q.g])) r [.ref a, .int (q.i + 1), .int ((q.x * 48271 + 11) % 2147483647), .int q.g] := .inl (.inl upd_same)
        walk_at "zS4"
        exact k _ ⟨q.i + 1, (q.x * 48271 + 11) % 2147483647, q.g⟩ (Int.emod_nonneg _ (by omega)) (Int.emod_lt_of_pos _ hm) ⟨by show 0 ≤ q.i + 1; omega, Int.emod_nonneg _ (by decide), Int.emod_lt_of_pos _ (by decide), q4⟩
      · walk_at "zS4"
        obtain ⟨c, hc1⟩ := at_lt (xs := ns) (i := (q.i + 1 - 1).toNat) (by omega)
        refine x_ixL h3 (atI_int (by omega) (at_map hc1)) ?_
        walk_at "zS4"
        rw [upd_upd]
        have ho3 : upd H0 r (.lst [.ref a, .int (q.i + 1), .int ((q.x * 48271 + c + 11) % 2147483647), .int q.g]) r = some (.lst [.ref a, .int (q.i + 1), .int ((q.x * 48271 + c + 11) % 2147483647), .int q.g]) := upd_same
        walk_at "zS4"
        have e0 : (0 : Int) ≤ (q.x * 48271 + c + 11) % 2147483647 := Int.emod_nonneg _ (by decide)
        have e1 : (q.x * 48271 + c + 11) % 2147483647 < 2147483647 := Int.emod_lt_of_pos _ (by decide)
        (refine x_ite (fun hc => ?_) (fun hc => ?_) <;> simp only [decide_eq_true_eq, decide_eq_false_iff_not, Bool.not_eq_true', Bool.not_eq_false', V.int.injEq, reduceCtorEq, not_false_eq_true] at hc)
        · walk_at "zS4"
          rw [upd_upd]
          walk_at "zS4"
          exact k _ ⟨q.i + 1, (q.x * 48271 + c + 11) % 2147483647, c / m⟩ (Int.emod_nonneg _ (by omega)) (Int.emod_lt_of_pos _ hm) ⟨by show 0 ≤ q.i + 1; omega, e0, e1, Int.ediv_nonneg (by
            have : (0 : Int) ≤ 10 ^ (18 : Int).toNat := by decide
            omega) (by omega)⟩
        · walk_at "zS4"
          exact k _ ⟨q.i + 1, (q.x * 48271 + c + 11) % 2147483647, q.g⟩ (Int.emod_nonneg _ (by omega)) (Int.emod_lt_of_pos _ hm) ⟨by show 0 ≤ q.i + 1; omega, e0, e1, q4⟩
theorem ok__law_keys (T : Txt K mg base A) : FnOk P w K mg base CX0 2 A.a__law_keys A.d__law_keys ["_law_row"] (sp__law_keys K) := by
  have G__law_taken := ok__law_taken (P := P) (w := w) (base := base) T
  refine T.F__law_keys.ok sc__law_keys (fun vs H Q E h => ?_) (fun cdv A_ outer s H0 vs Q E hr h => ?_)
  · exact spDrawD_len h (fun _ => rfl)
  · obtain ⟨M, _, r, a, q, ns, ws, rfl, h0, hq, hs, hl, hM, hdom, hd, _, k⟩ := h
    have hS := Sy.ofDD h0 hs hM hdom hd
    simp only [DtL] at hd
    subst hd
    have hu := hu_of hr
    have hu2 := hu2_of hr
    have hr__law_taken : Room 1 _ := hr.mono (by decide)
    refine ⟨_, pss_one (ps_ret (pe_callTy (b_tuple (K := K)) (by rfl) T.z_tuple (by decide +kernel) (pa_cons (pe_lc (own := [("_law_k", 1)]) (g := gName 1) (by rfl) sc__law_keys.nd (pi_range1 (by rfl) T.z_range (pa_cons (pe_op op_add pe_int (pe_call G__law_taken hr__law_taken (by rfl) T.g__law_taken T.F__law_taken.kp T.b__law_taken .nil pass0 (pa_cons (pv 0) (pa_cons pe_int pa_nil)))) pa_nil)) (blkOk_by (N := ["_law_row", "_law_k"]) (sc := defScope s__law_keys) (by decide +kernel)) (fun _ _ _ _ _ => pg_name (i := 1) sc__law_keys.nd rfl (by first | exact Or.inl rfl | exact Or.inr rfl)) (fun _ _ _ _ _ => pts_nil) (fun _ _ _ _ _ => (pe_op op_add pe_int (pe_call G__law_taken hr__law_taken (by rfl) T.g__law_taken T.F__law_taken.kp T.b__law_taken .nil pass0 (pa_cons (pv 0) (pa_cons (pe_ix (b_ixL (K := K)) (pe_lst (pa_cons pe_int (pa_cons pe_int pa_nil))) (pe_call G__law_taken hr__law_taken (by rfl) T.g__law_taken T.F__law_taken.kp T.b__law_taken .nil pass0 (pa_cons (pv 0) (pa_cons pe_int pa_nil))) (fun _ _ => rfl)) pa_nil)))))) pa_nil))), ?_⟩
    try dsimp only [cxOf, Cx.nox, Cx.wish]
    refine x_st (σ' := [some _, none]) rfl ?_
    walk_at "zS2"
    (refine use_taken hS ⟨by first | assumption | (simp; done) | exact List.mem_cons_of_mem _ (by assumption) | exact List.mem_cons_of_mem _ (List.mem_cons_of_mem _ (by assumption)), by first | exact .inr (by assumption) | exact .inl (by simp)⟩ hq hl (by omega) (by omega) ?_; clear hS hq; intro n q H n_0 n_1 hq hS)
    walk_at "zS2"
    (refine ⟨_, rfl, by omega, by omega, ?_⟩)
    refine lc_draw (n := (1 + n).toNat) (C := fun x => 1 ≤ x ∧ x ≤ 9972) hS ⟨hM, .inl (by simp)⟩ hq (by omega) ?_ ?_
    · intro v M' H q L' Q' hM hq hS kk
      walk_at "zS2"
      refine ⟨by simp only [List.length_cons, List.length_nil]; decide, n_al hS ?_⟩
      clear hS; intro l H l_n l_0 hS
      walk_at "zS2"
      refine use_taken (L := L' ++ _) hS hM hq hl (by omega) (by omega) ?_
      clear hS hq; intro c q H c_0 c_1 hq hS
      have hl5 := hS.sl (L'.length + 1) (a := l) (xs := [.int 50, .int 9972]) (by simp)
      obtain ⟨m, hm, hm0, hm1⟩ : ∃ m : Int, atI [V.int 50, V.int 9972] c = some (.int m) ∧ 0 < m ∧ m ≤ 9972 := by
        obtain rfl | rfl : c = 0 ∨ c = 1 := by omega
        · exact ⟨50, rfl, by decide, by decide⟩
        · exact ⟨9972, rfl, by decide, by decide⟩
      refine x_ixL hl5 hm ?_
      walk_at "zS2"
      refine use_taken (L := L' ++ _) hS hM hq hl (by omega) (by omega) ?_
      clear hS hq; intro y q H y_0 y_1 hq hS
      walk_at "zS2"
      exact kk _ q H ⟨by omega, by omega⟩ hq (hS.sub (List.Sublist.cons₂ _ (List.sublist_append_left _ _)))
    clear hS hq; intro p xs q H p_n hx hC hq hS
    (try simp only [List.cons_append, List.nil_append] at hS)
    walk_at "zS2"
    refine d_newT (ds := xs.map .int) hS (DtL.ints.mpr rfl) ?_
    clear hS; intro pp H hS
    exact k _ _ q H ⟨xs, rfl, by omega, by omega, hC⟩ hq hS.fr (hS.get 0 rfl) (hS.d 1 rfl)
theorem ok__law_worth (T : Txt K mg base A) : FnOk P w K mg base CX0 2 A.a__law_worth A.d__law_worth ["_law_row"] (sp__law_worth K) := by
  have G__law_taken := ok__law_taken (P := P) (w := w) (base := base) T
  refine T.F__law_worth.ok sc__law_worth (fun vs H Q E h => ?_) (fun cdv A_ outer s H0 vs Q E hr h => ?_)
  · obtain ⟨_, h⟩ := h; obtain ⟨_, h⟩ := h; obtain ⟨_, h⟩ := h; obtain ⟨_, h⟩ := h; obtain ⟨rfl, _⟩ := h; rfl
  · obtain ⟨r, a, q, ns, rfl, R, k⟩ := h
    have hu := hu_of hr
    have hu2 := hu2_of hr
    have hr__law_taken : Room 1 _ := hr.mono (by decide)
    refine ⟨_, pss_one (ps_ret (pe_call G__law_taken hr__law_taken (by rfl) T.g__law_taken T.F__law_taken.kp T.b__law_taken .nil pass0 (pa_cons (pv 0) (pa_cons (pe_ix (b_ixL (K := K)) (pe_lst (pa_cons pe_int (pa_cons pe_int (pa_cons pe_int pa_nil)))) (pe_call G__law_taken hr__law_taken (by rfl) T.g__law_taken T.F__law_taken.kp T.b__law_taken .nil pass0 (pa_cons (pv 0) (pa_cons pe_int pa_nil))) (fun _ _ => rfl)) pa_nil)))), ?_⟩
    try dsimp only [cxOf, Cx.nox, Cx.wish]
    refine x_st (σ' := [some _]) rfl ?_
    have hS := R.sy; have hq := R.2.1; have hl := R.2.2.2
    walk_at "zS1"
    (refine ⟨by simp only [List.length_cons, List.length_nil]; decide, n_al hS ?_⟩; clear hS; intro p H p_n p_0 hS; simp only [List.cons_append, List.nil_append] at hS)
    walk_at "zS1"
    (refine use_taken hS ⟨by first | assumption | (simp; done) | exact List.mem_cons_of_mem _ (by assumption) | exact List.mem_cons_of_mem _ (List.mem_cons_of_mem _ (by assumption)), by first | exact .inr (by assumption) | exact .inl (by simp)⟩ hq hl (by omega) (by omega) ?_; clear hS hq; intro x q H x_0 x_1 hq hS)
    obtain rfl | rfl | rfl : x = 0 ∨ x = 1 ∨ x = 2 := by omega
    all_goals
      walk_at "zS1"
      (refine use_taken hS ⟨by first | assumption | (simp; done) | exact List.mem_cons_of_mem _ (by assumption) | exact List.mem_cons_of_mem _ (List.mem_cons_of_mem _ (by assumption)), by first | exact .inr (by assumption) | exact .inl (by simp)⟩ hq hl (by omega) (by omega) ?_; clear hS hq; intro y q H y_0 y_1 hq hS)
      exact k y q H ⟨by omega, by omega⟩ hq hS.fr (hS.get 0 rfl)
theorem ok__law_picture (T : Txt K mg base A) : FnOk P w K mg base CX0 3 A.a__law_picture A.d__law_picture ["_law_row", "_law_keys_here", "_law_most"] (sp__law_picture K) := by
  have G__law_taken := ok__law_taken (P := P) (w := w) (base := base) T
  have G__law_worth := ok__law_worth (P := P) (w := w) (base := base) T
  refine T.F__law_picture.ok sc__law_picture (fun vs H Q E h => ?_) (fun cdv A_ outer s H0 vs Q E hr h => ?_)
  · exact spDrawD_len h (fun _ => rfl)
  · obtain ⟨M, ⟨ks, most⟩, r, a, q, ns, ws, rfl, h0, hq, hs, hl, hM, hdom, hd, ⟨gg, m0, m1⟩, k⟩ := h
    dsimp only at hd gg m0 m1 k
    have hS := Sy.ofDD h0 hs hM hdom hd
    simp only [DtL] at hd
    obtain ⟨u, _, rfl, hu0, _, _, rfl, hm, rfl⟩ := hd
    simp only [Dt] at hm; subst hm
    obtain ⟨p0, xs0, rfl, s, r0⟩ : ∃ p xs, u = .ref p ∧ STA K M H0 p xs ∧ DtL K M H0 (ks.map .int) xs := by
      have hu1 := hu0
      simp only [Dt] at hu1; exact hu1
    have hl0 := r0.len
    rw [List.length_map] at hl0
    have hu := hu_of hr
    have hu2 := hu2_of hr
    have hr__law_taken : Room 1 _ := hr.mono (by decide)
    have hr__law_worth : Room 2 _ := hr.mono (by decide)
    refine ⟨_, pss_cons (ps_set (i := 3) sc__law_picture.nd rfl (Or.inl rfl) (pe_callTy (b_tuple (K := K)) (by rfl) T.z_tuple (by decide +kernel) (pa_cons (pe_lc (own := [("_law_k", 4)]) (g := gName 4) (by rfl) sc__law_picture.nd (pi_range1 (by rfl) T.z_range (pa_cons (pe_op op_add pe_int (pe_call G__law_taken hr__law_taken (by rfl) T.g__law_taken T.F__law_taken.kp T.b__law_taken .nil pass0 (pa_cons (pv 0) (pa_cons pe_int pa_nil)))) pa_nil)) (blkOk_by (N := ["_law_row", "_law_keys_here", "_law_most", "_law_cells", "_law_k"]) (sc := defScope s__law_picture) (by decide +kernel)) (fun _ _ _ _ _ => pg_name (i := 4) sc__law_picture.nd rfl (by first | exact Or.inl rfl | exact Or.inr rfl)) (fun _ _ _ _ _ => pts_nil) (fun _ _ _ _ _ => (pe_call G__law_worth hr__law_worth (by rfl) T.g__law_worth T.F__law_worth.kp T.b__law_worth .nil pass0 (pa_cons (pv 0) pa_nil)))) pa_nil)))
      (pss_one (ps_ret (pe_tup (pa_cons (pe_op op_add pe_int (pe_call G__law_taken hr__law_taken (by rfl) T.g__law_taken T.F__law_taken.kp T.b__law_taken .nil pass0 (pa_cons (pv 0) (pa_cons (pv 2) pa_nil)))) (pa_cons (pv 3) (pa_cons (pe_call G__law_taken hr__law_taken (by rfl) T.g__law_taken T.F__law_taken.kp T.b__law_taken .nil pass0 (pa_cons (pv 0) (pa_cons (pe_callB (b_len (K := K)) (by rfl) T.z_len (by decide +kernel) (pa_cons (pv 1) pa_nil)) pa_nil))) pa_nil)))))), ?_⟩
    try dsimp only [cxOf, Cx.nox, Cx.wish]
    refine x_st (σ' := [some _, some _, some _, none, none]) rfl ?_
    walk_at "zS5"
    (refine use_taken hS ⟨by first | assumption | (simp; done) | exact List.mem_cons_of_mem _ (by assumption) | exact List.mem_cons_of_mem _ (List.mem_cons_of_mem _ (by assumption)), by first | exact .inr (by assumption) | exact .inl (by simp)⟩ hq hl (by omega) (by omega) ?_; clear hS hq; intro n q H n_0 n_1 hq hS)
    walk_at "zS5"
    (refine ⟨_, rfl, by omega, by omega, ?_⟩)
    refine lc_draw (n := (1 + n).toNat) (C := fun x => 0 ≤ x ∧ x < 9973) hS ⟨hM, .inl (by simp)⟩ hq (by omega) ?_ ?_
    · intro v M' H q L' Q' hM hq hS kk
      walk_at "zS5"
      exact use_draw hS hM hq hl kk
    clear hS hq; intro p xs q H p_n hx hC hq hS
    (try simp only [List.cons_append, List.nil_append] at hS)
    walk_at "zS5"
    refine d_newT (ds := xs.map .int) hS (DtL.ints.mpr rfl) ?_
    clear hS; intro pp H hS
    walk_at "zS5"
    refine use_taken hS ⟨hM, .inl (by simp)⟩ hq hl (by omega) (by omega) ?_
    clear hS hq; intro ver q H ver_0 ver_1 hq hS
    walk_at "zS5"
    refine d_lenT (hS.d 1 rfl) ?_
    rw [List.length_map]
    walk_at "zS5"
    obtain ⟨g1, g2, g3⟩ := gg
    refine use_taken hS ⟨hM, .inl (by simp)⟩ hq hl (by omega) (by omega) ?_
    clear hS hq; intro num q H num_0 num_1 hq hS
    walk_at "zD5"
    (have hS : Sy K _ _ _ _ _ := (by assumption))
    have gpp : gp ks ⟨1 + ver, xs, num⟩ := ⟨by dsimp only; omega, by dsimp only; omega, by dsimp only; omega, by dsimp only; omega, fun c hc => ⟨(hC c hc).1, by have := (hC c hc).2; omega⟩, num_0, num_1⟩
    exact k _ _ q _ ⟨⟨1 + ver, xs, num⟩, rfl, gpp, by dsimp only; omega⟩ hq hS.fr (hS.get 0 rfl) (by walk_at "zdt")
theorem ok__law_pieces (T : Txt K mg base A) : FnOk P w K mg base CX0 1 A.a__law_pieces A.d__law_pieces ["_law_some"] (sp__law_pieces K) := by
  refine T.F__law_pieces.ok sc__law_pieces (fun vs H Q E h => ?_) (fun cdv A_ outer s H0 vs Q E hr h => ?_)
  · obtain ⟨_, h⟩ := h; obtain ⟨_, h⟩ := h; obtain ⟨_, h⟩ := h; obtain ⟨rfl, _⟩ := h; rfl
  · obtain ⟨M, ns, v, rfl, hdom, hv, hz, k⟩ := h
    obtain ⟨p, xs, rfl, hx, hxs⟩ := hv.ex
    have hS : Sy K (b0 H0) M H0 [] [] := Sy.start _ _ _ (fun _ z => nomatch z) (by simp) (fun _ z => nomatch z) hdom
    have hu := hu_of hr
    have hu2 := hu2_of hr
    refine ⟨_, pss_one (ps_ret (pe_lc (own := [("_law_k", 1)]) (g := gName 1) (by rfl) sc__law_pieces.nd (pi_range3 (by rfl) T.z_range (pa_cons pe_int (pa_cons (pe_callB (b_len (K := K)) (by rfl) T.z_len (by decide +kernel) (pa_cons (pv 0) pa_nil)) (pa_cons pe_int pa_nil)))) (blkOk_by (N := ["_law_some", "_law_k"]) (sc := defScope s__law_pieces) (by decide +kernel)) (fun _ _ _ _ _ => pg_name (i := 1) sc__law_pieces.nd rfl (by first | exact Or.inl rfl | exact Or.inr rfl)) (fun _ _ _ _ _ => pts_nil) (fun _ _ _ _ _ => (pe_callTy (b_tuple (K := K)) (by rfl) T.z_tuple (by decide +kernel) (pa_cons (pe_slice (b_slE (K := K)) (pv 0) (po_some (pv 1)) (po_some (pe_op op_add (pv 1) pe_int))) pa_nil))))), ?_⟩
    try dsimp only [cxOf, Cx.nox, Cx.wish]
    refine x_st (σ' := [some _, none]) rfl ?_
    walk_at "zD2"
    have hxl : xs.length = ns.length := by rw [hxs.len, List.length_map]
    rw [hxl]
    refine ⟨0, _, 3, pieceN ns.length, rfl, range3_n (by omega), ?_⟩
    refine lcW_data walk_rangeC' hS (fun _ _ _ _ => trivial) (by unfold pieceN; omega) (fun i => .tuple (((ns.drop (3 * i)).take 3).map .int)) ?_ ?_
    · intro i x D acc Ds' H Q' hi hx hD hS kk
      subst hx
      have hv2 := (hv.cons hD).mono (Fr.wk0 hS.fr)
      walk_at "zS2"
      refine d_slE hS hv2 ?_
      clear hS; intro u H he hS
      obtain ⟨p2, ys, rfl, _, _⟩ := he.ex
      walk_at "zS2"
      refine d_tupleE hS he ?_
      clear hS; intro p3 H ht hS
      rw [cutG_piece, ← List.map_drop, ← List.map_take] at ht
      exact kk _ _ hS ht
    clear hS; intro D H hS
    have e := hS.d 0 rfl
    refine k _ _ hS.fr ?_
    unfold piecesF
    simp only [List.map_map]
    exact e
theorem ok__law_sums (T : Txt K mg base A) : FnOk P w K mg base CX0 1 A.a__law_sums A.d__law_sums ["_law_some"] (sp__law_sums K) := by
  refine T.F__law_sums.ok sc__law_sums (fun vs H Q E h => ?_) (fun cdv A_ outer s H0 vs Q E hr h => ?_)
  · obtain ⟨_, h⟩ := h; obtain ⟨_, h⟩ := h; obtain ⟨_, h⟩ := h; obtain ⟨rfl, _⟩ := h; rfl
  · obtain ⟨M, xs, p, rfl, hdom, hx, hz, k⟩ := h
    have hS : Sy K (b0 H0) M H0 [] [] := Sy.start _ _ _ (fun _ z => nomatch z) (by simp) (fun _ z => nomatch z) hdom
    have hu := hu_of hr
    have hu2 := hu2_of hr
    refine ⟨_, pss_cons (ps_if (pt_cmpR (b_in (K := K)) pe_non (pv 0) (by rfl)) (pss_one (ps_ret pe_non)) pss_nil)
      (pss_cons (ps_set (i := 1) sc__law_sums.nd rfl (Or.inl rfl) (pe_callB (b_sum (K := K) rfl) (by rfl) T.z_sum (by decide +kernel) (pa_cons (pe_lc (own := [("_law_number_here", 3)]) (g := gName 3) (by rfl) sc__law_sums.nd (b_iE (K := K) (pv 0)) (blkOk_by (N := ["_law_some", "_law_one", "_law_two", "_law_number_here", "_law_k"]) (sc := defScope s__law_sums) (by decide +kernel)) (fun _ _ _ _ _ => pg_name (i := 3) sc__law_sums.nd rfl (by first | exact Or.inl rfl | exact Or.inr rfl)) (fun _ _ _ _ _ => pts_nil) (fun _ _ _ _ _ => (pe_op op_add (pv 3) pe_int))) pa_nil)))
      (pss_cons (ps_set (i := 2) sc__law_sums.nd rfl (Or.inl rfl) (pe_callB (b_sum (K := K) rfl) (by rfl) T.z_sum (by decide +kernel) (pa_cons (pe_lc (own := [("_law_k", 4)]) (g := gName 4) (by rfl) sc__law_sums.nd (pi_range1 (by rfl) T.z_range (pa_cons (pe_callB (b_len (K := K)) (by rfl) T.z_len (by decide +kernel) (pa_cons (pv 0) pa_nil)) pa_nil)) (blkOk_by (N := ["_law_some", "_law_one", "_law_two", "_law_number_here", "_law_k"]) (sc := defScope s__law_sums) (by decide +kernel)) (fun _ _ _ _ _ => pg_name (i := 4) sc__law_sums.nd rfl (by first | exact Or.inl rfl | exact Or.inr rfl)) (fun _ _ _ _ _ => pts_nil) (fun _ _ _ _ _ => (pe_op op_mul (pe_op op_sub (pe_callB (b_len (K := K)) (by rfl) T.z_len (by decide +kernel) (pa_cons (pv 0) pa_nil)) (pv 4)) (pe_op op_add (pe_ix (b_ix (K := K)) (pv 0) (pv 4) (fun _ _ => rfl)) pe_int)))) pa_nil)))
      (pss_one (ps_ret (pe_tup (pa_cons (pe_op op_mod (pv 1) pe_int) (pa_cons (pe_op op_mod (pv 2) pe_int) pa_nil))))))), ?_⟩
    try dsimp only [cxOf, Cx.nox, Cx.wish]
    refine x_st (σ' := [some _, none, none, none, none]) rfl ?_
    walk_at "zS5"
    refine n_in hx rfl (flat_ov _) ?_
    rw [inV_none]
    by_cases hn : none ∈ xs
    · rw [sumsD_none hn] at k
      walk_at "zS5"
      refine x_iteT (decide_eq_true hn) ?_
      walk_at "zS5"
      exact k _ _ hS.fr Dt.non'
    obtain ⟨ns, rfl⟩ := whole_of hn
    rw [sumsD_some] at k
    rw [List.length_map] at hz
    rw [← ints_ov] at hx
    walk_at "zS5"
    refine x_iteF (decide_eq_false hn) ?_
    walk_at "zS5"
    refine x_iEx (by with_unfolding_all rfl) hx ?_
    intro J G w hG
    refine lcW_data w hS hG (by rw [List.length_map]; omega) (fun i => .int (ns.getD i 0 + 1)) ?_ ?_
    · intro i x D acc Ds' H Q' hi hx2 hD hS kk
      obtain ⟨m, hm, rfl⟩ := of_map hx2
      walk_at "zS5"
      refine kk _ _ hS ?_
      rw [getD_at hm]
      exact Dt.int'
    clear hS; intro D H hS
    have e1 : (List.range (ns.map V.int).length).map (fun i => PyData.int (ns.getD i 0 + 1)) = (ns.map (· + 1)).map PyData.int := by
      rw [List.length_map, range_map_get (fun n : Int => PyData.int (n + 1)), List.map_map]; rfl
    rw [e1] at hS
    have hd := hS.d 0 rfl
    obtain ⟨zs, s1, r1⟩ := hd.lst
    rw [DtL.ints.mp r1] at s1
    have s11 := s1.1
    walk_at "zS5"
    rw [one_sum]
    have hx3 := hS.fr.sq0 hx
    walk_at "zS5"
    rw [List.length_map]
    (refine ⟨_, rfl, by omega, by omega, ?_⟩)
    simp only [Int.toNat_natCast]
    refine lcW_data walk_range' hS (fun _ _ _ _ => trivial) (by omega) (fun i => .int (((ns.length : Int) - i) * (ns.getD i 0 + 1))) ?_ ?_
    · intro i x D2 acc Ds' H' Q' hi hx2 hD hS kk
      subst hx2
      obtain ⟨m, hm⟩ := at_lt hi
      have hx4 := hS.fr.sq0 hx3
      walk_at "zS5"
      rw [List.length_map]
      walk_at "zS5"
      refine n_ixE hx4 (atI0 (at_map hm)) ?_
      walk_at "zS5"
      refine kk _ _ hS ?_
      rw [getD_at hm, Int.zero_add]
      exact Dt.int'
    clear hS; intro D2 H hS
    have e2 : (List.range ns.length).map (fun (i : Nat) => PyData.int (((ns.length : Int) - i) * (ns.getD i 0 + 1))) = ((List.range ns.length).map (fun (i : Nat) => ((ns.length : Int) - i) * (ns.getD i 0 + 1))).map PyData.int := by rw [List.map_map]; rfl
    rw [e2] at hS
    have hd2 := hS.d 1 rfl
    obtain ⟨zs2, s2, r2⟩ := hd2.lst
    rw [DtL.ints.mp r2] at s2
    have s21 := s2.1
    walk_at "zS5"
    rw [two_sum]
    walk_at "zD5"
    (have hS : Sy K _ _ _ _ _ := (by assumption))
    refine k _ _ hS.fr ?_
    rw [sums_is]
    exact (by walk_at "zdt")
theorem ok__law_title (T : Txt K mg base A) : FnOk P w K mg base CX0 2 A.a__law_title A.d__law_title ["_law_piece"] (sp__law_title K) := by
  have G__law_sums := ok__law_sums (P := P) (w := w) (base := base) T
  refine T.F__law_title.ok sc__law_title (fun vs H Q E h => ?_) (fun cdv A_ outer s H0 vs Q E hr h => ?_)
  · obtain ⟨_, h⟩ := h; obtain ⟨_, h⟩ := h; obtain ⟨rfl, _⟩ := h; rfl
  · obtain ⟨p, xs, rfl, hx, hz, kn, ks⟩ := h
    have hu := hu_of hr
    have hu2 := hu2_of hr
    have hr__law_sums : Room 1 _ := hr.mono (by decide)
    refine ⟨_, pss_cons (ps_set (i := 1) sc__law_title.nd rfl (Or.inl rfl) (pe_call G__law_sums hr__law_sums (by rfl) T.g__law_sums T.F__law_sums.kp T.b__law_sums .nil pass0 (pa_cons (pv 0) pa_nil)))
      (pss_one (ps_ret (pe_ifExp (pt_cmpR c_isN (pv 1) pe_non (nomark _)) pe_non (pe_op (b_catT (K := K)) (pv 1) (pe_tup (pa_cons (pe_callB (b_len (K := K)) (by rfl) T.z_len (by decide +kernel) (pa_cons (pv 0) pa_nil)) pa_nil)))))), ?_⟩
    try dsimp only [cxOf, Cx.nox, Cx.wish]
    refine x_st (σ' := [some _, none]) rfl ?_
    have hS : Sy K (b0 H0) [] H0 [] [] := Sy.start _ _ _ (fun _ z => nomatch z) (by simp) (fun _ z => nomatch z) (fun _ z => nomatch z)
    walk_at "zS2"
    refine use_EO xs hS hx (by omega) ?_
    clear hS; intro t H hS
    by_cases hn : none ∈ xs
    · have ht := hS.d 0 rfl
      rw [sumsD_none hn] at ht
      simp only [Dt] at ht
      subst ht
      walk_at "zS2"
      exact kn (allI_none.mpr hn) _ hS.fr
    obtain ⟨ns, rfl⟩ := whole_of hn
    rw [sumsD_some] at hS
    rw [List.length_map] at hz
    rw [← ints_ov] at hx
    obtain ⟨tp, rfl⟩ := (hS.d 0 rfl).refT
    have hx2 := hS.fr.sq0 hx
    walk_at "zS2"
    (refine ⟨by simp only [List.length_cons, List.length_nil]; decide, n_al hS ?_⟩; clear hS; intro l1 H l1_n l1_0 hS; simp only [List.cons_append, List.nil_append] at hS)
    obtain ⟨zs, s, r⟩ := (hS.d 0 rfl).tup
    simp only [DtL, Dt] at r
    obtain ⟨_, _, rfl, rfl, _, _, rfl, rfl, rfl⟩ := r
    refine n_catT s.1 (hS.st 0 rfl) (by simp) (by simp) (by simp) ?_
    (refine n_al hS ?_; clear hS; intro t3 H t3_n t3_0 hS; simp only [List.cons_append, List.nil_append] at hS)
    refine ks ns t3 _ (allI_some ns) hS.fr t3_0 ?_
    have e := hS.get 1 rfl
    rw [List.length_map] at e
    exact e
theorem ok__law_store (T : Txt K mg base A) : FnOk P w K mg base CX0 3 A.a__law_store A.d__law_store ["_law_row", "_law_picture_here", "_law_often"] (sp__law_store K) := by
  have G__law_pieces := ok__law_pieces (P := P) (w := w) (base := base) T
  have G__law_title := ok__law_title (P := P) (w := w) (base := base) T
  have G__law_taken := ok__law_taken (P := P) (w := w) (base := base) T
  have G__law_worth := ok__law_worth (P := P) (w := w) (base := base) T
  refine T.F__law_store.ok sc__law_store (fun vs H Q E h => ?_) (fun cdv A_ outer s H0 vs Q E hr h => ?_)
  · exact spDrawD_len h (fun _ => rfl)
  · obtain ⟨M, ⟨pic, often⟩, r, a, q, ns, ws, rfl, h0, hq, hs, hl, hM, hdom, hd, ⟨⟨ks, hp⟩, o1, o2⟩, k⟩ := h
    dsimp only at hd hp o1 o2 k
    have hS := Sy.ofDD h0 hs hM hdom hd
    simp only [DtL] at hd
    obtain ⟨u2, _, rfl, hu2, _, _, rfl, hmo, rfl⟩ := hd
    simp only [Dt] at hmo; subst hmo
    obtain ⟨b2, ys, rfl, sb, rb⟩ : ∃ p xs, u2 = .ref p ∧ STA K M H0 p xs ∧ DtL K M H0 [.int pic.v, .tuple (pic.cells.map .int), .int pic.n] xs := by
      have hz := hu2
      simp only [picD, Dt] at hz; exact hz
    simp only [Dt, DtL] at rb
    obtain ⟨_, _, rfl, rfl, _, _, rfl, ⟨c2, cs2, rfl, sc, rc⟩, _, _, rfl, rfl, rfl⟩ := rb
    have hc : Dt K M H0 (.tuple (pic.cells.map .int)) (.ref c2) := Dt.tupI sc rc
    have hsb := sb.1
    obtain ⟨p1, p2, p3, p4, p5, p6, p7⟩ := _root_.id hp
    have hu := hu_of hr
    have hu2 := hu2_of hr
    have hr__law_pieces : Room 1 _ := hr.mono (by decide)
    have hr__law_title : Room 2 _ := hr.mono (by decide)
    have hr__law_taken : Room 1 _ := hr.mono (by decide)
    have hr__law_worth : Room 2 _ := hr.mono (by decide)
    refine ⟨_, pss_cons (ps_set (i := 3) sc__law_store.nd rfl (Or.inl rfl) (pe_lst pa_nil))
      (pss_cons (ps_for PassesOwn.never rfl (b_iL (K := K) (pe_call G__law_pieces hr__law_pieces (by rfl) T.g__law_pieces T.F__law_pieces.kp T.b__law_pieces .nil pass0 (pa_cons (pe_ix (b_ixT (K := K)) (pv 1) pe_int (fun _ _ => rfl)) pa_nil))) (pg_name (i := 4) sc__law_store.nd rfl (Or.inl rfl)) (pss_cons (ps_set (i := 5) sc__law_store.nd rfl (Or.inl rfl) (pe_call G__law_title hr__law_title (by rfl) T.g__law_title T.F__law_title.kp T.b__law_title .nil pass0 (pa_cons (pv 4) pa_nil)))
      (Evl.pss_cut (ps_if (PW.pt (pw_and (pt_cmpR op_lt (pe_callB (b_len (K := K)) (by rfl) T.z_len (by decide +kernel) (pa_cons (pv 4) pa_nil)) pe_int (nomark _)) (pw_and (pt_cmpR op_gt (pv 2) pe_int (nomark _)) (pw_and1 (pt_cmpR op_eq (pe_call G__law_taken hr__law_taken (by rfl) T.g__law_taken T.F__law_taken.kp T.b__law_taken .nil pass0 (pa_cons (pv 0) (pa_cons pe_int pa_nil))) pe_int (nomark _)))))) (pss_one (ps_expr (pe_bm PySem.F.plainAttrs_list PySem.F.slot_list_insert PySem.F.type_list_insert mt_insert (pv 3) (pa_cons (pe_call G__law_taken hr__law_taken (by rfl) T.g__law_taken T.F__law_taken.kp T.b__law_taken .nil pass0 (pa_cons (pv 0) (pa_cons (pe_op op_add (pe_callB (b_len (K := K)) (by rfl) T.z_len (by decide +kernel) (pa_cons (pv 3) pa_nil)) pe_int) pa_nil))) (pa_cons (pe_tup (pa_cons (pv 5) (pa_cons (pe_op (b_catT (K := K)) (pe_tup (pa_cons pe_int pa_nil)) (pe_callTy (b_tuple (K := K)) (by rfl) T.z_tuple (by decide +kernel) (pa_cons (pv 4) pa_nil))) pa_nil))) pa_nil))))) pss_nil)
      (pss_one (ps_for PassesOwn.never rfl (pi_range1 (by rfl) T.z_range (pa_cons (pe_ifM (pt_cmpR op_gt (pv 2) pe_int (nomark _)) (pe_ix (b_ixL (K := K)) (pe_lst (pa_cons pe_int (pa_cons pe_int (pa_cons pe_int (pa_cons pe_int pa_nil))))) (pe_call G__law_taken hr__law_taken (by rfl) T.g__law_taken T.F__law_taken.kp T.b__law_taken .nil pass0 (pa_cons (pv 0) (pa_cons pe_int pa_nil))) (fun _ _ => rfl)) pe_int) pa_nil)) (pg_name (i := 6) sc__law_store.nd rfl (Or.inl rfl)) (pss_cons (ps_set (i := 7) sc__law_store.nd rfl (Or.inl rfl) (pe_callTy (b_list (K := K)) (by rfl) T.z_list (by decide +kernel) (pa_cons (pv 4) pa_nil)))
      (Evl.pss_cut (ps_if (PW.pt (pw_and (pt_cmpR op_gt (pv 2) pe_int (nomark _)) (pw_and1 (pt_cmpR op_eq (pe_call G__law_taken hr__law_taken (by rfl) T.g__law_taken T.F__law_taken.kp T.b__law_taken .nil pass0 (pa_cons (pv 0) (pa_cons (pv 2) pa_nil))) pe_int (nomark _))))) (pss_one (ps_asg (pe_call G__law_worth hr__law_worth (by rfl) T.g__law_worth T.F__law_worth.kp T.b__law_worth .nil pass0 (pa_cons (pv 0) pa_nil)) (pg_sub (pv 7) (pe_call G__law_taken hr__law_taken (by rfl) T.g__law_taken T.F__law_taken.kp T.b__law_taken .nil pass0 (pa_cons (pv 0) (pa_cons (pe_callB (b_len (K := K)) (by rfl) T.z_len (by decide +kernel) (pa_cons (pv 7) pa_nil)) pa_nil))) set_list))) pss_nil)
      (pss_one (ps_expr (pe_bm PySem.F.plainAttrs_list PySem.F.slot_list_insert PySem.F.type_list_insert mt_insert (pv 3) (pa_cons (pe_call G__law_taken hr__law_taken (by rfl) T.g__law_taken T.F__law_taken.kp T.b__law_taken .nil pass0 (pa_cons (pv 0) (pa_cons (pe_op op_add (pe_callB (b_len (K := K)) (by rfl) T.z_len (by decide +kernel) (pa_cons (pv 3) pa_nil)) pe_int) pa_nil))) (pa_cons (pe_tup (pa_cons (pv 5) (pa_cons (pe_callTy (b_tuple (K := K)) (by rfl) T.z_tuple (by decide +kernel) (pa_cons (pv 7) pa_nil)) pa_nil))) pa_nil))))))))))))
      (pss_one (ps_ret (pv 3)))), ?_⟩
    try dsimp only [cxOf, Cx.nox, Cx.wish]
    refine x_st (σ' := [some _, some _, some _, none, none, none, none, none]) rfl ?_
    have hS := hS.addD hc
    walk_at "zS8"
    (refine ⟨by simp only [List.length_cons, List.length_nil]; decide, n_alM hS ?_⟩; clear hS; intro l H l_n l_0 hS; simp only [List.cons_append, List.nil_append] at hS)
    have hsb2 := (sb.mono (hS.fr.wk fun x hx => by rw [List.mem_singleton.mp hx]; exact hM)).1
    have hpl : (piecesF pic.cells).length ≤ 4 := by unfold piecesF pieceN; rw [List.length_map, List.length_range]; omega
    walk_at "zS8"
    refine ⟨l :: M, pic.cells, _, rfl, hS.dom, .inr (hS.d 3 rfl), by omega, fun v4 H f h4 => ?_⟩
    have hS := (hS.ex f).addD h4
    (try simp only [List.cons_append, List.nil_append] at hS)
    obtain ⟨z4, zs, rfl, s4, r4⟩ : ∃ p xs, v4 = .ref p ∧ SLA K (l :: M) H p xs ∧ DtL K (l :: M) H ((piecesF pic.cells).map fun c => .tuple (c.map .int)) xs := by
      simp only [Dt] at h4; exact h4
    walk_at "zS8"
    refine ⟨z4, rfl, ⟨_, s4.1⟩, ?_⟩
    refine for_dataL (ds := (piecesF pic.cells).map fun c => .tuple (c.map .int)) h4 (fun j σ' H' => ∃ (q : Rho) (st : List Row) (vs : List V) (v4 v5 v6 v7 : Option V), q.ok ∧ Sy K ⟨H, [r, l]⟩ (l :: M) H' [(r, rowO a q), (l, .lst vs)] [(script ns, .ref a)] ∧ DtL K (l :: M) H' (st.map rowD) vs ∧ st.length ≤ 3 * j ∧ (∀ x ∈ st, 1 ≤ x.2.length ∧ x.2.length ≤ 3 ∧ ∀ n ∈ x.2, 0 ≤ n ∧ n ≤ 9972) ∧ (often = 1 → ∀ c ∈ (piecesF pic.cells).take j, (titleF c, c) ∈ st) ∧
      σ' = [some (.ref r), some (.ref b2), some (.int often), some (.ref l), v4, v5, v6, v7]) ?_ ?_ ?_ ?_
    · refine ⟨q, [], [], _, _, _, _, hq, (hS.rebase.from [r, l] (fun x hx => hS.dom x (by simp at hx; rcases hx with rfl | rfl <;> simp [hM]))).subD (by simp), DtL.nil', by simp, by simp, by simp, rfl⟩
    · rintro j σ' H' ⟨_, _, _, _, _, _, _, _, z, _⟩
      exact z.fr.wk fun x hx => by simp at hx; rcases hx with rfl | rfl <;> simp [hM]
    · clear hq
      rintro j d x σ' H1 hd hdx ⟨q, st, vs, v4, v5, v6, v7, hq, hS1, hvs, hsl, hsg, hsn, rfl⟩
      obtain ⟨pc, hpc, rfl⟩ := of_map hd
      have hjl := (List.getElem?_eq_some_iff.mp hpc).1
      obtain ⟨pa, rfl⟩ := hdx.refT
      have hcl := piece_len (List.mem_of_getElem? hpc)
      have hcp := piece_pos (List.mem_of_getElem? hpc)
      have hcm := piecesF_mem (List.mem_of_getElem? hpc)
      have hS := (hS1.rebase.from [r, l] (fun x hx => hS1.nom x hx)).addD hdx
      walk_at "zS8"
      refine du_title hS (.inr (hS.d 1 rfl)) (by omega) ?_
      clear hS; intro t5 H2 hS
      walk_at "zS8"
      have hvs := hvs.mono (hS.fr.wk fun x hx => by simp at hx; rcases hx with rfl | rfl <;> simp [hM])
      refine ⟨fun σ' H' => ∃ (q : Rho) (st2 : List Row) (vs2 : List V), q.ok ∧ Sy K ⟨H1, [r, l]⟩ (l :: M) H' [(r, rowO a q), (l, .lst vs2)] [(script ns, .ref a), (.tuple (pc.map .int), .ref pa), (tripD (titleF pc), .ref t5)] ∧ DtL K (l :: M) H' (st2.map rowD) vs2 ∧ st2.length ≤ st.length + 1 ∧ (∀ x ∈ st2, 1 ≤ x.2.length ∧ x.2.length ≤ 3 ∧ ∀ n ∈ x.2, 0 ≤ n ∧ n ≤ 9972) ∧ (∀ x ∈ st, x ∈ st2) ∧
        σ' = [some (.ref r), some (.ref b2), some (.int often), some (.ref l), some (.ref pa), some (.ref t5), v6, v7], ?_, ?_⟩
      · have hSx := hS
        have hS := hSx.rebase.from [r, l] (fun x hx => hSx.nom x hx)
        obtain ⟨zp, sz1, rz1⟩ := (hS.d 1 rfl).tup
        have hzl : zp.length = pc.length := by rw [rz1.len, List.length_map]
        walk_at "zS8"
        refine n_len (.inr sz1.1) ?_
        rw [hzl]
        walk_at "zS8"
        refine x_ite (fun h3 => ?_) (fun h3 => ?_)
        · have h3 : pc.length < 3 := by have := of_decide_eq_true h3; omega
          walk_at "zS8"
          refine x_ite (fun ho => ?_) (fun ho => ?_)
          · have ho := of_decide_eq_true ho
            walk_at "zS8"
            (refine use_taken hS ⟨by first | assumption | (simp; done) | exact List.mem_cons_of_mem _ (by assumption) | exact List.mem_cons_of_mem _ (List.mem_cons_of_mem _ (by assumption)), by first | exact .inr (by assumption) | exact .inl (by simp)⟩ hq hl (by omega) (by omega) ?_; clear hS hq; intro y q H y_0 y_1 hq hS)
            walk_at "zS8"
            refine x_ite (fun hy => ?_) (fun hy => ?_)
            · walk_at "zS8"
              have hvl : vs.length = st.length := by rw [hvs.len, List.length_map]
              refine ⟨ty_list (hS.sl 1 rfl), ?_⟩
              walk_at "zS8"
              rw [hvl]
              walk_at "zS8"
              (refine use_taken hS ⟨by first | assumption | (simp; done) | exact List.mem_cons_of_mem _ (by assumption) | exact List.mem_cons_of_mem _ (List.mem_cons_of_mem _ (by assumption)), by first | exact .inr (by assumption) | exact .inl (by simp)⟩ hq hl (by omega) (by omega) ?_; clear hS hq; intro ix q H ix_0 ix_1 hq hS)
              walk_at "zS8"
              have hdm := hS.dom
              (refine ⟨by simp only [List.length_cons, List.length_nil]; decide, n_al hS ?_⟩; clear hS; intro u0 H u0_n u0_0 hS; simp only [List.cons_append, List.nil_append] at hS)
              have hu0 := notM0 hdm u0_n
              walk_at "zS8"
              refine d_tupleT (hS.d 1 rfl) ?_
              have hpa : SqT K H pa (pc.map V.int) := by
                obtain ⟨zs, s5, r5⟩ := (hS.d 1 rfl).tup
                rw [DtL.ints.mp r5] at s5
                exact s5.1
              refine n_catT (hS.st 2 rfl) hpa (by simp) (fun z => by rw [List.map_eq_nil_iff] at z; rw [z] at hcp; simp at hcp) (by rw [List.length_map]; simp; omega) ?_
              have hdm := hS.dom
              (refine n_al hS ?_; clear hS; intro u1 H u1_n u1_0 hS; simp only [List.cons_append, List.nil_append] at hS)
              have hu1 := notM0 hdm u1_n
              walk_at "zS8"
              have hdm := hS.dom
              (refine ⟨by simp only [List.length_cons, List.length_nil]; decide, n_al hS ?_⟩; clear hS; intro u2 H u2_n u2_0 hS; simp only [List.cons_append, List.nil_append] at hS)
              have hu3 := notM0 hdm u2_n
              walk_at "zS8"
              have hro : Dt K (l :: M) H (rowD (titleF pc, 9972 :: pc)) (.ref u2) := Dt.tupI ⟨hS.st 4 rfl, .inl hu3⟩ (DtL.cons' (hS.d 2 rfl) (DtL.cons' (Dt.tupI ⟨hS.st 3 rfl, .inl hu1⟩ (DtL.ints.mpr rfl)) DtL.nil'))
              have hvs := hvs.mono (hS.fr.wk fun x hx => by simp at hx; rcases hx with rfl | rfl <;> simp [hM])
              refine ⟨l, vs, ix, .ref u2, rfl, rfl, hS.get 1 rfl, szL (by omega), ix_0, by omega, ?_⟩
              have fset := Fr.set (M := l :: M) (H := H) (o := .lst (vs.take ix.toNat ++ [V.ref u2] ++ vs.drop ix.toNat)) (p := l) (by simp)
              have hvs2 : DtL K (l :: M) (upd H l (.lst (vs.take ix.toNat ++ [V.ref u2] ++ vs.drop ix.toNat))) ((st.take ix.toNat ++ [(titleF pc, 9972 :: pc)] ++ st.drop ix.toNat).map rowD) (vs.take ix.toNat ++ [V.ref u2] ++ vs.drop ix.toNat) := by
                rw [List.map_append, List.map_append, List.map_take, List.map_drop]
                exact (DtL.append (DtL.append (DtL.take _ hvs) (DtL.cons' hro DtL.nil')) (DtL.drop _ hvs)).mono fset
              have hS := hS.set (o' := .lst (vs.take ix.toNat ++ [V.ref u2] ++ vs.drop ix.toNat)) 1 rfl ⟨by simp, .inl (by simp)⟩
              simp only [List.set_cons_zero, List.set_cons_succ] at hS
              have hS := hS.sub (L' := [(r, rowO a q), (l, .lst (vs.take ix.toNat ++ [V.ref u2] ++ vs.drop ix.toNat))]) (by simp)
              walk_at "zS8"
              refine ⟨q, st.take ix.toNat ++ [(titleF pc, 9972 :: pc)] ++ st.drop ix.toNat, _, hq, hSx.into hS (fun x hx => .inl hx), hvs2, by simp only [List.length_append, List.length_take, List.length_drop, List.length_singleton]; omega, fun x hx => ?_, fun x hx => mem_ins.mpr (.inr hx), rfl⟩
              rcases mem_ins.mp hx with rfl | hx
              · refine ⟨by simp, by simp; omega, fun n hn => ?_⟩
                rcases List.mem_cons.mp hn with rfl | hn
                · omega
                · exact p5 n (hcm n hn)
              · exact hsg x hx
            · walk_at "zS8"
              exact ⟨q, st, vs, hq, hSx.into hS (fun x hx => .inl hx), hvs.mono (hS.fr.wk fun x hx => by simp at hx; rcases hx with rfl | rfl <;> simp [hM]), by omega, hsg, fun _ z => z, rfl⟩
          · walk_at "zS8"
            exact ⟨q, st, vs, hq, hSx.into hS (fun x hx => .inl hx), hvs.mono (hS.fr.wk fun x hx => by simp at hx; rcases hx with rfl | rfl <;> simp [hM]), by omega, hsg, fun _ z => z, rfl⟩
        · walk_at "zS8"
          exact ⟨q, st, vs, hq, hSx.into hS (fun x hx => .inl hx), hvs.mono (hS.fr.wk fun x hx => by simp at hx; rcases hx with rfl | rfl <;> simp [hM]), by omega, hsg, fun _ z => z, rfl⟩
      clear hS hq hvs
      rintro σ' H2 ⟨q, st2, vs2, hq, hS, hvs, hl1, hsg, hin1, rfl⟩
      have hsn : often = 1 → ∀ c ∈ (piecesF pic.cells).take j, (titleF c, c) ∈ st2 := fun ho c hc => hin1 _ (hsn ho c hc)
      have hsl : st2.length ≤ 3 * j + 1 := by omega
      clear hin1 hl1
      generalize st2 = st at hS hvs hsg hsn hsl
      generalize vs2 = vs at hS hvs
      have hSb := hS
      refine x_ifM (fun v H' => ∃ (n : Int) (q : Rho), v = .int n ∧ 0 ≤ n ∧ n ≤ 2 ∧ (often = 1 → n = 1) ∧ q.ok ∧ Sy K ⟨H2, [r]⟩ (l :: M) H' [(r, rowO a q), (l, .lst vs)] [(script ns, .ref a), (.tuple (pc.map .int), .ref pa), (tripD (titleF pc), .ref t5)]) (fun Q' hQ' => ?_) ?_
      · have hS := hS.rebase.from [r] (fun x hx => hS.nom x (List.mem_cons.mpr (.inl (List.mem_singleton.mp hx))))
        walk_at "zS8"
        refine x_ite (fun ho => ?_) (fun ho => ?_)
        · walk_at "zS8"
          (refine ⟨by simp only [List.length_cons, List.length_nil]; decide, n_al hS ?_⟩; clear hS; intro e1 H e1_n e1_0 hS; simp only [List.cons_append, List.nil_append] at hS)
          walk_at "zS8"
          (refine use_taken hS ⟨by first | assumption | (simp; done) | exact List.mem_cons_of_mem _ (by assumption) | exact List.mem_cons_of_mem _ (List.mem_cons_of_mem _ (by assumption)), by first | exact .inr (by assumption) | exact .inl (by simp)⟩ hq hl (by omega) (by omega) ?_; clear hS hq; intro y q H y_0 y_1 hq hS)
          obtain ⟨m4, hm4, m0, m2⟩ : ∃ m4 : Int, atI ([.int 1, .int 1, .int 0, .int 2] : List V) y = some (.int m4) ∧ 0 ≤ m4 ∧ m4 ≤ 2 := by
            have : y = 0 ∨ y = 1 ∨ y = 2 ∨ y = 3 := by omega
            rcases this with rfl | rfl | rfl | rfl
            · exact ⟨1, rfl, by decide, by decide⟩
            · exact ⟨1, rfl, by decide, by decide⟩
            · exact ⟨0, rfl, by decide, by decide⟩
            · exact ⟨2, rfl, by decide, by decide⟩
          walk_at "zS8"
          refine x_ixL (hS.sl 2 rfl) hm4 ?_
          have ho := of_decide_eq_true ho
          exact hQ' _ _ ⟨m4, q, rfl, m0, m2, fun z => by omega, hq, hS.sub (by walk_at "zsub")⟩
        · walk_at "zS8"
          exact hQ' _ _ ⟨1, q, rfl, by decide, by decide, fun _ => rfl, hq, hS⟩
      clear hS hq
      rintro v H3 ⟨n, q, rfl, n0, n2, hn1, hq, hS⟩
      have hvs := hvs.mono (hS.fr.wk fun x hx => by simp at hx; rcases hx with rfl; simp [hM])
      have hS := hSb.into hS (fun x hx => .inl (by simp at hx; simp [hx]))
      walk_at "zS8"
      (refine ⟨_, rfl, by omega, by omega, ?_⟩)
      refine for_range (lo := 0) (n := n.toNat) (fun j2 σ' H' => ∃ (q : Rho) (st2 : List Row) (vs2 : List V) (v6 v7 : Option V), q.ok ∧ Sy K ⟨H1, [r, l]⟩ (l :: M) H' [(r, rowO a q), (l, .lst vs2)] [(script ns, .ref a), (.tuple (pc.map .int), .ref pa), (tripD (titleF pc), .ref t5)] ∧ DtL K (l :: M) H' (st2.map rowD) vs2 ∧ st2.length ≤ st.length + j2 ∧ (∀ x ∈ st2, 1 ≤ x.2.length ∧ x.2.length ≤ 3 ∧ ∀ n ∈ x.2, 0 ≤ n ∧ n ≤ 9972) ∧ (∀ x ∈ st, x ∈ st2) ∧ (often = 1 → 0 < j2 → (titleF pc, pc) ∈ st2) ∧
        σ' = [some (.ref r), some (.ref b2), some (.int often), some (.ref l), some (.ref pa), some (.ref t5), v6, v7]) ?_ ?_ ?_
      · exact ⟨q, st, vs, _, _, hq, hS, hvs, by omega, hsg, fun _ z => z, fun _ z => absurd z (Nat.lt_irrefl 0), rfl⟩
      · clear hS hvs hq
        rintro j2 σ' H4 hj2 ⟨q, st2, vs2, v6, v7, hq, hS4, hvs, hl2, hg2, hin, hpin, rfl⟩
        have hvl : vs2.length = st2.length := by rw [hvs.len, List.length_map]
        have hS := hS4.rebase.from [r, l] (fun x hx => hS4.nom x hx)
        walk_at "zS8"
        refine n_list (Dt.sq (.inr (hS.d 1 rfl))) ?_
        (refine n_alM hS ?_; clear hS; intro p H p_n p_0 hS; simp only [List.cons_append, List.nil_append] at hS)
        walk_at "zS8"
        refine ⟨fun σ' H' => ∃ (q : Rho) (xs : List Int), q.ok ∧ Sy K ⟨H4, [r, l]⟩ (p :: l :: M) H' [(r, rowO a q), (l, .lst vs2), (p, .lst (xs.map V.int))] [(script ns, .ref a), (.tuple (pc.map .int), .ref pa), (tripD (titleF pc), .ref t5)] ∧ xs.length = pc.length ∧ (∀ n ∈ xs, 0 ≤ n ∧ n ≤ 9972) ∧ (often = 1 → xs = pc) ∧
          σ' = [some (.ref r), some (.ref b2), some (.int often), some (.ref l), some (.ref pa), some (.ref t5), some (.int (0 + (j2 : Int))), some (.ref p)], ?_, ?_⟩
        · walk_at "zS8"
          have hpb : ∀ n ∈ pc, 0 ≤ n ∧ n ≤ 9972 := fun n hn => p5 n (hcm n hn)
          refine x_ite (fun ho => ?_) (fun ho => ?_)
          · have ho := of_decide_eq_true ho
            walk_at "zS8"
            (refine use_taken hS ⟨by first | assumption | (simp; done) | exact List.mem_cons_of_mem _ (by assumption) | exact List.mem_cons_of_mem _ (List.mem_cons_of_mem _ (by assumption)), by first | exact .inr (by assumption) | exact .inl (by simp)⟩ hq hl (by omega) (by omega) ?_; clear hS hq; intro y q H y_0 y_1 hq hS)
            walk_at "zS8"
            refine x_ite (fun hy => ?_) (fun hy => ?_)
            · walk_at "zS8"
              (refine use_draw hS ⟨by first | assumption | (simp; done) | exact List.mem_cons_of_mem _ (by assumption) | exact List.mem_cons_of_mem _ (List.mem_cons_of_mem _ (by assumption)), by first | exact .inr (by assumption) | exact .inl (by simp)⟩ hq hl ?_; clear hS hq; intro w q H w_c hq hS)
              walk_at "zS8"
              rw [List.length_map]
              walk_at "zS8"
              (refine use_taken hS ⟨by first | assumption | (simp; done) | exact List.mem_cons_of_mem _ (by assumption) | exact List.mem_cons_of_mem _ (List.mem_cons_of_mem _ (by assumption)), by first | exact .inr (by assumption) | exact .inl (by simp)⟩ hq hl (by omega) (by omega) ?_; clear hS hq; intro ix q H ix_0 ix_1 hq hS)
              walk_at "zS8"
              refine x_setS hS 2 rfl ⟨by simp, .inr p_n⟩ (ixN_int (by omega) (by rw [List.length_map]; omega)) ?_
              clear hS; intro H hS
              simp only [List.set_cons_zero, List.set_cons_succ] at hS
              walk_at "zS8"
              refine ⟨q, pc.set ix.toNat w, hq, by rw [List.map_set]; exact hS, by rw [List.length_set], fun c hc => ?_, fun z => by omega, rfl⟩
              rcases List.mem_or_eq_of_mem_set hc with z | z
              · exact hpb c z
              · omega
            · walk_at "zS8"
              exact ⟨q, pc, hq, hS, rfl, hpb, fun _ => rfl, rfl⟩
          · walk_at "zS8"
            exact ⟨q, pc, hq, hS, rfl, hpb, fun _ => rfl, rfl⟩
        · clear hS hq
          rintro σ' H ⟨q, xs, hq, hS, hxl, hxb, hx1, rfl⟩
          walk_at "zS8"
          refine ⟨ty_list (hS.sl 1 rfl), ?_⟩
          walk_at "zS8"
          rw [hvl]
          walk_at "zS8"
          (refine use_taken hS ⟨by first | assumption | (simp; done) | exact List.mem_cons_of_mem _ (by assumption) | exact List.mem_cons_of_mem _ (List.mem_cons_of_mem _ (by assumption)), by first | exact .inr (by assumption) | exact .inl (by simp)⟩ hq hl (by omega) (by omega) ?_; clear hS hq; intro ix q H ix_0 ix_1 hq hS)
          walk_at "zS8"
          have hdm := hS.dom
          (refine n_al hS ?_; clear hS; intro u1 H u1_n u1_0 hS; simp only [List.cons_append, List.nil_append] at hS)
          have hu1 := notM0 hdm u1_n
          walk_at "zS8"
          have hdm := hS.dom
          (refine ⟨by simp only [List.length_cons, List.length_nil]; decide, n_al hS ?_⟩; clear hS; intro u2 H u2_n u2_0 hS; simp only [List.cons_append, List.nil_append] at hS)
          have hu3 := notM0 hdm u2_n
          walk_at "zS8"
          have hro : Dt K (p :: l :: M) H (rowD (titleF pc, xs)) (.ref u2) := Dt.tupI ⟨hS.st 4 rfl, .inl hu3⟩ (DtL.cons' (hS.d 2 rfl) (DtL.cons' (Dt.tupI ⟨hS.st 3 rfl, .inl hu1⟩ (DtL.ints.mpr rfl)) DtL.nil'))
          have hvs := (hvs.consM p_n).mono (hS.fr.wk fun x hx => by simp at hx; rcases hx with rfl | rfl <;> simp [hM])
          refine ⟨l, vs2, ix, .ref u2, rfl, rfl, hS.get 1 rfl, szl (by omega), ix_0, by omega, ?_⟩
          have fset := Fr.set (M := p :: l :: M) (H := H) (o := .lst (vs2.take ix.toNat ++ [V.ref u2] ++ vs2.drop ix.toNat)) (p := l) (by simp)
          have hvs2 : DtL K (p :: l :: M) (upd H l (.lst (vs2.take ix.toNat ++ [V.ref u2] ++ vs2.drop ix.toNat))) ((st2.take ix.toNat ++ [(titleF pc, xs)] ++ st2.drop ix.toNat).map rowD) (vs2.take ix.toNat ++ [V.ref u2] ++ vs2.drop ix.toNat) := by
            rw [List.map_append, List.map_append, List.map_take, List.map_drop]
            exact (DtL.append (DtL.append (DtL.take _ hvs) (DtL.cons' hro DtL.nil')) (DtL.drop _ hvs)).mono fset
          have hS := hS.set (o' := .lst (vs2.take ix.toNat ++ [V.ref u2] ++ vs2.drop ix.toNat)) 1 rfl ⟨by simp, .inl (by simp)⟩
          simp only [List.set_cons_zero, List.set_cons_succ] at hS
          have hS := (hS.sub (L' := [(r, rowO a q), (l, .lst (vs2.take ix.toNat ++ [V.ref u2] ++ vs2.drop ix.toNat))]) (by simp)).dropM
          walk_at "zS8"
          refine ⟨q, st2.take ix.toNat ++ [(titleF pc, xs)] ++ st2.drop ix.toNat, _, _, _, hq, hS4.into hS (fun x hx => .inl hx), hvs2.wk fun _ z => List.mem_cons_of_mem _ z, by simp only [List.length_append, List.length_take, List.length_drop, List.length_singleton]; omega, fun x hx => ?_, fun x hx => mem_ins.mpr (.inr (hin x hx)), fun z _ => mem_ins.mpr (.inl (by rw [hx1 z])), rfl⟩
          rcases mem_ins.mp hx with rfl | hx
          · exact ⟨by dsimp only; omega, by dsimp only; omega, hxb⟩
          · exact hg2 x hx
      · clear hS hvs hq
        rintro σ' H4 ⟨q, st2, vs2, v6, v7, hq, hS4, hvs, hl2, hg2, hin, hpin, rfl⟩
        walk_at "zS8"
        refine ⟨q, st2, vs2, _, _, _, _, hq, (hS1.into hS4 (fun x hx => .inl hx)).subD (by simp), hvs, by omega, hg2, fun ho c hc => ?_, rfl⟩
        rw [take_more hpc] at hc
        rcases List.mem_append.mp hc with hc | hc
        · exact hin _ (hsn ho c hc)
        · rw [List.mem_singleton.mp hc]
          exact hpin ho (by have := hn1 ho; omega)
    · clear hq
      rintro σ' H1 ⟨q, st, vs, v4, v5, v6, v7, hq, hS1, hvs, hsl, hsg, hsn, rfl⟩
      rw [List.length_map] at hsl hsn
      rw [List.take_length] at hsn
      have hS := (hS.into hS1 (fun x hx => by
        simp only [List.mem_cons, List.not_mem_nil, or_false] at hx
        rcases hx with rfl | rfl
        · exact .inl (by simp)
        · exact .inr l_0)).dropM
      walk_at "zS8"
      have hlM : l ∉ M := fun z => by obtain ⟨o, e⟩ := hdom l z; rw [show H0 l = none from l_0] at e; cases e
      exact k _ _ q H1 ⟨st, rfl, ⟨by omega, hsg⟩, hsn⟩ hq hS.fr (hS.get 0 rfl) (Dt.lstI ⟨hS.sl 1 rfl, .inl hlM⟩ (hvs.wk fun _ z => List.mem_cons_of_mem _ z))
theorem ok__law_stores (T : Txt K mg base A) : FnOk P w K mg base CX0 4 A.a__law_stores A.d__law_stores ["_law_row", "_law_picture_here", "_law_sure"] (sp__law_stores K) := by
  have G__law_taken := ok__law_taken (P := P) (w := w) (base := base) T
  have G__law_store := ok__law_store (P := P) (w := w) (base := base) T
  refine T.F__law_stores.ok sc__law_stores (fun vs H Q E h => ?_) (fun cdv A_ outer s H0 vs Q E hr h => ?_)
  · exact spDrawD_len h (fun _ => rfl)
  · obtain ⟨M, ⟨pic, sure⟩, r, a, q, ns, ws, rfl, h0, hq, hs, hl, hM, hdom, hd, ⟨ks, hp⟩, k⟩ := h
    dsimp only at hd hp k
    have hS := Sy.ofDD h0 hs hM hdom hd
    simp only [DtL] at hd
    obtain ⟨u2, _, rfl, hu2, _, _, rfl, hmo, rfl⟩ := hd
    simp only [Dt] at hmo; subst hmo
    obtain ⟨b2, rfl⟩ := hu2.refT
    have hu := hu_of hr
    have hu2 := hu2_of hr
    have hr__law_taken : Room 1 _ := hr.mono (by decide)
    have hr__law_store : Room 3 _ := hr.mono (by decide)
    refine ⟨_, pss_cons (ps_setLc (i := 3) (own := [("_law_k", 4)]) (g := gName 4) (by rfl) sc__law_stores.nd rfl rfl (sw_true rfl rfl rfl (by decide +kernel)) (pi_range1 (by rfl) T.z_range (pa_cons (pe_op op_add pe_int (pe_call G__law_taken hr__law_taken (by rfl) T.g__law_taken T.F__law_taken.kp T.b__law_taken .nil pass0 (pa_cons (pv 0) (pa_cons pe_int pa_nil)))) pa_nil)) (blkOk_by (N := ["_law_row", "_law_picture_here", "_law_sure", "_law_found", "_law_k"]) (sc := defScope s__law_stores) (by decide +kernel)) (fun _ _ _ _ _ => pg_name (i := 4) sc__law_stores.nd rfl (by first | exact Or.inl rfl | exact Or.inr rfl)) (fun _ _ _ _ _ => pts_nil) (fun _ _ _ _ _ => (pe_call G__law_store hr__law_store (by rfl) T.g__law_store T.F__law_store.kp T.b__law_store .nil pass0 (pa_cons (pv 0) (pa_cons (pv 1) (pa_cons (pe_op op_add pe_int (pe_call G__law_taken hr__law_taken (by rfl) T.g__law_taken T.F__law_taken.kp T.b__law_taken .nil pass0 (pa_cons (pv 0) (pa_cons pe_int pa_nil)))) pa_nil))))))
      (pss_cons (ps_if (pt_val (pv 2)) (pss_one (ps_asg (pe_call G__law_store hr__law_store (by rfl) T.g__law_store T.F__law_store.kp T.b__law_store .nil pass0 (pa_cons (pv 0) (pa_cons (pv 1) (pa_cons pe_int pa_nil)))) (pg_sub (pv 3) (pe_call G__law_taken hr__law_taken (by rfl) T.g__law_taken T.F__law_taken.kp T.b__law_taken .nil pass0 (pa_cons (pv 0) (pa_cons (pe_callB (b_len (K := K)) (by rfl) T.z_len (by decide +kernel) (pa_cons (pv 3) pa_nil)) pa_nil))) set_list))) pss_nil)
      (pss_one (ps_ret (pv 3)))), ?_⟩
    try dsimp only [cxOf, Cx.nox, Cx.wish]
    refine x_st (σ' := [some _, some _, some _, none, none]) rfl ?_
    have hS : Sy K ⟨H0, [r]⟩ M H0 [(r, rowO a q)] [(script ns, .ref a), (picD pic, .ref b2)] := hS.subD (by simp)
    walk_at "zS5"
    (refine use_taken hS ⟨by first | assumption | (simp; done) | exact List.mem_cons_of_mem _ (by assumption) | exact List.mem_cons_of_mem _ (List.mem_cons_of_mem _ (by assumption)), by first | exact .inr (by assumption) | exact .inl (by simp)⟩ hq hl (by omega) (by omega) ?_; clear hS hq; intro n q H n_0 n_1 hq hS)
    walk_at "zS5"
    (refine ⟨_, rfl, by omega, by omega, ?_⟩)
    refine lc_drawT (n := (1 + n).toNat) (C := fun d => ∃ st, d = storeD st ∧ gStore st) hS ⟨hM, .inl (by simp)⟩ hq (by omega) ?_ ?_
    · intro v M' H q L' E Q' hM hq hS kk
      walk_at "zS5"
      refine use_taken (L := L') hS hM hq hl (by omega) (by omega) ?_
      clear hS hq; intro y q H y_0 y_1 hq hS
      walk_at "zS5"
      refine use_DD (pic, 2 + y) hS hM hq hl (DtL.cons' (hS.d 1 rfl) (DtL.cons' Dt.int' DtL.nil')) ⟨⟨ks, hp⟩, by dsimp only; omega, by dsimp only; omega⟩ ?_
      clear hS hq; intro d w3 q H hres hq hS
      obtain ⟨st, rfl, g, -⟩ := hres
      exact kk _ _ q H ⟨st, rfl, g⟩ hq hS
    clear hS hq; intro D ds vs q H D_n D_0 hdl hC hq hvs hS
    have hS : Sy K ⟨H0, [r]⟩ (D :: M) H [(r, rowO a q), (D, .lst vs)] [(script ns, .ref a), (picD pic, .ref b2)] := hS
    obtain ⟨ss, hss, hsg⟩ : ∃ ss : List (List Row), ds = ss.map storeD ∧ ∀ st ∈ ss, gStore st := by
      clear hdl hvs
      induction ds with
      | nil => exact ⟨[], rfl, fun _ z => nomatch z⟩
      | cons d ds ih =>
        obtain ⟨st, rfl, g⟩ := hC d (List.mem_cons_self ..)
        obtain ⟨ss, rfl, hg⟩ := ih fun x hx => hC x (List.mem_cons_of_mem _ hx)
        exact ⟨st :: ss, rfl, fun x hx => (List.mem_cons.mp hx).elim (fun z => z ▸ g) (hg x)⟩
    rw [hss] at hvs hdl
    rw [List.length_map] at hdl
    have hvl : vs.length = ss.length := by rw [hvs.len, List.length_map]
    have hDM : D ∉ M := fun z => by obtain ⟨o, e⟩ := hdom D z; rw [show H0 D = none from D_0] at e; cases e
    walk_at "zS5"
    have hT := hS
    cases sure with
    | false =>
      have hS := hT
      refine x_iteF rfl ?_
      walk_at "zS5"
      exact k _ _ q _ ⟨ss, rfl, ⟨by omega, by omega, hsg⟩, fun z => nomatch z⟩ hq hS.fr (hS.get 0 rfl) (Dt.lstI ⟨hS.sl 1 rfl, .inl hDM⟩ (hvs.wk fun _ z => List.mem_cons_of_mem _ z))
    | true =>
      have hS := hT
      refine x_iteT rfl ?_
      have hSb := hS
      have hS := hS.rebase.from [r] (fun x hx => hS.nom x hx)
      walk_at "zS5"
      refine use_DD (pic, 1) hS ⟨by simp [hM], .inl (by simp)⟩ hq hl (DtL.cons' (hS.d 1 rfl) (DtL.cons' Dt.int' DtL.nil')) ⟨⟨ks, hp⟩, by show (1 : Int) ≤ 1; decide, by show (1 : Int) ≤ 10; decide⟩ ?_
      clear hS hq; intro d w3 q H3 hres hq hS
      obtain ⟨st, rfl, gst, hall⟩ := hres
      have hall := hall rfl
      (try simp only [List.cons_append, List.nil_append] at hS)
      walk_at "zS5"
      rw [hvl]
      (refine use_taken hS ⟨by first | assumption | (simp; done) | exact List.mem_cons_of_mem _ (by assumption) | exact List.mem_cons_of_mem _ (List.mem_cons_of_mem _ (by assumption)), by first | exact .inr (by assumption) | exact .inl (by simp)⟩ hq hl (by omega) (by omega) ?_; clear hS hq; intro ix q H ix_0 ix_1 hq hS)
      have hvs := hvs.mono (hS.fr.wk fun x hx => by simp at hx; rcases hx with rfl; simp [hM])
      have hro := hS.d 2 rfl
      have hS := hSb.into hS (fun x hx => .inl hx)
      walk_at "zS5"
      refine x_setF hS 1 rfl ⟨by simp, .inr D_0⟩ (ixN_int (by omega) (by omega)) ?_
      have hvs3 := hvs.set (i := ix.toNat) (by omega) hro
      clear hS; intro H4 f hS
      simp only [List.set_cons_zero, List.set_cons_succ] at hS
      have hvs4 := hvs3.mono (f.wk fun x hx => by rw [List.mem_singleton.mp hx]; simp)
      rw [show (ss.map storeD).set ix.toNat (storeD st) = (ss.set ix.toNat st).map storeD by rw [List.map_set]] at hvs4
      walk_at "zS5"
      refine k _ _ q _ ⟨ss.set ix.toNat st, rfl, ⟨by rw [List.length_set]; omega, by rw [List.length_set]; omega, fun x hx => ?_⟩, fun _ => ⟨st, ?_, hall⟩⟩ hq hS.fr (hS.get 0 rfl) (Dt.lstI ⟨hS.sl 1 rfl, .inl hDM⟩ (hvs4.wk fun _ z => List.mem_cons_of_mem _ z))
      · rcases List.mem_or_eq_of_mem_set hx with z | rfl
        · exact hsg x z
        · exact gst
      · exact List.mem_set (by omega) _
theorem ok_BadStores___init__ (T : Txt K mg base A) : FnOk P w K mg base CX0 1 A.a_BadStores___init__ A.d_BadStores___init__ ["self", "number"] (Z.spExI K A.c_BadStores "number") := by
  refine T.F_BadStores___init__.ok sc_BadStores___init__ (fun vs H Q E h => ?_) (fun cdv A_ outer s H0 vs Q E hr h => ?_)
  · obtain ⟨_, h⟩ := h; obtain ⟨_, h⟩ := h; obtain ⟨rfl, _⟩ := h; rfl
  · obtain ⟨a, v, rfl, hX, ha, k⟩ := h
    have hu := hu_of hr
    have hu2 := hu2_of hr
    refine ⟨_, pss_cons (ps_expr (pe_clinit (by rfl) T.g_ImageError T.ri_ImageError T.si_ImageError T.vi_ImageError (pa_cons (pv 0) (pa_cons (pv 1) pa_nil))))
      (pss_one (ps_ost (pv 0) (pv 1))), ?_⟩
    try dsimp only [cxOf, Cx.nox, Cx.wish]
    refine x_st (σ' := [some _, some _]) rfl ?_
    walk_at "zS2"
    refine n_ve hX ha (by simp) ?_
    walk_at "zS2"
    refine n_ost hX T.n_BadStores_number ha fun dx h1 h2 => ?_
    exact k dx h1 h2
theorem ok_is_worth (T : Txt K mg base A) : FnOk P w K mg base CX0 1 A.a_is_worth A.d_is_worth ["number"] (sp_is_worth K) := by
  refine T.F_is_worth.ok sc_is_worth (fun vs H Q E h => ?_) (fun cdv A_ outer s H0 vs Q E hr h => ?_)
  · obtain ⟨_, h⟩ := h; obtain ⟨rfl, _⟩ := h; rfl
  · obtain ⟨n, rfl, k⟩ := h
    have hu := hu_of hr
    have hu2 := hu2_of hr
    refine ⟨_, pss_one (ps_ret (pe_chain op_le op_le pe_int (pv 0) (pe_gi rfl T.c_MOST_WORTH))), ?_⟩
    try dsimp only [cxOf, Cx.nox, Cx.wish]
    refine x_st (σ' := [some _]) rfl ?_
    walk_at "zS1"
    refine x_ite (fun hc => ?_) (fun hc => ?_)
    · walk_at "zS1"
      rw [hc] at k
      simpa using k
    · rw [hc] at k
      simpa using k
theorem ok_is_store (T : Txt K mg base A) : FnOk P w K mg base CX0 2 A.a_is_store A.d_is_store ["store"] (sp_is_store K) := by
  have G_is_worth := ok_is_worth (P := P) (w := w) (base := base) T
  refine T.F_is_store.ok sc_is_store (fun vs H Q E h => ?_) (fun cdv A_ outer s H0 vs Q E hr h => ?_)
  · exact spD_len h (fun _ => rfl)
  · obtain ⟨M, st, hdom, hds, ⟨g1, g2⟩, k⟩ := h
    have hS := Sy.ofD hdom hds
    simp only [DtL] at hds
    obtain ⟨u, _, rfl, hu0, rfl⟩ := hds
    obtain ⟨p, xs, rfl, sp, rp⟩ : ∃ p xs, u = .ref p ∧ SLA K M H0 p xs ∧ DtL K M H0 (st.map growD) xs := by
      simp only [gstD, Dt] at hu0; exact hu0
    have hu := hu_of hr
    have hu2 := hu2_of hr
    have hr_is_worth : Room 1 _ := hr.mono (by decide)
    refine ⟨_, pss_cons (ps_for PassesOwn.never rfl (b_iL (K := K) (pv 0)) (pg_tup (by rfl) (pgs_cons (pg_name (i := 1) sc_is_store.nd rfl (Or.inl rfl)) (pgs_cons (pg_name (i := 2) sc_is_store.nd rfl (Or.inl rfl)) pgs_nil))) (pss_one (ps_if (PW.pt (pw_or (pt_cmpR op_ne (pe_callB (b_len (K := K)) (by rfl) T.z_len (by decide +kernel) (pa_cons (pv 1) pa_nil)) pe_int (nomark _)) (pw_or (pt_not (pt_chain op_le op_le pe_int (pe_callB (b_len (K := K)) (by rfl) T.z_len (by decide +kernel) (pa_cons (pv 2) pa_nil)) (pe_gi rfl T.c_PIECE))) (pw_or1 (pt_cmpR (b_neD (K := K) hr.units) (pe_lc (own := [("cell", 3)]) (g := gName 3) (by rfl) sc_is_store.nd (b_iT (K := K) (pv 2)) (blkOk_by (N := ["store", "title", "piece", "cell"]) (sc := defScope s_is_store) (by decide +kernel)) (fun _ _ _ _ _ => pg_name (i := 3) sc_is_store.nd rfl (by first | exact Or.inl rfl | exact Or.inr rfl)) (fun _ _ _ _ _ => (pts_one (pt_not (pt_val (pe_call G_is_worth hr_is_worth (by rfl) T.g_is_worth T.F_is_worth.kp T.b_is_worth .nil pass0 (pa_cons (pv 3) pa_nil)))))) (fun _ _ _ _ _ => (pv 3))) (pe_lst pa_nil) (nomark _)))))) (pss_one (ps_ret pe_bl)) pss_nil)))
      (pss_one (ps_ret (pe_cmpR op_le (pe_callB (b_len (K := K)) (by rfl) T.z_len (by decide +kernel) (pa_cons (pv 0) pa_nil)) (pe_gi rfl T.c_MOST_ROWS) (nomark _)))), ?_⟩
    try dsimp only [cxOf, Cx.nox, Cx.wish]
    refine x_st (σ' := [some _, none, none, none]) rfl ?_
    have hxl : xs.length = st.length := by rw [rp.len, List.length_map]
    walk_at "zS4"
    refine ⟨p, rfl, ⟨_, sp.1⟩, ?_⟩
    refine for_dataL (ds := st.map growD) hu0 (fun j σ' H' => ∃ (v1 v2 v3 : Option V), (∀ g ∈ st.take j, isRow g = true) ∧ Sy K (b0 H0) M H' [] [(gstD st, .ref p)] ∧ σ' = [some (.ref p), v1, v2, v3]) ⟨_, _, _, (by simp), hS, rfl⟩ (fun j σ' H' ⟨_, _, _, _, z, _⟩ => z.fr.wk0) ?_ ?_
    · rintro j d x σ' H' hd hdx ⟨v1, v2, v3, hgood, hS, rfl⟩
      obtain ⟨⟨t, pc⟩, hr0, rfl⟩ := of_map hd
      have hbad : isRow (t, pc) = false → isSt st = false := fun e => by
        unfold isSt
        have : st.all isRow = false := by
          rw [List.all_eq_false]
          exact ⟨_, List.mem_of_getElem? hr0, by rw [e]; decide⟩
        rw [this]; rfl
      have hb := g2 _ (List.mem_of_getElem? hr0)
      have hb1 := hb.1
      have hb2 := hb.2
      dsimp only at hb1 hb2
      have hdx : Dt K M H' (.tuple [.tuple (t.map .int), .tuple (pc.map .int)]) x := hdx
      obtain ⟨a0, rfl⟩ := hdx.refT
      refine d_gtup hdx (by rfl) ?_
      intro xs hx
      simp only [DtL] at hx
      obtain ⟨u1, _, rfl, h1, u2, _, rfl, h2, rfl⟩ := hx
      obtain ⟨a1, rfl⟩ := h1.refT
      obtain ⟨a2, rfl⟩ := h2.refT
      have hS := (hS.addD h1).addD h2
      (try simp only [List.cons_append, List.nil_append] at hS)
      have hno : isRow (t, pc) = false → Q (.bl false) H' := fun e => by
        have := k (.bl (isSt st)) H' hS.fr Dt.bl'
        rw [hbad e] at this
        exact this
      walk_at "zS4"
      obtain ⟨z1, s1, r1⟩ := (hS.d 1 rfl).tup
      refine n_len (.inr s1.1) ?_
      rw [r1.len, List.length_map]
      walk_at "zS4"
      refine x_ite (fun hc => ?_) (fun hc => ?_)
      · walk_at "zS4"
        exact hno (by unfold isRow; rw [decide_eq_false (fun z => by rw [z] at hc; simp at hc)]; rfl)
      have ht3 : t.length = 3 := by
        have : ((t.length : Nat) : Int) = 3 := by simpa using hc
        omega
      walk_at "zS4"
      obtain ⟨z2, s2, r2⟩ := (hS.d 2 rfl).tup
      refine n_len (.inr s2.1) ?_
      rw [r2.len, List.length_map]
      walk_at "zS4"
      refine x_ite (fun hp1 => ?_) (fun hp1 => ?_)
      · have hp1 : 1 ≤ pc.length := by have := of_decide_eq_true hp1; omega
        walk_at "zS4"
        refine x_ite (fun hp3 => ?_) (fun hp3 => ?_)
        · walk_at "zS4"
          have hp3 : ¬ pc.length ≤ 3 := fun z => by rw [decide_eq_true (show ((pc.length : Nat) : Int) ≤ 3 by omega)] at hp3; simp at hp3
          exact hno (by unfold isRow; rw [decide_eq_false hp3]; simp)
        have hp3 : pc.length ≤ 3 := by
          have h9 : ((pc.length : Nat) : Int) ≤ 3 := by simpa using hp3
          omega
        walk_at "zS4"
        refine ⟨_, rfl, ⟨_, s2.1⟩, ?_⟩
        refine lcD_filT hS (hS.d 2 rfl) (by omega) (fun n => !okC n) ?_ ?_ ?_
        · intro n D acc H2 Q2 hn hS kk
          walk_at "zS4"
          refine ⟨n, rfl, ?_⟩
          walk_at "zS4"
          exact kk _ hS
        · intro n D acc H2 Q2 hS kk
          walk_at "zS4"
          exact kk
        clear hS; intro D H hS
        walk_at "zS4"
        refine d_lst hS (by decide) DtL.nil' ?_
        clear hS; intro D2 H2 hS
        (try simp only [List.cons_append, List.nil_append] at hS)
        refine d_neNilI (hS.d 3 rfl) (hS.d 4 rfl) ?_
        walk_at "zS4"
        refine x_ite (fun hf => ?_) (fun hf => ?_)
        · walk_at "zS4"
          have hf : ¬ pc.filter (fun n => !okC n) = [] := by simpa using hf
          have hall : pc.all okC = false := by
            rw [List.filter_eq_nil_iff] at hf
            rw [List.all_eq_false]
            simpa using hf
          have := k (.bl (isSt st)) _ hS.fr Dt.bl'
          rw [hbad (by unfold isRow; dsimp only; rw [hall]; simp)] at this
          exact this
        · have hf : pc.filter (fun n => !okC n) = [] := by simpa using hf
          have hall : pc.all okC = true := by
            rw [List.filter_eq_nil_iff] at hf
            rw [List.all_eq_true]
            simpa using hf
          have hrow : isRow (t, pc) = true := by unfold isRow; dsimp only; rw [hall]; simp [ht3, hp1, hp3]
          walk_at "zS4"
          refine ⟨_, _, _, ?_, hS.subD (by simp), rfl⟩
          intro g hg
          rw [take_more hr0] at hg
          rcases List.mem_append.mp hg with z | z
          · exact hgood g z
          · rw [List.mem_singleton.mp z]; exact hrow
      · walk_at "zS4"
        have hp1 : ¬ 1 ≤ pc.length := fun z => by rw [decide_eq_true (show (1 : Int) ≤ (pc.length : Int) by omega)] at hp1; simp at hp1
        exact hno (by unfold isRow; rw [decide_eq_false hp1]; simp)
    · rintro σ' H' ⟨v1, v2, v3, hgood, hS, rfl⟩
      rw [List.length_map, List.take_length] at hgood
      obtain ⟨ys, s2, r2⟩ := (hS.d 0 rfl).lst
      have hyl : ys.length = st.length := by rw [r2.len, List.length_map]
      walk_at "zS4"
      refine n_len (.inl s2.1) ?_
      rw [hyl]
      walk_at "zS4"
      have hall : st.all isRow = true := List.all_eq_true.mpr hgood
      have := k (.bl (isSt st)) H' hS.fr Dt.bl'
      unfold isSt at this
      rw [hall, Bool.true_and] at this
      rw [show decide ((st.length : Int) ≤ 40) = decide (st.length ≤ 40) by rw [decide_eq_decide]; omega]
      exact this
theorem ok_need_stores (T : Txt K mg base A) : FnOk P w K mg base (L2.CX P w) 3 A.a_need_stores A.d_need_stores ["stores"] (sp_need_stores A K) := by
  have G_BadStores___init__ := ok_BadStores___init__ (P := P) (w := w) (base := base) T
  have G_is_store := ok_is_store (P := P) (w := w) (base := base) T
  refine T.F_need_stores.okX sc_need_stores (fun vs H Q E h => ?_) (fun cdv A_ outer s H0 vs Q E hr h => ?_)
  · obtain ⟨_, h⟩ := h; obtain ⟨_, h⟩ := h; obtain ⟨_, h⟩ := h; obtain ⟨rfl, _⟩ := h; rfl
  · obtain ⟨M, gs, v, rfl, hdom, hv, hgl, hsm, k⟩ := h
    have hu := hu_of hr
    have hu2 := hu2_of hr
    have hr_BadStores___init__ : Room 1 _ := hr.mono (by decide)
    have hr_is_store : Room 2 _ := hr.mono (by decide)
    have hrm_BadStores___init__ : Room 2 _ := hr.mono (by decide)
    refine ⟨_, pss_cons (ps_if (pt_cmpR op_eq (pe_callB (b_len (K := K)) (by rfl) T.z_len (by decide +kernel) (pa_cons (pv 0) pa_nil)) pe_int (nomark _)) (pss_one (ps_raise rfl (takes_of rfl rfl rfl rfl) (pmk_oex T.o_BadStores T.m_BadStores___init__.at_ (fn_type T.m_BadStores___init__.fn) G_BadStores___init__ hrm_BadStores___init__ T.b_BadStores___init__ .nil pass0 rfl T.g_BadStores (pa_cons pe_int pa_nil)))) pss_nil)
      (pss_one (ps_for (passes_of rfl) rfl (pi_range1 (by rfl) T.z_range (pa_cons (pe_callB (b_len (K := K)) (by rfl) T.z_len (by decide +kernel) (pa_cons (pv 0) pa_nil)) pa_nil)) (pg_name (i := 1) sc_need_stores.nd rfl (Or.inl rfl)) (pss_one (ps_if (PW.pt (pw_or (pt_cmpR op_ge (pv 1) (pe_gi rfl T.c_MOST_STORES) (nomark _)) (pw_or1 (pt_not (pt_val (pe_call G_is_store hr_is_store (by rfl) T.g_is_store T.F_is_store.kp T.b_is_store .nil pass0 (pa_cons (pe_ix (b_ixL (K := K)) (pv 0) (pv 1) (fun _ _ => rfl)) pa_nil))))))) (pss_one (ps_raise rfl (takes_of rfl rfl rfl rfl) (pmk_oex T.o_BadStores T.m_BadStores___init__.at_ (fn_type T.m_BadStores___init__.fn) G_BadStores___init__ hrm_BadStores___init__ T.b_BadStores___init__ .nil pass0 rfl T.g_BadStores (pa_cons (pv 1) pa_nil)))) pss_nil)))), ?_⟩
    try dsimp only [cxOf, Cx.nox, Cx.wish]
    refine x_st (σ' := [some _, none]) rfl ?_
    obtain ⟨p, rfl⟩ := hv.refL
    obtain ⟨xs, sp, rp⟩ := hv.lst
    have hS := (Sy.atD (K := K) hdom).addD hv
    (try simp only [List.cons_append, List.nil_append] at hS)
    have hxl : xs.length = gs.length := by rw [rp.len, List.length_map]
    walk_at "zS2"
    refine n_len (.inl sp.1) ?_
    rw [hxl]
    walk_at "zS2"
    refine x_ite (fun hc => ?_) (fun hc => ?_)
    · have h0 : gs = [] := by
        have : ((gs.length : Nat) : Int) = 0 := by simpa using hc
        exact List.length_eq_zero_iff.mp (by omega)
      rcases k with ⟨z, -⟩ | ⟨n, hn, k⟩
      · unfold badF at z; rw [if_pos h0] at z; cases z
      walk_at "zS2"
      refine n_mkO T.o_BadStores fun d H' f h1 h2 => ?_
      unfold badF at hn
      rw [if_pos h0] at hn
      cases hn
      exact k d H' f h1 h2
    have h0 : gs ≠ [] := fun z => by rw [z] at hc; simp at hc
    have hbf : badF gs = badFrom gs 0 := if_neg h0
    rw [hbf] at k
    walk_at "zS2"
    refine n_len (.inl sp.1) ?_
    rw [hxl]
    walk_at "zS2"
    (refine ⟨_, rfl, by omega, by omega, ?_⟩)
    refine for_range (lo := 0) (n := ((gs.length : Int)).toNat) (fun j σ' H' => ∃ v1 : Option V, badFrom gs 0 = badFrom (gs.drop j) j ∧ Sy K (b0 H0) M H' [] [(gstsD gs, .ref p)] ∧ σ' = [some (.ref p), v1]) ⟨_, rfl, hS, rfl⟩ ?_ ?_
    · clear hS
      rintro j σ' H' hj ⟨v1, hbj, hS, rfl⟩
      have hj : j < gs.length := by omega
      obtain ⟨st, hst⟩ := at_lt hj
      have hdr : gs.drop j = st :: gs.drop (j + 1) := by
        obtain ⟨h1, h2⟩ := List.getElem?_eq_some_iff.mp hst
        rw [List.drop_eq_getElem_cons h1, h2]
      rw [hdr, badFrom] at hbj
      have hraise : (4 ≤ j ∨ isSt st = false) → ∀ d H', Fr [] H0 H' → H0 d = none → H' d = some (.xd [("number", .int (0 + (j : Int)))]) → E (.ref A.c_BadStores) (some d) H' := fun hb d H' f h1 h2 => by
        rw [if_pos hb] at hbj
        rw [hbj] at k
        rcases k with ⟨z, -⟩ | ⟨n, hn, k⟩
        · cases z
        · cases hn
          exact k d H' f h1 (by rw [h2]; simp)
      walk_at "zS2"
      refine x_ite (fun h4 => ?_) (fun h4 => ?_)
      · have h4 : 4 ≤ j := by have := of_decide_eq_true h4; omega
        walk_at "zS2"
        refine n_mkO T.o_BadStores fun d H2 f h1 h2 => ?_
        exact hraise (.inl h4) d H2 (hS.fr.trans f) (hS.free h1) h2
      have h4 : ¬ 4 ≤ j := fun z => by rw [decide_eq_true (show (4 : Int) ≤ 0 + (j : Int) by omega)] at h4; cases h4
      obtain ⟨xs2, sp2, rp2⟩ := (hS.d 0 rfl).lst
      obtain ⟨y, hy, hdy⟩ := rp2.at (at_map (f := gstD) hst)
      walk_at "zS2"
      refine x_ixL sp2.1 (atI_int (by omega) (by rw [show (0 + (j : Int)).toNat = j by omega]; exact hy)) ?_
      walk_at "zS2"
      refine use_D st hS (DtL.cons' hdy DtL.nil') (hsm _ (List.mem_of_getElem? hst)) ?_
      clear hS; intro w H hS
      have hw := hS.d 1 rfl
      simp only [Dt] at hw
      subst hw
      walk_at "zS2"
      refine x_ite (fun h5 => ?_) (fun h5 => ?_)
      · walk_at "zS2"
        refine n_mkO T.o_BadStores fun d H2 f h1 h2 => ?_
        exact hraise (.inr (by simpa using h5)) d H2 (hS.fr.trans f) (hS.free h1) h2
      have h5 : isSt st = true := by simpa using h5
      rw [if_neg (by rw [h5]; simp [h4])] at hbj
      walk_at "zS2"
      exact ⟨_, hbj, hS.subD (by simp), rfl⟩
    · rintro σ' H' ⟨v1, hbj, hS, rfl⟩
      rw [show ((gs.length : Int)).toNat = gs.length by omega, List.drop_length] at hbj
      rw [hbj] at k
      rcases k with ⟨-, k⟩ | ⟨n, hn, -⟩
      · walk_at "zS2"
        exact k _ hS.fr
      · cases hn
theorem ok_sums (T : Txt K mg base A) : FnOk P w K mg base CX0 1 A.a_sums A.d_sums ["row"] (sp_sums K) := by
  refine T.F_sums.ok sc_sums (fun vs H Q E h => ?_) (fun cdv A_ outer s H0 vs Q E hr h => ?_)
  · obtain ⟨_, h⟩ := h; obtain ⟨_, h⟩ := h; obtain ⟨rfl, _⟩ := h; rfl
  · obtain ⟨p, xs, rfl, hx, k0, k1⟩ := h
    have hu := hu_of hr
    have hu2 := hu2_of hr
    refine ⟨_, pss_cons (ps_set (i := 1) sc_sums.nd rfl (Or.inl rfl) pe_int)
      (pss_cons (ps_set (i := 2) sc_sums.nd rfl (Or.inl rfl) pe_int)
      (pss_cons (ps_for PassesOwn.never rfl (b_iE (K := K) (pv 0)) (pg_name (i := 3) sc_sums.nd rfl (Or.inl rfl)) (pss_cons (ps_if (pt_cmpR c_isN (pv 3) pe_non (nomark _)) (pss_one (ps_ret pe_non)) pss_nil)
      (pss_cons (ps_set (i := 1) sc_sums.nd rfl (Or.inl rfl) (pe_op op_mod (pe_op op_add (pe_op op_add (pv 1) (pv 3)) pe_int) (pe_gi rfl T.c_PRIME)))
      (pss_one (ps_set (i := 2) sc_sums.nd rfl (Or.inl rfl) (pe_op op_mod (pe_op op_add (pv 2) (pv 1)) (pe_gi rfl T.c_PRIME)))))))
      (pss_one (ps_ret (pe_tup (pa_cons (pv 1) (pa_cons (pv 2) pa_nil))))))), ?_⟩
    try dsimp only [cxOf, Cx.nox, Cx.wish]
    refine x_st (σ' := [some _, none, none, none]) rfl ?_
    walk_at "zS4"
    refine x_forE (by with_unfolding_all rfl) hx (fun j σ' H0' => H0' = H0 ∧ ∃ pre v, allI (xs.take j) = some pre ∧ σ' = [some (.ref p), some (.int (sumsF pre).1), some (.int (sumsF pre).2), v]) ⟨rfl, [], _, rfl, rfl⟩ (fun j σ' H0' z _ => by rw [z.1]; exact ⟨id, id⟩) ?_ ?_
    · rintro j x σ' H0' hj ⟨rfl, pre, v, hp, rfl⟩
      obtain ⟨o, ho, rfl⟩ := of_map hj
      cases o with
      | none =>
        dsimp only [ov]
        walk_at "zS4"
        refine k0 (allI_none.mpr (List.mem_of_getElem? ho))
      | some n =>
        dsimp only [ov]
        walk_at "zS4"
        refine ⟨rfl, pre ++ [n], some (.int n), ?_, ?_⟩
        · rw [take_more ho]
          rw [allI_inv hp]
          have := allI_some (pre ++ [n])
          rw [List.map_append] at this
          exact this
        · rw [sumsF_more]; rfl
    · rintro σ' H0' ⟨rfl, pre, v, hp, rfl⟩
      rw [List.length_map, List.take_length] at hp
      walk_at "zS4"
      exact ⟨by simp only [List.length_cons, List.length_nil]; decide, fun t ht => k1 pre t hp ht⟩
theorem ok_name (T : Txt K mg base A) : FnOk P w K mg base CX0 2 A.a_name A.d_name ["piece"] (sp_name K) := by
  have G_sums := ok_sums (P := P) (w := w) (base := base) T
  refine T.F_name.ok sc_name (fun vs H Q E h => ?_) (fun cdv A_ outer s H0 vs Q E hr h => ?_)
  · obtain ⟨_, h⟩ := h; obtain ⟨_, h⟩ := h; obtain ⟨rfl, _⟩ := h; rfl
  · obtain ⟨p, xs, rfl, hx, hz, k0, k1⟩ := h
    have hu := hu_of hr
    have hu2 := hu2_of hr
    have hr_sums : Room 1 _ := hr.mono (by decide)
    refine ⟨_, pss_cons (ps_set (i := 1) sc_name.nd rfl (Or.inl rfl) (pe_call G_sums hr_sums (by rfl) T.g_sums T.F_sums.kp T.b_sums .nil pass0 (pa_cons (pv 0) pa_nil)))
      (pss_one (ps_ret (pe_ifExp (pt_cmpR c_isN (pv 1) pe_non (nomark _)) pe_non (pe_op (b_catT (K := K)) (pv 1) (pe_tup (pa_cons (pe_callB (b_len (K := K)) (by rfl) T.z_len (by decide +kernel) (pa_cons (pv 0) pa_nil)) pa_nil)))))), ?_⟩
    try dsimp only [cxOf, Cx.nox, Cx.wish]
    refine x_st (σ' := [some _, none]) rfl ?_
    have hS : Sy K (b0 H0) [] H0 [] [] := Sy.start _ _ _ (fun _ z => nomatch z) (by simp) (fun _ z => nomatch z) (fun _ z => nomatch z)
    walk_at "zS2"
    refine ⟨p, xs, rfl, hx, fun hn => ?_, fun ns t hn ht => ?_⟩
    · walk_at "zS2"
      exact k0 hn _ (Fr.refl _ _)
    · have hS := hS.new (o := .tup [.int (sumsF ns).1, .int (sumsF ns).2]) ht
      (try simp only [List.cons_append, List.nil_append] at hS)
      have hx := hS.fr.sq0 hx
      walk_at "zS2"
      (refine ⟨by simp only [List.length_cons, List.length_nil]; decide, n_al hS ?_⟩; clear hS; intro t2 H t2_n t2_0 hS; simp only [List.cons_append, List.nil_append] at hS)
      refine n_catT (by walk_at "zst") (by walk_at "zst") (by simp) (by simp) (by simp) ?_
      (refine n_al hS ?_; clear hS; intro t3 H t3_n t3_0 hS; simp only [List.cons_append, List.nil_append] at hS)
      refine k1 ns t3 H hn hS.fr t3_0 ?_
      have e := hS.get 2 rfl
      have e2 : (xs.map ov).length = ns.length := by rw [allI_inv hn, List.length_map, List.length_map]
      rw [e2] at e
      exact e
theorem ok_asked (T : Txt K mg base A) : FnOk P w K mg base CX0 3 A.a_asked A.d_asked ["stores", "title"] (sp_asked K) := by
  have G_name := ok_name (P := P) (w := w) (base := base) T
  refine T.F_asked.ok sc_asked (fun vs H Q E h => ?_) (fun cdv A_ outer s H0 vs Q E hr h => ?_)
  · exact spD_len h (fun _ => rfl)
  · obtain ⟨M, ⟨ss, t⟩, hdom, hds, ⟨g1, g2, g3⟩, k⟩ := h
    dsimp only at hds g1 g2 g3 k
    have hS := Sy.ofD hdom hds
    simp only [DtL] at hds
    obtain ⟨u, _, rfl, hu0, u2, _, rfl, hu2, rfl⟩ := hds
    obtain ⟨p, xs, rfl, sp, rp⟩ : ∃ p xs, u = .ref p ∧ SLA K M H0 p xs ∧ DtL K M H0 (ss.map storeD) xs := by
      simp only [storesD, Dt] at hu0; exact hu0
    obtain ⟨p2, rfl⟩ := hu2.refT
    have hu := hu_of hr
    have hu2 := hu2_of hr
    have hr_name : Room 2 _ := hr.mono (by decide)
    refine ⟨_, pss_cons (ps_set (i := 2) sc_asked.nd rfl (Or.inl rfl) pe_int)
      (pss_cons (ps_for PassesOwn.never rfl (b_iL (K := K) (pv 0)) (pg_name (i := 3) sc_asked.nd rfl (Or.inl rfl)) (pss_one (ps_for PassesOwn.never rfl (b_iL (K := K) (pv 3)) (pg_tup (by rfl) (pgs_cons (pg_name (i := 4) sc_asked.nd rfl (Or.inl rfl)) (pgs_cons (pg_name (i := 5) sc_asked.nd rfl (Or.inl rfl)) pgs_nil))) (pss_one (ps_if (pt_cmpR (b_eqD (K := K) hr.units) (pv 4) (pv 1) (nomark _)) (pss_cons (ps_set (i := 2) sc_asked.nd rfl (Or.inl rfl) (pe_op op_add (pv 2) pe_int))
      (pss_one (ps_if (pt_cmpR (b_eqD (K := K) hr.units) (pe_call G_name hr_name (by rfl) T.g_name T.F_name.kp T.b_name .nil pass0 (pa_cons (pv 5) pa_nil)) (pv 1) (nomark _)) (pss_one (ps_ret (pe_tup (pa_cons (pe_callTy (b_tuple (K := K)) (by rfl) T.z_tuple (by decide +kernel) (pa_cons (pv 5) pa_nil)) (pa_cons (pv 2) pa_nil))))) pss_nil))) pss_nil)))))
      (pss_one (ps_ret (pe_tup (pa_cons pe_non (pa_cons (pv 2) pa_nil)))))), ?_⟩
    try dsimp only [cxOf, Cx.nox, Cx.wish]
    refine x_st (σ' := [some _, some _, none, none, none, none]) rfl ?_
    walk_at "zS6"
    refine ⟨p, rfl, ⟨_, sp.1⟩, ?_⟩
    refine for_dataL (ds := ss.map storeD) hu0 (fun j σ' H' => ∃ (n : Nat) (v3 v4 v5 : Option V), askF ss t = askR t (ss.drop j).flatten n ∧ Sy K (b0 H0) M H' [] [(storesD ss, .ref p), (tripD t, .ref p2)] ∧ σ' = [some (.ref p), some (.ref p2), some (.int n), v3, v4, v5]) ⟨0, _, _, _, rfl, hS, rfl⟩ (fun j σ' H' ⟨_, _, _, _, _, z, _⟩ => z.fr.wk0) ?_ ?_
    · clear hS
      rintro j d x σ' H' hd hdx ⟨n, v3, v4, v5, hn, hS, rfl⟩
      obtain ⟨st, hst, rfl⟩ := of_map hd
      have hg := g3 st (List.mem_of_getElem? hst)
      have hdr : (ss.drop j).flatten = st ++ (ss.drop (j + 1)).flatten := by
        have hj := (List.getElem?_eq_some_iff.mp hst)
        obtain ⟨hj1, hj2⟩ := hj
        rw [List.drop_eq_getElem_cons hj1, hj2]; rfl
      rw [hdr] at hn
      have hdx : Dt K M H' (.list (st.map rowD)) x := hdx
      obtain ⟨a0, rfl⟩ := hdx.refL
      have hS := hS.addD hdx
      obtain ⟨ys, sy, -⟩ := hdx.lst
      (try simp only [List.cons_append, List.nil_append] at hS)
      walk_at "zS6"
      refine ⟨a0, rfl, ⟨_, sy.1⟩, ?_⟩
      refine for_dataL (ds := st.map rowD) hdx (fun j2 σ' H2 => ∃ (n : Nat) (v4 v5 : Option V), askF ss t = askR t (st.drop j2 ++ (ss.drop (j + 1)).flatten) n ∧ Sy K (b0 H') M H2 [] [(storesD ss, .ref p), (tripD t, .ref p2), (.list (st.map rowD), .ref a0)] ∧ σ' = [some (.ref p), some (.ref p2), some (.int n), some (.ref a0), v4, v5]) ⟨n, _, _, hn, hS.rebase, rfl⟩ (fun j σ' H' ⟨_, _, _, _, z, _⟩ => z.fr.wk0) ?_ ?_
      · have hSo := hS
        clear hS
        rintro j2 d x σ' H2 hd hdx2 ⟨n, v4, v5, hn, hS, rfl⟩
        obtain ⟨⟨kn, pc⟩, hr0, rfl⟩ := of_map hd
        have hb := hg.2 _ (List.mem_of_getElem? hr0)
        have hdr2 : st.drop j2 = (kn, pc) :: st.drop (j2 + 1) := by
          obtain ⟨hj1, hj2⟩ := List.getElem?_eq_some_iff.mp hr0
          rw [List.drop_eq_getElem_cons hj1, hj2]
        rw [hdr2, List.cons_append] at hn
        have hdx2 : Dt K M H2 (.tuple [tripD kn, .tuple (pc.map .int)]) x := hdx2
        obtain ⟨a1, rfl⟩ := hdx2.refT
        refine d_gtup hdx2 (by rfl) ?_
        intro xs hx
        simp only [DtL] at hx
        obtain ⟨u1, _, rfl, h1, u3, _, rfl, h2, rfl⟩ := hx
        obtain ⟨a2, rfl⟩ := h1.refT
        obtain ⟨a3, rfl⟩ := h2.refT
        have hS := (hS.addD h1).addD h2
        (try simp only [List.cons_append, List.nil_append] at hS)
        walk_at "zS6"
        refine d_eqTr (a := kn) (b := t) (hS.d 3 rfl) (hS.d 1 rfl) ?_
        walk_at "zS6"
        by_cases hk : kn = t
        · refine x_iteT (decide_eq_true hk) ?_
          walk_at "zS6"
          have hb2 := hb.2.1
          dsimp only at hb2
          refine du_name hS (.inr (hS.d 4 rfl)) (by omega) ?_
          clear hS; intro t7 H hS
          (try simp only [List.cons_append, List.nil_append] at hS)
          walk_at "zS6"
          refine d_eqTr (a := titleF pc) (b := t) (hS.d 5 rfl) (hS.d 1 rfl) ?_
          walk_at "zS6"
          by_cases hk2 : titleF pc = t
          · rw [askR_good hk hk2] at hn
            refine x_iteT (decide_eq_true hk2) ?_
            walk_at "zS6"
            refine d_tupleT (hS.d 4 rfl) ?_
            walk_at "zS6"
            have hS := hSo.into hS (fun b hb => nomatch hb)
            refine d_tup hS (by simp) (DtL.cons' (hS.d 4 rfl) (DtL.cons' Dt.int' DtL.nil')) ?_
            clear hS; intro t8 H hS
            refine k _ _ hS.fr ?_
            rw [hn]
            have := hS.d 6 rfl
            unfold askD
            rw [show (((n + 1 : Nat) : Int)) = (n : Int) + 1 by push_cast; rfl]
            exact this
          · rw [askR_bad hk hk2] at hn
            refine x_iteF (decide_eq_false hk2) ?_
            walk_at "zS6"
            exact ⟨n + 1, _, _, hn, hS.subD (by simp), by push_cast; rfl⟩
        · rw [askR_other hk] at hn
          refine x_iteF (decide_eq_false hk) ?_
          walk_at "zS6"
          exact ⟨n, _, _, hn, hS.subD (by simp), rfl⟩
      · rintro σ' H2 ⟨n, v4, v5, hn, hS2, rfl⟩
        have hS := hS.into hS2 (fun b hb => nomatch hb)
        rw [List.length_map, List.drop_length, List.nil_append] at hn
        exact ⟨n, _, _, _, hn, hS.subD (by simp), rfl⟩
    · rintro σ' H' ⟨n, v3, v4, v5, hn, hS, rfl⟩
      rw [List.length_map, List.drop_length] at hn
      walk_at "zS6"
      refine d_tup hS (by simp) (DtL.cons' Dt.non' (DtL.cons' Dt.int' DtL.nil')) ?_
      have f0 := hS.fr
      clear hS; intro t1 H1 hS
      refine k _ _ hS.fr ?_
      rw [hn]
      exact hS.d 2 rfl
theorem ok_fetched (T : Txt K mg base A) : FnOk P w K mg base (L2.CX P w) 4 A.a_fetched A.d_fetched ["stores", "title"] (sp_fetched A K) := by
  have G_need_stores := ok_need_stores (P := P) (w := w) (base := base) T
  have G_asked := ok_asked (P := P) (w := w) (base := base) T
  refine T.F_fetched.okX sc_fetched (fun vs H Q E h => ?_) (fun cdv A_ outer s H0 vs Q E hr h => ?_)
  · obtain ⟨_, h⟩ := h; obtain ⟨_, h⟩ := h; obtain ⟨_, h⟩ := h; obtain ⟨_, h⟩ := h; obtain ⟨rfl, _⟩ := h; rfl
  · obtain ⟨M, gs, v, u, rfl, hdom, hv, hgl, hsm, k⟩ := h
    have hu := hu_of hr
    have hu2 := hu2_of hr
    have hr_need_stores : Room 3 _ := hr.mono (by decide)
    have hr_asked : Room 3 _ := hr.mono (by decide)
    refine ⟨_, pss_cons (ps_expr (pe_call G_need_stores hr_need_stores (by rfl) T.g_need_stores T.F_need_stores.kp T.b_need_stores .nil (passX rfl rfl rfl rfl) (pa_cons (pv 0) pa_nil)))
      (pss_one (ps_ret (pe_call G_asked hr_asked (by rfl) T.g_asked T.F_asked.kp T.b_asked .nil pass0 (pa_cons (pv 0) (pa_cons (pv 1) pa_nil))))), ?_⟩
    try dsimp only [cxOf, Cx.nox, Cx.wish]
    refine x_st (σ' := [some _, some _]) rfl ?_
    obtain ⟨p, rfl⟩ := hv.refL
    rcases k with ⟨ss, t, hgs, hss, hbad, hu0, k⟩ | ⟨n, hn, k⟩
    · have hS := ((Sy.atD (K := K) hdom).addD hv).addD hu0
      (try simp only [List.cons_append, List.nil_append] at hS)
      walk_at "zS2"
      refine ⟨M, gs, _, rfl, hdom, hv, hgl, hsm, .inl ⟨hbad, fun H f => ?_⟩⟩
      have hS := hS.ex f
      have hv2 := hS.d 0 rfl
      rw [hgs, gstsD_emb] at hv2
      walk_at "zS2"
      refine use_D (ss, t) hS (DtL.cons' hv2 (DtL.cons' (hS.d 1 rfl) DtL.nil')) hss ?_
      clear hS; intro w H2 hS
      exact k _ _ hS.fr (hS.d 2 rfl)
    · walk_at "zS2"
      exact ⟨M, gs, _, rfl, hdom, hv, hgl, hsm, .inr ⟨n, hn, k⟩⟩
theorem ok__law_asked (T : Txt K mg base A) : FnOk P w K mg base CX0 3 A.a__law_asked A.d__law_asked ["_law_stores_here", "_law_title_here"] (sp__law_asked K) := by
  have G__law_title := ok__law_title (P := P) (w := w) (base := base) T
  refine T.F__law_asked.ok sc__law_asked (fun vs H Q E h => ?_) (fun cdv A_ outer s H0 vs Q E hr h => ?_)
  · exact spD_len h (fun _ => rfl)
  · obtain ⟨M, ⟨ss, t⟩, hdom, hds, ⟨g1, g2, g3⟩, k⟩ := h
    dsimp only at hds g1 g2 g3 k
    have hS := Sy.ofD hdom hds
    simp only [DtL] at hds
    obtain ⟨u, _, rfl, hu0, u2, _, rfl, hu2, rfl⟩ := hds
    obtain ⟨p, xs, rfl, sp, rp⟩ : ∃ p xs, u = .ref p ∧ SLA K M H0 p xs ∧ DtL K M H0 (ss.map storeD) xs := by
      simp only [storesD, Dt] at hu0; exact hu0
    obtain ⟨p2, rfl⟩ := hu2.refT
    have hu := hu_of hr
    have hu2 := hu2_of hr
    have hr__law_title : Room 2 _ := hr.mono (by decide)
    refine ⟨_, pss_cons (ps_set (i := 2) sc__law_asked.nd rfl (Or.inl rfl) (pe_lst pa_nil))
      (pss_cons (ps_for PassesOwn.never rfl (b_iL (K := K) (pv 0)) (pg_name (i := 3) sc__law_asked.nd rfl (Or.inl rfl)) (pss_one (ps_expr (pe_bm PySem.F.plainAttrs_list PySem.F.slot_list_extend PySem.F.type_list_extend mt_extend (pv 2) (pa_cons (pe_lc (own := [("_law_known", 5), ("_law_piece", 6)]) (g := gTup K 2 (gCons (gName 5) (gCons (gName 6) gNil))) (by rfl) sc__law_asked.nd (b_iL (K := K) (pv 3)) (blkOk_by (N := ["_law_stores_here", "_law_title_here", "_law_some", "_law_store_here", "_law_k", "_law_known", "_law_piece"]) (sc := defScope s__law_asked) (by decide +kernel)) (fun _ _ _ _ _ => (pg_tup (by rfl) (pgs_cons (pg_name (i := 5) sc__law_asked.nd rfl (by first | exact Or.inl rfl | exact Or.inr rfl)) (pgs_cons (pg_name (i := 6) sc__law_asked.nd rfl (by first | exact Or.inl rfl | exact Or.inr rfl)) pgs_nil)))) (fun _ _ _ _ _ => (pts_one (pt_cmpR (b_eqD (K := K) hr.units) (pv 5) (pv 1) (nomark _)))) (fun _ _ _ _ _ => (pv 6))) pa_nil)))))
      (pss_cons (ps_for PassesOwn.never rfl (pi_range1 (by rfl) T.z_range (pa_cons (pe_callB (b_len (K := K)) (by rfl) T.z_len (by decide +kernel) (pa_cons (pv 2) pa_nil)) pa_nil)) (pg_name (i := 4) sc__law_asked.nd rfl (Or.inl rfl)) (pss_one (ps_if (pt_cmpR (b_eqD (K := K) hr.units) (pe_call G__law_title hr__law_title (by rfl) T.g__law_title T.F__law_title.kp T.b__law_title .nil pass0 (pa_cons (pe_ix (b_ixL (K := K)) (pv 2) (pv 4) (fun _ _ => rfl)) pa_nil)) (pv 1) (nomark _)) (pss_one (ps_ret (pe_tup (pa_cons (pe_ix (b_ixL (K := K)) (pv 2) (pv 4) (fun _ _ => rfl)) (pa_cons (pe_op op_add (pv 4) pe_int) pa_nil))))) pss_nil)))
      (pss_one (ps_ret (pe_tup (pa_cons pe_non (pa_cons (pe_callB (b_len (K := K)) (by rfl) T.z_len (by decide +kernel) (pa_cons (pv 2) pa_nil)) pa_nil))))))), ?_⟩
    try dsimp only [cxOf, Cx.nox, Cx.wish]
    refine x_st (σ' := [some _, some _, none, none, none, none, none]) rfl ?_
    walk_at "zS7"
    (refine ⟨by simp only [List.length_cons, List.length_nil]; decide, n_alM hS ?_⟩; clear hS; intro l H l_n l_0 hS; simp only [List.cons_append, List.nil_append] at hS)
    have hl0 : H0 l = none := l_0
    walk_at "zS7"
    have hS : Sy K (b0 H0) (l :: M) H [(l, .lst [])] [(storesD ss, .ref p), (tripD t, .ref p2)] := hS
    obtain ⟨ys, sy, -⟩ := (hS.d 0 rfl).lst
    refine ⟨p, rfl, ⟨_, sy.1⟩, ?_⟩
    have hSo := hS
    have hS := hS.from [l] (fun x hx => by rw [List.mem_singleton.mp hx]; exact ⟨_, hS.get 0 rfl⟩)
    refine for_dataL (ds := ss.map storeD) (hS.d 0 rfl) (fun j σ' H' => ∃ (vs : List V) (v3 v4 v5 v6 : Option V), vs.length ≤ 40 * j ∧ DtL K (l :: M) H' (((ss.take j).flatten.filter fun r => decide (r.1 = t)).map fun r => .tuple (r.2.map .int)) vs ∧ Sy K ⟨H, [l]⟩ (l :: M) H' [(l, .lst vs)] [(storesD ss, .ref p), (tripD t, .ref p2)] ∧ σ' = [some (.ref p), some (.ref p2), some (.ref l), v3, v4, v5, v6]) ⟨[], _, _, _, _, by simp, DtL.nil', hS, rfl⟩ (fun j σ' H' ⟨_, _, _, _, _, _, _, z, _⟩ => z.fr.wk (by simp)) ?_ ?_
    · clear hS
      rintro j d x σ' H' hd hdx ⟨vs, v3, v4, v5, v6, hvl, hvs, hS, rfl⟩
      obtain ⟨st, hst, rfl⟩ := of_map hd
      have hg := g3 st (List.mem_of_getElem? hst)
      have hjl := (List.getElem?_eq_some_iff.mp hst).1
      have hst40 := hg.1
      have hdx : Dt K (l :: M) H' (.list (st.map rowD)) x := hdx
      obtain ⟨a0, rfl⟩ := hdx.refL
      have hS := hS.addD hdx
      (try simp only [List.cons_append, List.nil_append] at hS)
      obtain ⟨ys, sy, ry⟩ := hdx.lst
      have hyl : ys.length = st.length := by rw [ry.len, List.length_map]
      walk_at "zS7"
      refine ⟨ty_list (hS.sl 0 rfl), ?_⟩
      walk_at "zS7"
      refine ⟨a0, rfl, ⟨_, sy.1⟩, ?_⟩
      intro D hD
      have hDM := hS.notM hD
      refine lc_it (walk_list (xs := ys)) (fun m H2 => ∃ us : List V, us.length ≤ m ∧ DtL K (D :: l :: M) H2 (((st.take m).filter fun r => decide (r.1 = t)).map fun r => .tuple (r.2.map .int)) us ∧ Sy K (b0 H') (D :: l :: M) H2 [(l, .lst vs), (D, .lst us)] [(storesD ss, .ref p), (tripD t, .ref p2), (.list (st.map rowD), .ref a0)]) ?_ ?_ ?_ ?_
      · exact ⟨[], by simp, DtL.nil', hS.rebase.newM hD⟩
      · rintro i H2 hi ⟨us, hul, hus, hS⟩
        exact (hS.fr.sl (fun z => nomatch z) sy.1)
      · rintro i x H2 H3 hi ⟨us, hul, hus, hS⟩ ⟨rfl, hx⟩
        have ry2 := (ry.consM hD).mono hS.fr.wk0
        have hi2 : i < st.length := by omega
        obtain ⟨r, hr0⟩ : ∃ r, st[i]? = some r := ⟨st[i], List.getElem?_eq_getElem hi2⟩
        obtain ⟨x', hx', hxd⟩ := ry2.at (i := i) (d := rowD r) (by rw [List.getElem?_map, hr0]; rfl)
        obtain rfl : x = x' := by rw [hx] at hx'; exact Option.some.inj hx'
        obtain ⟨kn, pc⟩ := r
        have hxd : Dt K (D :: l :: M) _ (.tuple [tripD kn, .tuple (pc.map .int)]) x := hxd
        obtain ⟨a1, rfl⟩ := hxd.refT
        refine d_gtup hxd (by rfl) ?_
        intro xs hx3
        simp only [DtL] at hx3
        obtain ⟨u1, _, rfl, h1, u3, _, rfl, h2, rfl⟩ := hx3
        obtain ⟨a2, rfl⟩ := h1.refT
        obtain ⟨a3, rfl⟩ := h2.refT
        have hS := (hS.addD h1).addD h2
        walk_at "zS7"
        refine ⟨rfl, ?_⟩
        walk_at "zS7"
        refine d_eqTr (a := kn) (b := t) (hS.d 3 rfl) (hS.d 1 rfl) ?_
        walk_at "zS7"
        by_cases hk : kn = t
        · refine x_iteT (decide_eq_true hk) ?_
          walk_at "zS7"
          have fset := Fr.set (M := D :: l :: M) (H := H3) (o := .lst (us ++ [V.ref a3])) (List.mem_cons_self (a := D) (l := l :: M))
          refine ⟨us, hS.get 1 rfl, szl (by omega), us ++ [.ref a3], by simp; omega, ?_, ?_⟩
          · rw [take_more hr0, List.filter_append, List.map_append]
            refine DtL.append (hus.mono fset) ?_
            rw [List.filter_cons_of_pos (by simpa using hk)]
            exact DtL.cons' (h2.mono fset) DtL.nil'
          · exact (hS.set (o' := .lst (us ++ [V.ref a3])) 1 rfl ⟨List.mem_cons_self .., .inr hD⟩).subD (by simp)
        · refine x_iteF (decide_eq_false hk) ?_
          refine ⟨us, by omega, ?_, hS.subD (by simp)⟩
          rw [take_more hr0, List.filter_append, List.filter_cons_of_neg (by simpa using hk), List.filter_nil, List.append_nil]
          exact hus
      · rintro H2 ⟨us, hul, hus, hS2⟩
        refine x_nil ?_
        have hul2 : us.length ≤ 40 := by omega
        have f2 := hS2.fr
        have hS := (hS.over hS2).dropM
        refine ⟨l, D, vs, us, rfl, rfl, hS.get 0 rfl, hS.get 1 rfl, szL (by omega), ?_⟩
        have fset := Fr.set (M := l :: M) (H := H2) (o := .lst (vs ++ us)) (List.mem_cons_self (a := l) (l := M))
        refine ⟨vs ++ us, _, _, _, _, by rw [List.length_append]; omega, ?_, ((hS.set (o' := .lst (vs ++ us)) 0 rfl ⟨List.mem_cons_self .., .inl (List.mem_singleton.mpr rfl)⟩).sub (L' := [(l, .lst (vs ++ us))]) (by simp)).subD (by simp), rfl⟩
        rw [take_more hst, List.flatten_append, List.filter_append, List.map_append]
        refine DtL.append ((hvs.mono f2.wk0).mono fset) ?_
        rw [hyl, List.take_length] at hus
        rw [List.flatten_singleton]
        exact (hus.wk (fun _ z => List.mem_cons_of_mem _ z)).mono fset
    · rintro σ' H' ⟨vs, v3, v4, v5, v6, hvl, hvs, hS, rfl⟩
      rw [List.length_map] at hvl hvs
      rw [List.take_length] at hvs
      have hask : askF ss t = askR t (ss.flatten.filter fun r => decide (r.1 = t)) 0 := askR_filter _ _
      have hFk : ∀ r ∈ ss.flatten.filter (fun r => decide (r.1 = t)), r.1 = t := fun r hr => by simpa using (List.mem_filter.mp hr).2
      have hFg : ∀ r ∈ ss.flatten.filter (fun r => decide (r.1 = t)), r.2.length ≤ 3 := fun r hr => by
        obtain ⟨st, h1, h2⟩ := List.mem_flatten.mp (List.mem_filter.mp hr).1
        exact ((g3 st h1).2 r h2).2.1
      generalize ss.flatten.filter (fun r => decide (r.1 = t)) = F at *
      have hlF : vs.length = F.length := by rw [hvs.len, List.length_map]
      have hlM : l ∉ M := fun z => by
        obtain ⟨o, e⟩ := hdom l z
        rw [hl0] at e
        cases e
      have hS := hS.dropM
      have hvs := hvs.wk (N := M) (fun _ z => List.mem_cons_of_mem _ z)
      have hd : Dt K M H' (.list (F.map fun (r : Row) => PyData.tuple (r.2.map PyData.int))) (.ref l) := Dt.lstI ⟨hS.sl 0 rfl, .inl hlM⟩ hvs
      have hS := (hS.sub (L' := []) (by simp)).addD hd
      have hFb : F.length ≤ 160 := by omega
      walk_at "zS7"
      refine d_lenL (hS.d 2 rfl) ?_
      rw [List.length_map]
      refine ⟨_, rfl, by omega, by omega, ?_⟩
      rw [Int.toNat_natCast]
      refine for_range (lo := 0) (n := F.length) (fun j σ' H2 => ∃ v4 : Option V, askF ss t = askR t (F.drop j) j ∧ Sy K ⟨H, [l]⟩ M H2 [] [(storesD ss, .ref p), (tripD t, .ref p2), (.list (F.map fun (r : Row) => PyData.tuple (r.2.map PyData.int)), .ref l)] ∧ σ' = [some (.ref p), some (.ref p2), some (.ref l), v3, v4, v5, v6]) ⟨_, hask, hS, rfl⟩ ?_ ?_
      · clear hS
        rintro j σ' H2 hj ⟨v4, hn, hS, rfl⟩
        obtain ⟨r, hr⟩ : ∃ r, F[j]? = some r := ⟨F[j]'(by omega), List.getElem?_eq_getElem (by omega)⟩
        have hat : (F.map fun (r : Row) => PyData.tuple (r.2.map PyData.int))[j]? = some (.tuple (r.2.map .int)) := by rw [List.getElem?_map, hr]; rfl
        rw [askR_at hFk hr] at hn
        have hr3 := hFg r (List.mem_of_getElem? hr)
        walk_at "zS7"
        refine d_ixLT hS (hS.d 2 rfl) (atI_int (by omega) (by rw [show ((0 : Int) + (j : Int)).toNat = j by omega]; exact hat)) ?_
        clear hS; intro b hS
        walk_at "zS7"
        refine du_title hS (.inr (hS.d 3 rfl)) (by omega) ?_
        clear hS; intro tt H3 hS
        walk_at "zS7"
        refine d_eqTr (a := titleF r.2) (b := t) (hS.d 4 rfl) (hS.d 1 rfl) ?_
        walk_at "zS7"
        by_cases hk : titleF r.2 = t
        · rw [if_pos hk] at hn
          refine x_iteT (decide_eq_true hk) ?_
          walk_at "zS7"
          refine d_ixLT hS (hS.d 2 rfl) (atI_int (by omega) (by rw [show ((0 : Int) + (j : Int)).toNat = j by omega]; exact hat)) ?_
          clear hS; intro b2 hS
          walk_at "zS7"
          refine d_tup hS (by simp) (DtL.cons' (hS.d 5 rfl) (DtL.cons' Dt.int' DtL.nil')) ?_
          clear hS; intro t8 H hS
          have hS := hSo.into hS (fun b hb => by rw [List.mem_singleton.mp hb]; exact .inr hl0)
          refine k _ _ hS.fr ?_
          rw [hn]
          have := hS.d 6 rfl
          unfold askD
          rw [show (((j + 1 : Nat) : Int)) = 0 + (j : Int) + 1 by omega]
          exact this
        · rw [if_neg hk] at hn
          refine x_iteF (decide_eq_false hk) ?_
          walk_at "zS7"
          exact ⟨_, hn, hS.subD (by simp), rfl⟩
      · rintro σ' H2 ⟨v4, hn, hS, rfl⟩
        rw [List.drop_length] at hn
        walk_at "zS7"
        refine d_lenL (hS.d 2 rfl) ?_
        rw [List.length_map]
        walk_at "zS7"
        refine d_tup hS (by simp) (DtL.cons' Dt.non' (DtL.cons' Dt.int' DtL.nil')) ?_
        clear hS; intro t8 H hS
        have hS := hSo.into hS (fun b hb => by rw [List.mem_singleton.mp hb]; exact .inr hl0)
        refine k _ _ hS.fr ?_
        rw [hn]
        exact hS.d 3 rfl
theorem ok__law_alike (T : Txt K mg base A) : ∀ n : Nat, FnOk P w K mg base CX0 (n + 1) A.a__law_alike A.d__law_alike ["_law_found", "_law_due"] (sp__law_alike n K) := by
  refine Nat.rec (motive := fun n => FnOk P w K mg base CX0 (n + 1) A.a__law_alike A.d__law_alike ["_law_found", "_law_due"] (sp__law_alike n K)) fn_never (fun n G__law_alike => ?_)
  refine T.F__law_alike.ok sc__law_alike (fun vs H Q E h => ?_) (fun cdv A_ outer s H0 vs Q E hr h => ?_)
  · obtain ⟨_, h⟩ := h; obtain ⟨_, h⟩ := h; obtain ⟨_, h⟩ := h; obtain ⟨rfl, _⟩ := h; rfl
  · obtain ⟨v, u, d, rfl, hv, hu0, hd, ho, k⟩ := h
    have hu := hu_of hr
    have hu2 := hu2_of hr
    have hr__law_alike : Room (n + 1) _ := hr
    refine ⟨_, pss_cons (ps_if (PW.pt (pw_or (pt_val (pe_callB (b_isi (K := K)) (by rfl) T.z_isinstance (by decide +kernel) (pa_cons (pv 1) (pa_cons (pe_bltn (v := .ty "tuple") (by rfl) T.z_tuple (by decide +kernel) rfl) pa_nil)))) (pw_or1 (pt_val (pe_callB (b_isi (K := K)) (by rfl) T.z_isinstance (by decide +kernel) (pa_cons (pv 1) (pa_cons (pe_bltn (v := .ty "list") (by rfl) T.z_list (by decide +kernel) rfl) pa_nil))))))) (pss_cons (ps_if (PW.pt (pw_or (pt_cmpR op_ne (pe_callB (b_isi (K := K)) (by rfl) T.z_isinstance (by decide +kernel) (pa_cons (pv 0) (pa_cons (pe_bltn (v := .ty "tuple") (by rfl) T.z_tuple (by decide +kernel) rfl) pa_nil))) (pe_callB (b_isi (K := K)) (by rfl) T.z_isinstance (by decide +kernel) (pa_cons (pv 1) (pa_cons (pe_bltn (v := .ty "tuple") (by rfl) T.z_tuple (by decide +kernel) rfl) pa_nil))) (nomark _)) (pw_or1 (pt_not (pt_val (pe_callB (b_isiT (K := K)) (by rfl) T.z_isinstance (by decide +kernel) (pa_cons (pv 0) (pa_cons (pe_tup (pa_cons (pe_bltn (v := .ty "tuple") (by rfl) T.z_tuple (by decide +kernel) rfl) (pa_cons (pe_bltn (v := .ty "list") (by rfl) T.z_list (by decide +kernel) rfl) pa_nil))) pa_nil)))))))) (pss_one (ps_ret pe_bl)) pss_nil)
      (pss_cons (ps_if (pt_cmpR op_ne (pe_callB (b_len (K := K)) (by rfl) T.z_len (by decide +kernel) (pa_cons (pv 0) pa_nil)) (pe_callB (b_len (K := K)) (by rfl) T.z_len (by decide +kernel) (pa_cons (pv 1) pa_nil)) (nomark _)) (pss_one (ps_ret pe_bl)) pss_nil)
      (pss_one (ps_ret (pe_cmpR (b_eqD (K := K) hr.units) (pe_lc (own := [("_law_k", 2)]) (g := gName 2) (by rfl) sc__law_alike.nd (pi_range1 (by rfl) T.z_range (pa_cons (pe_callB (b_len (K := K)) (by rfl) T.z_len (by decide +kernel) (pa_cons (pv 1) pa_nil)) pa_nil)) (blkOk_by (N := ["_law_found", "_law_due", "_law_k"]) (sc := defScope s__law_alike) (by decide +kernel)) (fun _ _ _ _ _ => pg_name (i := 2) sc__law_alike.nd rfl (by first | exact Or.inl rfl | exact Or.inr rfl)) (fun _ _ _ _ _ => (pts_one (pt_not (pt_val (pe_call G__law_alike hr__law_alike (by rfl) T.g__law_alike T.F__law_alike.kp T.b__law_alike .nil pass0 (pa_cons (pe_ix (b_ix (K := K)) (pv 0) (pv 2) (fun _ _ => rfl)) (pa_cons (pe_ix (b_ix (K := K)) (pv 1) (pv 2) (fun _ _ => rfl)) pa_nil))))))) (fun _ _ _ _ _ => (pv 2))) (pe_lst pa_nil) (nomark _)))))) pss_nil)
      (pss_cons (ps_if (PW.pt (pw_or (pt_cmpR c_isN (pv 1) pe_non (nomark _)) (pw_or1 (pt_cmpR c_isN (pv 0) pe_non (nomark _))))) (pss_one (ps_ret (pe_and (pe_cmpR c_isN (pv 1) pe_non (nomark _)) (pe_one (pe_cmpR c_isN (pv 0) pe_non (nomark _)))))) pss_nil)
      (pss_cons (ps_if (PW.pt (pw_or (pt_val (pe_callB (b_isi (K := K)) (by rfl) T.z_isinstance (by decide +kernel) (pa_cons (pv 1) (pa_cons (pe_bltn (v := .ty "bool") (by rfl) T.z_bool (by decide +kernel) rfl) pa_nil)))) (pw_or1 (pt_val (pe_callB (b_isi (K := K)) (by rfl) T.z_isinstance (by decide +kernel) (pa_cons (pv 0) (pa_cons (pe_bltn (v := .ty "bool") (by rfl) T.z_bool (by decide +kernel) rfl) pa_nil))))))) (pss_one (ps_ret (pe_and (pe_callB (b_isi (K := K)) (by rfl) T.z_isinstance (by decide +kernel) (pa_cons (pv 1) (pa_cons (pe_bltn (v := .ty "bool") (by rfl) T.z_bool (by decide +kernel) rfl) pa_nil))) (pe_and (pe_callB (b_isi (K := K)) (by rfl) T.z_isinstance (by decide +kernel) (pa_cons (pv 0) (pa_cons (pe_bltn (v := .ty "bool") (by rfl) T.z_bool (by decide +kernel) rfl) pa_nil))) (pe_one (pe_cmpR op_eq (pv 0) (pv 1) (nomark _))))))) pss_nil)
      (pss_cons (ps_if (pt_val (pe_callB (b_isi (K := K)) (by rfl) T.z_isinstance (by decide +kernel) (pa_cons (pv 1) (pa_cons (pe_bltn (v := .ty "str") (by rfl) T.z_str (by decide +kernel) rfl) pa_nil)))) (pss_one (ps_ret (pe_and (pe_callB (b_isi (K := K)) (by rfl) T.z_isinstance (by decide +kernel) (pa_cons (pv 0) (pa_cons (pe_bltn (v := .ty "str") (by rfl) T.z_str (by decide +kernel) rfl) pa_nil))) (pe_one (pe_cmpR op_eq (pv 0) (pv 1) (nomark _)))))) pss_nil)
      (pss_one (ps_ret (pe_and (pe_callB (b_isi (K := K)) (by rfl) T.z_isinstance (by decide +kernel) (pa_cons (pv 0) (pa_cons (pe_bltn (v := .ty "int") (by rfl) T.z_int (by decide +kernel) rfl) pa_nil))) (pe_one (pe_cmpR op_eq (pv 0) (pv 1) (nomark _))))))))), ?_⟩
    try dsimp only [cxOf, Cx.nox, Cx.wish]
    refine x_st (σ' := [some _, some _, none]) rfl ?_
    have hS : Sy K (b0 H0) [] H0 [] [(d, v), (d, u)] := Sy.start _ _ _ (fun _ z => nomatch z) (by simp) (by simp; exact ⟨hv, hu0⟩) (fun _ z => nomatch z)
    cases d with
    | none =>
      simp only [Dt] at hv hu0; subst hv; subst hu0
      walk_at "zS3"
      simpa using k _ (Fr.refl _ _)
    | bool c =>
      simp only [Dt] at hv hu0; subst hv; subst hu0
      walk_at "zS3"
      simpa using k _ (Fr.refl _ _)
    | int i =>
      simp only [Dt] at hv hu0; subst hv; subst hu0
      walk_at "zS3"
      simpa using k _ (Fr.refl _ _)
    | str s =>
      simp only [Dt] at hv hu0; subst hv; subst hu0
      walk_at "zS3"
      simpa using k _ (Fr.refl _ _)
    | dict kvs => simp only [Dt] at hv
    | list ds =>
      simp only [Dt] at hv hu0
      obtain ⟨a, xs, rfl, ⟨hx, _⟩, hxs⟩ := hv
      obtain ⟨b, ys, rfl, ⟨hy, _⟩, hys⟩ := hu0
      have l1 := hxs.len
      have l2 := hys.len
      simp only [okD, Bool.and_eq_true, decide_eq_true_eq] at ho
      walk_at "zS3"
      (refine ⟨by simp only [List.length_cons, List.length_nil]; decide, n_al hS ?_⟩; clear hS; intro tt H tt_n tt_0 hS; simp only [List.cons_append, List.nil_append] at hS)
      walk_at "zS3"
      refine n_isi2 (tyx_l ((hS.fr.sl (fun z => nomatch z) hx))) (by walk_at "zen") kb_list_tuple kb_list_list ?_
      have hx := hS.fr.sl (fun z => nomatch z) hx
      have hy := hS.fr.sl (fun z => nomatch z) hy
      walk_at "zS3"
      refine x_iteF (by simp [l1, l2]) ?_
      walk_at "zS3"
      (refine ⟨_, rfl, by omega, by omega, ?_⟩)
      simp only [Int.toNat_natCast]
      refine lc_noneR (n := ys.length) hS ?_ ?_
      · intro i D H Q' hi hS kk
        have d1 := hS.d 0 rfl
        have d2 := hS.d 1 rfl
        simp only [Dt] at d1 d2
        obtain ⟨a', xs', e1, ⟨g1, _⟩, r1⟩ := d1
        obtain ⟨b', ys', e2, ⟨g2, _⟩, r2⟩ := d2
        cases e1; cases e2
        obtain ⟨e, he⟩ := at_lt (xs := ds) (i := i) (by omega)
        obtain ⟨z1, hz1, w1⟩ := r1.at he
        obtain ⟨z2, hz2, w2⟩ := r2.at he
        have hde := dep_at he
        simp only [PyData.depth] at hd
        obtain ⟨m, rfl⟩ : ∃ m, n = m + 1 := ⟨n - 1, by omega⟩
        walk_at "zS3"
        refine n_ixE (SqE.ofL g1) (atI0 hz1) ?_
        walk_at "zS3"
        refine n_ixE (SqE.ofL g2) (atI0 hz2) ?_
        walk_at "zS3"
        refine ⟨z1, z2, e, rfl, w1.wk (fun _ z => nomatch z), w2.wk (fun _ z => nomatch z), by omega, okDL_at ho.2 he, fun H' f => ?_⟩
        walk_at "zS3"
        exact kk H' (hS.ex f)
      intro D H D_n hS
      (try simp only [List.cons_append, List.nil_append] at hS)
      walk_at "zS3"
      (refine ⟨by simp only [List.length_cons, List.length_nil]; decide, n_al hS ?_⟩; clear hS; intro e0 H e0_n e0_0 hS; simp only [List.cons_append, List.nil_append] at hS)
      refine n_eqLL (ns := []) (ms := []) (hS.sl 1 rfl) (hS.sl 2 rfl) ?_
      exact k _ hS.fr
    | tuple ds =>
      simp only [Dt] at hv hu0
      obtain ⟨a, xs, rfl, ⟨hx, _⟩, hxs⟩ := hv
      obtain ⟨b, ys, rfl, ⟨hy, _⟩, hys⟩ := hu0
      have l1 := hxs.len
      have l2 := hys.len
      simp only [okD, Bool.and_eq_true, decide_eq_true_eq] at ho
      walk_at "zS3"
      (refine ⟨by simp only [List.length_cons, List.length_nil]; decide, n_al hS ?_⟩; clear hS; intro tt H tt_n tt_0 hS; simp only [List.cons_append, List.nil_append] at hS)
      walk_at "zS3"
      refine n_isi2 (tyx_t ((hS.fr.st (fun z => nomatch z) hx))) (by walk_at "zen") kb_tuple_tuple kb_tuple_list ?_
      have hx := hS.fr.st (fun z => nomatch z) hx
      have hy := hS.fr.st (fun z => nomatch z) hy
      walk_at "zS3"
      refine x_iteF (by simp [l1, l2]) ?_
      walk_at "zS3"
      (refine ⟨_, rfl, by omega, by omega, ?_⟩)
      simp only [Int.toNat_natCast]
      refine lc_noneR (n := ys.length) hS ?_ ?_
      · intro i D H Q' hi hS kk
        have d1 := hS.d 0 rfl
        have d2 := hS.d 1 rfl
        simp only [Dt] at d1 d2
        obtain ⟨a', xs', e1, ⟨g1, _⟩, r1⟩ := d1
        obtain ⟨b', ys', e2, ⟨g2, _⟩, r2⟩ := d2
        cases e1; cases e2
        obtain ⟨e, he⟩ := at_lt (xs := ds) (i := i) (by omega)
        obtain ⟨z1, hz1, w1⟩ := r1.at he
        obtain ⟨z2, hz2, w2⟩ := r2.at he
        have hde := dep_at he
        simp only [PyData.depth] at hd
        obtain ⟨m, rfl⟩ : ∃ m, n = m + 1 := ⟨n - 1, by omega⟩
        walk_at "zS3"
        refine n_ixE (SqE.ofT g1) (atI0 hz1) ?_
        walk_at "zS3"
        refine n_ixE (SqE.ofT g2) (atI0 hz2) ?_
        walk_at "zS3"
        refine ⟨z1, z2, e, rfl, w1.wk (fun _ z => nomatch z), w2.wk (fun _ z => nomatch z), by omega, okDL_at ho.2 he, fun H' f => ?_⟩
        walk_at "zS3"
        exact kk H' (hS.ex f)
      intro D H D_n hS
      (try simp only [List.cons_append, List.nil_append] at hS)
      walk_at "zS3"
      (refine ⟨by simp only [List.length_cons, List.length_nil]; decide, n_al hS ?_⟩; clear hS; intro e0 H e0_n e0_0 hS; simp only [List.cons_append, List.nil_append] at hS)
      refine n_eqLL (ns := []) (ms := []) (hS.sl 1 rfl) (hS.sl 2 rfl) ?_
      exact k _ hS.fr
theorem ok__law_odd (T : Txt K mg base A) : FnOk P w K mg base CX0 2 A.a__law_odd A.d__law_odd ["_law_row"] (sp__law_odd K) := by
  have G__law_taken := ok__law_taken (P := P) (w := w) (base := base) T
  refine T.F__law_odd.ok sc__law_odd (fun vs H Q E h => ?_) (fun cdv A_ outer s H0 vs Q E hr h => ?_)
  · exact spDrawD_len h (fun _ => rfl)
  · obtain ⟨M, _, r, a, q, ns, ws, rfl, h0, hq, hs, hl, hM, hdom, hd, -, k⟩ := h
    have hS := Sy.ofDD h0 hs hM hdom hd
    simp only [DtL] at hd
    subst hd
    have hS := hS.subD (Ds' := [(script ns, .ref a)]) (by simp)
    have hu := hu_of hr
    have hu2 := hu2_of hr
    have hr__law_taken : Room 1 _ := hr.mono (by decide)
    refine ⟨_, pss_cons (ps_set (i := 1) sc__law_odd.nd rfl (Or.inl rfl) (pe_call G__law_taken hr__law_taken (by rfl) T.g__law_taken T.F__law_taken.kp T.b__law_taken .nil pass0 (pa_cons (pv 0) (pa_cons pe_int pa_nil))))
      (pss_cons (ps_set (i := 2) sc__law_odd.nd rfl (Or.inl rfl) (pe_lst (pa_cons (pe_tup (pa_cons (pe_tup (pa_cons pe_int (pa_cons pe_int pa_nil))) (pa_cons (pe_tup (pa_cons pe_int pa_nil)) pa_nil))) (pa_cons (pe_tup (pa_cons (pe_tup (pa_cons pe_int (pa_cons pe_int (pa_cons pe_int (pa_cons pe_int pa_nil))))) (pa_cons (pe_tup (pa_cons pe_int pa_nil)) pa_nil))) (pa_cons (pe_tup (pa_cons (pe_tup (pa_cons pe_int (pa_cons pe_int (pa_cons pe_int pa_nil)))) (pa_cons (pe_tup pa_nil) pa_nil))) (pa_cons (pe_tup (pa_cons (pe_tup (pa_cons pe_int (pa_cons pe_int (pa_cons pe_int pa_nil)))) (pa_cons (pe_tup (pa_cons pe_int (pa_cons pe_int (pa_cons pe_int (pa_cons pe_int pa_nil))))) pa_nil))) pa_nil))))))
      (pss_cons (ps_set (i := 2) sc__law_odd.nd rfl (Or.inl rfl) (pe_op op_cat (pv 2) (pe_lst (pa_cons (pe_tup (pa_cons (pe_tup (pa_cons pe_int (pa_cons pe_int (pa_cons pe_int pa_nil)))) (pa_cons (pe_tup (pa_cons (pe_op op_add pe_int (pv 1)) pa_nil)) pa_nil))) (pa_cons (pe_tup (pa_cons (pe_tup (pa_cons pe_int (pa_cons pe_int (pa_cons pe_int pa_nil)))) (pa_cons (pe_tup (pa_cons (pe_op op_sub (pe_op op_sub pe_int pe_int) (pv 1)) pa_nil)) pa_nil))) pa_nil)))))
      (pss_one (ps_ret (pe_ix (b_ixL (K := K)) (pe_lst (pa_cons (pe_op op_rep (pe_lst (pa_cons (pe_tup (pa_cons (pe_tup (pa_cons pe_int (pa_cons pe_int (pa_cons pe_int pa_nil)))) (pa_cons (pe_tup (pa_cons pe_int pa_nil)) pa_nil))) pa_nil)) pe_int) (pa_cons (pe_lst (pa_cons (pe_tup (pa_cons (pe_tup (pa_cons pe_int (pa_cons pe_int (pa_cons pe_int pa_nil)))) (pa_cons (pe_tup (pa_cons pe_int pa_nil)) pa_nil))) (pa_cons (pe_ix (b_ixL (K := K)) (pv 2) (pe_call G__law_taken hr__law_taken (by rfl) T.g__law_taken T.F__law_taken.kp T.b__law_taken .nil pass0 (pa_cons (pv 0) (pa_cons pe_int pa_nil))) (fun _ _ => rfl)) pa_nil))) pa_nil))) (pe_callTy c_int (by rfl) T.z_int (by decide +kernel) (pa_cons (pe_cmpR op_gt (pe_call G__law_taken hr__law_taken (by rfl) T.g__law_taken T.F__law_taken.kp T.b__law_taken .nil pass0 (pa_cons (pv 0) (pa_cons pe_int pa_nil))) pe_int (nomark _)) pa_nil)) (fun _ _ => rfl)))))), ?_⟩
    try dsimp only [cxOf, Cx.nox, Cx.wish]
    refine x_st (σ' := [some _, none, none]) rfl ?_
    walk_at "zS3"
    (refine use_taken hS ⟨by first | assumption | (simp; done) | exact List.mem_cons_of_mem _ (by assumption) | exact List.mem_cons_of_mem _ (List.mem_cons_of_mem _ (by assumption)), by first | exact .inr (by assumption) | exact .inl (by simp)⟩ hq hl (by omega) (by omega) ?_; clear hS hq; intro fr q H fr_0 fr_1 hq hS)
    walk_at "zS3"
    refine d_tup hS (by simp) (DtL.cons' Dt.int' (DtL.cons' Dt.int' DtL.nil')) ?_
    clear hS; intro z1 H hS
    (try simp only [List.cons_append, List.nil_append] at hS)
    walk_at "zS3"
    refine d_tup hS (by simp) (DtL.cons' Dt.int' DtL.nil') ?_
    clear hS; intro z2 H hS
    (try simp only [List.cons_append, List.nil_append] at hS)
    walk_at "zS3"
    refine d_tup hS (by simp) (DtL.cons' (hS.d 1 rfl) (DtL.cons' (hS.d 2 rfl) DtL.nil')) ?_
    clear hS; intro z3 H hS
    (try simp only [List.cons_append, List.nil_append] at hS)
    walk_at "zS3"
    refine d_tup hS (by simp) (DtL.cons' Dt.int' (DtL.cons' Dt.int' (DtL.cons' Dt.int' (DtL.cons' Dt.int' DtL.nil')))) ?_
    clear hS; intro z4 H hS
    (try simp only [List.cons_append, List.nil_append] at hS)
    walk_at "zS3"
    refine d_tup hS (by simp) (DtL.cons' Dt.int' DtL.nil') ?_
    clear hS; intro z5 H hS
    (try simp only [List.cons_append, List.nil_append] at hS)
    walk_at "zS3"
    refine d_tup hS (by simp) (DtL.cons' (hS.d 4 rfl) (DtL.cons' (hS.d 5 rfl) DtL.nil')) ?_
    clear hS; intro z6 H hS
    (try simp only [List.cons_append, List.nil_append] at hS)
    walk_at "zS3"
    refine d_tup hS (by simp) (DtL.cons' Dt.int' (DtL.cons' Dt.int' (DtL.cons' Dt.int' DtL.nil'))) ?_
    clear hS; intro z7 H hS
    (try simp only [List.cons_append, List.nil_append] at hS)
    walk_at "zS3"
    refine d_tup hS (by simp) DtL.nil' ?_
    clear hS; intro z8 H hS
    (try simp only [List.cons_append, List.nil_append] at hS)
    walk_at "zS3"
    refine d_tup hS (by simp) (DtL.cons' (hS.d 7 rfl) (DtL.cons' (hS.d 8 rfl) DtL.nil')) ?_
    clear hS; intro z9 H hS
    (try simp only [List.cons_append, List.nil_append] at hS)
    walk_at "zS3"
    refine d_tup hS (by simp) (DtL.cons' Dt.int' (DtL.cons' Dt.int' (DtL.cons' Dt.int' DtL.nil'))) ?_
    clear hS; intro z10 H hS
    (try simp only [List.cons_append, List.nil_append] at hS)
    walk_at "zS3"
    refine d_tup hS (by simp) (DtL.cons' Dt.int' (DtL.cons' Dt.int' (DtL.cons' Dt.int' (DtL.cons' Dt.int' DtL.nil')))) ?_
    clear hS; intro z11 H hS
    (try simp only [List.cons_append, List.nil_append] at hS)
    walk_at "zS3"
    refine d_tup hS (by simp) (DtL.cons' (hS.d 10 rfl) (DtL.cons' (hS.d 11 rfl) DtL.nil')) ?_
    clear hS; intro z12 H hS
    (try simp only [List.cons_append, List.nil_append] at hS)
    walk_at "zS3"
    have hdm := hS.dom
    (refine ⟨by simp only [List.length_cons, List.length_nil]; decide, n_al hS ?_⟩; clear hS; intro e1 H e1_n e1_0 hS; simp only [List.cons_append, List.nil_append] at hS)
    have he1 := notM0 hdm e1_n
    walk_at "zS3"
    refine d_tup hS (by simp) (DtL.cons' Dt.int' (DtL.cons' Dt.int' (DtL.cons' Dt.int' DtL.nil'))) ?_
    clear hS; intro z13 H hS
    (try simp only [List.cons_append, List.nil_append] at hS)
    walk_at "zS3"
    refine d_tup hS (by simp) (DtL.cons' Dt.int' DtL.nil') ?_
    clear hS; intro z14 H hS
    (try simp only [List.cons_append, List.nil_append] at hS)
    walk_at "zS3"
    refine d_tup hS (by simp) (DtL.cons' (hS.d 13 rfl) (DtL.cons' (hS.d 14 rfl) DtL.nil')) ?_
    clear hS; intro z15 H hS
    (try simp only [List.cons_append, List.nil_append] at hS)
    walk_at "zS3"
    refine d_tup hS (by simp) (DtL.cons' Dt.int' (DtL.cons' Dt.int' (DtL.cons' Dt.int' DtL.nil'))) ?_
    clear hS; intro z16 H hS
    (try simp only [List.cons_append, List.nil_append] at hS)
    walk_at "zS3"
    refine d_tup hS (by simp) (DtL.cons' Dt.int' DtL.nil') ?_
    clear hS; intro z17 H hS
    (try simp only [List.cons_append, List.nil_append] at hS)
    walk_at "zS3"
    refine d_tup hS (by simp) (DtL.cons' (hS.d 16 rfl) (DtL.cons' (hS.d 17 rfl) DtL.nil')) ?_
    clear hS; intro z18 H hS
    (try simp only [List.cons_append, List.nil_append] at hS)
    walk_at "zS3"
    (refine ⟨by simp only [List.length_cons, List.length_nil]; decide, n_al hS ?_⟩; clear hS; intro e2 H e2_n e2_0 hS; simp only [List.cons_append, List.nil_append] at hS)
    refine n_cat (by walk_at "zen") (by walk_at "zen") (by simp) ?_
    (refine n_al hS ?_; clear hS; intro e3 H e3_n e3_0 hS; simp only [List.cons_append, List.nil_append] at hS)
    walk_at "zS3"
    refine d_tup hS (by simp) (DtL.cons' Dt.int' (DtL.cons' Dt.int' (DtL.cons' Dt.int' DtL.nil'))) ?_
    clear hS; intro z19 H hS
    (try simp only [List.cons_append, List.nil_append] at hS)
    walk_at "zS3"
    refine d_tup hS (by simp) (DtL.cons' Dt.int' DtL.nil') ?_
    clear hS; intro z20 H hS
    (try simp only [List.cons_append, List.nil_append] at hS)
    walk_at "zS3"
    refine d_tup hS (by simp) (DtL.cons' (hS.d 19 rfl) (DtL.cons' (hS.d 20 rfl) DtL.nil')) ?_
    clear hS; intro z21 H hS
    (try simp only [List.cons_append, List.nil_append] at hS)
    walk_at "zS3"
    have hdm := hS.dom
    (refine ⟨by simp only [List.length_cons, List.length_nil]; decide, n_al hS ?_⟩; clear hS; intro e4 H e4_n e4_0 hS; simp only [List.cons_append, List.nil_append] at hS)
    walk_at "zS3"
    refine n_rep (hS.get 4 rfl) (by omega) (by omega) (by simp) ?_
    have hdm := hS.dom
    (refine n_al hS ?_; clear hS; intro e5 H e5_n e5_0 hS; simp only [List.cons_append, List.nil_append] at hS)
    have he5 := notM0 hdm e5_n
    walk_at "zS3"
    refine d_tup hS (by simp) (DtL.cons' Dt.int' (DtL.cons' Dt.int' (DtL.cons' Dt.int' DtL.nil'))) ?_
    clear hS; intro z22 H hS
    (try simp only [List.cons_append, List.nil_append] at hS)
    walk_at "zS3"
    refine d_tup hS (by simp) (DtL.cons' Dt.int' DtL.nil') ?_
    clear hS; intro z23 H hS
    (try simp only [List.cons_append, List.nil_append] at hS)
    walk_at "zS3"
    refine d_tup hS (by simp) (DtL.cons' (hS.d 22 rfl) (DtL.cons' (hS.d 23 rfl) DtL.nil')) ?_
    clear hS; intro z24 H hS
    (try simp only [List.cons_append, List.nil_append] at hS)
    walk_at "zS3"
    (refine use_taken hS ⟨by first | assumption | (simp; done) | exact List.mem_cons_of_mem _ (by assumption) | exact List.mem_cons_of_mem _ (List.mem_cons_of_mem _ (by assumption)), by first | exact .inr (by assumption) | exact .inl (by simp)⟩ hq hl (by omega) (by omega) ?_; clear hS hq; intro ix q H ix_0 ix_1 hq hS)
    obtain ⟨v, g, hv, hdv, hg, hg1⟩ : ∃ (v : V) (g : GRow), ([V.ref z3, V.ref z6, V.ref z9, V.ref z12, V.ref z15, V.ref z18] : List V)[ix.toNat]? = some v ∧ Dt K M H (growD g) v ∧ isRow g = false ∧ g.1.length ≤ 100 ∧ g.2.length ≤ 100 := by
      have hx : ix = 0 ∨ ix = 1 ∨ ix = 2 ∨ ix = 3 ∨ ix = 4 ∨ ix = 5 := by omega
      rcases hx with rfl | rfl | rfl | rfl | rfl | rfl
      · exact ⟨_, ([1, 2], [3]), rfl, hS.d 3 rfl, by decide, by decide, by decide⟩
      · exact ⟨_, ([1, 2, 3, 4], [3]), rfl, hS.d 6 rfl, by decide, by decide, by decide⟩
      · exact ⟨_, ([1, 2, 3], []), rfl, hS.d 9 rfl, by decide, by decide, by decide⟩
      · exact ⟨_, ([1, 2, 3], [1, 1, 1, 1]), rfl, hS.d 12 rfl, by decide, by decide, by decide⟩
      · exact ⟨_, ([1, 2, 3], [9973 + fr]), rfl, hS.d 15 rfl, by unfold isRow okC; simp; omega, by simp, by simp⟩
      · exact ⟨_, ([1, 2, 3], [0 - 1 - fr]), rfl, hS.d 18 rfl, by unfold isRow okC; simp; omega, by simp, by simp⟩
    have hS := hS.addD hdv
    (try simp only [List.cons_append, List.nil_append] at hS)
    walk_at "zS3"
    refine x_ixL (hS.sl 3 rfl) (atI_int ix_0 hv) ?_
    walk_at "zS3"
    have hdm := hS.dom
    (refine ⟨by simp only [List.length_cons, List.length_nil]; decide, n_al hS ?_⟩; clear hS; intro e6 H e6_n e6_0 hS; simp only [List.cons_append, List.nil_append] at hS)
    have he6 := notM0 hdm e6_n
    walk_at "zS3"
    have hdm := hS.dom
    (refine ⟨by simp only [List.length_cons, List.length_nil]; decide, n_al hS ?_⟩; clear hS; intro e7 H e7_n e7_0 hS; simp only [List.cons_append, List.nil_append] at hS)
    walk_at "zS3"
    (refine use_taken hS ⟨by first | assumption | (simp; done) | exact List.mem_cons_of_mem _ (by assumption) | exact List.mem_cons_of_mem _ (List.mem_cons_of_mem _ (by assumption)), by first | exact .inr (by assumption) | exact .inl (by simp)⟩ hq hl (by omega) (by omega) ?_; clear hS hq; intro y q H y_0 y_1 hq hS)
    walk_at "zS3"
    by_cases hy : 0 < y
    · rw [if_pos (decide_eq_true hy)]
      refine x_ixL (hS.sl 7 rfl) (atI_int (by decide) rfl) ?_
      exact k _ _ q H ⟨[([1, 2, 1], [3]), g], rfl, ⟨by simp, fun x hx => by
        simp only [List.mem_cons, List.not_mem_nil, or_false] at hx
        rcases hx with rfl | rfl
        · exact ⟨by decide, by decide⟩
        · exact hg1⟩, st_bad hg⟩ hq hS.fr (hS.get 0 rfl) (Dt.lstI ⟨hS.sl 6 rfl, .inl he6⟩ (DtL.cons' (hS.d 24 rfl) (DtL.cons' (hS.d 25 rfl) DtL.nil')))
    · rw [if_neg (by simpa using hy)]
      refine x_ixL (hS.sl 7 rfl) (atI_int (by decide) rfl) ?_
      exact k _ _ q H ⟨List.replicate 41 ([1, 2, 1], [3]), rfl, ⟨by decide, fun x hx => by
        rw [(List.mem_replicate.mp hx).2]
        exact ⟨by decide, by decide⟩⟩, by decide⟩ hq hS.fr (hS.get 0 rfl) (Dt.lstI (xs := List.replicate 41 (.ref z21)) ⟨hS.sl 5 rfl, .inl he5⟩ (by rw [List.map_replicate]; exact dtl_rep (hS.d 21 rfl) 41))
theorem ok__law_number (T : Txt K mg base A) : FnOk P w K mg base CX0 1 A.a__law_number A.d__law_number ["_law_work"] (fun _ _ _ _ => False) := by exact fn_never
theorem gv__law_number {X : Cx} {g : Addr} {cdg : Value} {q : Str} (hK : K = X.K) (hm : mg = X.mg) (T : Txt K mg base A) : LamX.GivesTo X ["_law_work", "e", "_law_other"] "_law_number" (defScope s__law_number) g cdg (defBody s__law_number) "_law_work" q (TT__law_number A K) := by
  obtain ⟨prog, w, K, mg, base, A_, N_, sZ, HZ, env, outer, stack, ex, fnX, calm, pn, xe⟩ := X
  dsimp only at hK hm
  subst hK hm
  intro f c0 s H0 Q tl act hc h
  refine ⟨_, (pss_cons (ps_try_as (i := 1) rfl rfl sc__law_number.nd rfl rfl ⟨(by rfl), by decide, .inl T.g_ImageError⟩ LamX.takes0 (fun W pn xe tk _ => bodyE_act (n := 3) rfl tk (fun W2 E tk2 hE => act W2 pn xe E _ _ tk2 hE)) (fun a oe cls d pn hz hf => (pss_cons (ps_set (i := 2) sc__law_number.nd rfl (Or.inl rfl) (pe_callB (call_isX hz hf) (by rfl) T.z_isinstance (by decide +kernel) (pa_cons (pv 1) (pa_cons (pe_tup (pa_cons (pe_gt rfl T.g_BadKeys) (pa_cons (pe_gt rfl T.g_BadManifest) (pa_cons (pe_gt rfl T.g_BadPicture) pa_nil)))) pa_nil))))
      (pss_one (ps_ret (pe_ifExp (PW.pt (pw_and (pt_val (pe_callB (call_isX hz hf) (by rfl) T.z_isinstance (by decide +kernel) (pa_cons (pv 1) (pa_cons (pe_gt rfl T.g_BadStores) pa_nil)))) (pw_and (pt_val (pe_callB (call_isX hz hf) (by rfl) T.z_isinstance (by decide +kernel) (pa_cons (pv 1) (pa_cons (pe_bltn (v := .ty "ValueError") (by rfl) T.z_ValueError (by decide +kernel) rfl) pa_nil)))) (pw_and1 (pt_not (pt_val (pv 2))))))) (pe_xg hz hf (pv 1)) pe_non))))))
      (pss_one (ps_ret pe_non))), ?_⟩
  try dsimp only [cxOf, Cx.nox, Cx.wish]
  clear act
  walk_at "zS3"
  refine ⟨fun cls d H' => cls = .ref A.c_BadStores ∧ ∃ dd n, d = some dd ∧ H' dd = some (.xd [("number", .int n)]) ∧ ∀ H'', Fr [] H' H'' → Q (.int n) H'', fun cls d σ' H' hl hE => ?_, rfl, hc, h⟩
  obtain ⟨rfl, dd, n, rfl, hdd, kk⟩ := hE
  obtain ⟨v0, v1, v2, rfl⟩ : ∃ v0 v1 v2, σ' = [v0, v1, v2] := by
    match σ', hl with
    | [a, b, c], _ => exact ⟨a, b, c, rfl⟩
  refine x_caughtAs T.e_BadStores_ImageError fun ae hae => ?_
  refine x_name (σ' := [_, _, _]) (by with_unfolding_all rfl) ?_
  walk_at "zS3"
  refine ⟨szL (Nat.le_of_ble_eq_true rfl), fun tp htp => ?_⟩
  have f : Fr [] H' (upd H' tp (.tup [.ref A.c_BadKeys, .ref A.c_BadManifest, .ref A.c_BadPicture])) := fun b o _ hb => by rw [upd_ne (fun z => by rw [z, htp] at hb; cases hb)]; exact hb
  have hd2 := f _ _ (fun z => nomatch z) hdd
  have hup : upd H' tp (.tup [.ref A.c_BadKeys, .ref A.c_BadManifest, .ref A.c_BadPicture]) tp = some (.tup [.ref A.c_BadKeys, .ref A.c_BadManifest, .ref A.c_BadPicture]) := upd_same
  generalize upd H' tp (.tup [.ref A.c_BadKeys, .ref A.c_BadManifest, .ref A.c_BadPicture]) = H2 at f hd2 hup
  walk_at "zS3"
  refine n_isXT (cs := [.ref A.c_BadKeys, .ref A.c_BadManifest, .ref A.c_BadPicture]) T.es_BadStores (fun d' e => by cases e; exact ⟨_, hd2⟩) hup (fun us r => vals_refs (as := [A.c_BadKeys, A.c_BadManifest, A.c_BadPicture]) r) (kit_no T.ki_BadStores_BadKeys (kit_no T.ki_BadStores_BadManifest (kit_no T.ki_BadStores_BadPicture kit_nil))) ?_
  refine x_name (σ' := [_, _, _]) (by with_unfolding_all rfl) ?_
  walk_at "zS3"
  refine n_isX T.es_BadStores hd2 (fun u r => r) T.ki_BadStores_BadStores ?_
  walk_at "zS3"
  refine n_isX T.es_BadStores hd2 (fun u r => r) T.ki_BadStores_ValueError ?_
  walk_at "zS3"
  refine n_xg T.es_BadStores T.n_BadStores_number hd2 ?_
  exact kk _ f
theorem ok_law (T : Txt K mg base A) : FnOk P w K mg base CX0 9 A.a_law A.d_law ["_law_script"] (sp_law A.tb_law K) := by
  have G__law_keys := ok__law_keys (P := P) (w := w) (base := base) T
  have G__law_picture := ok__law_picture (P := P) (w := w) (base := base) T
  have G__law_taken := ok__law_taken (P := P) (w := w) (base := base) T
  have G__law_stores := ok__law_stores (P := P) (w := w) (base := base) T
  have G__law_pieces := ok__law_pieces (P := P) (w := w) (base := base) T
  have G__law_title := ok__law_title (P := P) (w := w) (base := base) T
  have G_fetched := ok_fetched (P := P) (w := w) (base := base) T
  have G__law_asked := ok__law_asked (P := P) (w := w) (base := base) T
  have G__law_alike := ok__law_alike (P := P) (w := w) (base := base) T 5
  have G__law_worth := ok__law_worth (P := P) (w := w) (base := base) T
  have G__law_odd := ok__law_odd (P := P) (w := w) (base := base) T
  have G__law_number := ok__law_number (P := P) (w := w) (base := base) T
  refine T.FC_law.ok sc_law (fun vs H Q E h => ?_) (fun A_ outer s H0 vs Q E hr h => ?_)
  · obtain ⟨_, h⟩ := h; obtain ⟨_, h⟩ := h; obtain ⟨rfl, _⟩ := h; rfl
  · obtain ⟨a, ns, rfl, ha, hl, htb, k⟩ := h
    have hu := hu_of hr
    have hu2 := hu2_of hr
    have hr__law_keys : Room 2 _ := hr.mono (by decide)
    have hr__law_picture : Room 3 _ := hr.mono (by decide)
    have hr__law_taken : Room 1 _ := hr.mono (by decide)
    have hr__law_stores : Room 4 _ := hr.mono (by decide)
    have hr__law_pieces : Room 1 _ := hr.mono (by decide)
    have hr__law_title : Room 2 _ := hr.mono (by decide)
    have hr_fetched : Room 4 _ := hr.mono (by decide)
    have hr__law_asked : Room 3 _ := hr.mono (by decide)
    have hr__law_alike : Room 6 _ := hr.mono (by decide)
    have hr__law_worth : Room 2 _ := hr.mono (by decide)
    have hr__law_odd : Room 2 _ := hr.mono (by decide)
    have hr__law_number : Room 1 _ := hr.mono (by decide)
    have hrl_law : Room (6 + 2) _ := hr.mono (by decide)
    obtain ⟨_, _, _, _, _, _, _, _, _, hfd__law_number, lk__law_number, hcg__law_number⟩ := T.F__law_number.ex
    rw [hfd__law_number] at lk__law_number
    have hb__law_number := T.b__law_number
    rw [hfd__law_number] at hb__law_number
    refine ⟨_, pss_cons (ps_set (i := 10) sc_law.nd rfl (Or.inr rfl) (pe_lst (pa_cons (pv 0) (pa_cons pe_int (pa_cons pe_int (pa_cons pe_int pa_nil))))))
      (pss_cons (ps_for PassesOwn.never rfl (pi_range1 (by rfl) T.z_range (pa_cons pe_int pa_nil)) (pg_name (i := 1) sc_law.nd rfl (Or.inl rfl)) (pss_cons (ps_set (i := 2) sc_law.nd rfl (Or.inl rfl) (pe_call G__law_keys hr__law_keys (by rfl) T.g__law_keys T.F__law_keys.kp T.b__law_keys .nil pass0 (pa_cons (pv 10) pa_nil)))
      (pss_cons (ps_set (i := 3) sc_law.nd rfl (Or.inl rfl) (pe_call G__law_picture hr__law_picture (by rfl) T.g__law_picture T.F__law_picture.kp T.b__law_picture .nil pass0 (pa_cons (pv 10) (pa_cons (pv 2) (pa_cons pe_int pa_nil)))))
      (pss_cons (ps_set (i := 4) sc_law.nd rfl (Or.inl rfl) (pe_call G__law_stores hr__law_stores (by rfl) T.g__law_stores T.F__law_stores.kp T.b__law_stores .nil pass0 (pa_cons (pv 10) (pa_cons (pv 3) (pa_cons (pe_cmpR op_eq (pe_call G__law_taken hr__law_taken (by rfl) T.g__law_taken T.F__law_taken.kp T.b__law_taken .nil pass0 (pa_cons (pv 10) (pa_cons pe_int pa_nil))) pe_int (nomark _)) pa_nil)))))
      (pss_cons (ps_set (i := 11) sc_law.nd rfl (Or.inr rfl) (pe_op (op_catS) (pe_lc (own := [("_law_piece", 12)]) (g := gName 12) (by rfl) sc_law.nd (b_iL (K := K) (pe_call G__law_pieces hr__law_pieces (by rfl) T.g__law_pieces T.F__law_pieces.kp T.b__law_pieces .nil pass0 (pa_cons (pe_ix (b_ixT (K := K)) (pv 3) pe_int (fun _ _ => rfl)) pa_nil))) (blkOk_by (N := ["_law_script", "_law_turn", "_law_keys_here", "_law_picture_here", "_law_stores_here", "_law_title_here", "_law_handed", "_law_long", "_law_at", "_law_odd_here", "_law_row", "_law_titles", "_law_piece", "_law_store_here"]) (sc := defScope s_law) (by decide +kernel)) (fun _ _ _ _ _ => pg_name (i := 12) sc_law.nd rfl (by first | exact Or.inl rfl | exact Or.inr rfl)) (fun _ _ _ _ _ => pts_nil) (fun _ _ _ _ _ => (pe_call G__law_title hr__law_title (by rfl) T.g__law_title T.F__law_title.kp T.b__law_title .nil pass0 (pa_cons (pv 12) pa_nil)))) (pe_lst (pa_cons (pe_tup (pa_cons pe_int (pa_cons pe_int (pa_cons pe_int pa_nil)))) (pa_cons (pe_call G__law_title hr__law_title (by rfl) T.g__law_title T.F__law_title.kp T.b__law_title .nil pass0 (pa_cons (pe_ix (b_ixT (K := K)) (pv 3) pe_int (fun _ _ => rfl)) pa_nil)) pa_nil)))))
      (pss_cons (ps_for PassesOwn.never rfl (b_iL (K := K) (pv 11)) (pg_name (i := 5) sc_law.nd rfl (Or.inl rfl)) (pss_cons (ps_setLc (i := 6) (own := [("_law_store_here", 13)]) (g := gName 13) (by rfl) sc_law.nd rfl rfl (sw_true rfl rfl rfl (by decide +kernel)) (b_iL (K := K) (pv 4)) (blkOk_by (N := ["_law_script", "_law_turn", "_law_keys_here", "_law_picture_here", "_law_stores_here", "_law_title_here", "_law_handed", "_law_long", "_law_at", "_law_odd_here", "_law_row", "_law_titles", "_law_piece", "_law_store_here"]) (sc := defScope s_law) (by decide +kernel)) (fun _ _ _ _ _ => pg_name (i := 13) sc_law.nd rfl (by first | exact Or.inl rfl | exact Or.inr rfl)) (fun _ _ _ _ _ => pts_nil) (fun _ _ _ _ _ => (pe_callTy (b_list (K := K)) (by rfl) T.z_list (by decide +kernel) (pa_cons (pv 13) pa_nil))))
      (pss_one (ps_if (PW.pt (pw_or (pt_not (pt_val (pe_call G__law_alike hr__law_alike (by rfl) T.g__law_alike T.F__law_alike.kp T.b__law_alike .nil pass0 (pa_cons (pe_call G_fetched hr_fetched (by rfl) T.g_fetched T.F_fetched.kp T.b_fetched .nil passL (pa_cons (pv 6) (pa_cons (pv 5) pa_nil))) (pa_cons (pe_call G__law_asked hr__law_asked (by rfl) T.g__law_asked T.F__law_asked.kp T.b__law_asked .nil pass0 (pa_cons (pv 4) (pa_cons (pv 5) pa_nil))) pa_nil))))) (pw_or1 (pt_cmpR (b_neD (K := K) hr.units) (pv 6) (pv 4) (nomark _))))) (pss_one (ps_ret pe_bl)) pss_nil))))
      (pss_cons (ps_set (i := 7) sc_law.nd rfl (Or.inl rfl) (pe_op op_rep (pe_lst (pa_cons (pe_op op_rep (pe_lst (pa_cons (pe_tup (pa_cons (pe_ix (b_ixL (K := K)) (pv 11) pe_int (fun _ _ => rfl)) (pa_cons (pe_tup (pa_cons (pe_call G__law_worth hr__law_worth (by rfl) T.g__law_worth T.F__law_worth.kp T.b__law_worth .nil pass0 (pa_cons (pv 10) pa_nil)) pa_nil)) pa_nil))) pa_nil)) pe_int) pa_nil)) pe_int))
      (pss_cons (ps_if (pt_not (pt_val (pe_call G__law_alike hr__law_alike (by rfl) T.g__law_alike T.F__law_alike.kp T.b__law_alike .nil pass0 (pa_cons (pe_call G_fetched hr_fetched (by rfl) T.g_fetched T.F_fetched.kp T.b_fetched .nil passL (pa_cons (pv 7) (pa_cons (pe_ix (b_ixL (K := K)) (pv 11) pe_int (fun _ _ => rfl)) pa_nil))) (pa_cons (pe_call G__law_asked hr__law_asked (by rfl) T.g__law_asked T.F__law_asked.kp T.b__law_asked .nil pass0 (pa_cons (pv 7) (pa_cons (pe_ix (b_ixL (K := K)) (pv 11) pe_int (fun _ _ => rfl)) pa_nil))) pa_nil))))) (pss_one (ps_ret pe_bl)) pss_nil)
      (pss_cons (ps_set (i := 8) sc_law.nd rfl (Or.inr rfl) (pe_call G__law_taken hr__law_taken (by rfl) T.g__law_taken T.F__law_taken.kp T.b__law_taken .nil pass0 (pa_cons (pv 10) (pa_cons (pe_callB (b_len (K := K)) (by rfl) T.z_len (by decide +kernel) (pa_cons (pv 4) pa_nil)) pa_nil))))
      (pss_cons (ps_set (i := 9) sc_law.nd rfl (Or.inr rfl) (pe_op (op_catS) (pe_op (op_catS) (pe_op (op_catS) (pe_slice (b_slL (K := K)) (pv 4) po_none (po_some (pv 8))) (pe_lst (pa_cons (pe_call G__law_odd hr__law_odd (by rfl) T.g__law_odd T.F__law_odd.kp T.b__law_odd .nil pass0 (pa_cons (pv 10) pa_nil)) pa_nil))) (pe_slice (b_slL (K := K)) (pv 4) (po_some (pe_op op_add (pv 8) pe_int)) po_none)) (pe_op op_rep (pe_lst (pa_cons (pe_lst (pa_cons (pe_tup (pa_cons (pe_tup pa_nil) (pa_cons (pe_tup pa_nil) pa_nil))) pa_nil)) pa_nil)) (pe_call G__law_taken hr__law_taken (by rfl) T.g__law_taken T.F__law_taken.kp T.b__law_taken .nil pass0 (pa_cons (pv 10) (pa_cons pe_int pa_nil))))))
      (pss_cons (ps_if (pt_cmpR op_ne (LamX.pe_lamcall (T := [(A.tb_law, lamq_law)]) (t := fun E => _) rfl T.g__law_number T.F__law_number.kp lk__law_number hcg__law_number hb__law_number sc__law_number rfl (Or.inl rfl) (gv__law_number rfl rfl T) T.TB_law rfl (List.mem_singleton.mpr rfl) (fun p hp _ => by rw [List.mem_singleton.mp hp]; rfl) hrl_law (LamX.lamS_by (sc := defScope s_law) (by decide +kernel)) rfl (fun _ _ _ _ _ => rfl) (fun AL oL sL HL E fL cL hrL => (pe_call G_fetched (hrL.mono (by decide)) (by rfl) T.g_fetched T.F_fetched.kp T.b_fetched .nil (passX rfl rfl rfl rfl) (pa_cons (pe_ifExp (pt_cmpR op_lt (pv 8) pe_int (nomark _)) (pe_slice (b_slL (K := K)) (pv 9) po_none (po_some pe_int)) (pv 9)) (pa_cons (pe_ix (b_ixL (K := K)) (pv 11) pe_int (fun _ _ => rfl)) pa_nil))))) (pv 8) (nomark _)) (pss_one (ps_ret pe_bl)) pss_nil)
      (pss_cons (ps_if (pt_cmpR op_ne (LamX.pe_lamcall (T := [(A.tb_law, lamq_law)]) (t := fun E => _) rfl T.g__law_number T.F__law_number.kp lk__law_number hcg__law_number hb__law_number sc__law_number rfl (Or.inl rfl) (gv__law_number rfl rfl T) T.TB_law rfl (List.mem_singleton.mpr rfl) (fun p hp _ => by rw [List.mem_singleton.mp hp]; rfl) hrl_law (LamX.lamS_by (sc := defScope s_law) (by decide +kernel)) rfl (fun _ _ _ _ _ => rfl) (fun AL oL sL HL E fL cL hrL => (pe_call G_fetched (hrL.mono (by decide)) (by rfl) T.g_fetched T.F_fetched.kp T.b_fetched .nil (passX rfl rfl rfl rfl) (pa_cons (pe_op op_rep (pe_lst (pa_cons (pe_lst pa_nil) pa_nil)) (pe_op op_add pe_int (pe_call G__law_taken (hrL.mono (by decide)) (by rfl) T.g__law_taken T.F__law_taken.kp T.b__law_taken .nil pass0 (pa_cons (pv 10) (pa_cons pe_int pa_nil))))) (pa_cons (pe_ix (b_ixL (K := K)) (pv 11) pe_int (fun _ _ => rfl)) pa_nil))))) pe_int (nomark _)) (pss_one (ps_ret pe_bl)) pss_nil)
      (pss_one (ps_if (PW.pt (pw_or (pt_cmpR op_ne (LamX.pe_lamcall (T := [(A.tb_law, lamq_law)]) (t := fun E => _) rfl T.g__law_number T.F__law_number.kp lk__law_number hcg__law_number hb__law_number sc__law_number rfl (Or.inl rfl) (gv__law_number rfl rfl T) T.TB_law rfl (List.mem_singleton.mpr rfl) (fun p hp _ => by rw [List.mem_singleton.mp hp]; rfl) hrl_law (LamX.lamS_by (sc := defScope s_law) (by decide +kernel)) rfl (fun _ _ _ _ _ => rfl) (fun AL oL sL HL E fL cL hrL => (pe_call G_fetched (hrL.mono (by decide)) (by rfl) T.g_fetched T.F_fetched.kp T.b_fetched .nil (passX rfl rfl rfl rfl) (pa_cons (pe_lst pa_nil) (pa_cons (pe_ix (b_ixL (K := K)) (pv 11) pe_int (fun _ _ => rfl)) pa_nil))))) pe_int (nomark _)) (pw_or1 (pt_cmpR (b_neD (K := K) hr.units) (pe_call G_fetched hr_fetched (by rfl) T.g_fetched T.F_fetched.kp T.b_fetched .nil passL (pa_cons (pe_op op_rep (pe_lst (pa_cons (pe_lst pa_nil) pa_nil)) pe_int) (pa_cons (pe_ix (b_ixL (K := K)) (pv 11) pe_int (fun _ _ => rfl)) pa_nil))) (pe_tup (pa_cons pe_non (pa_cons pe_int pa_nil))) (nomark _))))) (pss_one (ps_ret pe_bl)) pss_nil))))))))))))))
      (pss_one (ps_ret pe_bl))), ?_⟩
    try dsimp only [cxOf, Cx.nox, Cx.wish]
    refine x_st (σ' := [some _, none, none, none, none, none, none, none, none, none, none, none, none, none]) rfl ?_
    have hT0 : LamX.Tabs [(A.tb_law, lamq_law)] H0 := fun p hp => by rw [List.mem_singleton.mp hp]; exact LamX.TabS.nil htb
    have hS : Sy K (b0 H0) [] H0 [] [(script ns, .ref a)] := Sy.start _ _ _ (fun _ z => nomatch z) (by simp) (fun x hx => by rw [List.mem_singleton.mp hx]; exact dt_script.mpr ⟨ha, .inl (by simp)⟩) (fun _ z => nomatch z)
    walk_at "zS14"
    (refine ⟨by simp only [List.length_cons, List.length_nil]; decide, n_alM hS ?_⟩; clear hS; intro r H r_n r_0 hS; simp only [List.cons_append, List.nil_append] at hS)
    walk_at "zS14"
    have hT1 := hT0.ext (fun b o e => hS.fr b o (fun z => nomatch z) e)
    have hn1 : ∀ x ∈ [r], ∃ o, H x = some o ∧ plainO o := fun x hx => by rw [List.mem_singleton.mp hx]; exact ⟨_, hS.get 0 rfl, plain_lst⟩
    have hS := hS.from [r] (fun x hx => by rw [List.mem_singleton.mp hx]; exact ⟨_, hS.get 0 rfl⟩)
    (refine ⟨_, rfl, by omega, by omega, ?_⟩)
    refine for_range (lo := 0) (n := (6 : Int).toNat) (fun j σ' H' => ∃ (Hb : Hp) (q : Rho) (v1 v2 v3 v4 v5 v6 v7 v8 v9 v11 v12 v13 : Option V), LamX.Tabs [(A.tb_law, lamq_law)] Hb ∧ (∀ x ∈ [r], ∃ o, Hb x = some o ∧ plainO o) ∧ q.ok ∧ Sy K ⟨Hb, [r]⟩ [r] H' [(r, rowO a q)] [(script ns, .ref a)] ∧ σ' = [some (.ref a), v1, v2, v3, v4, v5, v6, v7, v8, v9, some (.ref r), v11, v12, v13]) ?_ ?_ ?_
    · exact ⟨_, ⟨0, 0, 0⟩, _, _, _, _, _, _, _, _, _, _, _, _, hT1, hn1, Z.ok0, hS, rfl⟩
    · clear hS hT0 hT1 hn1
      rintro j σ' H' hj ⟨Hb, q, v1, v2, v3, v4, v5, v6, v7, v8, v9, v11, v12, v13, hT, hn, hq, hS, rfl⟩
      walk_at "zS14"
      refine use_DD () hS ⟨by first | assumption | (simp; done) | exact List.mem_cons_of_mem _ (by assumption) | exact List.mem_cons_of_mem _ (List.mem_cons_of_mem _ (by assumption)), by first | exact .inr (by assumption) | exact .inl (by simp)⟩ hq hl DtL.nil' trivial ?_
      clear hS hq; intro d w1 q H hres hq hS
      obtain ⟨ks, rfl, gg⟩ := hres
      (try simp only [List.cons_append, List.nil_append] at hS)
      walk_at "zS14"
      refine use_DD (ks, 9) hS ⟨by first | assumption | (simp; done) | exact List.mem_cons_of_mem _ (by assumption) | exact List.mem_cons_of_mem _ (List.mem_cons_of_mem _ (by assumption)), by first | exact .inr (by assumption) | exact .inl (by simp)⟩ hq hl (DtL.cons' (hS.d 1 rfl) (DtL.cons' Dt.int' DtL.nil')) ⟨gg, by show (1 : Int) ≤ 9; decide, by show (9 : Int) ≤ 999; decide⟩ ?_
      clear hS hq; intro d w2 q H hres hq hS
      obtain ⟨pic, rfl, hp, -⟩ := hres
      (try simp only [List.cons_append, List.nil_append] at hS)
      dsimp only at hp
      obtain ⟨b2, rfl⟩ := (hS.d 2 rfl).refT
      walk_at "zS14"
      (refine use_taken hS ⟨by first | assumption | (simp; done) | exact List.mem_cons_of_mem _ (by assumption) | exact List.mem_cons_of_mem _ (List.mem_cons_of_mem _ (by assumption)), by first | exact .inr (by assumption) | exact .inl (by simp)⟩ hq hl (by omega) (by omega) ?_; clear hS hq; intro sr q H sr_0 sr_1 hq hS)
      walk_at "zS14"
      refine use_DD (pic, decide (sr = 0)) hS ⟨by first | assumption | (simp; done) | exact List.mem_cons_of_mem _ (by assumption) | exact List.mem_cons_of_mem _ (List.mem_cons_of_mem _ (by assumption)), by first | exact .inr (by assumption) | exact .inl (by simp)⟩ hq hl (DtL.cons' (hS.d 2 rfl) (DtL.cons' ?_ DtL.nil')) ⟨ks, hp⟩ ?_
      · show Dt K [r] H (.bool (decide (sr = 0))) _
        rw [show decide (V.int sr = V.int 0) = decide (sr = 0) by simp]
        exact Dt.bl'
      clear hS hq; intro d w3 q H hres hq hS
      obtain ⟨ss, rfl, hss, -⟩ := hres
      (try simp only [List.cons_append, List.nil_append] at hS)
      obtain ⟨b3, rfl⟩ := (hS.d 3 rfl).refL
      have hpl := hp.2.2.2.1
      have hpl4 : (piecesF pic.cells).length ≤ 4 := by unfold piecesF pieceN; rw [List.length_map, List.length_range]; omega
      walk_at "zS14"
      refine d_ixTT hS (hS.d 2 rfl) (es := pic.cells.map .int) rfl ?_
      clear hS; intro c2 hS
      (try simp only [List.cons_append, List.nil_append] at hS)
      walk_at "zS14"
      refine use_E pic.cells hS (.inr (hS.d 4 rfl)) (by omega) ?_
      clear hS; intro v4 H hS
      (try simp only [List.cons_append, List.nil_append] at hS)
      obtain ⟨b5, rfl⟩ := (hS.d 5 rfl).refL
      obtain ⟨zs, s5, r5⟩ := (hS.d 5 rfl).lst
      have hzl : zs.length = (piecesF pic.cells).length := by rw [r5.len, List.length_map]
      walk_at "zS14"
      refine ⟨_, rfl, ⟨_, s5.1⟩, ?_⟩
      refine lcW_zip (y := fun i x => zs[i]? = some x) (n := (piecesF pic.cells).length) (by rw [← hzl]; exact walk_list) hS (fun D H' hD f => f.sl (fun z => nomatch z) s5.1) (by omega) (fun i => tripD (titleF ((piecesF pic.cells).getD i []))) ?_ ?_
      · intro i x D acc Ds' H' Q' hi hx hD hS kk
        obtain ⟨pc, hpc⟩ := at_lt hi
        obtain ⟨x', hx', w⟩ := r5.at (at_map hpc)
        rw [hx] at hx'; cases hx'
        have w := (w.cons hD).mono (hS.fr.wk (fun _ z => nomatch z))
        obtain ⟨px, rfl⟩ := w.refT
        have hcl := piece_len (List.mem_of_getElem? hpc)
        walk_at "zS14"
        refine du_title hS (.inr w) (by omega) ?_
        clear hS; intro t H2 hS
        refine kk _ _ (hS.subD (fun x hx => List.mem_append_left _ hx)) ?_
        rw [show (piecesF pic.cells).getD i [] = pc by simp [hpc]]
        exact hS.dat _ (List.mem_append_right _ (List.mem_singleton.mpr rfl))
      clear hS; intro D H ts0 hD htl hS
      rw [range_map_get (fun c => tripD (titleF c)) (piecesF pic.cells) []] at hS
      walk_at "zS14"
      refine d_tup hS (by simp) (DtL.cons' Dt.int' (DtL.cons' Dt.int' (DtL.cons' Dt.int' DtL.nil'))) ?_
      clear hS; intro t1 H hS
      walk_at "zS14"
      have hpd : Dt K [r] H (picD pic) (.ref b2) := hS.dat (picD pic, .ref b2) (by simp)
      refine d_ixTT hS hpd (es := pic.cells.map .int) rfl ?_
      clear hS hpd; intro c3 hS
      walk_at "zS14"
      have hcd : Dt K [r] H (.tuple (pic.cells.map .int)) (.ref c3) := hS.dat (.tuple (pic.cells.map .int), .ref c3) (by simp)
      refine du_title hS (.inr hcd) (by omega) ?_
      clear hS hcd; intro t2 H hS
      walk_at "zS14"
      (refine ⟨by simp only [List.length_cons, List.length_nil]; decide, n_al hS ?_⟩; clear hS; intro e2 H e2_n e2_0 hS; simp only [List.cons_append, List.nil_append] at hS)
      refine n_catS (hS.sl 1 rfl) (hS.sl 2 rfl) (by simp; omega) ?_
      obtain ⟨ts, hts⟩ : ∃ ts : List (Int × Int × Int), ts = (piecesF pic.cells).map titleF ++ [(1, 1, 1), titleF pic.cells] := ⟨_, rfl⟩
      have htd : DtL K [r] H (ts.map tripD) (ts0 ++ [V.ref t1, V.ref t2]) := by
        rw [hts, List.map_append]
        refine DtL.append (DtL.of_zip (by rw [htl, List.length_map, List.length_map]) fun x hx => hS.dat x (by
          rw [List.map_map] at hx
          have hx : x ∈ ((piecesF pic.cells).map fun c => tripD (titleF c)).zip ts0 := hx
          simp only [List.mem_append, List.mem_cons, List.cons_append, List.nil_append]
          simp [hx])) (DtL.cons' (hS.dat (tripD (1, 1, 1), .ref t1) (by simp)) (DtL.cons' (hS.dat (tripD (titleF pic.cells), .ref t2) (by simp)) DtL.nil'))
      refine d_newL hS htd ?_
      have htl7 : 2 ≤ ts.length ∧ ts.length ≤ 6 := by rw [hts, List.length_append, List.length_map]; simp; omega
      clear hS htd; intro et H hS
      have hS := (hS.sub (L' := [(r, rowO a q)]) (by walk_at "zsub")).subD (Ds' := [(script ns, .ref a), (keysD ks, w1), (picD pic, .ref b2), (storesD ss, .ref b3), (.list (ts.map tripD), .ref et)]) (by simp)
      clear hD htl
      walk_at "zS14"
      obtain ⟨es, se, -⟩ := (hS.d 4 rfl).lst
      refine ⟨et, rfl, ⟨_, se.1⟩, ?_⟩
      refine for_dataL (hS.d 4 rfl) (fun _ σ' H' => ∃ (v5 v6 v13 : Option V), Sy K ⟨H, []⟩ [r] H' [(r, rowO a q)] [(script ns, .ref a), (keysD ks, w1), (picD pic, .ref b2), (storesD ss, .ref b3), (.list (ts.map tripD), .ref et)] ∧
        σ' = [some (.ref a), some (.int (0 + (j : Int))), some w1, some (.ref b2), some (.ref b3), v5, v6, v7, v8, v9, some (.ref r), some (.ref et), v12, v13]) ⟨_, _, _, hS.from [] (fun b hb => nomatch hb), rfl⟩ (fun _ _ _ ⟨_, _, _, z, _⟩ => z.fr.wk (fun _ z => nomatch z)) ?_ ?_
      · clear hq
        have hSb := hS
        clear hS
        rintro j2 d x σ' H2 hd hdx ⟨v5, v6, v13, hS, rfl⟩
        obtain ⟨t, ht, rfl⟩ := of_map hd
        have hS := hS.addD hdx
        (try simp only [List.cons_append, List.nil_append] at hS)
        obtain ⟨bt, rfl⟩ := hdx.refT
        walk_at "zS14"
        obtain ⟨vs3, s3, -⟩ := (hS.d 3 rfl).lst
        refine ⟨_, rfl, ⟨_, s3.1⟩, ?_⟩
        refine lcD_data hS (hS.d 3 rfl) (by rw [List.length_map]; have := hss.2.1; omega) (fun i => (ss.map storeD).getD i .none) ?_ ?_
        · intro i2 d2 x2 D2 acc2 Ds2 H3 Q2 hd2 w0 w hS kk2
          obtain ⟨st, hst, rfl⟩ := of_map hd2
          obtain ⟨bx, rfl⟩ := Dt.refL w
          walk_at "zS14"
          refine d_listL hS w ?_
          clear hS; intro p5 H5 hS
          refine kk2 _ _ (hS.subD (fun x hx => List.mem_append_left _ hx)) ?_
          rw [show (ss.map storeD).getD i2 .none = storeD st by simp only [List.getD_eq_getElem?_getD, List.getElem?_map, hst, Option.map_some, Option.getD_some]]
          exact hS.dat _ (List.mem_append_right _ (List.mem_singleton.mpr rfl))
        clear hS; intro D2 H3 hS
        rw [rng_get _ _ rfl] at hS
        (try simp only [List.cons_append, List.nil_append] at hS)
        walk_at "zS14"
        refine ⟨[r], ss.map (·.map emb), _, _, rfl, hS.dom, by rw [gstsD_emb]; exact hS.d 6 rfl, (emb_sizes hss).1, (emb_sizes hss).2, .inl ⟨ss, t, rfl, hss, badF_good hss, hS.d 5 rfl, fun w4 H4 f hw4 => ?_⟩⟩
        have hS := (hS.ex f).addD hw4
        (try simp only [List.cons_append, List.nil_append] at hS)
        walk_at "zS14"
        refine use_D (ss, t) hS (DtL.cons' (hS.d 3 rfl) (DtL.cons' (hS.d 5 rfl) DtL.nil')) hss ?_
        clear hS f hw4; intro w5 H5 hS
        (try simp only [List.cons_append, List.nil_append] at hS)
        walk_at "zS14"
        refine use_alike hS (askD (askF ss t)) ((hS.d 7 rfl).wk (fun _ z => nomatch z)) ((hS.d 8 rfl).wk (fun _ z => nomatch z)) (askD_dep _) (askD_ok hss) ?_
        clear hS; intro H6 hS
        walk_at "zS14"
        refine d_neS (d := storesD ss) (hS.d 6 rfl) (hS.d 3 rfl) (sh_stores _) ?_
        walk_at "zS14"
        exact ⟨_, _, _, hS.subD (by simp), rfl⟩
      · rintro σ' H2 ⟨v5, v6, v13, hS2, rfl⟩
        have hS := hS.into hS2 (fun b hb => nomatch hb)
        clear hS2
        have hts0 : (ts.map tripD)[(0 : Int).toNat]? = some (tripD (ts.getD 0 (0, 0, 0))) := by
          cases ts with
          | nil => simp at htl7
          | cons a t => rfl
        walk_at "zS14"
        refine d_ixLT hS (hS.d 4 rfl) (es := [.int (ts.getD 0 (0, 0, 0)).1, .int (ts.getD 0 (0, 0, 0)).2.1, .int (ts.getD 0 (0, 0, 0)).2.2]) (atI_int (by decide) hts0) ?_
        clear hS; intro b7 hS
        (try simp only [List.cons_append, List.nil_append] at hS)
        generalize ts.getD 0 (0, 0, 0) = t0 at hts0 hS
        walk_at "zS14"
        (refine use_draw hS ⟨by first | assumption | (simp; done) | exact List.mem_cons_of_mem _ (by assumption) | exact List.mem_cons_of_mem _ (List.mem_cons_of_mem _ (by assumption)), by first | exact .inr (by assumption) | exact .inl (by simp)⟩ hq hl ?_; clear hS hq; intro w q H w_c hq hS)
        walk_at "zS14"
        refine d_tup hS (by simp) (DtL.cons' Dt.int' DtL.nil') ?_
        clear hS; intro z1 H hS
        (try simp only [List.cons_append, List.nil_append] at hS)
        walk_at "zS14"
        refine d_tup hS (by simp) (DtL.cons' (hS.d 5 rfl) (DtL.cons' (hS.d 6 rfl) DtL.nil')) ?_
        clear hS; intro z2 H hS
        (try simp only [List.cons_append, List.nil_append] at hS)
        walk_at "zS14"
        (refine ⟨by simp only [List.length_cons, List.length_nil]; decide, n_al hS ?_⟩; clear hS; intro e1 H e1_n e1_0 hS; simp only [List.cons_append, List.nil_append] at hS)
        walk_at "zS14"
        refine n_rep (hS.get 1 rfl) (by omega) (by omega) (by simp) ?_
        refine d_newL (xs := List.replicate 40 (.ref z2)) hS (dtl_rep (hS.d 7 rfl) 40) ?_
        clear hS; intro z3 H hS
        (try simp only [List.cons_append, List.nil_append] at hS)
        walk_at "zS14"
        (refine ⟨by simp only [List.length_cons, List.length_nil]; decide, n_al hS ?_⟩; clear hS; intro e2 H e2_n e2_0 hS; simp only [List.cons_append, List.nil_append] at hS)
        walk_at "zS14"
        refine n_rep (hS.get 2 rfl) (by omega) (by omega) (by simp) ?_
        refine d_newL (xs := List.replicate 4 (.ref z3)) hS (dtl_rep (hS.d 8 rfl) 4) ?_
        clear hS; intro z4 H hS
        (try simp only [List.cons_append, List.nil_append] at hS)
        walk_at "zS14"
        obtain ⟨lo, hlo⟩ : ∃ lo : List (List Row), lo = List.replicate 4 (List.replicate 40 (t0, [w])) := ⟨_, rfl⟩
        have hld : Dt K [r] H (storesD lo) (.ref z4) := by rw [hlo]; unfold storesD; rw [List.map_replicate]; unfold storeD; rw [List.map_replicate]; exact hS.d 9 rfl
        have hlg : gStores lo := by
          rw [hlo]
          refine ⟨by simp, by simp, fun st hst => ?_⟩
          rw [(List.mem_replicate.mp hst).2]
          refine ⟨by simp, fun x hx => ?_⟩
          rw [(List.mem_replicate.mp hx).2]
          refine ⟨by simp, by simp, fun n hn => ?_⟩
          rw [List.mem_singleton.mp hn]; omega
        clear hlo
        have hS := ((hS.sub (L' := [(r, rowO a q)]) (by walk_at "zsub")).addD hld).subD (Ds' := [(script ns, .ref a), (keysD ks, w1), (picD pic, .ref b2), (storesD ss, .ref b3), (.list (ts.map tripD), .ref et), (storesD lo, .ref z4)]) (by simp)
        clear hld
        refine d_ixLT hS (hS.d 4 rfl) (es := [.int t0.1, .int t0.2.1, .int t0.2.2]) (atI_int (by decide) hts0) ?_
        clear hS; intro b8 hS
        (try simp only [List.cons_append, List.nil_append] at hS)
        walk_at "zS14"
        refine ⟨[r], lo.map (·.map emb), _, _, rfl, hS.dom, by rw [gstsD_emb]; exact hS.d 5 rfl, (emb_sizes hlg).1, (emb_sizes hlg).2, .inl ⟨lo, t0, rfl, hlg, badF_good hlg, hS.d 6 rfl, fun w4 H4 f hw4 => ?_⟩⟩
        have hS := (hS.ex f).addD hw4
        (try simp only [List.cons_append, List.nil_append] at hS)
        walk_at "zS14"
        refine d_ixLT hS (hS.d 4 rfl) (es := [.int t0.1, .int t0.2.1, .int t0.2.2]) (atI_int (by decide) hts0) ?_
        clear hS f hw4; intro b9 hS
        (try simp only [List.cons_append, List.nil_append] at hS)
        walk_at "zS14"
        refine use_D (lo, t0) hS (DtL.cons' (hS.d 5 rfl) (DtL.cons' (hS.d 8 rfl) DtL.nil')) hlg ?_
        clear hS; intro w5 H5 hS
        (try simp only [List.cons_append, List.nil_append] at hS)
        walk_at "zS14"
        refine use_alike hS (askD (askF lo t0)) ((hS.d 7 rfl).wk (fun _ z => nomatch z)) ((hS.d 9 rfl).wk (fun _ z => nomatch z)) (askD_dep _) (askD_ok hlg) ?_
        clear hS; intro H hS
        walk_at "zS14"
        have hS := hS.subD (Ds' := [(script ns, .ref a), (keysD ks, w1), (picD pic, .ref b2), (storesD ss, .ref b3), (.list (ts.map tripD), .ref et)]) (by simp)
        obtain ⟨sv, s6, r6⟩ := (hS.d 3 rfl).lst
        have hsl : sv.length = ss.length := by rw [r6.len, List.length_map]
        have hs1 := hss.1
        have hs4 := hss.2.1
        refine n_len (.inl s6.1) ?_
        rw [hsl]
        walk_at "zS14"
        (refine use_taken hS ⟨by first | assumption | (simp; done) | exact List.mem_cons_of_mem _ (by assumption) | exact List.mem_cons_of_mem _ (List.mem_cons_of_mem _ (by assumption)), by first | exact .inr (by assumption) | exact .inl (by simp)⟩ hq hl (by omega) (by omega) ?_; clear hS hq; intro at_ q H at__0 at__1 hq hS)
        clear s6 r6
        walk_at "zS14"
        refine d_slL hS (hS.d 3 rfl) ?_
        clear hS; intro f1 H hS
        rw [cutG_to (by omega)] at hS
        (try simp only [List.cons_append, List.nil_append] at hS)
        walk_at "zS14"
        refine use_DD () hS ⟨by first | assumption | (simp; done) | exact List.mem_cons_of_mem _ (by assumption) | exact List.mem_cons_of_mem _ (List.mem_cons_of_mem _ (by assumption)), by first | exact .inr (by assumption) | exact .inl (by simp)⟩ hq hl DtL.nil' trivial ?_
        clear hS hq; intro d wo q H hres hq hS
        obtain ⟨od, rfl, hosm, hobad⟩ := hres
        (try simp only [List.cons_append, List.nil_append] at hS)
        walk_at "zS14"
        refine d_lst hS (by simp) (DtL.cons' (hS.d 6 rfl) DtL.nil') ?_
        clear hS; intro f2 H hS
        (try simp only [List.cons_append, List.nil_append] at hS)
        walk_at "zS14"
        refine d_catS hS (hS.d 5 rfl) (hS.d 7 rfl) (by simp; omega) ?_
        clear hS; intro f3 H hS
        (try simp only [List.cons_append, List.nil_append] at hS)
        walk_at "zS14"
        refine d_slL hS (hS.d 3 rfl) ?_
        clear hS; intro f4 H hS
        rw [cutG_from (by omega)] at hS
        (try simp only [List.cons_append, List.nil_append] at hS)
        walk_at "zS14"
        refine d_catS hS (hS.d 8 rfl) (hS.d 9 rfl) (by simp; omega) ?_
        clear hS; intro f5 H hS
        (try simp only [List.cons_append, List.nil_append] at hS)
        walk_at "zS14"
        refine d_tup hS (by simp) DtL.nil' ?_
        clear hS; intro f6 H hS
        (try simp only [List.cons_append, List.nil_append] at hS)
        walk_at "zS14"
        refine d_tup hS (by simp) DtL.nil' ?_
        clear hS; intro f7 H hS
        (try simp only [List.cons_append, List.nil_append] at hS)
        walk_at "zS14"
        refine d_tup hS (by simp) (DtL.cons' (hS.d 11 rfl) (DtL.cons' (hS.d 12 rfl) DtL.nil')) ?_
        clear hS; intro f8 H hS
        (try simp only [List.cons_append, List.nil_append] at hS)
        walk_at "zS14"
        refine d_lst hS (by simp) (DtL.cons' (hS.d 13 rfl) DtL.nil') ?_
        clear hS; intro f9 H hS
        (try simp only [List.cons_append, List.nil_append] at hS)
        walk_at "zS14"
        (refine ⟨by simp only [List.length_cons, List.length_nil]; decide, n_al hS ?_⟩; clear hS; intro e3 H e3_n e3_0 hS; simp only [List.cons_append, List.nil_append] at hS)
        walk_at "zS14"
        (refine use_taken hS ⟨by first | assumption | (simp; done) | exact List.mem_cons_of_mem _ (by assumption) | exact List.mem_cons_of_mem _ (List.mem_cons_of_mem _ (by assumption)), by first | exact .inr (by assumption) | exact .inl (by simp)⟩ hq hl (by omega) (by omega) ?_; clear hS hq; intro x2 q H x2_0 x2_1 hq hS)
        refine d_rep1 hS (hS.get 1 rfl) (hS.d 14 rfl) (by omega) (by omega) (by omega) ?_
        clear hS; intro f10 H hS
        (try simp only [List.cons_append, List.nil_append] at hS)
        refine d_catS hS (hS.d 10 rfl) (hS.d 15 rfl) (by simp; omega) ?_
        clear hS; intro f11 H hS
        (try simp only [List.cons_append, List.nil_append] at hS)
        obtain ⟨A0, hA0⟩ : ∃ A0 : List (List GRow), A0 = (ss.map (·.map emb)).take at_.toNat := ⟨_, rfl⟩
        obtain ⟨B0, hB0⟩ : ∃ B0 : List (List GRow), B0 = (ss.map (·.map emb)).drop (at_ + 1).toNat ++ List.replicate x2.toNat [([], [])] := ⟨_, rfl⟩
        obtain ⟨es1, es2⟩ := emb_sizes hss
        have hA1 : ∀ st ∈ A0, isSt st = true := fun st hst => by
          rw [hA0] at hst
          obtain ⟨s0, hs0, rfl⟩ := List.mem_map.mp (List.mem_of_mem_take hst)
          exact isSt_emb (hss.2.2 s0 hs0)
        have hAl : A0.length = at_.toNat := by rw [hA0, List.length_take, List.length_map]; omega
        have hsmA : ∀ st ∈ A0, small st := fun st hst => by rw [hA0] at hst; exact es2 st (List.mem_of_mem_take hst)
        have hsmB : ∀ st ∈ B0, small st := fun st hst => by
          rw [hB0] at hst
          rcases List.mem_append.mp hst with z | z
          · exact es2 st (List.mem_of_mem_drop z)
          · rw [(List.mem_replicate.mp z).2]
            exact ⟨by decide, fun x hx => by rw [List.mem_singleton.mp hx]; decide⟩
        have hod : Dt K [r] H (gstsD (A0 ++ od :: B0)) (.ref f11) := by
          have h0 := hS.d 16 rfl
          rw [take_emb, drop_emb, ← hA0] at h0
          rw [hB0]
          unfold gstsD
          simp only [List.map_append, List.map_cons, List.map_replicate, List.map_nil, List.append_assoc, List.cons_append, List.nil_append] at h0 ⊢
          exact h0
        have hS := ((hS.sub (L' := [(r, rowO a q)]) (by walk_at "zsub")).addD hod).subD (Ds' := [(script ns, .ref a), (.list (ts.map tripD), .ref et), (gstsD (A0 ++ od :: B0), .ref f11)]) (by simp)
        have hbf : badF ((A0 ++ od :: B0).take 4) = some at_.toNat := by rw [badF_at hobad hA1 (by omega), hAl]
        have hsm4 : ∀ st ∈ (A0 ++ od :: B0).take 4, small st := fun st hst => by
          rcases List.mem_append.mp (List.mem_of_mem_take hst) with z | z
          · exact hsmA st z
          · rcases List.mem_cons.mp z with rfl | z
            · exact hosm
            · exact hsmB st z
        clear hod hA0 hB0 es1 es2 hA1 hAl hsmA hsmB
        generalize A0 ++ od :: B0 = gs0 at hS hbf hsm4
        have hts0 : (ts.map tripD)[(0 : Int).toNat]? = some (tripD t0) := hts0
        have ha4 : at_ < 4 := by omega
        walk_at "zS14"
        refine use_lam [r] hS hT hn (fun x hx => ?_) (by simp) (by simp) fun H1 hS hT hn => ?_
        · rw [List.mem_singleton.mp hx]; exact plain_lst
        try unfold TT__law_number
        dsimp only
        walk_at "zS14"
        rw [if_pos (decide_eq_true ha4)]
        walk_at "zS14"
        refine d_slL hS (hS.d 2 rfl) ?_
        clear hS; intro g1 H hS
        rw [cutG_to (by decide)] at hS
        (try simp only [List.cons_append, List.nil_append] at hS)
        walk_at "zS14"
        refine d_ixLT hS (hS.d 1 rfl) (es := [.int t0.1, .int t0.2.1, .int t0.2.2]) (atI_int (by decide) hts0) ?_
        clear hS; intro g2 hS
        (try simp only [List.cons_append, List.nil_append] at hS)
        refine ⟨[r], gs0.take 4, _, _, rfl, hS.dom, by unfold gstsD; rw [List.map_take]; exact hS.d 3 rfl, by rw [List.length_take]; omega, hsm4, .inr ⟨_, hbf, fun d H3 f hd hd1 => ⟨rfl, d, _, rfl, hd1, fun H f2 => ?_⟩⟩⟩
        have hS := ((hS.ex f).ex f2).subD (Ds' := [(script ns, .ref a), (.list (ts.map tripD), .ref et)]) (by simp)
        clear hd1 hd f f2
        walk_at "zS14"
        rw [show (!decide (V.int (at_.toNat : Int) = V.int at_)) = false by rw [Bool.not_eq_false', decide_eq_true_eq]; congr 1; omega, if_neg (by decide)]
        walk_at "zS14"
        refine use_lam [r] hS hT hn (fun x hx => ?_) (by simp) (by simp) fun H2 hS hT hn => ?_
        · rw [List.mem_singleton.mp hx]; exact plain_lst
        try unfold TT__law_number
        dsimp only
        walk_at "zS14"
        refine d_lst hS (by simp) DtL.nil' ?_
        clear hS; intro h1 H hS
        (try simp only [List.cons_append, List.nil_append] at hS)
        walk_at "zS14"
        (refine ⟨by simp only [List.length_cons, List.length_nil]; decide, n_al hS ?_⟩; clear hS; intro e4 H e4_n e4_0 hS; simp only [List.cons_append, List.nil_append] at hS)
        walk_at "zS14"
        (refine use_taken hS ⟨by first | assumption | (simp; done) | exact List.mem_cons_of_mem _ (by assumption) | exact List.mem_cons_of_mem _ (List.mem_cons_of_mem _ (by assumption)), by first | exact .inr (by assumption) | exact .inl (by simp)⟩ hq hl (by omega) (by omega) ?_; clear hS hq; intro x3 q H x3_0 x3_1 hq hS)
        walk_at "zS14"
        refine d_rep1 hS (hS.get 1 rfl) (hS.d 2 rfl) (by omega) (by omega) (by omega) ?_
        clear hS; intro h2 H hS
        (try simp only [List.cons_append, List.nil_append] at hS)
        have hS := hS.sub (L' := [(r, rowO a q)]) (by walk_at "zsub")
        walk_at "zS14"
        refine d_ixLT hS (hS.d 1 rfl) (es := [.int t0.1, .int t0.2.1, .int t0.2.2]) (atI_int (by decide) hts0) ?_
        clear hS; intro h3 hS
        (try simp only [List.cons_append, List.nil_append] at hS)
        have hg5 : Dt K [r] H (gstsD (List.replicate (5 + x3).toNat [])) (.ref h2) := by
          unfold gstsD
          rw [List.map_replicate]
          exact hS.d 3 rfl
        refine ⟨[r], List.replicate (5 + x3).toNat [], _, _, rfl, hS.dom, hg5, by rw [List.length_replicate]; omega, fun st hst => by rw [(List.mem_replicate.mp hst).2]; exact small_nil, .inr ⟨_, badF_many (by omega), fun d H3 f hd hd1 => ⟨rfl, d, _, rfl, hd1, fun H f2 => ?_⟩⟩⟩
        have hS := ((hS.ex f).ex f2).subD (Ds' := [(script ns, .ref a), (.list (ts.map tripD), .ref et)]) (by simp)
        clear hd1 hd f f2 hg5
        walk_at "zS14"
        refine use_lam [r] hS hT hn (fun x hx => ?_) (by simp) (by simp) fun H2 hS hT hn => ?_
        · rw [List.mem_singleton.mp hx]; exact plain_lst
        try unfold TT__law_number
        dsimp only
        walk_at "zS14"
        refine d_lst hS (by simp) DtL.nil' ?_
        clear hS; intro h1 H hS
        (try simp only [List.cons_append, List.nil_append] at hS)
        walk_at "zS14"
        refine d_ixLT hS (hS.d 1 rfl) (es := [.int t0.1, .int t0.2.1, .int t0.2.2]) (atI_int (by decide) hts0) ?_
        clear hS; intro h3 hS
        (try simp only [List.cons_append, List.nil_append] at hS)
        refine ⟨[r], [], _, _, rfl, hS.dom, hS.d 2 rfl, by decide, (fun _ z => nomatch z), .inr ⟨_, rfl, fun d H3 f hd hd1 => ⟨rfl, d, _, rfl, hd1, fun H f2 => ?_⟩⟩⟩
        have hS := ((hS.ex f).ex f2).subD (Ds' := [(script ns, .ref a), (.list (ts.map tripD), .ref et)]) (by simp)
        clear hd1 hd f f2
        walk_at "zS14"
        refine d_lst hS (by simp) DtL.nil' ?_
        clear hS; intro h1 H hS
        (try simp only [List.cons_append, List.nil_append] at hS)
        walk_at "zS14"
        (refine ⟨by simp only [List.length_cons, List.length_nil]; decide, n_al hS ?_⟩; clear hS; intro e5 H e5_n e5_0 hS; simp only [List.cons_append, List.nil_append] at hS)
        walk_at "zS14"
        refine d_rep1 hS (hS.get 1 rfl) (hS.d 2 rfl) (by omega) (by omega) (by decide) ?_
        clear hS; intro h2 H hS
        (try simp only [List.cons_append, List.nil_append] at hS)
        walk_at "zS14"
        refine d_ixLT hS (hS.d 1 rfl) (es := [.int t0.1, .int t0.2.1, .int t0.2.2]) (atI_int (by decide) hts0) ?_
        clear hS; intro h3 hS
        (try simp only [List.cons_append, List.nil_append] at hS)
        have hS := hS.sub (L' := [(r, rowO a q)]) (by walk_at "zsub")
        refine ⟨[r], List.replicate 4 [], _, _, rfl, hS.dom, hS.d 3 rfl, by decide, fun st hst => by rw [(List.mem_replicate.mp hst).2]; exact small_nil, .inl ⟨List.replicate 4 [], t0, rfl, ⟨by simp, by simp, fun st hst => by rw [(List.mem_replicate.mp hst).2]; exact ⟨by simp, fun _ z => nomatch z⟩⟩, badF_four, hS.d 4 rfl, fun w4 H4 f hw4 => ?_⟩⟩
        have hS := (hS.ex f).addD hw4
        (try simp only [List.cons_append, List.nil_append] at hS)
        clear f hw4
        walk_at "zS14"
        refine d_tup hS (by simp) (DtL.cons' Dt.non' (DtL.cons' Dt.int' DtL.nil')) ?_
        clear hS; intro h5 H hS
        (try simp only [List.cons_append, List.nil_append] at hS)
        refine d_neS (d := .tuple [.none, .int 0]) (hS.d 5 rfl) (hS.d 6 rfl) (by decide +kernel) ?_
        walk_at "zS14"
        exact ⟨H2, q, _, _, _, _, _, _, _, _, _, _, _, _, hT, hn, hq, hS.subD (by simp), rfl⟩
    · clear hS
      rintro σ' H ⟨Hb, q, v1, v2, v3, v4, v5, v6, v7, v8, v9, v11, v12, v13, hT, hn, hq, hS, rfl⟩
      walk_at "zS14"
      exact k H
end
/-! ### the end -/
theorem all_mk {l : PySem.W.OpenLaw} {w : World} {K : PySem.W.Frag} {h : Heap} {mg : Str → Option Value} {fa f0 f1 f2 f3 f4 f5 f6 f7 f8 f9 f10 f11 f12 f13 f14 f15 f16 f17 f18 f19 f20 f21 C_BadKeys C_BadManifest C_BadPicture C_BadStores C_ImageError : Addr} (X : K.In h) (G : h.Ns mainGlobals mg) (hfa : mg "law" = some (.ref fa)) (own : LamX.OwnTab K fa h)
    {od0 an0 od1 an1 od2 an2 od3 an3 od4 an4 od5 an5 od6 an6 od7 an7 od8 an8 od9 an9 od10 an10 od11 an11 od12 an12 od13 an13 od14 an14 od15 an15 od16 an16 od17 an17 od18 an18 od19 an19 od20 an20 od21 an21 : Option Addr} {sl0 sl1 sl2 sl3 sl4 sl5 sl6 sl7 sl8 sl9 sl10 sl11 sl12 sl13 sl14 sl15 sl16 sl17 sl18 sl19 sl20 sl21 : Array (Option Value)} {oc0 kV0 dc0 pm0 cd0 ct0 oc1 kV1 dc1 pm1 cd1 ct1 oc2 kV2 dc2 pm2 cd2 ct2 oc3 kV3 dc3 pm3 cd3 ct3 oc4 kV4 dc4 pm4 cd4 ct4 oc5 kV5 dc5 pm5 cd5 ct5 oc6 kV6 dc6 pm6 cd6 ct6 oc7 kV7 dc7 pm7 cd7 ct7 oc8 kV8 dc8 pm8 cd8 ct8 oc9 kV9 dc9 pm9 cd9 ct9 oc10 kV10 dc10 pm10 cd10 ct10 oc11 kV11 dc11 pm11 cd11 ct11 oc12 kV12 dc12 pm12 cd12 ct12 oc13 kV13 dc13 pm13 cd13 ct13 oc14 kV14 dc14 pm14 cd14 ct14 oc15 kV15 dc15 pm15 cd15 ct15 oc16 kV16 dc16 pm16 cd16 ct16 oc17 kV17 dc17 pm17 cd17 ct17 oc18 kV18 dc18 pm18 cd18 ct18 oc19 kV19 dc19 pm19 cd19 ct19 oc20 kV20 dc20 pm20 cd20 ct20 oc21 kV21 dc21 pm21 cd21 ct21 : Value} {cL_law tL_law : Addr} {t_MOST_ROWS t_MOST_STORES t_MOST_WORTH t_PIECE t_PRIME : Tok}
    (n0 : PySem.W.nsIn K mainGlobals "_law_taken" = some (some (.ref f0)))
    (l0 : K.lookup f0 = some ⟨oc0, od0, .func (PySem.W.fnOf "_law_taken" "_law_taken" (defArgs s__law_taken) (defBody s__law_taken) (defScope s__law_taken) .none kV0 dc0 pm0 an0 cd0 ct0), sl0⟩) (c0 : PySem.W.codeIn K cd0 "_law_taken" = true) (k0 : PySem.W.keepIn K (.ref f0) = true)
    (n1 : PySem.W.nsIn K mainGlobals "_law_keys" = some (some (.ref f1)))
    (l1 : K.lookup f1 = some ⟨oc1, od1, .func (PySem.W.fnOf "_law_keys" "_law_keys" (defArgs s__law_keys) (defBody s__law_keys) (defScope s__law_keys) .none kV1 dc1 pm1 an1 cd1 ct1), sl1⟩) (c1 : PySem.W.codeIn K cd1 "_law_keys" = true) (k1 : PySem.W.keepIn K (.ref f1) = true)
    (n2 : PySem.W.nsIn K mainGlobals "_law_worth" = some (some (.ref f2)))
    (l2 : K.lookup f2 = some ⟨oc2, od2, .func (PySem.W.fnOf "_law_worth" "_law_worth" (defArgs s__law_worth) (defBody s__law_worth) (defScope s__law_worth) .none kV2 dc2 pm2 an2 cd2 ct2), sl2⟩) (c2 : PySem.W.codeIn K cd2 "_law_worth" = true) (k2 : PySem.W.keepIn K (.ref f2) = true)
    (n3 : PySem.W.nsIn K mainGlobals "_law_picture" = some (some (.ref f3)))
    (l3 : K.lookup f3 = some ⟨oc3, od3, .func (PySem.W.fnOf "_law_picture" "_law_picture" (defArgs s__law_picture) (defBody s__law_picture) (defScope s__law_picture) .none kV3 dc3 pm3 an3 cd3 ct3), sl3⟩) (c3 : PySem.W.codeIn K cd3 "_law_picture" = true) (k3 : PySem.W.keepIn K (.ref f3) = true)
    (n4 : PySem.W.nsIn K mainGlobals "_law_pieces" = some (some (.ref f4)))
    (l4 : K.lookup f4 = some ⟨oc4, od4, .func (PySem.W.fnOf "_law_pieces" "_law_pieces" (defArgs s__law_pieces) (defBody s__law_pieces) (defScope s__law_pieces) .none kV4 dc4 pm4 an4 cd4 ct4), sl4⟩) (c4 : PySem.W.codeIn K cd4 "_law_pieces" = true) (k4 : PySem.W.keepIn K (.ref f4) = true)
    (n5 : PySem.W.nsIn K mainGlobals "_law_sums" = some (some (.ref f5)))
    (l5 : K.lookup f5 = some ⟨oc5, od5, .func (PySem.W.fnOf "_law_sums" "_law_sums" (defArgs s__law_sums) (defBody s__law_sums) (defScope s__law_sums) .none kV5 dc5 pm5 an5 cd5 ct5), sl5⟩) (c5 : PySem.W.codeIn K cd5 "_law_sums" = true) (k5 : PySem.W.keepIn K (.ref f5) = true)
    (n6 : PySem.W.nsIn K mainGlobals "_law_title" = some (some (.ref f6)))
    (l6 : K.lookup f6 = some ⟨oc6, od6, .func (PySem.W.fnOf "_law_title" "_law_title" (defArgs s__law_title) (defBody s__law_title) (defScope s__law_title) .none kV6 dc6 pm6 an6 cd6 ct6), sl6⟩) (c6 : PySem.W.codeIn K cd6 "_law_title" = true) (k6 : PySem.W.keepIn K (.ref f6) = true)
    (n7 : PySem.W.nsIn K mainGlobals "_law_store" = some (some (.ref f7)))
    (l7 : K.lookup f7 = some ⟨oc7, od7, .func (PySem.W.fnOf "_law_store" "_law_store" (defArgs s__law_store) (defBody s__law_store) (defScope s__law_store) .none kV7 dc7 pm7 an7 cd7 ct7), sl7⟩) (c7 : PySem.W.codeIn K cd7 "_law_store" = true) (k7 : PySem.W.keepIn K (.ref f7) = true)
    (n8 : PySem.W.nsIn K mainGlobals "_law_stores" = some (some (.ref f8)))
    (l8 : K.lookup f8 = some ⟨oc8, od8, .func (PySem.W.fnOf "_law_stores" "_law_stores" (defArgs s__law_stores) (defBody s__law_stores) (defScope s__law_stores) .none kV8 dc8 pm8 an8 cd8 ct8), sl8⟩) (c8 : PySem.W.codeIn K cd8 "_law_stores" = true) (k8 : PySem.W.keepIn K (.ref f8) = true)
    (n9 : PySem.W.findIn K (.ref C_BadStores) "__init__" = some (some (.ref f9))) (i9 : PySem.W.isFn K (.ref f9) = true)
    (l9 : K.lookup f9 = some ⟨oc9, od9, .func (PySem.W.fnOf "__init__" "BadStores.__init__" (defArgs s_BadStores___init__) (defBody s_BadStores___init__) (defScope s_BadStores___init__) .none kV9 dc9 pm9 an9 cd9 ct9), sl9⟩) (c9 : PySem.W.codeIn K cd9 "BadStores.__init__" = true) (k9 : PySem.W.keepIn K (.ref f9) = true)
    (n10 : PySem.W.nsIn K mainGlobals "is_worth" = some (some (.ref f10)))
    (l10 : K.lookup f10 = some ⟨oc10, od10, .func (PySem.W.fnOf "is_worth" "is_worth" (defArgs s_is_worth) (defBody s_is_worth) (defScope s_is_worth) .none kV10 dc10 pm10 an10 cd10 ct10), sl10⟩) (c10 : PySem.W.codeIn K cd10 "is_worth" = true) (k10 : PySem.W.keepIn K (.ref f10) = true)
    (n11 : PySem.W.nsIn K mainGlobals "is_store" = some (some (.ref f11)))
    (l11 : K.lookup f11 = some ⟨oc11, od11, .func (PySem.W.fnOf "is_store" "is_store" (defArgs s_is_store) (defBody s_is_store) (defScope s_is_store) .none kV11 dc11 pm11 an11 cd11 ct11), sl11⟩) (c11 : PySem.W.codeIn K cd11 "is_store" = true) (k11 : PySem.W.keepIn K (.ref f11) = true)
    (n12 : PySem.W.nsIn K mainGlobals "need_stores" = some (some (.ref f12)))
    (l12 : K.lookup f12 = some ⟨oc12, od12, .func (PySem.W.fnOf "need_stores" "need_stores" (defArgs s_need_stores) (defBody s_need_stores) (defScope s_need_stores) .none kV12 dc12 pm12 an12 cd12 ct12), sl12⟩) (c12 : PySem.W.codeIn K cd12 "need_stores" = true) (k12 : PySem.W.keepIn K (.ref f12) = true)
    (n13 : PySem.W.nsIn K mainGlobals "sums" = some (some (.ref f13)))
    (l13 : K.lookup f13 = some ⟨oc13, od13, .func (PySem.W.fnOf "sums" "sums" (defArgs s_sums) (defBody s_sums) (defScope s_sums) .none kV13 dc13 pm13 an13 cd13 ct13), sl13⟩) (c13 : PySem.W.codeIn K cd13 "sums" = true) (k13 : PySem.W.keepIn K (.ref f13) = true)
    (n14 : PySem.W.nsIn K mainGlobals "name" = some (some (.ref f14)))
    (l14 : K.lookup f14 = some ⟨oc14, od14, .func (PySem.W.fnOf "name" "name" (defArgs s_name) (defBody s_name) (defScope s_name) .none kV14 dc14 pm14 an14 cd14 ct14), sl14⟩) (c14 : PySem.W.codeIn K cd14 "name" = true) (k14 : PySem.W.keepIn K (.ref f14) = true)
    (n15 : PySem.W.nsIn K mainGlobals "asked" = some (some (.ref f15)))
    (l15 : K.lookup f15 = some ⟨oc15, od15, .func (PySem.W.fnOf "asked" "asked" (defArgs s_asked) (defBody s_asked) (defScope s_asked) .none kV15 dc15 pm15 an15 cd15 ct15), sl15⟩) (c15 : PySem.W.codeIn K cd15 "asked" = true) (k15 : PySem.W.keepIn K (.ref f15) = true)
    (n16 : PySem.W.nsIn K mainGlobals "fetched" = some (some (.ref f16)))
    (l16 : K.lookup f16 = some ⟨oc16, od16, .func (PySem.W.fnOf "fetched" "fetched" (defArgs s_fetched) (defBody s_fetched) (defScope s_fetched) .none kV16 dc16 pm16 an16 cd16 ct16), sl16⟩) (c16 : PySem.W.codeIn K cd16 "fetched" = true) (k16 : PySem.W.keepIn K (.ref f16) = true)
    (n17 : PySem.W.nsIn K mainGlobals "_law_asked" = some (some (.ref f17)))
    (l17 : K.lookup f17 = some ⟨oc17, od17, .func (PySem.W.fnOf "_law_asked" "_law_asked" (defArgs s__law_asked) (defBody s__law_asked) (defScope s__law_asked) .none kV17 dc17 pm17 an17 cd17 ct17), sl17⟩) (c17 : PySem.W.codeIn K cd17 "_law_asked" = true) (k17 : PySem.W.keepIn K (.ref f17) = true)
    (n18 : PySem.W.nsIn K mainGlobals "_law_alike" = some (some (.ref f18)))
    (l18 : K.lookup f18 = some ⟨oc18, od18, .func (PySem.W.fnOf "_law_alike" "_law_alike" (defArgs s__law_alike) (defBody s__law_alike) (defScope s__law_alike) .none kV18 dc18 pm18 an18 cd18 ct18), sl18⟩) (c18 : PySem.W.codeIn K cd18 "_law_alike" = true) (k18 : PySem.W.keepIn K (.ref f18) = true)
    (n19 : PySem.W.nsIn K mainGlobals "_law_odd" = some (some (.ref f19)))
    (l19 : K.lookup f19 = some ⟨oc19, od19, .func (PySem.W.fnOf "_law_odd" "_law_odd" (defArgs s__law_odd) (defBody s__law_odd) (defScope s__law_odd) .none kV19 dc19 pm19 an19 cd19 ct19), sl19⟩) (c19 : PySem.W.codeIn K cd19 "_law_odd" = true) (k19 : PySem.W.keepIn K (.ref f19) = true)
    (n20 : PySem.W.nsIn K mainGlobals "_law_number" = some (some (.ref f20)))
    (l20 : K.lookup f20 = some ⟨oc20, od20, .func (PySem.W.fnOf "_law_number" "_law_number" (defArgs s__law_number) (defBody s__law_number) (defScope s__law_number) .none kV20 dc20 pm20 an20 cd20 ct20), sl20⟩) (c20 : PySem.W.codeIn K cd20 "_law_number" = true) (k20 : PySem.W.keepIn K (.ref f20) = true)
    (n21 : PySem.W.nsIn K mainGlobals "law" = some (some (.ref f21)))
    (l21 : K.lookup f21 = some ⟨oc21, od21, .func (PySem.W.fnOf "law" "law" (defArgs s_law) (defBody s_law) (defScope s_law) .none kV21 dc21 pm21 an21 (.ref cL_law) ct21), sl21⟩) (c21 : PySem.W.codeIn K (.ref cL_law) "law" = true) (k21 : PySem.W.keepIn K (.ref f21) = true)
    (g_BadKeys : PySem.W.nsIn K mainGlobals "BadKeys" = some (some (.ref C_BadKeys)))
    (g_BadManifest : PySem.W.nsIn K mainGlobals "BadManifest" = some (some (.ref C_BadManifest)))
    (g_BadPicture : PySem.W.nsIn K mainGlobals "BadPicture" = some (some (.ref C_BadPicture)))
    (g_BadStores : PySem.W.nsIn K mainGlobals "BadStores" = some (some (.ref C_BadStores)))
    (g_ImageError : PySem.W.nsIn K mainGlobals "ImageError" = some (some (.ref C_ImageError)))
    (ob_BadStores : Z.oexB K C_BadStores = true) (os_BadStores : PySem.W.findIn K (.ref C_BadStores) "__setattr__" = some (some (.builtin "object.__setattr__"))) (ok_BadStores : PySem.W.keepIn K (.ref C_BadStores) = true)
    (b_BadStores : PySem.W.subIn K (.ref C_BadStores) (.type "BaseException") = some true) (t_BadStores : PySem.W.typeIn K (.ref C_BadStores) = some (.type "type"))
    (ri_ImageError : PySem.W.readsIn K C_ImageError (.type "type") = true) (si_ImageError : PySem.W.specialIn K (.ref C_ImageError) "__getattribute__" = some (some (.builtin "type.__getattribute__"))) (vi_ImageError : PySem.W.findCls K (.ref C_ImageError) (.type "type") "__init__" = some (.val (.builtin "ValueError.__init__")))
    (enn : PySem.W.specialIn K (.builtin "object.__class__") "__get__" = some (some (.builtin "getset_descriptor.__get__"))) (ent : PySem.W.takesIn K (.builtin "object.__class__") = some true)
    (eg_BadStores : PySem.W.findIn K (.ref C_BadStores) "__getattribute__" = some (some (.builtin "BaseException.__getattribute__"))) (ek_BadStores : PySem.W.findIn K (.ref C_BadStores) "__getattr__" = some none) (eb_BadStores : PySem.W.subIn K (.ref C_BadStores) (.type "BaseException") = some true) (ed_BadStores : PySem.W.hasDictIn K C_BadStores = true) (ea_BadStores : PySem.W.findIn K (.ref C_BadStores) "__class__" = some (some (.builtin "object.__class__"))) (em_BadStores : PySem.W.mroIn K C_BadStores (.type "object") = some true)
    (ki_BadStores_BadKeys : PySem.W.kitOne K (.ref C_BadStores) (.ref C_BadKeys) = some false)
    (ki_BadStores_BadManifest : PySem.W.kitOne K (.ref C_BadStores) (.ref C_BadManifest) = some false)
    (ki_BadStores_BadPicture : PySem.W.kitOne K (.ref C_BadStores) (.ref C_BadPicture) = some false)
    (ki_BadStores_BadStores : PySem.W.kitOne K (.ref C_BadStores) (.ref C_BadStores) = some true)
    (ki_BadStores_ValueError : PySem.W.kitOne K (.ref C_BadStores) (.type "ValueError") = some true)
    (i_ImageError : PySem.W.isClsIn K C_ImageError = true)
    (b_ImageError : PySem.W.subIn K (.ref C_ImageError) (.type "BaseException") = some true) (t_ImageError : PySem.W.typeIn K (.ref C_ImageError) = some (.type "type"))
    (s_BadStores_ImageError : PySem.W.subIn K (.ref C_BadStores) (.ref C_ImageError) = some true)
    (na_BadStores_number : PySem.W.findIn K (.ref C_BadStores) "number" = some none)
    (z_ValueError : PySem.W.nsIn K mainGlobals "ValueError" = some none)
    (z_bool : PySem.W.nsIn K mainGlobals "bool" = some none)
    (z_int : PySem.W.nsIn K mainGlobals "int" = some none)
    (z_isinstance : PySem.W.nsIn K mainGlobals "isinstance" = some none)
    (z_len : PySem.W.nsIn K mainGlobals "len" = some none)
    (z_list : PySem.W.nsIn K mainGlobals "list" = some none)
    (z_range : PySem.W.nsIn K mainGlobals "range" = some none)
    (z_str : PySem.W.nsIn K mainGlobals "str" = some none)
    (z_sum : PySem.W.nsIn K mainGlobals "sum" = some none)
    (z_tuple : PySem.W.nsIn K mainGlobals "tuple" = some none)
    (c_MOST_ROWS : PySem.W.nsIn K mainGlobals "MOST_ROWS" = some (some (.int 40 t_MOST_ROWS)))
    (c_MOST_STORES : PySem.W.nsIn K mainGlobals "MOST_STORES" = some (some (.int 4 t_MOST_STORES)))
    (c_MOST_WORTH : PySem.W.nsIn K mainGlobals "MOST_WORTH" = some (some (.int 9972 t_MOST_WORTH)))
    (c_PIECE : PySem.W.nsIn K mainGlobals "PIECE" = some (some (.int 3 t_PIECE)))
    (c_PRIME : PySem.W.nsIn K mainGlobals "PRIME" = some (some (.int 9973 t_PRIME)))
    (tP_law : Z.tabOf K cL_law = some tL_law) (hP_law : PySem.W.codeHdIn K cL_law tL_law = true) (nP_law : K.lookup tL_law = none) :
    LamX.LawAtS l w K L2.CX0 9 63 "_law_script" mg fa h := by
  have e := hfa.symm.trans (PySem.W.mg_of X G n21)
  cases e
  have T : ∀ base : Heap, LamX.TabB base mg cL_law tL_law → Txt K mg base ⟨f0, PySem.W.fnOf "_law_taken" "_law_taken" (defArgs s__law_taken) (defBody s__law_taken) (defScope s__law_taken) .none kV0 dc0 pm0 an0 cd0 ct0, f1, PySem.W.fnOf "_law_keys" "_law_keys" (defArgs s__law_keys) (defBody s__law_keys) (defScope s__law_keys) .none kV1 dc1 pm1 an1 cd1 ct1, f2, PySem.W.fnOf "_law_worth" "_law_worth" (defArgs s__law_worth) (defBody s__law_worth) (defScope s__law_worth) .none kV2 dc2 pm2 an2 cd2 ct2, f3, PySem.W.fnOf "_law_picture" "_law_picture" (defArgs s__law_picture) (defBody s__law_picture) (defScope s__law_picture) .none kV3 dc3 pm3 an3 cd3 ct3, f4, PySem.W.fnOf "_law_pieces" "_law_pieces" (defArgs s__law_pieces) (defBody s__law_pieces) (defScope s__law_pieces) .none kV4 dc4 pm4 an4 cd4 ct4, f5, PySem.W.fnOf "_law_sums" "_law_sums" (defArgs s__law_sums) (defBody s__law_sums) (defScope s__law_sums) .none kV5 dc5 pm5 an5 cd5 ct5, f6, PySem.W.fnOf "_law_title" "_law_title" (defArgs s__law_title) (defBody s__law_title) (defScope s__law_title) .none kV6 dc6 pm6 an6 cd6 ct6, f7, PySem.W.fnOf "_law_store" "_law_store" (defArgs s__law_store) (defBody s__law_store) (defScope s__law_store) .none kV7 dc7 pm7 an7 cd7 ct7, f8, PySem.W.fnOf "_law_stores" "_law_stores" (defArgs s__law_stores) (defBody s__law_stores) (defScope s__law_stores) .none kV8 dc8 pm8 an8 cd8 ct8, f9, PySem.W.fnOf "__init__" "BadStores.__init__" (defArgs s_BadStores___init__) (defBody s_BadStores___init__) (defScope s_BadStores___init__) .none kV9 dc9 pm9 an9 cd9 ct9, f10, PySem.W.fnOf "is_worth" "is_worth" (defArgs s_is_worth) (defBody s_is_worth) (defScope s_is_worth) .none kV10 dc10 pm10 an10 cd10 ct10, f11, PySem.W.fnOf "is_store" "is_store" (defArgs s_is_store) (defBody s_is_store) (defScope s_is_store) .none kV11 dc11 pm11 an11 cd11 ct11, f12, PySem.W.fnOf "need_stores" "need_stores" (defArgs s_need_stores) (defBody s_need_stores) (defScope s_need_stores) .none kV12 dc12 pm12 an12 cd12 ct12, f13, PySem.W.fnOf "sums" "sums" (defArgs s_sums) (defBody s_sums) (defScope s_sums) .none kV13 dc13 pm13 an13 cd13 ct13, f14, PySem.W.fnOf "name" "name" (defArgs s_name) (defBody s_name) (defScope s_name) .none kV14 dc14 pm14 an14 cd14 ct14, f15, PySem.W.fnOf "asked" "asked" (defArgs s_asked) (defBody s_asked) (defScope s_asked) .none kV15 dc15 pm15 an15 cd15 ct15, f16, PySem.W.fnOf "fetched" "fetched" (defArgs s_fetched) (defBody s_fetched) (defScope s_fetched) .none kV16 dc16 pm16 an16 cd16 ct16, f17, PySem.W.fnOf "_law_asked" "_law_asked" (defArgs s__law_asked) (defBody s__law_asked) (defScope s__law_asked) .none kV17 dc17 pm17 an17 cd17 ct17, f18, PySem.W.fnOf "_law_alike" "_law_alike" (defArgs s__law_alike) (defBody s__law_alike) (defScope s__law_alike) .none kV18 dc18 pm18 an18 cd18 ct18, f19, PySem.W.fnOf "_law_odd" "_law_odd" (defArgs s__law_odd) (defBody s__law_odd) (defScope s__law_odd) .none kV19 dc19 pm19 an19 cd19 ct19, f20, PySem.W.fnOf "_law_number" "_law_number" (defArgs s__law_number) (defBody s__law_number) (defScope s__law_number) .none kV20 dc20 pm20 an20 cd20 ct20, fa, PySem.W.fnOf "law" "law" (defArgs s_law) (defBody s_law) (defScope s_law) .none kV21 dc21 pm21 an21 (.ref cL_law) ct21, C_BadKeys, C_BadManifest, C_BadPicture, C_BadStores, C_ImageError, cL_law, tL_law⟩ := fun base TB_law => {
    FC_law := ⟨_, _, _, _, _, _, _, _, rfl, l21, c21⟩
    TB_law := TB_law
    F__law_taken := fun_mk (st := s__law_taken) l0 c0 k0
    b__law_taken := (fun_mk (st := s__law_taken) l0 c0 k0).binds (ps := ["_law_row", "_law_many"]) fun _ _ _ _ _ _ us hl => match us, hl with | [_, _], _ => rfl
    g__law_taken := PySem.W.mg_of X G n0
    F__law_keys := fun_mk (st := s__law_keys) l1 c1 k1
    b__law_keys := (fun_mk (st := s__law_keys) l1 c1 k1).binds (ps := ["_law_row"]) fun _ _ _ _ _ _ us hl => match us, hl with | [_], _ => rfl
    g__law_keys := PySem.W.mg_of X G n1
    F__law_worth := fun_mk (st := s__law_worth) l2 c2 k2
    b__law_worth := (fun_mk (st := s__law_worth) l2 c2 k2).binds (ps := ["_law_row"]) fun _ _ _ _ _ _ us hl => match us, hl with | [_], _ => rfl
    g__law_worth := PySem.W.mg_of X G n2
    F__law_picture := fun_mk (st := s__law_picture) l3 c3 k3
    b__law_picture := (fun_mk (st := s__law_picture) l3 c3 k3).binds (ps := ["_law_row", "_law_keys_here", "_law_most"]) fun _ _ _ _ _ _ us hl => match us, hl with | [_, _, _], _ => rfl
    g__law_picture := PySem.W.mg_of X G n3
    F__law_pieces := fun_mk (st := s__law_pieces) l4 c4 k4
    b__law_pieces := (fun_mk (st := s__law_pieces) l4 c4 k4).binds (ps := ["_law_some"]) fun _ _ _ _ _ _ us hl => match us, hl with | [_], _ => rfl
    g__law_pieces := PySem.W.mg_of X G n4
    F__law_sums := fun_mk (st := s__law_sums) l5 c5 k5
    b__law_sums := (fun_mk (st := s__law_sums) l5 c5 k5).binds (ps := ["_law_some"]) fun _ _ _ _ _ _ us hl => match us, hl with | [_], _ => rfl
    g__law_sums := PySem.W.mg_of X G n5
    F__law_title := fun_mk (st := s__law_title) l6 c6 k6
    b__law_title := (fun_mk (st := s__law_title) l6 c6 k6).binds (ps := ["_law_piece"]) fun _ _ _ _ _ _ us hl => match us, hl with | [_], _ => rfl
    g__law_title := PySem.W.mg_of X G n6
    F__law_store := fun_mk (st := s__law_store) l7 c7 k7
    b__law_store := (fun_mk (st := s__law_store) l7 c7 k7).binds (ps := ["_law_row", "_law_picture_here", "_law_often"]) fun _ _ _ _ _ _ us hl => match us, hl with | [_, _, _], _ => rfl
    g__law_store := PySem.W.mg_of X G n7
    F__law_stores := fun_mk (st := s__law_stores) l8 c8 k8
    b__law_stores := (fun_mk (st := s__law_stores) l8 c8 k8).binds (ps := ["_law_row", "_law_picture_here", "_law_sure"]) fun _ _ _ _ _ _ us hl => match us, hl with | [_, _, _], _ => rfl
    g__law_stores := PySem.W.mg_of X G n8
    F_BadStores___init__ := fun_mk (st := s_BadStores___init__) l9 c9 k9
    b_BadStores___init__ := (fun_mk (st := s_BadStores___init__) l9 c9 k9).binds (ps := ["self", "number"]) fun _ _ _ _ _ _ us hl => match us, hl with | [_, _], _ => rfl
    m_BadStores___init__ := ⟨n9, i9, k9⟩
    F_is_worth := fun_mk (st := s_is_worth) l10 c10 k10
    b_is_worth := (fun_mk (st := s_is_worth) l10 c10 k10).binds (ps := ["number"]) fun _ _ _ _ _ _ us hl => match us, hl with | [_], _ => rfl
    g_is_worth := PySem.W.mg_of X G n10
    F_is_store := fun_mk (st := s_is_store) l11 c11 k11
    b_is_store := (fun_mk (st := s_is_store) l11 c11 k11).binds (ps := ["store"]) fun _ _ _ _ _ _ us hl => match us, hl with | [_], _ => rfl
    g_is_store := PySem.W.mg_of X G n11
    F_need_stores := fun_mk (st := s_need_stores) l12 c12 k12
    b_need_stores := (fun_mk (st := s_need_stores) l12 c12 k12).binds (ps := ["stores"]) fun _ _ _ _ _ _ us hl => match us, hl with | [_], _ => rfl
    g_need_stores := PySem.W.mg_of X G n12
    F_sums := fun_mk (st := s_sums) l13 c13 k13
    b_sums := (fun_mk (st := s_sums) l13 c13 k13).binds (ps := ["row"]) fun _ _ _ _ _ _ us hl => match us, hl with | [_], _ => rfl
    g_sums := PySem.W.mg_of X G n13
    F_name := fun_mk (st := s_name) l14 c14 k14
    b_name := (fun_mk (st := s_name) l14 c14 k14).binds (ps := ["piece"]) fun _ _ _ _ _ _ us hl => match us, hl with | [_], _ => rfl
    g_name := PySem.W.mg_of X G n14
    F_asked := fun_mk (st := s_asked) l15 c15 k15
    b_asked := (fun_mk (st := s_asked) l15 c15 k15).binds (ps := ["stores", "title"]) fun _ _ _ _ _ _ us hl => match us, hl with | [_, _], _ => rfl
    g_asked := PySem.W.mg_of X G n15
    F_fetched := fun_mk (st := s_fetched) l16 c16 k16
    b_fetched := (fun_mk (st := s_fetched) l16 c16 k16).binds (ps := ["stores", "title"]) fun _ _ _ _ _ _ us hl => match us, hl with | [_, _], _ => rfl
    g_fetched := PySem.W.mg_of X G n16
    F__law_asked := fun_mk (st := s__law_asked) l17 c17 k17
    b__law_asked := (fun_mk (st := s__law_asked) l17 c17 k17).binds (ps := ["_law_stores_here", "_law_title_here"]) fun _ _ _ _ _ _ us hl => match us, hl with | [_, _], _ => rfl
    g__law_asked := PySem.W.mg_of X G n17
    F__law_alike := fun_mk (st := s__law_alike) l18 c18 k18
    b__law_alike := (fun_mk (st := s__law_alike) l18 c18 k18).binds (ps := ["_law_found", "_law_due"]) fun _ _ _ _ _ _ us hl => match us, hl with | [_, _], _ => rfl
    g__law_alike := PySem.W.mg_of X G n18
    F__law_odd := fun_mk (st := s__law_odd) l19 c19 k19
    b__law_odd := (fun_mk (st := s__law_odd) l19 c19 k19).binds (ps := ["_law_row"]) fun _ _ _ _ _ _ us hl => match us, hl with | [_], _ => rfl
    g__law_odd := PySem.W.mg_of X G n19
    F__law_number := fun_mk (st := s__law_number) l20 c20 k20
    b__law_number := (fun_mk (st := s__law_number) l20 c20 k20).binds (ps := ["_law_work"]) fun _ _ _ _ _ _ us hl => match us, hl with | [_], _ => rfl
    g__law_number := PySem.W.mg_of X G n20
    F_law := fun_mk (st := s_law) l21 c21 k21
    b_law := (fun_mk (st := s_law) l21 c21 k21).binds (ps := ["_law_script"]) fun _ _ _ _ _ _ us hl => match us, hl with | [_], _ => rfl
    g_law := PySem.W.mg_of X G n21
    g_BadKeys := PySem.W.mg_of X G g_BadKeys
    g_BadManifest := PySem.W.mg_of X G g_BadManifest
    g_BadPicture := PySem.W.mg_of X G g_BadPicture
    g_BadStores := PySem.W.mg_of X G g_BadStores
    g_ImageError := PySem.W.mg_of X G g_ImageError
    o_BadStores := oex_mk ob_BadStores os_BadStores b_BadStores t_BadStores ok_BadStores
    ri_ImageError := ri_ImageError
    si_ImageError := si_ImageError
    vi_ImageError := vi_ImageError
    es_BadStores := ⟨eg_BadStores, ek_BadStores, eb_BadStores, ed_BadStores, ea_BadStores, enn, ent, em_BadStores⟩
    ki_BadStores_BadKeys := ki_BadStores_BadKeys
    ki_BadStores_BadManifest := ki_BadStores_BadManifest
    ki_BadStores_BadPicture := ki_BadStores_BadPicture
    ki_BadStores_BadStores := ki_BadStores_BadStores
    ki_BadStores_ValueError := ki_BadStores_ValueError
    e_BadStores_ImageError := exm_mk b_ImageError i_ImageError t_ImageError s_BadStores_ImageError
    n_BadStores_number := na_BadStores_number
    z_ValueError := PySem.W.mg_none_of X G z_ValueError
    z_bool := PySem.W.mg_none_of X G z_bool
    z_int := PySem.W.mg_none_of X G z_int
    z_isinstance := PySem.W.mg_none_of X G z_isinstance
    z_len := PySem.W.mg_none_of X G z_len
    z_list := PySem.W.mg_none_of X G z_list
    z_range := PySem.W.mg_none_of X G z_range
    z_str := PySem.W.mg_none_of X G z_str
    z_sum := PySem.W.mg_none_of X G z_sum
    z_tuple := PySem.W.mg_none_of X G z_tuple
    c_MOST_ROWS := ⟨_, PySem.W.mg_of X G c_MOST_ROWS⟩
    c_MOST_STORES := ⟨_, PySem.W.mg_of X G c_MOST_STORES⟩
    c_MOST_WORTH := ⟨_, PySem.W.mg_of X G c_MOST_WORTH⟩
    c_PIECE := ⟨_, PySem.W.mg_of X G c_PIECE⟩
    c_PRIME := ⟨_, PySem.W.mg_of X G c_PRIME⟩
  }
  obtain ⟨e1, e2, e3, e4, e5, e6⟩ := Z.tabOf_inv tP_law
  refine ⟨PySem.W.fnOf "law" "law" (defArgs s_law) (defBody s_law) (defScope s_law) .none kV21 dc21 pm21 an21 (.ref cL_law) ct21, [(cL_law, tL_law)], sp_law tL_law K, fun p hp => ?_, fun p hp => ?_, fun p hp => ?_, fun s v => .of_eq rfl, fun H a ns hl _ hH hS => ⟨a, ns, rfl, hS, hl, hH _ (List.mem_singleton.mpr rfl), fun _ => rfl⟩, fun base _ _ hT => ok_law (T base (hT _ (List.mem_singleton.mpr rfl)))⟩ <;> rw [List.mem_singleton.mp hp]
  · exact own cL_law tL_law _ _ e1 e2 e3 e4 l21 rfl rfl e5 e6
  · exact nP_law
  · exact PySem.W.codeHd_of_K X hP_law
end ZL
open PySem PySem.W PyProof.Rows
set_option maxRecDepth 100000 in
set_option maxHeartbeats 0 in
theorem PySem.Challenge.cw_twoimages_k13_stores_that_hand_out_piece_holds : PySem.Challenge.rw_twoimages_k13_stores_that_hand_out_piece.Holds := by
  w_on; o_law; k_head; (case hw => w_witness2)
  k_fill
  refine LamX.walk_ofOwn (l := PySem.Challenge.rw_twoimages_k13_stores_that_hand_out_piece) (n := 63) (k := 9) (x := "_law_script") (CX := fun _ => L2.CX0) rfl (by decide) rfl ⟨rfl, by decide, by decide⟩ (by first | rfl | decide +kernel) (fun w h Y => by first | exact PySem.W.kIn_of Y | exact PySem.W.km_in_of Y) ?F (fun _ _ _ _ _ h => h)
  case F =>
    intro w mg fa h Y0 KX G hmg own
    refine' ZL.all_mk KX G hmg own ?n0 ?l0 ?c0 ?k0 ?n1 ?l1 ?c1 ?k1 ?n2 ?l2 ?c2 ?k2 ?n3 ?l3 ?c3 ?k3 ?n4 ?l4 ?c4 ?k4 ?n5 ?l5 ?c5 ?k5 ?n6 ?l6 ?c6 ?k6 ?n7 ?l7 ?c7 ?k7 ?n8 ?l8 ?c8 ?k8 ?n9 ?i9 ?l9 ?c9 ?k9 ?n10 ?l10 ?c10 ?k10 ?n11 ?l11 ?c11 ?k11 ?n12 ?l12 ?c12 ?k12 ?n13 ?l13 ?c13 ?k13 ?n14 ?l14 ?c14 ?k14 ?n15 ?l15 ?c15 ?k15 ?n16 ?l16 ?c16 ?k16 ?n17 ?l17 ?c17 ?k17 ?n18 ?l18 ?c18 ?k18 ?n19 ?l19 ?c19 ?k19 ?n20 ?l20 ?c20 ?k20 ?n21 ?l21 ?c21 ?k21 ?g_BadKeys ?g_BadManifest ?g_BadPicture ?g_BadStores ?g_ImageError ?ob_BadStores ?os_BadStores ?ok_BadStores ?b_BadStores ?t_BadStores ?ri_ImageError ?si_ImageError ?vi_ImageError ?enn ?ent ?eg_BadStores ?ek_BadStores ?eb_BadStores ?ed_BadStores ?ea_BadStores ?em_BadStores ?ki_BadStores_BadKeys ?ki_BadStores_BadManifest ?ki_BadStores_BadPicture ?ki_BadStores_BadStores ?ki_BadStores_ValueError ?i_ImageError ?b_ImageError ?t_ImageError ?s_BadStores_ImageError ?na_BadStores_number ?z_ValueError ?z_bool ?z_int ?z_isinstance ?z_len ?z_list ?z_range ?z_str ?z_sum ?z_tuple ?c_MOST_ROWS ?c_MOST_STORES ?c_MOST_WORTH ?c_PIECE ?c_PRIME ?tP_law ?hP_law ?nP_law
    (case g_BadKeys => k_is); (case g_BadManifest => k_is); (case g_BadPicture => k_is); (case g_BadStores => k_is); (case g_ImageError => k_is); (case n0 => k_is); (case l0 => k_is); (case c0 => k_is); (case k0 => k_is); (case n1 => k_is); (case l1 => k_is); (case c1 => k_is); (case k1 => k_is); (case n2 => k_is); (case l2 => k_is); (case c2 => k_is); (case k2 => k_is); (case n3 => k_is); (case l3 => k_is); (case c3 => k_is); (case k3 => k_is); (case n4 => k_is); (case l4 => k_is); (case c4 => k_is); (case k4 => k_is); (case n5 => k_is); (case l5 => k_is); (case c5 => k_is); (case k5 => k_is); (case n6 => k_is); (case l6 => k_is); (case c6 => k_is); (case k6 => k_is); (case n7 => k_is); (case l7 => k_is); (case c7 => k_is); (case k7 => k_is); (case n8 => k_is); (case l8 => k_is); (case c8 => k_is); (case k8 => k_is); (case n9 => k_is); (case i9 => k_is); (case l9 => k_is); (case c9 => k_is); (case k9 => k_is); (case n10 => k_is); (case l10 => k_is); (case c10 => k_is); (case k10 => k_is); (case n11 => k_is); (case l11 => k_is); (case c11 => k_is); (case k11 => k_is); (case n12 => k_is); (case l12 => k_is); (case c12 => k_is); (case k12 => k_is); (case n13 => k_is); (case l13 => k_is); (case c13 => k_is); (case k13 => k_is); (case n14 => k_is); (case l14 => k_is); (case c14 => k_is); (case k14 => k_is); (case n15 => k_is); (case l15 => k_is); (case c15 => k_is); (case k15 => k_is); (case n16 => k_is); (case l16 => k_is); (case c16 => k_is); (case k16 => k_is); (case n17 => k_is); (case l17 => k_is); (case c17 => k_is); (case k17 => k_is); (case n18 => k_is); (case l18 => k_is); (case c18 => k_is); (case k18 => k_is); (case n19 => k_is); (case l19 => k_is); (case c19 => k_is); (case k19 => k_is); (case n20 => k_is); (case l20 => k_is); (case c20 => k_is); (case k20 => k_is); (case n21 => k_is); (case l21 => k_is); (case c21 => k_is); (case k21 => k_is); (case ob_BadStores => first | rfl | with_unfolding_all rfl); (case os_BadStores => k_is); (case ok_BadStores => k_is); (case b_BadStores => k_is); (case t_BadStores => k_is); (case ri_ImageError => k_is); (case si_ImageError => k_is); (case vi_ImageError => k_is); (case enn => k_is); (case ent => k_is); (case eg_BadStores => k_is); (case ek_BadStores => k_is); (case eb_BadStores => k_is); (case ed_BadStores => k_is); (case ea_BadStores => k_is); (case em_BadStores => k_is); (case ki_BadStores_BadKeys => kit_is); (case ki_BadStores_BadManifest => kit_is); (case ki_BadStores_BadPicture => kit_is); (case ki_BadStores_BadStores => kit_is); (case ki_BadStores_ValueError => kit_is); (case i_ImageError => k_is); (case b_ImageError => k_is); (case t_ImageError => k_is); (case s_BadStores_ImageError => first | rfl | k_is); (case na_BadStores_number => k_is); (case z_ValueError => k_is); (case z_bool => k_is); (case z_int => k_is); (case z_isinstance => k_is); (case z_len => k_is); (case z_list => k_is); (case z_range => k_is); (case z_str => k_is); (case z_sum => k_is); (case z_tuple => k_is); (case c_MOST_ROWS => k_is); (case c_MOST_STORES => k_is); (case c_MOST_WORTH => k_is); (case c_PIECE => k_is); (case c_PRIME => k_is); (case tP_law => first | rfl | with_unfolding_all rfl); (case hP_law => first | rfl | with_unfolding_all rfl); (case nP_law => first | rfl | with_unfolding_all rfl)
    all_goals exact Value.none
