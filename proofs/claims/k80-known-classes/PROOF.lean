import PyProof.Rows.All
import Wide.All
import OpenK.AllK
import Wide.FinOn
import HandS.ForMost
import HandS.Deep
import HandS.TupAny
import HandS.DictComp
import HandS.TupLen
import HandS.TupSets
import HandS.More
import HandS.Conv
import KE.SortData
import KE.KTupSum
import KE.DataMinMax
import KE.GoesMore
import KE.GoesEnum
import HandS.IsInst
import PySem.Challenge.RW_clearonce_k80_whole_questions_with_known
set_option Elab.async false
set_option linter.all false
set_option maxRecDepth 100000
set_option maxHeartbeats 4000000
/-! The walk by values: data D, cells, the relation to the layer's heaps, readings that follow plain functions. -/
namespace Fw
open PySem PySem.Spec PyProof.Rows L2

/-- plain data -/
inductive D where
  | non | bl (b : Bool) | int (i : Int) | str (s : Str)
  | lst (xs : List D) | tup (xs : List D)
  /-- a list that is only read (the script) -/
  | fls (xs : List D)
  | dT (ks : List (List Key)) (ds : List D)
  | dK (ks : List Key) (ds : List D)
  | obj (c : Nat) (fs : List Str) (ds : List D)

/-- a value that a slot, a cell or a call hands on: plain data, or the k-th cell -/
inductive E where
  | p (d : D) | c (k : Nat)

/-- what may still be written -/
inductive Cell where
  | gone
  | lst (es : List E)
  | dT (ks : List (List Key)) (es : List E)
  | dK (ks : List Key) (es : List E)
  | obj (c : Nat) (fs : List Str) (es : List E)

def SameH (H H' : Hp) : Prop := ∀ a o, H a = some o → H' a = some o
theorem SameH.refl (H : Hp) : SameH H H := fun _ _ h => h
theorem SameH.trans {A B C : Hp} (x : SameH A B) (y : SameH B C) : SameH A C := fun a o h => y a o (x a o h)
theorem SameH.new {H : Hp} {p : Addr} {o : HO} (h : H p = none) : SameH H (upd H p o) := fun a u e => by
  rw [upd_ne (ne_of_none e h)]; exact e
theorem SameH.mut {G H : Hp} {p : Addr} {o : HO} (e : SameH G H) (h : G p = none) : SameH G (upd H p o) := fun a u q => by
  rw [upd_ne (ne_of_none q h)]; exact e a u q
theorem SameH.both {G H : Hp} {p : Addr} {o : HO} (e : SameH G H) : SameH (upd G p o) (upd H p o) := fun a u q => by
  by_cases h : a = p
  · subst h; rw [upd_same] at q ⊢; exact q
  · rw [upd_ne h] at q ⊢; exact e a u q
theorem SameH.l {K : PySem.W.Frag} {H H' : Hp} {a : Addr} {xs : List V} (e : SameH H H') (h : SqL K H a xs) : SqL K H' a xs := Same.seq e h
theorem SameH.t {K : PySem.W.Frag} {H H' : Hp} {a : Addr} {xs : List V} (e : SameH H H') (h : SqT K H a xs) : SqT K H' a xs := by
  rcases h with (h | ⟨o, h⟩) | h
  · exact .inl (.inl (e _ _ h))
  · exact .inl (.inr ⟨o, e _ _ h⟩)
  · exact .inr h

mutual
inductive Rep (K : PySem.W.Frag) (κ : Nat → Addr) (G : Hp) : V → D → Prop
  | non : Rep K κ G .non .non
  | bl (b : Bool) : Rep K κ G (.bl b) (.bl b)
  | int (i : Int) : Rep K κ G (.int i) (.int i)
  | str (x : Str) : Rep K κ G (.str x) (.str x)
  | lst {a : Addr} {xs : List V} {ds : List D} : G a = some (.lst xs) → RepAll K κ G xs ds → Rep K κ G (.ref a) (.lst ds)
  | tup {a : Addr} {xs : List V} {ds : List D} : G a = some (.tup xs) → RepAll K κ G xs ds → Rep K κ G (.ref a) (.tup ds)
  | fls {a : Addr} {xs : List V} {ds : List D} : SqL K G a xs → RepAll K κ G xs ds → Rep K κ G (.ref a) (.fls ds)
  | dT {a : Addr} {ks : List (List Key)} {vs : List V} {ds : List D} : G a = some (.dT (ks.zip vs)) → ks.length = vs.length → RepAll K κ G vs ds → Rep K κ G (.ref a) (.dT ks ds)
  | dK {a : Addr} {ks : List Key} {vs : List V} {ds : List D} : G a = some (.dK (ks.zip vs)) → ks.length = vs.length → RepAll K κ G vs ds → Rep K κ G (.ref a) (.dK ks ds)
  | obj {a dx : Addr} {c : Nat} {fs : List Str} {vs : List V} {ds : List D} : G a = some (.ins (κ c) dx (fs.zip vs)) → fs.length = vs.length → RepAll K κ G vs ds → Rep K κ G (.ref a) (.obj c fs ds)
inductive RepAll (K : PySem.W.Frag) (κ : Nat → Addr) (G : Hp) : List V → List D → Prop
  | nil : RepAll K κ G [] []
  | cons {v : V} {vs : List V} {d : D} {ds : List D} : Rep K κ G v d → RepAll K κ G vs ds → RepAll K κ G (v :: vs) (d :: ds)
end

section
variable {K : PySem.W.Frag} {κ : Nat → Addr} {G G' H H' : Hp} {as as' : List Addr}
mutual
theorem Rep.mono (e : SameH G G') : ∀ {v : V} {d : D}, Rep K κ G v d → Rep K κ G' v d
  | _, _, .non => .non
  | _, _, .bl b => .bl b
  | _, _, .int i => .int i
  | _, _, .str x => .str x
  | _, _, .lst h r => .lst (e _ _ h) (RepAll.mono e r)
  | _, _, .tup h r => .tup (e _ _ h) (RepAll.mono e r)
  | _, _, .fls h r => .fls (e.l h) (RepAll.mono e r)
  | _, _, .dT h l r => .dT (e _ _ h) l (RepAll.mono e r)
  | _, _, .dK h l r => .dK (e _ _ h) l (RepAll.mono e r)
  | _, _, .obj h l r => .obj (e _ _ h) l (RepAll.mono e r)
theorem RepAll.mono (e : SameH G G') : ∀ {vs : List V} {ds : List D}, RepAll K κ G vs ds → RepAll K κ G' vs ds
  | _, _, .nil => .nil
  | _, _, .cons r t => .cons (Rep.mono e r) (RepAll.mono e t)
end
theorem RepAll.length : ∀ {vs : List V} {ds : List D}, RepAll K κ G vs ds → vs.length = ds.length
  | _, _, .nil => rfl
  | _, _, .cons _ t => by rw [List.length_cons, List.length_cons, RepAll.length t]
theorem RepAll.get : ∀ {vs : List V} {ds : List D} {i : Nat} {d : D}, RepAll K κ G vs ds → ds[i]? = some d → ∃ v, vs[i]? = some v ∧ Rep K κ G v d
  | _, _, _, _, .nil, e => by simp at e
  | _, _, 0, _, .cons r _, e => by simp at e; subst e; exact ⟨_, rfl, r⟩
  | _, _, i + 1, d, .cons _ t, e => by
    obtain ⟨u, h1, h2⟩ := RepAll.get (i := i) (d := d) t (by simpa using e)
    exact ⟨u, by simpa using h1, h2⟩

/-- a value and its reading -/
def ERep (K : PySem.W.Frag) (κ : Nat → Addr) (G : Hp) (as : List Addr) (v : V) : E → Prop
  | .p d => Rep K κ G v d
  | .c k => ∃ a, as[k]? = some a ∧ v = .ref a
theorem get_pre {α : Type} {l l' : List α} {k : Nat} {a : α} (h : l <+: l') (e : l[k]? = some a) : l'[k]? = some a := by
  obtain ⟨t, rfl⟩ := h
  have hk := (List.getElem?_eq_some_iff.mp e).1
  rw [List.getElem?_append_left hk]; exact e
theorem ERep.mono {v : V} {e : E} (x : SameH G G') (y : as <+: as') (r : ERep K κ G as v e) : ERep K κ G' as' v e := by
  cases e with
  | p d => exact Rep.mono x r
  | c k => obtain ⟨a, h, q⟩ := r; exact ⟨a, get_pre y h, q⟩

abbrev EAll (K : PySem.W.Frag) (κ : Nat → Addr) (G : Hp) (as : List Addr) : List V → List E → Prop := Paired (ERep K κ G as)
theorem EAll.mono {vs : List V} {es : List E} (x : SameH G G') (y : as <+: as') (r : EAll K κ G as vs es) : EAll K κ G' as' vs es := L2.Paired.mapP r fun _ _ q => q.mono x y
theorem EAll.length {vs : List V} {es : List E} (r : EAll K κ G as vs es) : vs.length = es.length := Paired.length r
theorem EAll.get : ∀ {vs : List V} {es : List E} {i : Nat} {e : E}, EAll K κ G as vs es → es[i]? = some e → ∃ v, vs[i]? = some v ∧ ERep K κ G as v e
  | _, _, _, _, .nil, e => by simp at e
  | _, _, 0, _, .cons r _, e => by simp at e; subst e; exact ⟨_, rfl, r⟩
  | _, _, i + 1, d, .cons _ t, e => by
    obtain ⟨u, h1, h2⟩ := EAll.get (i := i) (e := d) t (by simpa using e)
    exact ⟨u, by simpa using h1, h2⟩
theorem EAll.of_pure : ∀ {vs : List V} {ds : List D}, RepAll K κ G vs ds → EAll K κ G as vs (ds.map E.p)
  | _, _, .nil => .nil
  | _, _, .cons r t => .cons r (EAll.of_pure t)
theorem EAll.pure_of : ∀ {vs : List V} {ds : List D}, EAll K κ G as vs (ds.map E.p) → RepAll K κ G vs ds
  | _, [], h => by cases h; exact .nil
  | _, d :: ds, h => by
    cases h with
    | cons r t => exact .cons r (EAll.pure_of t)
theorem EAll.set {v : V} {e : E} (r : ERep K κ G as v e) : ∀ {vs : List V} {es : List E} (i : Nat), EAll K κ G as vs es → EAll K κ G as (vs.set i v) (es.set i e)
  | _, _, _, .nil => .nil
  | _, _, 0, .cons _ t => .cons r t
  | _, _, i + 1, .cons q t => .cons q (EAll.set r i t)
theorem EAll.append : ∀ {xs ys : List V} {us ws : List E}, EAll K κ G as xs us → EAll K κ G as ys ws → EAll K κ G as (xs ++ ys) (us ++ ws)
  | _, _, _, _, .nil, s => s
  | _, _, _, _, .cons r t, s => .cons r (EAll.append t s)
theorem EAll.take : ∀ {xs : List V} {us : List E} (n : Nat), EAll K κ G as xs us → EAll K κ G as (xs.take n) (us.take n)
  | _, _, 0, _ => .nil
  | _, _, _ + 1, .nil => .nil
  | _, _, n + 1, .cons r t => .cons r (EAll.take n t)
theorem EAll.drop : ∀ {xs : List V} {us : List E} (n : Nat), EAll K κ G as xs us → EAll K κ G as (xs.drop n) (us.drop n)
  | _, _, 0, r => r
  | _, _, _ + 1, .nil => .nil
  | _, _, n + 1, .cons _ t => EAll.drop n t
theorem EAll.erase : ∀ {xs : List V} {us : List E} (n : Nat), EAll K κ G as xs us → EAll K κ G as (xs.eraseIdx n) (us.eraseIdx n)
  | _, _, _, .nil => .nil
  | _, _, 0, .cons _ t => t
  | _, _, n + 1, .cons r t => .cons r (EAll.erase n t)

/-- a cell as it stands -/
def CellAt (K : PySem.W.Frag) (κ : Nat → Addr) (G H : Hp) (as : List Addr) (a : Addr) : Cell → Prop
  | .gone => True
  | .lst es => G a = none ∧ ∃ xs, H a = some (.lst xs) ∧ EAll K κ G as xs es
  | .dT ks es => G a = none ∧ ∃ vs, H a = some (.dT (ks.zip vs)) ∧ ks.length = vs.length ∧ EAll K κ G as vs es
  | .dK ks es => G a = none ∧ ∃ vs, H a = some (.dK (ks.zip vs)) ∧ ks.length = vs.length ∧ EAll K κ G as vs es
  | .obj c fs es => G a = none ∧ ∃ dx vs, H a = some (.ins (κ c) dx (fs.zip vs)) ∧ fs.length = vs.length ∧ EAll K κ G as vs es
theorem CellAt.mono {a : Addr} {c : Cell} (x : SameH G G') (y : as <+: as') (hH : H' a = H a) (hG : c ≠ .gone → G' a = none) (r : CellAt K κ G H as a c) : CellAt K κ G' H' as' a c := by
  cases c with
  | gone => trivial
  | lst es => obtain ⟨_, xs, h, q⟩ := r; exact ⟨hG (by simp), xs, hH.trans h, q.mono x y⟩
  | dT ks es => obtain ⟨_, xs, h, l, q⟩ := r; exact ⟨hG (by simp), xs, hH.trans h, l, q.mono x y⟩
  | dK ks es => obtain ⟨_, xs, h, l, q⟩ := r; exact ⟨hG (by simp), xs, hH.trans h, l, q.mono x y⟩
  | obj c fs es => obtain ⟨_, dx, xs, h, l, q⟩ := r; exact ⟨hG (by simp), dx, xs, hH.trans h, l, q.mono x y⟩
theorem CellAt.free {a : Addr} {c : Cell} (h : c ≠ .gone) (r : CellAt K κ G H as a c) : G a = none := by
  cases c with
  | gone => exact absurd rfl h
  | lst es => exact r.1
  | dT ks es => exact r.1
  | dK ks es => exact r.1
  | obj c fs es => exact r.1

/-- plain data over G, cells at the addresses as, all of it in H -/
structure Ok (K : PySem.W.Frag) (κ : Nat → Addr) (G H : Hp) (as : List Addr) (cs : List Cell) : Prop where
  ex : SameH G H
  len : as.length = cs.length
  nd : as.Nodup
  liv : ∀ a ∈ as, ∃ o, H a = some o
  cel : ∀ (k : Nat) a c, as[k]? = some a → cs[k]? = some c → CellAt K κ G H as a c

/-- what a step may do to the heap: m0 cells are the caller's -/
structure Tr (m0 : Nat) (G H : Hp) (as : List Addr) (G' H' : Hp) (as' : List Addr) : Prop where
  ex : SameH G G'
  pre : ∃ t, as' = as ++ t ∧ ∀ a ∈ t, H a = none
  keep : ∀ a o, H a = some o → a ∉ as → H' a = some o
  new : ∀ a o, G' a = some o → (∃ u, G a = some u) ∨ H a = none ∨ a ∈ as.drop m0
  liv : ∀ a o, H a = some o → ∃ u, H' a = some u
theorem Tr.refl {m0 : Nat} : Tr m0 G H as G H as := ⟨SameH.refl _, ⟨[], by simp, by simp⟩, fun _ _ h _ => h, fun _ _ h => .inl ⟨_, h⟩, fun _ _ h => ⟨_, h⟩⟩
theorem Tr.le {m0 : Nat} (x : Tr m0 G H as G' H' as') : as <+: as' := by obtain ⟨t, rfl, _⟩ := x.pre; exact ⟨t, rfl⟩
theorem Tr.leng {m0 : Nat} (x : Tr m0 G H as G' H' as') : as.length ≤ as'.length := by obtain ⟨t, rfl, _⟩ := x.pre; simp
theorem Tr.up {m0 : Nat} {v : V} {e : E} (x : Tr m0 G H as G' H' as') (r : ERep K κ G as v e) : ERep K κ G' as' v e := r.mono x.ex x.le
theorem Tr.ups {m0 : Nat} {v : List V} {e : List E} (x : Tr m0 G H as G' H' as') (r : EAll K κ G as v e) : EAll K κ G' as' v e := r.mono x.ex x.le
theorem back_none {H H' : Hp} (l : ∀ a o, H a = some o → ∃ u, H' a = some u) {a : Addr} (h : H' a = none) : H a = none := by
  cases q : H a with
  | none => rfl
  | some o => obtain ⟨u, e⟩ := l a o q; rw [h] at e; cases e
theorem Tr.trans {m0 : Nat} {G1 H1 G2 H2 : Hp} {as1 as2 : List Addr} (hm : m0 ≤ as.length) (x : Tr m0 G H as G1 H1 as1) (y : Tr m0 G1 H1 as1 G2 H2 as2) : Tr m0 G H as G2 H2 as2 where
  ex := x.ex.trans y.ex
  pre := by
    obtain ⟨t, rfl, h1⟩ := x.pre
    obtain ⟨u, rfl, h2⟩ := y.pre
    refine ⟨t ++ u, List.append_assoc .., fun a h => ?_⟩
    rcases List.mem_append.mp h with h | h
    · exact h1 a h
    · exact back_none x.liv (h2 a h)
  keep := fun a o h n => by
    obtain ⟨t, rfl, h1⟩ := x.pre
    refine y.keep a o (x.keep a o h n) fun q => ?_
    rcases List.mem_append.mp q with q | q
    · exact n q
    · have := h1 a q; rw [h] at this; cases this
  new := fun a o h => by
    rcases y.new a o h with ⟨u, h⟩ | h | h
    · exact x.new a u h
    · exact .inr (.inl (back_none x.liv h))
    · obtain ⟨t, rfl, h1⟩ := x.pre
      rw [List.drop_append_of_le_length hm] at h
      rcases List.mem_append.mp h with h | h
      · exact .inr (.inr h)
      · exact .inr (.inl (h1 a h))
  liv := fun a o h => by
    obtain ⟨u, e⟩ := x.liv a o h
    exact y.liv a u e

/-! ### the four ways a heap changes -/
variable {m0 : Nat} {cs : List Cell} {p : Addr} {o : HO}
theorem Ok.mem_at (ok : Ok K κ G H as cs) {k : Nat} {a : Addr} (h : as[k]? = some a) : a ∈ as := List.mem_of_getElem? h
theorem Ok.fresh (ok : Ok K κ G H as cs) (hp : H p = none) : p ∉ as := fun h => by
  obtain ⟨o, e⟩ := ok.liv p h; rw [hp] at e; cases e
theorem Ok.free (ok : Ok K κ G H as cs) (hp : H p = none) : G p = none := by
  cases q : G p with
  | none => rfl
  | some o => have := ok.ex _ _ q; rw [hp] at this; cases this
/-- a new object of plain data -/
theorem Ok.newp (ok : Ok K κ G H as cs) (hp : H p = none) : Ok K κ (upd G p o) (upd H p o) as cs where
  ex := ok.ex.both
  len := ok.len
  nd := ok.nd
  liv := fun a h => by
    obtain ⟨u, e⟩ := ok.liv a h
    exact ⟨u, SameH.new hp _ _ e⟩
  cel := fun k a c h1 h2 => by
    have hm := ok.mem_at h1
    have hne : a ≠ p := fun e => ok.fresh hp (e ▸ hm)
    refine (ok.cel k a c h1 h2).mono (SameH.new (ok.free hp)) (List.prefix_refl _) (upd_ne hne) fun hc => ?_
    rw [upd_ne hne]; exact (ok.cel k a c h1 h2).free hc
theorem Tr.newp (ok : Ok K κ G H as cs) (hp : H p = none) : Tr m0 G H as (upd G p o) (upd H p o) as where
  ex := SameH.new (ok.free hp)
  pre := ⟨[], by simp, by simp⟩
  keep := fun a u h _ => SameH.new hp _ _ h
  new := fun a u h => by
    by_cases q : a = p
    · subst q; exact .inr (.inl hp)
    · rw [upd_ne q] at h; exact .inl ⟨_, h⟩
  liv := fun a u h => ⟨u, SameH.new hp _ _ h⟩
/-- a new object of the heap alone -/
theorem Ok.newh (ok : Ok K κ G H as cs) (hp : H p = none) : Ok K κ G (upd H p o) as cs where
  ex := ok.ex.trans (SameH.new hp)
  len := ok.len
  nd := ok.nd
  liv := fun a h => by
    obtain ⟨u, e⟩ := ok.liv a h
    exact ⟨u, SameH.new hp _ _ e⟩
  cel := fun k a c h1 h2 => by
    have hm := ok.mem_at h1
    have hne : a ≠ p := fun e => ok.fresh hp (e ▸ hm)
    exact (ok.cel k a c h1 h2).mono (SameH.refl _) (List.prefix_refl _) (upd_ne hne) fun hc => (ok.cel k a c h1 h2).free hc
theorem Tr.newh (hp : H p = none) : Tr m0 G H as G (upd H p o) as where
  ex := SameH.refl _
  pre := ⟨[], by simp, by simp⟩
  keep := fun a u h _ => SameH.new hp _ _ h
  new := fun a u h => .inl ⟨_, h⟩
  liv := fun a u h => ⟨u, SameH.new hp _ _ h⟩
/-- a new cell -/
theorem Ok.newc {c : Cell} (ok : Ok K κ G H as cs) (hp : H p = none) (hc : CellAt K κ G (upd H p o) (as ++ [p]) p c) : Ok K κ G (upd H p o) (as ++ [p]) (cs ++ [c]) where
  ex := ok.ex.trans (SameH.new hp)
  len := by rw [List.length_append, List.length_append, ok.len]; rfl
  nd := by
    rw [List.nodup_append]
    refine ⟨ok.nd, by simp, fun a h b hb e => ?_⟩
    rw [List.mem_singleton] at hb
    subst hb; subst e
    exact ok.fresh hp h
  liv := fun a h => by
    rcases List.mem_append.mp h with h | h
    · obtain ⟨u, e⟩ := ok.liv a h
      exact ⟨u, SameH.new hp _ _ e⟩
    · rw [List.mem_singleton] at h
      subst h
      exact ⟨o, upd_same⟩
  cel := fun k a c' h1 h2 => by
    by_cases hk : k < as.length
    · rw [List.getElem?_append_left hk] at h1
      rw [List.getElem?_append_left (ok.len ▸ hk)] at h2
      have hne : a ≠ p := fun e => ok.fresh hp (e ▸ ok.mem_at h1)
      exact (ok.cel k a c' h1 h2).mono (SameH.refl _) ⟨[p], rfl⟩ (upd_ne hne) fun hc => (ok.cel k a c' h1 h2).free hc
    · have hl := (List.getElem?_eq_some_iff.mp h1).1
      rw [List.length_append] at hl
      have e : k = as.length := by simp at hl; omega
      subst e
      rw [List.getElem?_append_right (Nat.le_refl _), Nat.sub_self] at h1
      rw [ok.len, List.getElem?_append_right (Nat.le_refl _), Nat.sub_self] at h2
      cases h1; cases h2; exact hc
theorem Tr.newc (hp : H p = none) : Tr m0 G H as G (upd H p o) (as ++ [p]) where
  ex := SameH.refl _
  pre := ⟨[p], rfl, fun a h => by rw [List.mem_singleton] at h; subst h; exact hp⟩
  keep := fun a u h _ => SameH.new hp _ _ h
  new := fun a u h => .inl ⟨_, h⟩
  liv := fun a u h => ⟨u, SameH.new hp _ _ h⟩
/-- a cell written -/
theorem Ok.put {c : Cell} {k : Nat} (ok : Ok K κ G H as cs) (hk : as[k]? = some p) (hG : G p = none) (hc : CellAt K κ G (upd H p o) as p c) : Ok K κ G (upd H p o) as (cs.set k c) where
  ex := ok.ex.mut hG
  len := by rw [List.length_set]; exact ok.len
  nd := ok.nd
  liv := fun a h => by
    by_cases e : a = p
    · subst e; exact ⟨_, upd_same⟩
    · obtain ⟨u, q⟩ := ok.liv a h
      exact ⟨u, by rw [upd_ne e]; exact q⟩
  cel := fun j a c' h1 h2 => by
    by_cases e : j = k
    · subst e
      rw [hk] at h1; cases h1
      have hl : j < cs.length := by rw [← ok.len]; exact (List.getElem?_eq_some_iff.mp hk).1
      rw [List.getElem?_set_self hl] at h2
      cases h2; exact hc
    · rw [List.getElem?_set_ne (fun q => e q.symm)] at h2
      have hne : a ≠ p := fun q => by
        subst q
        have l1 := (List.getElem?_eq_some_iff.mp h1)
        have l2 := (List.getElem?_eq_some_iff.mp hk)
        exact e ((List.getElem_inj ok.nd).mp (l1.2.trans l2.2.symm))
      exact (ok.cel j a c' h1 h2).mono (SameH.refl _) (List.prefix_refl _) (upd_ne hne) fun hc => (ok.cel j a c' h1 h2).free hc
theorem Tr.put {k : Nat} (hk : as[k]? = some p) : Tr m0 G H as G (upd H p o) as where
  ex := SameH.refl _
  pre := ⟨[], by simp, by simp⟩
  keep := fun a u h n => by
    rw [upd_ne (fun e : a = p => n (by subst e; exact List.mem_of_getElem? hk))]; exact h
  new := fun a u h => .inl ⟨_, h⟩
  liv := fun a u h => by
    by_cases e : a = p
    · subst e; exact ⟨_, upd_same⟩
    · exact ⟨u, by rw [upd_ne e]; exact h⟩
/-- a cell frozen -/
theorem Ok.frz {k : Nat} (ok : Ok K κ G H as cs) (hk : as[k]? = some p) (hG : G p = none) (hH : H p = some o) : Ok K κ (upd G p o) H as (cs.set k .gone) where
  ex := fun a u q => by
    by_cases e : a = p
    · subst e; rw [upd_same] at q; cases q; exact hH
    · rw [upd_ne e] at q; exact ok.ex _ _ q
  len := by rw [List.length_set]; exact ok.len
  nd := ok.nd
  liv := ok.liv
  cel := fun j a c' h1 h2 => by
    by_cases e : j = k
    · subst e
      have hl : j < cs.length := by rw [← ok.len]; exact (List.getElem?_eq_some_iff.mp hk).1
      rw [List.getElem?_set_self hl] at h2
      cases h2; trivial
    · rw [List.getElem?_set_ne (fun q => e q.symm)] at h2
      have hne : a ≠ p := fun q => by
        subst q
        have l1 := (List.getElem?_eq_some_iff.mp h1)
        have l2 := (List.getElem?_eq_some_iff.mp hk)
        exact e ((List.getElem_inj ok.nd).mp (l1.2.trans l2.2.symm))
      refine (ok.cel j a c' h1 h2).mono (SameH.new hG) (List.prefix_refl _) rfl fun hc => ?_
      rw [upd_ne hne]; exact (ok.cel j a c' h1 h2).free hc
theorem Tr.frz {k : Nat} (hk : as[k]? = some p) (hm : m0 ≤ k) (hG : G p = none) (hH : H p = some o) : Tr m0 G H as (upd G p o) H as where
  ex := SameH.new hG
  pre := ⟨[], by simp, by simp⟩
  keep := fun a u h _ => h
  new := fun a u h => by
    by_cases e : a = p
    · subst e
      refine .inr (.inr ?_)
      have l := List.getElem?_eq_some_iff.mp hk
      refine List.mem_of_getElem? (i := k - m0) ?_
      rw [List.getElem?_drop, Nat.add_sub_cancel' hm]; exact hk
    · rw [upd_ne e] at h; exact .inl ⟨_, h⟩
  liv := fun a u h => ⟨u, h⟩
/-- cells forgotten -/
theorem Ok.cut (ok : Ok K κ G H as cs) (n : Nat) (h : n ≤ as.length) (hc : ∀ (k : Nat) a c, k < n → as[k]? = some a → cs[k]? = some c → CellAt K κ G H (as.take n) a c) : Ok K κ G H (as.take n) (cs.take n) where
  ex := ok.ex
  len := by rw [List.length_take, List.length_take, ok.len]
  nd := ok.nd.sublist (List.take_sublist _ _)
  liv := fun a h => ok.liv a (List.mem_of_mem_take h)
  cel := fun k a c h1 h2 => by
    have hk : k < n := by
      have := (List.getElem?_eq_some_iff.mp h1).1
      rw [List.length_take] at this; omega
    rw [List.getElem?_take_of_lt hk] at h1 h2
    exact hc k a c hk h1 h2
end
end Fw
set_option maxRecDepth 100000
set_option maxHeartbeats 4000000
namespace Fw
open PySem PySem.Spec PyProof.Rows L2

abbrev Sl := List (Option E)
abbrev ME := Nat → Sl → List Cell → Option (E × List Cell)
abbrev MT := Nat → Sl → List Cell → Option (Bool × List Cell)
abbrev MA := Nat → Sl → List Cell → Option (List E × List Cell)
inductive Out where
  | nx (ρ : Sl) (cs : List Cell) | rt (e : E) (cs : List Cell) | bk (ρ : Sl) (cs : List Cell) | ct (ρ : Sl) (cs : List Cell)
abbrev MS := Nat → Sl → List Cell → Option Out

section
variable (K : PySem.W.Frag) (κ : Nat → Addr)
def SlotR (G : Hp) (as : List Addr) (o : Option V) : Option E → Prop
  | none => True
  | some e => ∃ v, o = some v ∧ ERep K κ G as v e
abbrev SlR' (G : Hp) (as : List Addr) : List (Option V) → Sl → Prop := Paired (SlotR K κ G as)
structure Sta (m0 : Nat) (ρ : Sl) (cs : List Cell) (σ : L2.St) (G H : Hp) (as : List Addr) : Prop where
  ok : Ok K κ G H as cs
  sl : SlR' K κ G as σ ρ
  le : m0 ≤ as.length
/-- what an expression's step hands on -/
def PE1 (m0 : Nat) (G H : Hp) (as : List Addr) (e : E) (cs' : List Cell) (Q : VK) : Prop :=
  ∀ v G' H' as', Tr m0 G H as G' H' as' → Ok K κ G' H' as' cs' → ERep K κ G' as' v e → Q v H'
def SE (te : TE) (m : ME) : Prop := ∀ m0 ρ cs σ G H as e cs' Q, Sta K κ m0 ρ cs σ G H as → m m0 ρ cs = some (e, cs') → PE1 K κ m0 G H as e cs' Q → te σ H Q
def ST (tt : TT) (m : MT) : Prop := ∀ m0 ρ cs σ G H as b cs' (Q : Bool → Hp → Prop), Sta K κ m0 ρ cs σ G H as → m m0 ρ cs = some (b, cs') →
  (∀ G' H' as', Tr m0 G H as G' H' as' → Ok K κ G' H' as' cs' → Q b H') → tt σ H Q
def SA (ta : TA) (m : MA) : Prop := ∀ m0 ρ cs σ G H as es cs' (Q : List V → Hp → Prop), Sta K κ m0 ρ cs σ G H as → m m0 ρ cs = some (es, cs') →
  (∀ vs G' H' as', Tr m0 G H as G' H' as' → Ok K κ G' H' as' cs' → EAll K κ G' as' vs es → Q vs H') → ta σ H Q
/-- what an out wants of the ends -/
def OutOk (m0 : Nat) (G H : Hp) (as : List Addr) (N : Nat) (D : Ends) : Out → Prop
  | .nx ρ' cs' => ∀ σ' G' H' as', Tr m0 G H as G' H' as' → Ok K κ G' H' as' cs' → SlR' K κ G' as' σ' ρ' → D.nx σ' H'
  | .ct ρ' cs' => ∀ σ' G' H' as', Tr m0 G H as G' H' as' → Ok K κ G' H' as' cs' → SlR' K κ G' as' σ' ρ' → D.ct σ' H'
  | .bk ρ' cs' => ∀ σ' G' H' as', Tr m0 G H as G' H' as' → Ok K κ G' H' as' cs' → SlR' K κ G' as' σ' ρ' → D.bk σ' H'
  | .rt e cs' => ∀ v G' H' as', Tr m0 G H as G' H' as' → Ok K κ G' H' as' cs' → ERep K κ G' as' v e → D.rt v H'
def SS (ts : TS) (m : MS) : Prop := ∀ m0 ρ cs σ G H as o D, Sta K κ m0 ρ cs σ G H as → m m0 ρ cs = some o → OutOk K κ m0 G H as ρ.length D o → ts D σ H
end

section
variable {K : PySem.W.Frag} {κ : Nat → Addr} {G G' H H' : Hp} {as as' : List Addr} {m0 : Nat} {ρ : Sl} {cs cs' : List Cell} {σ : L2.St}
theorem SlR'.mono {σ : L2.St} {ρ : Sl} (x : SameH G G') (y : as <+: as') (r : SlR' K κ G as σ ρ) : SlR' K κ G' as' σ ρ := L2.Paired.mapP r fun o e q => by
  cases e with
  | none => trivial
  | some e => obtain ⟨v, h, q⟩ := q; exact ⟨v, h, q.mono x y⟩
theorem SlR'.get : ∀ {σ : L2.St} {ρ : Sl} {i : Nat} {e : E}, SlR' K κ G as σ ρ → ρ[i]? = some (some e) → ∃ v, σ[i]? = some (some v) ∧ ERep K κ G as v e
  | _, _, _, _, .nil, e => by simp at e
  | _, _, 0, _, .cons r _, e => by
    simp at e; subst e
    obtain ⟨v, h, q⟩ := r
    exact ⟨v, by simpa using h, q⟩
  | _, _, i + 1, d, .cons _ t, e => by
    obtain ⟨u, h1, h2⟩ := SlR'.get (i := i) (e := d) t (by simpa using e)
    exact ⟨u, by simpa using h1, h2⟩
theorem SlR'.set {o : Option V} {e : Option E} (r : SlotR K κ G as o e) : ∀ {σ : L2.St} {ρ : Sl} (i : Nat), SlR' K κ G as σ ρ → SlR' K κ G as (σ.set i o) (ρ.set i e)
  | _, _, _, .nil => .nil
  | _, _, 0, .cons _ t => .cons r t
  | _, _, i + 1, .cons q t => .cons q (SlR'.set r i t)
theorem Sta.step (s : Sta K κ m0 ρ cs σ G H as) (t : Tr m0 G H as G' H' as') (ok : Ok K κ G' H' as' cs') : Sta K κ m0 ρ cs' σ G' H' as' :=
  ⟨ok, s.sl.mono t.ex t.le, Nat.le_trans s.le t.leng⟩

/-! ### the plain monad -/
def mVar (i : Nat) : ME := fun _ ρ cs => match ρ[i]? with
  | some (some e) => some (e, cs)
  | _ => none
def mC (d : D) : ME := fun _ _ cs => some (.p d, cs)
def mBind {α : Type} (m : ME) (f : E → Nat → Sl → List Cell → Option α) : Nat → Sl → List Cell → Option α := fun n ρ cs => match m n ρ cs with
  | some (e, cs1) => f e n ρ cs1
  | none => none
/-- both, from the left -/
def m2 (ma mb : ME) (f : E → E → List Cell → Option (E × List Cell)) : ME := mBind ma fun x => mBind mb fun y _ _ cs => f x y cs

theorem se_var {i : Nat} : SE K κ (tVar i) (mVar i) := fun m0 ρ cs σ G H as e cs' Q s h q => by
  unfold mVar at h
  split at h
  · rename_i e' he
    cases h
    obtain ⟨v, hv, r⟩ := s.sl.get he
    exact ⟨v, hv, q v G H as Tr.refl s.ok r⟩
  · cases h
theorem se_c {v : V} {d : D} (hr : ∀ G, Rep K κ G v d) : SE K κ (tC v) (mC d) := fun m0 ρ cs σ G H as e cs' Q s h q => by
  cases h; exact q v G H as Tr.refl s.ok (hr G)
theorem se_int {i : Int} : SE K κ (tC (.int i)) (mC (.int i)) := se_c fun _ => .int i
theorem se_bl {b : Bool} : SE K κ (tC (.bl b)) (mC (.bl b)) := se_c fun _ => .bl b
theorem se_str {x : Str} : SE K κ (tC (.str x)) (mC (.str x)) := se_c fun _ => .str x
theorem se_non : SE K κ (tC .non) (mC .non) := se_c fun _ => .non

/-- what a rule by values may do: nothing, or lay one object of plain data -/
def Lays (K : PySem.W.Frag) (κ : Nat → Addr) (G H : Hp) (d : D) (Q : VK) : Prop :=
  (∀ v, Rep K κ G v d → Q v H) ∧ ∀ p o, H p = none → Rep K κ (upd G p o) (.ref p) d → Q (.ref p) (upd H p o)
theorem PE1.lays (ok : Ok K κ G H as cs) {d : D} {Q : VK} (q : PE1 K κ m0 G H as (.p d) cs Q) : Lays K κ G H d Q :=
  ⟨fun v r => q v G H as Tr.refl ok r, fun p o hp r => q _ _ _ as (Tr.newp ok hp) (ok.newp hp) r⟩
/-- a rule of two values that follows f -/
def R2ok (K : PySem.W.Frag) (κ : Nat → Addr) (r : R2) (f : D → D → Option D) : Prop := ∀ G H x y dx dy d Q, SameH G H → Rep K κ G x dx → Rep K κ G y dy → f dx dy = some d → Lays K κ G H d Q → r x y H Q
def mOp (f : D → D → Option D) (ma mb : ME) : ME := m2 ma mb fun x y cs => match x, y with
  | .p a, .p b => (f a b).map fun d => (.p d, cs)
  | _, _ => none
theorem se_op {r : R2} {f : D → D → Option D} {ta tb : TE} {ma mb : ME} (hr : R2ok K κ r f) (ha : SE K κ ta ma) (hb : SE K κ tb mb) : SE K κ (tOp r ta tb) (mOp f ma mb) := fun m0 ρ cs σ G H as e cs' Q s h q => by
  unfold mOp m2 mBind at h
  dsimp only at h
  split at h
  · rename_i x cs1 h1
    split at h
    · rename_i y cs2 h2
      refine ha m0 ρ cs σ G H as _ _ _ s h1 fun vx G1 H1 as1 t1 ok1 r1 => ?_
      have s1 := s.step t1 ok1
      refine hb m0 ρ cs1 σ G1 H1 as1 _ _ _ s1 h2 fun vy G2 H2 as2 t2 ok2 r2 => ?_
      split at h
      · rename_i a b
        rw [Option.map_eq_some_iff] at h
        obtain ⟨d, hd, e0⟩ := h
        cases e0
        refine hr G2 H2 vx vy a b d Q ok2.ex (Rep.mono t2.ex r1) r2 hd (PE1.lays (m0 := m0) ok2 fun v G3 H3 as3 t3 ok3 r3 => ?_)
        exact q v G3 H3 as3 ((t1.trans s.le t2).trans s.le t3) ok3 r3
      · cases h
    · cases h
  · cases h
/-- a rule of one value -/
def R1ok (K : PySem.W.Frag) (κ : Nat → Addr) (r : V → Hp → VK → Prop) (f : D → Option D) : Prop := ∀ G H x dx d Q, SameH G H → Rep K κ G x dx → f dx = some d → Lays K κ G H d Q → r x H Q
def mUn (f : D → Option D) (ma : ME) : ME := mBind ma fun x _ _ cs => match x with
  | .p a => (f a).map fun d => (.p d, cs)
  | _ => none
theorem se_un {r : V → Hp → VK → Prop} {f : D → Option D} {ta : TE} {ma : ME} (hr : R1ok K κ r f) (ha : SE K κ ta ma) : SE K κ (fun σ H Q => ta σ H fun x H1 => r x H1 Q) (mUn f ma) := fun m0 ρ cs σ G H as e cs' Q s h q => by
  unfold mUn mBind at h
  dsimp only at h
  split at h
  · rename_i x cs1 h1
    refine ha m0 ρ cs σ G H as _ _ _ s h1 fun vx G1 H1 as1 t1 ok1 r1 => ?_
    split at h
    · rename_i a
      rw [Option.map_eq_some_iff] at h
      obtain ⟨d, hd, e0⟩ := h
      cases e0
      exact hr G1 H1 vx a d Q ok1.ex r1 hd (PE1.lays (m0 := m0) ok1 fun v G3 H3 as3 t3 ok3 r3 => q v G3 H3 as3 (t1.trans s.le t3) ok3 r3)
    · cases h
  · cases h
/-! arguments -/
def mNil : MA := fun _ _ cs => some ([], cs)
def mCons (ma : ME) (mr : MA) : MA := fun n ρ cs => match ma n ρ cs with
  | some (e, cs1) => match mr n ρ cs1 with
    | some (es, cs2) => some (e :: es, cs2)
    | none => none
  | none => none
theorem sa_nil : SA K κ tNil mNil := fun m0 ρ cs σ G H as es cs' Q s h q => by
  cases h; exact q [] G H as Tr.refl s.ok .nil
theorem sa_cons {ta : TE} {tr : TA} {ma : ME} {mr : MA} (ha : SE K κ ta ma) (hr : SA K κ tr mr) : SA K κ (tCons ta tr) (mCons ma mr) := fun m0 ρ cs σ G H as es cs' Q s h q => by
  unfold mCons at h
  split at h
  · rename_i x cs1 h1
    split at h
    · rename_i ys cs2 h2
      cases h
      refine ha m0 ρ cs σ G H as _ _ _ s h1 fun vx G1 H1 as1 t1 ok1 r1 => ?_
      refine hr m0 ρ cs1 σ G1 H1 as1 _ _ _ (s.step t1 ok1) h2 fun vs G2 H2 as2 t2 ok2 r2 => ?_
      exact q _ G2 H2 as2 (t1.trans s.le t2) ok2 (.cons (t2.up r1) r2)
    · cases h
  · cases h
/-- all plain -/
def pures : List E → Option (List D)
  | [] => some []
  | .p d :: es => (pures es).map (d :: ·)
  | .c _ :: _ => none
theorem pures_some : ∀ {es : List E} {ds : List D}, pures es = some ds → es = ds.map E.p
  | [], ds, h => by cases h; rfl
  | .p d :: es, ds, h => by
    unfold pures at h
    rw [Option.map_eq_some_iff] at h
    obtain ⟨r, hr, e⟩ := h
    cases e
    rw [pures_some hr]; rfl
  | .c _ :: _, ds, h => by cases h
theorem pures_map : ∀ ds : List D, pures (ds.map E.p) = some ds
  | [] => rfl
  | d :: ds => by show (pures (ds.map E.p)).map (d :: ·) = _; rw [pures_map ds]; rfl
/-- a call by values -/
def RCok (K : PySem.W.Frag) (κ : Nat → Addr) (r : List V → Hp → VK → Prop) (f : List D → Option D) : Prop := ∀ G H xs ds d Q, SameH G H → RepAll K κ G xs ds → f ds = some d → Lays K κ G H d Q → r xs H Q
def mCall (f : List D → Option D) (ma : MA) : ME := fun n ρ cs => match ma n ρ cs with
  | some (es, cs1) => match pures es with
    | some ds => (f ds).map fun d => (.p d, cs1)
    | none => none
  | none => none
theorem se_cb {r : List V → Hp → VK → Prop} {f : List D → Option D} {ta : TA} {ma : MA} (hr : RCok K κ r f) (ha : SA K κ ta ma) : SE K κ (tCB r ta) (mCall f ma) := fun m0 ρ cs σ G H as e cs' Q s h q => by
  unfold mCall at h
  split at h
  · rename_i es cs1 h1
    split at h
    · rename_i ds h2
      rw [Option.map_eq_some_iff] at h
      obtain ⟨d, hd, e0⟩ := h
      cases e0
      refine ha m0 ρ cs σ G H as _ _ _ s h1 fun vs G1 H1 as1 t1 ok1 r1 => ?_
      rw [pures_some h2] at r1
      exact hr G1 H1 vs ds d Q ok1.ex r1.pure_of hd (PE1.lays (m0 := m0) ok1 fun v G3 H3 as3 t3 ok3 r3 => q v G3 H3 as3 (t1.trans s.le t3) ok3 r3)
    · cases h
  · cases h
/-! displays of plain data, of a new cell -/
def mTup (ma : MA) : ME := mCall (fun ds => if ds.length ≤ 100000 then some (.tup ds) else none) ma
def mLst (ma : MA) : ME := mCall (fun ds => if ds.length ≤ 100000 then some (.lst ds) else none) ma
theorem sz_of {n : Nat} (h : n ≤ 100000) : n ≤ sizeLine := Nat.le_trans h (by decide)
theorem se_disp {o : List V → HO} {C : List D → D} {t : TA → TE} (ht : ∀ ta σ H Q, t ta σ H Q = ta σ H fun xs H1 => xs.length ≤ sizeLine ∧ ∀ p, H1 p = none → Q (.ref p) (upd H1 p (o xs)))
    (hC : ∀ G p xs ds, G p = some (o xs) → RepAll K κ G xs ds → Rep K κ G (.ref p) (C ds)) {ta : TA} {ma : MA} (ha : SA K κ ta ma) :
    SE K κ (t ta) (mCall (fun ds => if ds.length ≤ 100000 then some (C ds) else none) ma) := fun m0 ρ cs σ G H as e cs' Q s h q => by
  unfold mCall at h
  split at h
  · rename_i es cs1 h1
    split at h
    · rename_i ds h2
      rw [Option.map_eq_some_iff] at h
      obtain ⟨d, hd, e0⟩ := h
      cases e0
      dsimp only at hd
      split at hd
      · rename_i hl
        cases hd
        rw [ht]
        refine ha m0 ρ cs σ G H as _ _ _ s h1 fun vs G1 H1 as1 t1 ok1 r1 => ?_
        rw [pures_some h2] at r1
        have r2 := r1.pure_of
        refine ⟨sz_of (by rw [r2.length]; exact hl), fun p hp => ?_⟩
        refine q _ _ _ as1 (t1.trans s.le (Tr.newp ok1 hp)) (ok1.newp hp) (hC _ _ _ _ upd_same (r2.mono (SameH.new (ok1.free hp))))
      · cases hd
    · cases h
  · cases h
theorem se_tup {ta : TA} {ma : MA} (ha : SA K κ ta ma) : SE K κ (tTup ta) (mTup ma) := se_disp (t := tTup) (o := HO.tup) (fun _ _ _ _ => rfl) (fun _ _ _ _ h r => .tup h r) ha
theorem se_lst {ta : TA} {ma : MA} (ha : SA K κ ta ma) : SE K κ (tLst ta) (mLst ma) := se_disp (t := tLst) (o := HO.lst) (fun _ _ _ _ => rfl) (fun _ _ _ _ h r => .lst h r) ha
/-- a list display as a cell -/
def mLstC (ma : MA) : ME := fun n ρ cs => match ma n ρ cs with
  | some (es, cs1) => if es.length ≤ 100000 then some (.c cs1.length, cs1 ++ [.lst es]) else none
  | none => none
theorem se_lstC {ta : TA} {ma : MA} (ha : SA K κ ta ma) : SE K κ (tLst ta) (mLstC ma) := fun m0 ρ cs σ G H as e cs' Q s h q => by
  unfold mLstC at h
  split at h
  · rename_i es cs1 h1
    split at h
    · rename_i hl
      cases h
      refine ha m0 ρ cs σ G H as _ _ _ s h1 fun vs G1 H1 as1 t1 ok1 r1 => ⟨sz_of (by rw [r1.length]; exact hl), fun p hp => ?_⟩
      have ok2 := ok1.newc (o := .lst vs) (c := .lst es) hp ⟨ok1.free hp, vs, upd_same, r1.mono (SameH.refl _) ⟨[p], rfl⟩⟩
      refine q _ _ _ _ (t1.trans s.le (Tr.newc hp)) ok2 ⟨p, ?_, rfl⟩
      rw [← ok1.len, List.getElem?_append_right (Nat.le_refl _), Nat.sub_self]; rfl
    · cases h
  · cases h
end
end Fw
set_option maxRecDepth 100000
set_option maxHeartbeats 4000000
namespace Fw
open PySem PySem.Spec PyProof.Rows L2
section
variable {K : PySem.W.Frag} {κ : Nat → Addr} {G G' H H' : Hp} {as as' : List Addr} {m0 : Nat} {ρ : Sl} {cs cs' : List Cell} {σ : L2.St}

/-! ### tests -/
def mTest (m : ME) : MT := mBind m fun x _ _ cs => match x with
  | .p (.bl b) => some (b, cs)
  | _ => none
theorem Rep.bl_inv {v : V} {b : Bool} (h : Rep K κ G v (.bl b)) : v = .bl b := by cases h; rfl
theorem Rep.int_inv {v : V} {b : Int} (h : Rep K κ G v (.int b)) : v = .int b := by cases h; rfl
theorem Rep.str_inv {v : V} {b : Str} (h : Rep K κ G v (.str b)) : v = .str b := by cases h; rfl
theorem Rep.non_inv {v : V} (h : Rep K κ G v .non) : v = .non := by cases h; rfl
theorem Rep.lst_inv {v : V} {ds : List D} (h : Rep K κ G v (.lst ds)) : ∃ a xs, v = .ref a ∧ G a = some (.lst xs) ∧ RepAll K κ G xs ds := by cases h with | lst h r => exact ⟨_, _, rfl, h, r⟩
theorem Rep.tup_inv {v : V} {ds : List D} (h : Rep K κ G v (.tup ds)) : ∃ a xs, v = .ref a ∧ G a = some (.tup xs) ∧ RepAll K κ G xs ds := by cases h with | tup h r => exact ⟨_, _, rfl, h, r⟩
theorem Rep.fls_inv {v : V} {ds : List D} (h : Rep K κ G v (.fls ds)) : ∃ a xs, v = .ref a ∧ SqL K G a xs ∧ RepAll K κ G xs ds := by cases h with | fls h r => exact ⟨_, _, rfl, h, r⟩
theorem Rep.obj_inv {v : V} {c : Nat} {fs : List Str} {ds : List D} (h : Rep K κ G v (.obj c fs ds)) : ∃ a dx vs, v = .ref a ∧ G a = some (.ins (κ c) dx (fs.zip vs)) ∧ fs.length = vs.length ∧ RepAll K κ G vs ds := by cases h with | obj h l r => exact ⟨_, _, _, rfl, h, l, r⟩
theorem Rep.dT_inv {v : V} {ks : List (List Key)} {ds : List D} (h : Rep K κ G v (.dT ks ds)) : ∃ a vs, v = .ref a ∧ G a = some (.dT (ks.zip vs)) ∧ ks.length = vs.length ∧ RepAll K κ G vs ds := by cases h with | dT h l r => exact ⟨_, _, rfl, h, l, r⟩
theorem Rep.dK_inv {v : V} {ks : List Key} {ds : List D} (h : Rep K κ G v (.dK ks ds)) : ∃ a vs, v = .ref a ∧ G a = some (.dK (ks.zip vs)) ∧ ks.length = vs.length ∧ RepAll K κ G vs ds := by cases h with | dK h l r => exact ⟨_, _, rfl, h, l, r⟩
theorem st_any {t : TT} {te : TE} (ht : ∀ σ H Q, t σ H Q = te σ H fun x H1 => ∃ k, x = .bl k ∧ Q k H1) {m : ME} (h : SE K κ te m) : ST K κ t (mTest m) := fun m0 ρ cs σ G H as b cs' Q s hm q => by
  unfold mTest mBind at hm
  split at hm
  · rename_i e cs1 h1
    dsimp only at hm
    split at hm
    · rename_i c
      cases hm
      rw [ht]
      refine h m0 ρ cs σ G H as _ _ _ s h1 fun v G1 H1 as1 t1 ok1 r1 => ⟨b, Rep.bl_inv r1, q G1 H1 as1 t1 ok1⟩
    · cases hm
  · cases hm
theorem st_test {te : TE} {m : ME} (h : SE K κ te m) : ST K κ (tTest te) (mTest m) := st_any (fun _ _ _ => rfl) h
theorem st_b {te : TE} {m : ME} (h : SE K κ te m) : ST K κ (tB te) (mTest m) := st_any (fun _ _ _ => rfl) h
def mAnd (a b : MT) : MT := fun n ρ cs => match a n ρ cs with
  | some (true, cs1) => b n ρ cs1
  | some (false, cs1) => some (false, cs1)
  | none => none
def mOr (a b : MT) : MT := fun n ρ cs => match a n ρ cs with
  | some (true, cs1) => some (true, cs1)
  | some (false, cs1) => b n ρ cs1
  | none => none
def mNot (a : MT) : MT := fun n ρ cs => match a n ρ cs with
  | some (b, cs1) => some (!b, cs1)
  | none => none
theorem st_and {t u : TT} {a b : MT} (ha : ST K κ t a) (hb : ST K κ u b) : ST K κ (tAnd t u) (mAnd a b) := fun m0 ρ cs σ G H as c cs' Q s hm q => by
  unfold mAnd at hm
  split at hm
  · rename_i cs1 h1
    refine ha m0 ρ cs σ G H as _ _ _ s h1 fun G1 H1 as1 t1 ok1 => ?_
    refine iteT (hb m0 ρ cs1 σ G1 H1 as1 _ _ _ (s.step t1 ok1) hm fun G2 H2 as2 t2 ok2 => q G2 H2 as2 (t1.trans s.le t2) ok2)
  · rename_i cs1 h1
    cases hm
    exact ha m0 ρ cs σ G H as _ _ _ s h1 fun G1 H1 as1 t1 ok1 => iteF (q G1 H1 as1 t1 ok1)
  · cases hm
theorem st_or {t u : TT} {a b : MT} (ha : ST K κ t a) (hb : ST K κ u b) : ST K κ (tOr t u) (mOr a b) := fun m0 ρ cs σ G H as c cs' Q s hm q => by
  unfold mOr at hm
  split at hm
  · rename_i cs1 h1
    cases hm
    exact ha m0 ρ cs σ G H as _ _ _ s h1 fun G1 H1 as1 t1 ok1 => iteT (q G1 H1 as1 t1 ok1)
  · rename_i cs1 h1
    refine ha m0 ρ cs σ G H as _ _ _ s h1 fun G1 H1 as1 t1 ok1 => ?_
    refine iteF (hb m0 ρ cs1 σ G1 H1 as1 _ _ _ (s.step t1 ok1) hm fun G2 H2 as2 t2 ok2 => q G2 H2 as2 (t1.trans s.le t2) ok2)
  · cases hm
theorem st_not {t : TT} {a : MT} (ha : ST K κ t a) : ST K κ (tNot t) (mNot a) := fun m0 ρ cs σ G H as c cs' Q s hm q => by
  unfold mNot at hm
  split at hm
  · rename_i b cs1 h1
    cases hm
    exact ha m0 ρ cs σ G H as _ _ _ s h1 fun G1 H1 as1 t1 ok1 => q G1 H1 as1 t1 ok1
  · cases hm
/-! and, or, not as values of truth -/
def mOfT (a : MT) : ME := fun n ρ cs => match a n ρ cs with
  | some (b, cs1) => some (.p (.bl b), cs1)
  | none => none
theorem se_ofT {t : TE} {a : MT} (h : ∀ m0 ρ cs σ G H as b cs' Q, Sta K κ m0 ρ cs σ G H as → a m0 ρ cs = some (b, cs') → PE1 K κ m0 G H as (.p (.bl b)) cs' Q → t σ H Q) : SE K κ t (mOfT a) := fun m0 ρ cs σ G H as e cs' Q s hm q => by
  unfold mOfT at hm
  split at hm
  · rename_i b cs1 h1
    cases hm
    exact h m0 ρ cs σ G H as b _ Q s h1 q
  · cases hm
theorem se_andV {ta tb : TE} {ma mb : ME} (ha : SE K κ ta ma) (hb : SE K κ tb mb) : SE K κ (tAndV ta tb) (mOfT (mAnd (mTest ma) (mTest mb))) := se_ofT fun m0 ρ cs σ G H as b cs' Q s hm q => by
  unfold mAnd mTest mBind at hm
  dsimp only at hm
  split at hm
  · rename_i cs1 h1
    split at h1
    · rename_i e cs2 h2
      split at h1
      · cases h1
        refine ha m0 ρ cs σ G H as _ _ _ s h2 fun v G1 H1 as1 t1 ok1 r1 => ⟨true, Rep.bl_inv r1, iteT ?_⟩
        split at hm
        · rename_i e3 cs3 h3
          split at hm
          · cases hm
            exact hb m0 ρ _ σ G1 H1 as1 _ _ _ (s.step t1 ok1) h3 fun v G2 H2 as2 t2 ok2 r2 => q v G2 H2 as2 (t1.trans s.le t2) ok2 r2
          · cases hm
        · cases hm
      · cases h1
    · cases h1
  · rename_i cs1 h1
    cases hm
    split at h1
    · rename_i e cs2 h2
      split at h1
      · cases h1
        refine ha m0 ρ cs σ G H as _ _ _ s h2 fun v G1 H1 as1 t1 ok1 r1 => ⟨false, Rep.bl_inv r1, iteF (q _ G1 H1 as1 t1 ok1 (.bl false))⟩
      · cases h1
    · cases h1
  · cases hm
theorem se_orV {ta tb : TE} {ma mb : ME} (ha : SE K κ ta ma) (hb : SE K κ tb mb) : SE K κ (tOrV ta tb) (mOfT (mOr (mTest ma) (mTest mb))) := se_ofT fun m0 ρ cs σ G H as b cs' Q s hm q => by
  unfold mOr mTest mBind at hm
  dsimp only at hm
  split at hm
  · rename_i cs1 h1
    cases hm
    split at h1
    · rename_i e cs2 h2
      split at h1
      · cases h1
        refine ha m0 ρ cs σ G H as _ _ _ s h2 fun v G1 H1 as1 t1 ok1 r1 => ⟨true, Rep.bl_inv r1, iteT (q _ G1 H1 as1 t1 ok1 (.bl true))⟩
      · cases h1
    · cases h1
  · rename_i cs1 h1
    split at h1
    · rename_i e cs2 h2
      split at h1
      · cases h1
        refine ha m0 ρ cs σ G H as _ _ _ s h2 fun v G1 H1 as1 t1 ok1 r1 => ⟨false, Rep.bl_inv r1, iteF ?_⟩
        split at hm
        · rename_i e3 cs3 h3
          split at hm
          · cases hm
            exact hb m0 ρ _ σ G1 H1 as1 _ _ _ (s.step t1 ok1) h3 fun v G2 H2 as2 t2 ok2 r2 => q v G2 H2 as2 (t1.trans s.le t2) ok2 r2
          · cases hm
        · cases hm
      · cases h1
    · cases h1
  · cases hm
theorem se_notV {ta : TE} {ma : ME} (ha : SE K κ ta ma) : SE K κ (tNotV ta) (mOfT (mNot (mTest ma))) := se_ofT fun m0 ρ cs σ G H as b cs' Q s hm q => by
  unfold mNot mTest mBind at hm
  dsimp only at hm
  split at hm
  · rename_i b1 cs1 h1
    cases hm
    split at h1
    · rename_i e cs2 h2
      split at h1
      · cases h1
        exact ha m0 ρ cs σ G H as _ _ _ s h2 fun v G1 H1 as1 t1 ok1 r1 => ⟨_, Rep.bl_inv r1, q _ G1 H1 as1 t1 ok1 (.bl _)⟩
      · cases h1
    · cases h1
  · cases hm
/-- a if t else b -/
def mIf (t : MT) (a b : ME) : ME := fun n ρ cs => match t n ρ cs with
  | some (true, cs1) => a n ρ cs1
  | some (false, cs1) => b n ρ cs1
  | none => none
theorem se_if {t : TT} {ta tb : TE} {mt : MT} {ma mb : ME} (ht : ST K κ t mt) (ha : SE K κ ta ma) (hb : SE K κ tb mb) : SE K κ (tIf t ta tb) (mIf mt ma mb) := fun m0 ρ cs σ G H as e cs' Q s hm q => by
  unfold mIf at hm
  split at hm
  · rename_i cs1 h1
    exact ht m0 ρ cs σ G H as _ _ _ s h1 fun G1 H1 as1 t1 ok1 => iteT (ha m0 ρ cs1 σ G1 H1 as1 _ _ _ (s.step t1 ok1) hm fun v G2 H2 as2 t2 ok2 r => q v G2 H2 as2 (t1.trans s.le t2) ok2 r)
  · rename_i cs1 h1
    exact ht m0 ρ cs σ G H as _ _ _ s h1 fun G1 H1 as1 t1 ok1 => iteF (hb m0 ρ cs1 σ G1 H1 as1 _ _ _ (s.step t1 ok1) hm fun v G2 H2 as2 t2 ok2 r => q v G2 H2 as2 (t1.trans s.le t2) ok2 r)
  · cases hm
/-- a value's truth -/
def truD : D → Option Bool
  | .non => some false | .bl b => some b | .int i => some (i != 0)
  | .lst xs => some (!xs.isEmpty) | .tup xs => some (!xs.isEmpty) | .fls xs => some (!xs.isEmpty)
  | .dK ks _ => some (!ks.isEmpty)
  | _ => none
def mTru (m : ME) : MT := mBind m fun x _ _ cs => match x with
  | .p d => (truD d).map fun b => (b, cs)
  | _ => none
theorem RepAll.isEmpty {vs : List V} {ds : List D} (r : RepAll K κ G vs ds) : vs.isEmpty = ds.isEmpty := by cases r <;> rfl
theorem tru_ok {v : V} {d : D} {b : Bool} (x : SameH G H) (r : Rep K κ G v d) (h : truD d = some b) : TruV K v H b := by
  cases r with
  | non => cases h; exact rfl
  | bl _ => cases h; exact rfl
  | int _ => cases h; exact rfl
  | str _ => cases h
  | lst g q => cases h; exact .inl ⟨_, SqL.of (x _ _ g), by rw [q.isEmpty]⟩
  | fls g q => cases h; exact .inl ⟨_, x.l g, by rw [q.isEmpty]⟩
  | tup g q => cases h; exact .inr (.inl ⟨_, SqT.of (x _ _ g), by rw [q.isEmpty]⟩)
  | dT _ _ _ => cases h
  | dK g l q =>
    cases h
    refine .inr (.inr ⟨_, x _ _ g, ?_⟩)
    rename_i ks vs _
    cases ks with
    | nil => rfl
    | cons k ks =>
      cases vs with
      | nil => simp at l
      | cons v vs => rfl
  | obj _ _ _ => cases h
theorem st_tru {te : TE} {m : ME} (h : SE K κ te m) : ST K κ (fun σ H Q => te σ H fun x H' => ∃ k, TruV K x H' k ∧ Q k H') (mTru m) := fun m0 ρ cs σ G H as b cs' Q s hm q => by
  unfold mTru mBind at hm
  split at hm
  · rename_i e cs1 h1
    dsimp only at hm
    split at hm
    · rename_i d
      rw [Option.map_eq_some_iff] at hm
      obtain ⟨b', hb, e0⟩ := hm
      cases e0
      exact h m0 ρ cs σ G H as _ _ _ s h1 fun v G1 H1 as1 t1 ok1 r1 => ⟨b, tru_ok ok1.ex r1 hb, q G1 H1 as1 t1 ok1⟩
    · cases hm
  · cases hm

/-! ### rules of two values -/
def i2 (f : Int → Int → D) : D → D → Option D
  | .int i, .int j => some (f i j)
  | _, _ => none
def i2c (C : Int → Int → Bool) (f : Int → Int → D) : D → D → Option D
  | .int i, .int j => if C i j = true then some (f i j) else none
  | _, _ => none
theorem r2_I0 {g : Int → Int → V} {f : Int → Int → D} (h : ∀ G i j, Rep K κ G (g i j) (f i j)) : R2ok K κ (rI0 g) (i2 f) := fun G H x y dx dy d Q e rx ry hf q => by
  unfold i2 at hf
  split at hf
  · cases hf
    exact ⟨_, _, rx.int_inv, ry.int_inv, q.1 _ (h G _ _)⟩
  · cases hf
theorem r2_I {C : Int → Int → Prop} {g : Int → Int → V} {B : Int → Int → Bool} {f : Int → Int → D} (hC : ∀ i j, B i j = true → C i j) (h : ∀ G i j, B i j = true → Rep K κ G (g i j) (f i j)) : R2ok K κ (rI C g) (i2c B f) := fun G H x y dx dy d Q e rx ry hf q => by
  unfold i2c at hf
  split at hf
  · split at hf
    · rename_i hb
      cases hf
      exact ⟨_, _, rx.int_inv, ry.int_inv, hC _ _ hb, q.1 _ (h G _ _ hb)⟩
    · cases hf
  · cases hf
def fAdd := i2 fun i j => .int (i + j)
def fSub := i2 fun i j => .int (i - j)
theorem r2_add : R2ok K κ (rI0 fun i j => .int (i + j)) fAdd := r2_I0 fun _ _ _ => .int _
theorem r2_sub : R2ok K κ (rI0 fun i j => .int (i - j)) fSub := r2_I0 fun _ _ _ => .int _
def small64 (i : Int) : Bool := decide (i.natAbs < 2 ^ 64)
def fMul := i2c (fun i j => small64 i || small64 j) fun i j => .int (i * j)
theorem r2_mul : R2ok K κ (rI CMul fun i j => .int (i * j)) fMul := r2_I (fun i j h => by
  rcases Bool.or_eq_true_iff.mp h with h | h
  · have h := of_decide_eq_true h
    exact .inl ⟨by omega, by omega⟩
  · have h := of_decide_eq_true h
    exact .inr ⟨by omega, by omega⟩) fun _ _ _ _ => .int _
def fFdiv := i2c (fun _ j => decide (0 < j ∧ j.natAbs < 1073741824)) fun i j => .int (i / j)
theorem r2_fdiv : R2ok K κ (rI CDiv fun i j => .int (i / j)) fFdiv := r2_I (fun i j h => by
  have h : 0 < j ∧ j.natAbs < 1073741824 := of_decide_eq_true h
  exact ⟨h.1, by omega⟩) fun _ _ _ _ => .int _
def fMod := i2c (fun _ j => decide (0 < j)) fun i j => .int (i % j)
theorem r2_mod : R2ok K κ (rI (fun _ j => 0 < j) fun i j => .int (i % j)) fMod := r2_I (fun i j h => of_decide_eq_true h) fun _ _ _ _ => .int _
def fPow := i2c (fun i j => decide (0 ≤ j ∧ j.natAbs ≤ 1000000) && small64 i && decide (i.natAbs < 2 ^ 64)) fun i j => .int (i ^ j.toNat)
theorem r2_pow : R2ok K κ (rI CPow fun i j => .int (i ^ j.toNat)) fPow := r2_I (fun i j h => by
  rw [Bool.and_eq_true, Bool.and_eq_true] at h
  have a := of_decide_eq_true h.1.1
  exact ⟨a.1, by omega, of_decide_eq_true h.2⟩) fun _ _ _ _ => .int _
def fLt := i2 fun i j => .bl (decide (i < j))
def fLe := i2 fun i j => .bl (decide (i ≤ j))
def fGt := i2 fun i j => .bl (decide (j < i))
def fGe := i2 fun i j => .bl (decide (j ≤ i))
theorem r2_lt : R2ok K κ (rI0 fun i j => .bl (decide (i < j))) fLt := r2_I0 fun _ _ _ => .bl _
theorem r2_le : R2ok K κ (rI0 fun i j => .bl (decide (i ≤ j))) fLe := r2_I0 fun _ _ _ => .bl _
theorem r2_gt : R2ok K κ (rI0 fun i j => .bl (decide (j < i))) fGt := r2_I0 fun _ _ _ => .bl _
theorem r2_ge : R2ok K κ (rI0 fun i j => .bl (decide (j ≤ i))) fGe := r2_I0 fun _ _ _ => .bl _
/-! == of scalars -/
def scalD : D → D → Option Bool
  | .non, .non => some true | .non, .int _ => some false | .int _, .non => some false | .non, .bl _ => some false | .bl _, .non => some false | .non, .str _ => some false | .str _, .non => some false
  | .int i, .int j => some (decide (i = j)) | .bl i, .bl j => some (decide (i = j)) | .str i, .str j => some (decide (i = j))
  | .int _, .str _ => some false | .str _, .int _ => some false | .bl _, .str _ => some false | .str _, .bl _ => some false
  | _, _ => none
def fEq (a b : D) : Option D := (scalD a b).map .bl
def fNe (a b : D) : Option D := (scalD a b).map fun k => .bl (!k)
theorem scal_ok {x y : V} {a b : D} {k : Bool} (rx : Rep K κ G x a) (ry : Rep K κ G y b) (h : scalD a b = some k) : scal x y = true ∧ decide (x = y) = k := by
  unfold scalD at h
  split at h <;> first
    | (cases h; cases rx; cases ry; exact ⟨rfl, by simp⟩)
    | cases h
theorem r2_eq : R2ok K κ rEq fEq := fun G H x y dx dy d Q e rx ry hf q => by
  unfold fEq at hf
  rw [Option.map_eq_some_iff] at hf
  obtain ⟨k, hk, e0⟩ := hf
  cases e0
  obtain ⟨h1, h2⟩ := scal_ok rx ry hk
  exact ⟨h1, by rw [h2]; exact q.1 _ (.bl k)⟩
theorem r2_ne : R2ok K κ rNe fNe := fun G H x y dx dy d Q e rx ry hf q => by
  unfold fNe at hf
  rw [Option.map_eq_some_iff] at hf
  obtain ⟨k, hk, e0⟩ := hf
  cases e0
  obtain ⟨h1, h2⟩ := scal_ok rx ry hk
  exact ⟨h1, by rw [h2]; exact q.1 _ (.bl _)⟩
/-! items -/
def fIxL : D → D → Option D
  | .lst xs, .int i => atI xs i
  | .fls xs, .int i => atI xs i
  | _, _ => none
def fIxT : D → D → Option D
  | .tup xs, .int i => atI xs i
  | _, _ => none
theorem RepAll.atI {vs : List V} {ds : List D} {i : Int} {d : D} (r : RepAll K κ G vs ds) (h : L2.atI ds i = some d) : ∃ v, L2.atI vs i = some v ∧ Rep K κ G v d := by
  unfold L2.atI at h ⊢
  rw [r.length]
  cases e : ixN ds.length i with
  | none => rw [e] at h; cases h
  | some j =>
    rw [e] at h
    exact r.get h
theorem r2_ixL : R2ok K κ (rIxL K) fIxL := fun G H x y dx dy d Q e rx ry hf q => by
  unfold fIxL at hf
  split at hf
  · obtain ⟨a, xs, rfl, h, r⟩ := rx.lst_inv
    obtain ⟨v, hv, rv⟩ := r.atI hf
    exact ⟨a, xs, _, v, rfl, ry.int_inv, SqL.of (e _ _ h), hv, q.1 _ rv⟩
  · obtain ⟨a, xs, rfl, h, r⟩ := rx.fls_inv
    obtain ⟨v, hv, rv⟩ := r.atI hf
    exact ⟨a, xs, _, v, rfl, ry.int_inv, e.l h, hv, q.1 _ rv⟩
  · cases hf
theorem r2_ixT : R2ok K κ (rIxT K) fIxT := fun G H x y dx dy d Q e rx ry hf q => by
  unfold fIxT at hf
  split at hf
  · obtain ⟨a, xs, rfl, h, r⟩ := rx.tup_inv
    obtain ⟨v, hv, rv⟩ := r.atI hf
    exact ⟨a, xs, _, v, rfl, ry.int_inv, SqT.of (e _ _ h), hv, q.1 _ rv⟩
  · cases hf
/-! lists and tuples put together -/
def fCat : D → D → Option D
  | .lst xs, .lst ys => if xs.length + ys.length ≤ 100000 then some (.lst (xs ++ ys)) else none
  | _, _ => none
theorem RepAll.append {vs : List V} {ds : List D} (r : RepAll K κ G vs ds) {ws : List V} {es : List D} (s : RepAll K κ G ws es) : RepAll K κ G (vs ++ ws) (ds ++ es) := by
  induction ds generalizing vs with
  | nil => cases r; exact s
  | cons d ds ih => cases r with | cons a t => exact .cons a (ih t)
theorem r2_cat : R2ok K κ rCat fCat := fun G H x y dx dy d Q e rx ry hf q => by
  unfold fCat at hf
  split at hf
  · split at hf
    · rename_i hl
      cases hf
      obtain ⟨a, xs, rfl, h, r⟩ := rx.lst_inv
      obtain ⟨b, ys, rfl, h', r'⟩ := ry.lst_inv
      refine ⟨a, b, xs, ys, rfl, rfl, e _ _ h, e _ _ h', sz_of (by rw [r.length, r'.length]; exact hl), fun p hp => q.2 p _ hp ?_⟩
      have hg : G p = none := by
        cases z : G p with
        | none => rfl
        | some o => have := e _ _ z; rw [hp] at this; cases this
      exact .lst upd_same (RepAll.mono (SameH.new hg) (r.append r'))
    · cases hf
  · cases hf
def fCatT : D → D → Option D
  | .tup xs, .tup ys => if xs.length + ys.length ≤ 100000 then some (.tup (xs ++ ys)) else none
  | _, _ => none
def fRep : D → D → Option D
  | .lst xs, .int k => if 0 ≤ k ∧ k.natAbs < 2 ^ 63 ∧ xs.length * k.toNat ≤ 100000 then some (.lst (List.replicate k.toNat xs).flatten) else none
  | _, _ => none
theorem RepAll.rep {vs : List V} {ds : List D} (r : RepAll K κ G vs ds) : ∀ n, RepAll K κ G (List.replicate n vs).flatten (List.replicate n ds).flatten
  | 0 => .nil
  | n + 1 => by
    rw [List.replicate_succ, List.replicate_succ, List.flatten_cons, List.flatten_cons]
    exact r.append (RepAll.rep r n)
theorem SameH.none (e : SameH G H) {p : Addr} (hp : H p = Option.none) : G p = Option.none := by
  cases z : G p with
  | none => rfl
  | some o => have := e _ _ z; rw [hp] at this; cases this
theorem r2_rep : R2ok K κ rRep fRep := fun G H x y dx dy d Q e rx ry hf q => by
  unfold fRep at hf
  split at hf
  · split at hf
    · rename_i hl
      cases hf
      obtain ⟨a, xs, rfl, h, r⟩ := rx.lst_inv
      refine ⟨a, _, xs, rfl, ry.int_inv, e _ _ h, by omega, by omega, sz_of (by rw [r.length]; exact hl.2.2), fun p hp => q.2 p _ hp ?_⟩
      exact .lst upd_same (RepAll.mono (SameH.new (e.none hp)) (r.rep _))
    · cases hf
  · cases hf
end
end Fw
set_option maxRecDepth 100000
set_option maxHeartbeats 4000000
namespace Fw
open PySem PySem.Spec PyProof.Rows L2
mutual
/-- as the layer's data, where it is that -/
def D.py : D → Option PyData
  | .non => some .none
  | .bl b => some (.bool b)
  | .int i => some (.int i)
  | .str s => some (.str s)
  | .lst xs => (D.pys xs).map .list
  | .tup xs => (D.pys xs).map .tuple
  | .fls xs => (D.pys xs).map .list
  | .dT _ _ => none
  | .dK _ _ => none
  | .obj _ _ _ => none
def D.pys : List D → Option (List PyData)
  | [] => some []
  | d :: ds => match D.py d, D.pys ds with
    | some x, some xs => some (x :: xs)
    | _, _ => none
end
section
variable {K : PySem.W.Frag} {κ : Nat → Addr} {G G' H H' : Hp} {as as' : List Addr} {m0 : Nat} {ρ : Sl} {cs cs' : List Cell} {σ : L2.St}
mutual
theorem Rep.dp (e : SameH G H) : ∀ {v : V} {d : D} {y : PyData}, Rep K κ G v d → d.py = some y → Dp K H v y
  | _, _, _, .non, h => by cases h; exact .non
  | _, _, _, .bl b, h => by cases h; exact .bl b
  | _, _, _, .int i, h => by cases h; exact .int i
  | _, _, _, .str x, h => by cases h; exact .str x
  | _, _, _, .lst g r, h => by
    rw [D.py, Option.map_eq_some_iff] at h
    obtain ⟨ys, h1, h2⟩ := h
    cases h2
    exact .lst (SqL.of (e _ _ g)) (RepAll.dp e r h1)
  | _, _, _, .tup g r, h => by
    rw [D.py, Option.map_eq_some_iff] at h
    obtain ⟨ys, h1, h2⟩ := h
    cases h2
    exact .tup (SqT.of (e _ _ g)) (RepAll.dp e r h1)
  | _, _, _, .fls g r, h => by
    rw [D.py, Option.map_eq_some_iff] at h
    obtain ⟨ys, h1, h2⟩ := h
    cases h2
    exact .lst (e.l g) (RepAll.dp e r h1)
  | _, _, _, .dT _ _ _, h => by rw [D.py] at h; cases h
  | _, _, _, .dK _ _ _, h => by rw [D.py] at h; cases h
  | _, _, _, .obj _ _ _, h => by rw [D.py] at h; cases h
theorem RepAll.dp (e : SameH G H) : ∀ {vs : List V} {ds : List D} {ys : List PyData}, RepAll K κ G vs ds → D.pys ds = some ys → DpAll K H vs ys
  | _, _, _, .nil, h => by rw [D.pys] at h; cases h; exact .nil
  | _, _, _, .cons r t, h => by
    rw [D.pys] at h
    split at h
    · rename_i x xs h1 h2
      cases h
      exact .cons (Rep.dp e r h1) (RepAll.dp e t h2)
    · cases h
end
/-! ### deep ==, in, index -/
def py2 (f : PyData → PyData → D) (a b : D) : Option D := match a.py, b.py with
  | some x, some y => if (SeqAt.shaped x && SeqAt.shaped y) = true then some (f x y) else none
  | _, _ => none
theorem py2_some {f : PyData → PyData → D} {a b d : D} (h : py2 f a b = some d) : ∃ x y, a.py = some x ∧ b.py = some y ∧ SeqAt.shaped x = true ∧ SeqAt.shaped y = true ∧ d = f x y := by
  unfold py2 at h
  split at h
  · rename_i x y h1 h2
    split at h
    · rename_i hs
      rw [Bool.and_eq_true] at hs
      cases h
      exact ⟨x, y, h1, h2, hs.1, hs.2, rfl⟩
    · cases h
  · cases h
def fEqD := py2 fun x y => .bl (PyData.eqv x y)
def fNeD := py2 fun x y => .bl (!PyData.eqv x y)
theorem r2_eqD : R2ok K κ (rEqD K) fEqD := fun G H x y dx dy d Q e rx ry hf q => by
  obtain ⟨a, b, h1, h2, s1, s2, rfl⟩ := py2_some hf
  exact ⟨a, b, rx.dp e h1, ry.dp e h2, s1, s2, q.1 _ (.bl _)⟩
theorem r2_neD : R2ok K κ (rNeD K) fNeD := fun G H x y dx dy d Q e rx ry hf q => by
  obtain ⟨a, b, h1, h2, s1, s2, rfl⟩ := py2_some hf
  exact ⟨a, b, rx.dp e h1, ry.dp e h2, s1, s2, q.1 _ (.bl _)⟩
def fInD (neg : Bool) (a b : D) : Option D := match a.py, b.py with
  | some x, some (.list ys) => if (SeqAt.shaped x && SeqAt.shaped (.list ys)) = true then some (.bl (if neg then !(ys.any fun z => PyData.eqv z x) else ys.any fun z => PyData.eqv z x)) else none
  | _, _ => none
theorem fInD_some {neg : Bool} {a b d : D} (h : fInD neg a b = some d) : ∃ x ys, a.py = some x ∧ b.py = some (.list ys) ∧ SeqAt.shaped x = true ∧ SeqAt.shaped (.list ys) = true ∧ d = .bl (if neg then !(ys.any fun z => PyData.eqv z x) else ys.any fun z => PyData.eqv z x) := by
  unfold fInD at h
  split at h
  · rename_i x y h1 h2
    split at h
    · rename_i hs
      rw [Bool.and_eq_true] at hs
      cases h
      exact ⟨x, y, h1, h2, hs.1, hs.2, rfl⟩
    · cases h
  · cases h
theorem r2_inD : R2ok K κ (rInD K) (fInD false) := fun G H x y dx dy d Q e rx ry hf q => by
  obtain ⟨a, b, h1, h2, s1, s2, rfl⟩ := fInD_some hf
  exact ⟨a, b, rx.dp e h1, ry.dp e h2, s1, s2, q.1 _ (.bl _)⟩
theorem r2_notInD : R2ok K κ (rNotInD K) (fInD true) := fun G H x y dx dy d Q e rx ry hf q => by
  obtain ⟨a, b, h1, h2, s1, s2, rfl⟩ := fInD_some hf
  exact ⟨a, b, rx.dp e h1, ry.dp e h2, s1, s2, q.1 _ (.bl _)⟩

/-! ### tuples put together -/
theorem RepAll.nil_iff {vs : List V} {ds : List D} (r : RepAll K κ G vs ds) : vs = [] ↔ ds = [] := by cases r <;> simp
theorem r2_catA : R2ok K κ (rCatA K) fCatT := fun G H x y dx dy d Q e rx ry hf q => by
  unfold fCatT at hf
  split at hf
  · split at hf
    · rename_i hl
      cases hf
      obtain ⟨a, xs, rfl, h, r⟩ := rx.tup_inv
      obtain ⟨b, ys, rfl, h', r'⟩ := ry.tup_inv
      refine ⟨a, b, xs, ys, rfl, rfl, SqT.of (e _ _ h), SqT.of (e _ _ h'), sz_of (by rw [r.length, r'.length]; exact hl), fun hx => ?_, fun _ hy => ?_, fun _ _ p hp => ?_⟩
      · have := r.nil_iff.mp hx
        subst this
        exact q.1 _ ry
      · have := r'.nil_iff.mp hy
        subst this
        rw [List.append_nil] at q
        exact q.1 _ rx
      · exact q.2 p _ hp (.tup upd_same (RepAll.mono (SameH.new (e.none hp)) (r.append r')))
    · cases hf
  · cases hf

/-! ### calls of built-ins -/
def fLen : List D → Option D
  | [.lst xs] => some (.int xs.length) | [.tup xs] => some (.int xs.length) | [.fls xs] => some (.int xs.length)
  | _ => none
theorem rc_len : RCok K κ (fun xs H Q => ∃ x n, xs = [x] ∧ LenV K x H n ∧ Q (.int n) H) fLen := fun G H xs ds d Q e r hf q => by
  unfold fLen at hf
  split at hf
  · cases hf
    cases r with | cons r t => cases t with | nil =>
      obtain ⟨a, ys, rfl, h, r'⟩ := r.lst_inv
      exact ⟨_, _, rfl, .inl ⟨ys, SqL.of (e _ _ h), rfl⟩, by rw [r'.length]; exact q.1 _ (.int _)⟩
  · cases hf
    cases r with | cons r t => cases t with | nil =>
      obtain ⟨a, ys, rfl, h, r'⟩ := r.tup_inv
      exact ⟨_, _, rfl, .inr ⟨ys, SqT.of (e _ _ h), rfl⟩, by rw [r'.length]; exact q.1 _ (.int _)⟩
  · cases hf
    cases r with | cons r t => cases t with | nil =>
      obtain ⟨a, ys, rfl, h, r'⟩ := r.fls_inv
      exact ⟨_, _, rfl, .inl ⟨ys, e.l h, rfl⟩, by rw [r'.length]; exact q.1 _ (.int _)⟩
  · cases hf
def fLenT : List D → Option D
  | [.dT ks _] => some (.int ks.length)
  | _ => none
def fListOf : List D → Option D
  | [.lst xs] => some (.lst xs) | [.tup xs] => some (.lst xs) | [.fls xs] => some (.lst xs)
  | _ => none
theorem rc_list : RCok K κ (fun xs H Q => ∃ p ys, xs = [.ref p] ∧ (SqL K H p ys ∨ SqT K H p ys) ∧ ∀ l, H l = none → Q (.ref l) (upd H l (.lst ys))) fListOf := fun G H xs ds d Q e r hf q => by
  unfold fListOf at hf
  split at hf
  · cases hf
    cases r with | cons r t => cases t with | nil =>
      obtain ⟨a, ys, rfl, h, r'⟩ := r.lst_inv
      exact ⟨_, _, rfl, .inl (SqL.of (e _ _ h)), fun l hl => q.2 l _ hl (.lst upd_same (r'.mono (SameH.new (e.none hl))))⟩
  · cases hf
    cases r with | cons r t => cases t with | nil =>
      obtain ⟨a, ys, rfl, h, r'⟩ := r.tup_inv
      exact ⟨_, _, rfl, .inr (SqT.of (e _ _ h)), fun l hl => q.2 l _ hl (.lst upd_same (r'.mono (SameH.new (e.none hl))))⟩
  · cases hf
    cases r with | cons r t => cases t with | nil =>
      obtain ⟨a, ys, rfl, h, r'⟩ := r.fls_inv
      exact ⟨_, _, rfl, .inl (e.l h), fun l hl => q.2 l _ hl (.lst upd_same (r'.mono (SameH.new (e.none hl))))⟩
  · cases hf
def fTupOf : List D → Option D
  | [.lst xs] => some (.tup xs) | [.tup xs] => some (.tup xs)
  | _ => none
theorem rc_tuple : RCok K κ (fun xs H Q => ∃ p ys, xs = [.ref p] ∧ ((SqL K H p ys ∧ ∀ l, H l = none → Q (.ref l) (upd H l (.tup ys))) ∨ (SqT K H p ys ∧ Q (.ref p) H))) fTupOf := fun G H xs ds d Q e r hf q => by
  unfold fTupOf at hf
  split at hf
  · cases hf
    cases r with | cons r t => cases t with | nil =>
      obtain ⟨a, ys, rfl, h, r'⟩ := r.lst_inv
      exact ⟨_, _, rfl, .inl ⟨SqL.of (e _ _ h), fun l hl => q.2 l _ hl (.tup upd_same (r'.mono (SameH.new (e.none hl))))⟩⟩
  · cases hf
    cases r with | cons r t => cases t with | nil =>
      obtain ⟨a, ys, rfl, h, r'⟩ := r.tup_inv
      exact ⟨_, _, rfl, .inr ⟨SqT.of (e _ _ h), q.1 _ (.tup h r')⟩⟩
  · cases hf
def fInt1 : List D → Option D
  | [.int i] => some (.int i) | [.bl k] => some (.int (if k then 1 else 0))
  | _ => none
theorem rc_int : RCok K κ (fun xs H Q => (∃ i, xs = [.int i] ∧ Q (.int i) H) ∨ ∃ k, xs = [.bl k] ∧ Q (.int (if k then 1 else 0)) H) fInt1 := fun G H xs ds d Q e r hf q => by
  unfold fInt1 at hf
  split at hf
  · cases hf
    cases r with | cons r t => cases t with | nil => exact .inl ⟨_, by rw [r.int_inv], q.1 _ (.int _)⟩
  · cases hf
    cases r with | cons r t => cases t with | nil => exact .inr ⟨_, by rw [r.bl_inv], q.1 _ (.int _)⟩
  · cases hf
def fAbs : List D → Option D
  | [.int i] => some (.int (if i < 0 then -i else i))
  | _ => none
theorem rc_abs : RCok K κ (fun xs H Q => ∃ i, xs = [.int i] ∧ Q (.int (if i < 0 then -i else i)) H) fAbs := fun G H xs ds d Q e r hf q => by
  unfold fAbs at hf
  split at hf
  · cases hf
    cases r with | cons r t => cases t with | nil => exact ⟨_, by rw [r.int_inv], q.1 _ (.int _)⟩
  · cases hf
def fMax2 : List D → Option D
  | [.int i, .int j] => some (.int (if j > i then j else i))
  | _ => none
theorem rc_max2 : RCok K κ (fun xs H Q => ∃ i j, xs = [.int i, .int j] ∧ Q (.int (if j > i then j else i)) H) fMax2 := fun G H xs ds d Q e r hf q => by
  unfold fMax2 at hf
  split at hf
  · cases hf
    cases r with | cons r t => cases t with | cons r2 t => cases t with | nil => exact ⟨_, _, by rw [r.int_inv, r2.int_inv], q.1 _ (.int _)⟩
  · cases hf
def fMin2 : List D → Option D
  | [.int i, .int j] => some (.int (if j < i then j else i))
  | _ => none
theorem rc_min2 : RCok K κ (fun xs H Q => ∃ i j, xs = [.int i, .int j] ∧ Q (.int (if j < i then j else i)) H) fMin2 := fun G H xs ds d Q e r hf q => by
  unfold fMin2 at hf
  split at hf
  · cases hf
    cases r with | cons r t => cases t with | cons r2 t => cases t with | nil => exact ⟨_, _, by rw [r.int_inv, r2.int_inv], q.1 _ (.int _)⟩
  · cases hf
/-- a list of ints -/
def intsOf : List D → Option (List Int)
  | [] => some []
  | .int i :: ds => (intsOf ds).map (i :: ·)
  | _ :: _ => none
theorem intsOf_map : ∀ ns : List Int, intsOf (ns.map D.int) = some ns
  | [] => rfl
  | n :: ns => by show (intsOf (ns.map D.int)).map (n :: ·) = _; rw [intsOf_map ns]; rfl
theorem intsOf_some : ∀ {ds : List D} {ns : List Int}, intsOf ds = some ns → ds = ns.map D.int
  | [], _, h => by cases h; rfl
  | .int i :: ds, ns, h => by
    unfold intsOf at h
    rw [Option.map_eq_some_iff] at h
    obtain ⟨r, hr, e⟩ := h
    cases e
    rw [intsOf_some hr]; rfl
  | .non :: _, _, h => by cases h
  | .bl _ :: _, _, h => by cases h
  | .str _ :: _, _, h => by cases h
  | .lst _ :: _, _, h => by cases h
  | .tup _ :: _, _, h => by cases h
  | .fls _ :: _, _, h => by cases h
  | .dT _ _ :: _, _, h => by cases h
  | .dK _ _ :: _, _, h => by cases h
  | .obj _ _ _ :: _, _, h => by cases h
theorem RepAll.ints : ∀ {vs : List V} {ns : List Int}, RepAll K κ G vs (ns.map D.int) → vs = ns.map V.int
  | _, [], h => by cases h; rfl
  | _, n :: ns, h => by
    cases h with | cons r t => rw [r.int_inv, RepAll.ints t]; rfl
theorem RepAll.of_ints : ∀ ns : List Int, RepAll K κ G (ns.map V.int) (ns.map D.int)
  | [] => .nil
  | n :: ns => .cons (.int n) (RepAll.of_ints ns)
def overInts (f : List Int → Option Int) : List D → Option D
  | [.lst xs] => (intsOf xs).bind fun ns => (f ns).map .int
  | _ => none
def fSum := overInts fun ns => some ns.sum
def maxOf : List Int → Option Int
  | [] => none
  | n :: ns => some (ns.foldl max n)
def minOf : List Int → Option Int
  | [] => none
  | n :: ns => some (ns.foldl min n)
theorem foldl_max : ∀ (ns : List Int) (a : Int), (ns.foldl max a = a ∨ ns.foldl max a ∈ ns) ∧ a ≤ ns.foldl max a ∧ ∀ y ∈ ns, y ≤ ns.foldl max a
  | [], a => ⟨.inl rfl, Int.le_refl _, fun _ h => by simp at h⟩
  | n :: ns, a => by
    obtain ⟨h1, h2, h3⟩ := foldl_max ns (max a n)
    rw [List.foldl_cons]
    refine ⟨?_, by omega, fun y hy => ?_⟩
    · rcases h1 with h1 | h1
      · rw [h1]
        by_cases h : n ≤ a
        · left; omega
        · right; rw [show max a n = n by omega]; exact List.mem_cons_self
      · exact .inr (List.mem_cons_of_mem _ h1)
    · rcases List.mem_cons.mp hy with rfl | hy
      · omega
      · exact h3 y hy
theorem foldl_min : ∀ (ns : List Int) (a : Int), (ns.foldl min a = a ∨ ns.foldl min a ∈ ns) ∧ ns.foldl min a ≤ a ∧ ∀ y ∈ ns, ns.foldl min a ≤ y
  | [], a => ⟨.inl rfl, Int.le_refl _, fun _ h => by simp at h⟩
  | n :: ns, a => by
    obtain ⟨h1, h2, h3⟩ := foldl_min ns (min a n)
    rw [List.foldl_cons]
    refine ⟨?_, by omega, fun y hy => ?_⟩
    · rcases h1 with h1 | h1
      · rw [h1]
        by_cases h : a ≤ n
        · left; omega
        · right; rw [show min a n = n by omega]; exact List.mem_cons_self
      · exact .inr (List.mem_cons_of_mem _ h1)
    · rcases List.mem_cons.mp hy with rfl | hy
      · omega
      · exact h3 y hy
theorem maxOf_is {ns : List Int} {m a : Int} (hm : maxOf ns = some m) (ha : a ∈ ns) (hle : ∀ y ∈ ns, y ≤ a) : a = m := by
  cases ns with
  | nil => cases hm
  | cons n ns =>
    cases hm
    obtain ⟨h1, h2, h3⟩ := foldl_max ns n
    have h4 : a ≤ ns.foldl max n := by
      rcases List.mem_cons.mp ha with rfl | h
      · exact h2
      · exact h3 _ h
    have h5 : ns.foldl max n ≤ a := by
      rcases h1 with h | h
      · rw [h]; exact hle _ List.mem_cons_self
      · exact hle _ (List.mem_cons_of_mem _ h)
    omega
theorem minOf_is {ns : List Int} {m a : Int} (hm : minOf ns = some m) (ha : a ∈ ns) (hle : ∀ y ∈ ns, a ≤ y) : a = m := by
  cases ns with
  | nil => cases hm
  | cons n ns =>
    cases hm
    obtain ⟨h1, h2, h3⟩ := foldl_min ns n
    have h4 : ns.foldl min n ≤ a := by
      rcases List.mem_cons.mp ha with rfl | h
      · exact h2
      · exact h3 _ h
    have h5 : a ≤ ns.foldl min n := by
      rcases h1 with h | h
      · rw [h]; exact hle _ List.mem_cons_self
      · exact hle _ (List.mem_cons_of_mem _ h)
    omega
def fMax := overInts maxOf
def fMin := overInts minOf
theorem overInts_some {f : List Int → Option Int} {ds : List D} {d : D} (h : overInts f ds = some d) : ∃ ns m, ds = [.lst (ns.map D.int)] ∧ f ns = some m ∧ d = .int m := by
  unfold overInts at h
  split at h
  · rename_i xs
    rw [Option.bind_eq_some_iff] at h
    obtain ⟨ns, h1, h2⟩ := h
    rw [Option.map_eq_some_iff] at h2
    obtain ⟨m, h3, h4⟩ := h2
    cases h4
    exact ⟨ns, m, by rw [intsOf_some h1], h3, rfl⟩
  · cases h
theorem rc_sum : RCok K κ (rSum K) fSum := fun G H xs ds d Q e r hf q => by
  obtain ⟨ns, m, rfl, h1, rfl⟩ := overInts_some hf
  cases h1
  cases r with | cons r t => cases t with | nil =>
    obtain ⟨a, ys, rfl, h, r'⟩ := r.lst_inv
    exact ⟨a, ns, rfl, by rw [← r'.ints]; exact SqL.of (e _ _ h), q.1 _ (.int _)⟩
theorem rc_max : RCok K κ (rMax K) fMax := fun G H xs ds d Q e r hf q => by
  obtain ⟨ns, m, rfl, h1, rfl⟩ := overInts_some hf
  cases r with | cons r t => cases t with | nil =>
    obtain ⟨a, ys, rfl, h, r'⟩ := r.lst_inv
    refine ⟨a, ns, rfl, by rw [← r'.ints]; exact SqL.of (e _ _ h), ?_, fun k hk hle => ?_⟩
    · cases ns with
      | nil => cases h1
      | cons n ns => simp
    · rw [maxOf_is h1 hk hle]; exact q.1 _ (.int _)
theorem rc_min : RCok K κ (rMin K) fMin := fun G H xs ds d Q e r hf q => by
  obtain ⟨ns, m, rfl, h1, rfl⟩ := overInts_some hf
  cases r with | cons r t => cases t with | nil =>
    obtain ⟨a, ys, rfl, h, r'⟩ := r.lst_inv
    refine ⟨a, ns, rfl, by rw [← r'.ints]; exact SqL.of (e _ _ h), ?_, fun k hk hle => ?_⟩
    · cases ns with
      | nil => cases h1
      | cons n ns => simp
    · rw [minOf_is h1 hk hle]; exact q.1 _ (.int _)
end
end Fw
set_option maxRecDepth 100000
set_option maxHeartbeats 4000000
namespace Fw
open PySem PySem.Spec PyProof.Rows L2
section
variable (K : PySem.W.Frag) (κ : Nat → Addr)
/-- an iterator that gives just these -/
def Gives (J : It) (G0 : Hp) (ds : List D) : Prop := ∀ (i : Nat) G H, SameH G0 G → SameH G H →
  (∀ d, ds[i]? = some d → J.go i H ∧ ∀ x H', J.yld i H x H' → (H' = H ∧ Rep K κ G x d) ∨ ∃ T o, H T = none ∧ H' = upd H T o ∧ Rep K κ (upd G T o) x d) ∧
  (i = ds.length → J.stop i H)
abbrev MI := Nat → Sl → List Cell → Option (List D × List Cell)
def SI (wi : TI) (mi : MI) : Prop := ∀ m0 ρ cs σ G H as ds cs' (R : It → Hp → Prop), Sta K κ m0 ρ cs σ G H as → mi m0 ρ cs = some (ds, cs') →
  (∀ J G' H' as', Tr m0 G H as G' H' as' → Ok K κ G' H' as' cs' → Gives K κ J G' ds → R J H') → wi σ H R
abbrev MG := D → Sl → Option Sl
/-- a target that writes at most the slots js -/
def SG (g : TG) (t : MG) (js : List Nat) : Prop := ∀ G H as σ ρ v d ρ' (Q : L2.St → Hp → Prop), SameH G H → SlR' K κ G as σ ρ → Rep K κ G v d → t d ρ = some ρ' →
  (∀ σ', SlR' K κ G as σ' ρ' → σ'.length = σ.length → (∀ k, k ∉ js → σ'[k]? = σ[k]?) → Q σ' H) → g v σ H Q
end
section
variable {K : PySem.W.Frag} {κ : Nat → Addr} {G G' H H' : Hp} {as as' : List Addr} {m0 : Nat} {ρ : Sl} {cs cs' : List Cell} {σ : L2.St}

/-! ### sources -/
/-- a list of plain data -/
def mIL (m : ME) : MI := fun n ρ cs => match m n ρ cs with
  | some (.p (.lst ds), cs1) => some (ds, cs1)
  | some (.p (.fls ds), cs1) => some (ds, cs1)
  | _ => none
theorem gives_list {a : Addr} {xs : List V} {ds : List D} (h : SqL K G a xs) (r : RepAll K κ G xs ds) : Gives K κ (Itl K a) G ds := fun i G1 H1 e1 e2 => by
  refine ⟨fun d hd => ?_, fun hi => ⟨xs, e2.l (e1.l h), by rw [r.length]; exact Nat.le_of_eq hi.symm⟩⟩
  obtain ⟨v, hv, rv⟩ := r.get hd
  refine ⟨⟨xs, v, e2.l (e1.l h), hv⟩, fun x H' y => ?_⟩
  obtain ⟨e, y⟩ := y
  have := y xs (e2.l (e1.l h))
  rw [hv] at this
  cases this
  exact .inl ⟨e, rv.mono e1⟩
theorem si_list {tl : TE} {m : ME} (h : SE K κ tl m) : SI K κ (iList K tl) (mIL m) := fun m0 ρ cs σ G H as ds cs' R s hm q => by
  unfold mIL at hm
  split at hm
  · rename_i ds' cs1 h1
    cases hm
    refine h m0 ρ cs σ G H as _ _ _ s h1 fun v G1 H1 as1 t1 ok1 r1 => ?_
    obtain ⟨a, xs, rfl, g, r⟩ := Rep.lst_inv r1
    exact ⟨a, rfl, ⟨xs, SqL.of (ok1.ex _ _ g)⟩, q _ G1 H1 as1 t1 ok1 (gives_list (SqL.of g) r)⟩
  · rename_i ds' cs1 h1
    cases hm
    refine h m0 ρ cs σ G H as _ _ _ s h1 fun v G1 H1 as1 t1 ok1 r1 => ?_
    obtain ⟨a, xs, rfl, g, r⟩ := Rep.fls_inv r1
    exact ⟨a, rfl, ⟨xs, ok1.ex.l g⟩, q _ G1 H1 as1 t1 ok1 (gives_list g r)⟩
  · cases hm
def mIT (m : ME) : MI := fun n ρ cs => match m n ρ cs with
  | some (.p (.tup ds), cs1) => some (ds, cs1)
  | _ => none
theorem gives_tup {a : Addr} {xs : List V} {ds : List D} (h : SqT K G a xs) (r : RepAll K κ G xs ds) : Gives K κ (Itt K a) G ds := fun i G1 H1 e1 e2 => by
  refine ⟨fun d hd => ?_, fun hi => ⟨xs, e2.t (e1.t h), by rw [r.length]; exact Nat.le_of_eq hi.symm⟩⟩
  obtain ⟨v, hv, rv⟩ := r.get hd
  refine ⟨⟨xs, v, e2.t (e1.t h), hv⟩, fun x H' y => ?_⟩
  obtain ⟨e, y⟩ := y
  have := y xs (e2.t (e1.t h))
  rw [hv] at this
  cases this
  exact .inl ⟨e, rv.mono e1⟩
theorem si_tup {tl : TE} {m : ME} (h : SE K κ tl m) : SI K κ (iTup K tl) (mIT m) := fun m0 ρ cs σ G H as ds cs' R s hm q => by
  unfold mIT at hm
  split at hm
  · rename_i ds' cs1 h1
    cases hm
    refine h m0 ρ cs σ G H as _ _ _ s h1 fun v G1 H1 as1 t1 ok1 r1 => ?_
    obtain ⟨a, xs, rfl, g, r⟩ := Rep.tup_inv r1
    exact ⟨a, rfl, ⟨xs, SqT.of (ok1.ex _ _ g)⟩, q _ G1 H1 as1 t1 ok1 (gives_tup (SqT.of g) r)⟩
  · cases hm
def rangeD (lo : Int) (n : Nat) : List D := (List.range n).map fun (i : Nat) => D.int (lo + (i : Int))
theorem gives_range {lo : Int} {n : Nat} : Gives K κ (Itr lo n) G (rangeD lo n) := fun i G1 H1 e1 e2 => by
  refine ⟨fun d hd => ?_, fun hi => by rw [rangeD, List.length_map, List.length_range] at hi; exact Nat.le_of_eq hi.symm⟩
  rw [rangeD, List.getElem?_map] at hd
  rw [Option.map_eq_some_iff] at hd
  obtain ⟨j, hj, e⟩ := hd
  have hl := (List.getElem?_eq_some_iff.mp hj)
  have e' := hl.2
  have hlt := hl.1
  rw [List.length_range] at hlt
  rw [List.getElem_range] at e'
  subst e'
  refine ⟨hlt, fun x H' y => .inl ⟨y.1, ?_⟩⟩
  rw [y.2, ← e]
  exact .int _
def okR (i : Int) : Bool := decide (i.natAbs < 2 ^ 62)
def mIR1 (ma : MA) : MI := fun n ρ cs => match ma n ρ cs with
  | some ([.p (.int j)], cs1) => if okR j = true then some (rangeD 0 j.toNat, cs1) else none
  | _ => none
def mIR2 (ma : MA) : MI := fun n ρ cs => match ma n ρ cs with
  | some ([.p (.int i), .p (.int j)], cs1) => if (okR i && okR j) = true then some (rangeD i (j - i).toNat, cs1) else none
  | _ => none
theorem si_range1 {ta : TA} {ma : MA} (h : SA K κ ta ma) : SI K κ (iRng1 ta) (mIR1 ma) := fun m0 ρ cs σ G H as ds cs' R s hm q => by
  unfold mIR1 at hm
  split at hm
  · rename_i j cs1 h1
    split at hm
    · rename_i hj
      cases hm
      refine h m0 ρ cs σ G H as _ _ _ s h1 fun vs G1 H1 as1 t1 ok1 r1 => ?_
      have hj := of_decide_eq_true hj
      cases r1 with | cons r t => cases t with | nil =>
        exact ⟨j, by rw [Rep.int_inv r], by omega, by omega, q _ G1 H1 as1 t1 ok1 gives_range⟩
    · cases hm
  · cases hm
theorem si_range2 {ta : TA} {ma : MA} (h : SA K κ ta ma) : SI K κ (iRng2 ta) (mIR2 ma) := fun m0 ρ cs σ G H as ds cs' R s hm q => by
  unfold mIR2 at hm
  split at hm
  · rename_i i j cs1 h1
    split at hm
    · rename_i hj
      cases hm
      refine h m0 ρ cs σ G H as _ _ _ s h1 fun vs G1 H1 as1 t1 ok1 r1 => ?_
      rw [Bool.and_eq_true] at hj
      have h2 := of_decide_eq_true hj.1
      have h3 := of_decide_eq_true hj.2
      cases r1 with | cons r t => cases t with | cons r' t => cases t with | nil =>
        exact ⟨i, j, by rw [Rep.int_inv r, Rep.int_inv r'], ⟨by omega, by omega, by omega, by omega⟩, q _ G1 H1 as1 t1 ok1 gives_range⟩
    · cases hm
  · cases hm
def enumD (ds : List D) : List D := ds.zipIdx.map fun p => D.tup [.int (p.2 : Nat), p.1]
def mIE (ma : MA) : MI := fun n ρ cs => match ma n ρ cs with
  | some ([.p (.lst ds)], cs1) => some (enumD ds, cs1)
  | some ([.p (.fls ds)], cs1) => some (enumD ds, cs1)
  | _ => none
theorem gives_enum {a : Addr} {xs : List V} {ds : List D} (h : SqL K G a xs) (r : RepAll K κ G xs ds) : Gives K κ (Ite K a) G (enumD ds) := fun i G1 H1 e1 e2 => by
  refine ⟨fun d hd => ?_, fun hi => ⟨xs, e2.l (e1.l h), by rw [r.length]; rw [enumD, List.length_map, List.length_zipIdx] at hi; exact Nat.le_of_eq hi.symm⟩⟩
  rw [enumD, List.getElem?_map, List.getElem?_zipIdx, Option.map_map, Option.map_eq_some_iff] at hd
  obtain ⟨d0, hd0, e⟩ := hd
  obtain ⟨v, hv, rv⟩ := r.get hd0
  refine ⟨⟨xs, v, e2.l (e1.l h), hv⟩, fun x H' y => ?_⟩
  obtain ⟨T, x', rfl, hT, rfl, y⟩ := y
  have := y xs (e2.l (e1.l h))
  rw [hv] at this
  cases this
  refine .inr ⟨T, _, hT, rfl, ?_⟩
  have e' : D.tup [.int (i : Nat), d0] = d := by rw [← e]; simp
  rw [← e']
  exact .tup upd_same (.cons (.int _) (.cons (rv.mono (e1.trans (SameH.new (e2.none hT)))) .nil))
theorem si_enum {ta : TA} {ma : MA} (h : SA K κ ta ma) : SI K κ (iEnum K ta) (mIE ma) := fun m0 ρ cs σ G H as ds cs' R s hm q => by
  unfold mIE at hm
  split at hm
  · rename_i ds' cs1 h1
    cases hm
    refine h m0 ρ cs σ G H as _ _ _ s h1 fun vs G1 H1 as1 t1 ok1 r1 => ?_
    cases r1 with | cons r t => cases t with | nil =>
      obtain ⟨a, xs, rfl, g, r⟩ := Rep.lst_inv r
      exact ⟨a, xs, rfl, SqL.of (ok1.ex _ _ g), q _ G1 H1 as1 t1 ok1 (gives_enum (SqL.of g) r)⟩
  · rename_i ds' cs1 h1
    cases hm
    refine h m0 ρ cs σ G H as _ _ _ s h1 fun vs G1 H1 as1 t1 ok1 r1 => ?_
    cases r1 with | cons r t => cases t with | nil =>
      obtain ⟨a, xs, rfl, g, r⟩ := Rep.fls_inv r
      exact ⟨a, xs, rfl, ok1.ex.l g, q _ G1 H1 as1 t1 ok1 (gives_enum g r)⟩
  · cases hm

/-! ### targets -/
def tgN (i : Nat) : MG := fun d ρ => some (ρ.set i (some (.p d)))
theorem sg_name {i : Nat} : SG K κ (gName i) (tgN i) [i] := fun G H as σ ρ v d ρ' Q e s r h q => by
  cases h
  refine q _ (SlR'.set (o := some v) (e := some (.p d)) ⟨v, rfl, r⟩ i s) (by simp) fun k hk => ?_
  rw [List.getElem?_set_ne]
  intro h; subst h; simp at hk
def tgs (t : MG) (u : List D → Sl → Option Sl) : List D → Sl → Option Sl
  | [], _ => none
  | d :: ds, ρ => (t d ρ).bind (u ds)
def tgs0 : List D → Sl → Option Sl
  | [], ρ => some ρ
  | _ :: _, _ => none
def SGs (K : PySem.W.Frag) (κ : Nat → Addr) (g : TGs) (t : List D → Sl → Option Sl) (js : List Nat) : Prop := ∀ G H as σ ρ vs ds ρ' (Q : L2.St → Hp → Prop), SameH G H → SlR' K κ G as σ ρ → RepAll K κ G vs ds → t ds ρ = some ρ' →
  (∀ σ', SlR' K κ G as σ' ρ' → σ'.length = σ.length → (∀ k, k ∉ js → σ'[k]? = σ[k]?) → Q σ' H) → g vs σ H Q
theorem sgs_nil : SGs K κ gNil tgs0 [] := fun G H as σ ρ vs ds ρ' Q e s r h q => by
  cases ds with
  | nil => cases r; cases h; exact ⟨rfl, q σ s rfl fun _ _ => rfl⟩
  | cons d ds => cases h
theorem sgs_cons {g : TG} {gs : TGs} {t : MG} {u : List D → Sl → Option Sl} {js ks : List Nat} (h1 : SG K κ g t js) (h2 : SGs K κ gs u ks) : SGs K κ (gCons g gs) (tgs t u) (js ++ ks) := fun G H as σ ρ vs ds ρ' Q e s r h q => by
  cases ds with
  | nil => cases h
  | cons d ds =>
    cases r with | cons r0 r1 =>
      rw [tgs, Option.bind_eq_some_iff] at h
      obtain ⟨ρ1, e1, e2⟩ := h
      refine ⟨_, _, rfl, h1 G H as σ ρ _ d ρ1 _ e s r0 e1 fun σ1 s1 l1 k1 => ?_⟩
      refine h2 G H as σ1 ρ1 _ ds ρ' _ e s1 r1 e2 fun σ2 s2 l2 k2 => q σ2 s2 (l2.trans l1) fun k hk => ?_
      rw [List.mem_append, not_or] at hk
      rw [k2 k hk.2, k1 k hk.1]
def tgT (u : List D → Sl → Option Sl) : MG := fun d ρ => match d with
  | .tup ds => u ds ρ
  | _ => none
theorem sg_tup {gs : TGs} {u : List D → Sl → Option Sl} {js : List Nat} {n : Nat} (h : SGs K κ gs u js) (hn : ∀ ds ρ ρ', u ds ρ = some ρ' → ds.length = n) : SG K κ (gTup K n gs) (tgT u) js := fun G H as σ ρ v d ρ' Q e s r h' q => by
  unfold tgT at h'
  split at h'
  · obtain ⟨a, xs, rfl, g, r'⟩ := r.tup_inv
    exact ⟨a, xs, rfl, SqT.of (e _ _ g), by rw [r'.length]; exact hn _ _ _ h', h G H as σ ρ xs _ ρ' Q e s r' h' q⟩
  · cases h'
def tg2 (i j : Nat) : MG := tgT (tgs (tgN i) (tgs (tgN j) tgs0))
theorem sg_two {i j : Nat} : SG K κ (gTup K 2 (gCons (gName i) (gCons (gName j) gNil))) (tg2 i j) [i, j] := sg_tup (sgs_cons sg_name (sgs_cons sg_name sgs_nil)) fun ds ρ ρ' h => by
  match ds, h with
  | [], h => cases h
  | [_], h => simp [tgs, tgN] at h
  | [_, _], h => rfl
  | _ :: _ :: _ :: _, h => simp [tgs, tgN, tgs0] at h

/-! ### for -/
def forD (tg : MG) (body : MS) (n : Nat) : List D → Sl → List Cell → Option Out
  | [], ρ, cs => some (.nx ρ cs)
  | d :: ds, ρ, cs => match tg d ρ with
    | none => none
    | some ρ1 => match body n ρ1 cs with
      | some (.nx ρ2 cs2) => forD tg body n ds ρ2 cs2
      | some (.ct ρ2 cs2) => forD tg body n ds ρ2 cs2
      | some (.bk ρ2 cs2) => some (.nx ρ2 cs2)
      | some (.rt e cs2) => some (.rt e cs2)
      | none => none
def mFor (mi : MI) (tg : MG) (body : MS) : MS := fun n ρ cs => match mi n ρ cs with
  | some (ds, cs1) => forD tg body n ds ρ cs1
  | none => none
/-- one step's ends seen from further back -/
theorem OutOk.of {N : Nat} {D : Ends} {G1 H1 : Hp} {as1 : List Addr} {o : Out} (hm : m0 ≤ as.length) (t : Tr m0 G H as G1 H1 as1) (h : OutOk K κ m0 G H as N D o) : OutOk K κ m0 G1 H1 as1 N D o := by
  cases o with
  | nx ρ' cs' => exact fun σ' G' H' as' t' ok s => h σ' G' H' as' (t.trans hm t') ok s
  | ct ρ' cs' => exact fun σ' G' H' as' t' ok s => h σ' G' H' as' (t.trans hm t') ok s
  | bk ρ' cs' => exact fun σ' G' H' as' t' ok s => h σ' G' H' as' (t.trans hm t') ok s
  | rt e cs' => exact fun v G' H' as' t' ok s => h v G' H' as' (t.trans hm t') ok s
theorem ss_for {wi : TI} {g : TG} {tb : TS} {mi : MI} {tg : MG} {body : MS} {js : List Nat} (hi : SI K κ wi mi) (hg : SG K κ g tg js) (hb : SS K κ tb body) : SS K κ (tFor wi g tb) (mFor mi tg body) := fun m0 ρ cs σ G H as o D s hm q => by
  unfold mFor at hm
  split at hm
  · rename_i ds cs1 h1
    refine hi m0 ρ cs σ G H as _ _ _ s h1 fun J G1 H1 as1 t1 ok1 gv => ?_
    have s1 := s.step t1 ok1
    refine ⟨fun i m σ' H' => m = ds.length - i ∧ i ≤ ds.length ∧ ∃ ρ' cs' G' as', Tr m0 G1 H1 as1 G' H' as' ∧ Sta K κ m0 ρ' cs' σ' G' H' as' ∧ forD tg body m0 (ds.drop i) ρ' cs' = some o,
      ⟨ds.length, rfl, Nat.zero_le _, ρ, cs1, G1, as1, Tr.refl, s1, hm⟩, ?_⟩
    rintro i m σ' H' ⟨rfl, hi', ρ', cs', G', as', t', s', hf⟩
    obtain ⟨gv1, gv2⟩ := gv i G' H' t'.ex s'.ok.ex
    by_cases hlt : i < ds.length
    · have hd : ds[i]? = some ds[i] := List.getElem?_eq_getElem hlt
      obtain ⟨go, yl⟩ := gv1 _ hd
      rw [List.drop_eq_getElem_cons hlt] at hf
      rw [forD] at hf
      split at hf
      · cases hf
      · rename_i ρ1 hρ1
        refine .inr ⟨go, fun σ2 H2 => ∃ ρ2 cs2 G2 as2, Tr m0 G1 H1 as1 G2 H2 as2 ∧ Sta K κ m0 ρ2 cs2 σ2 G2 H2 as2 ∧ forD tg body m0 (ds.drop (i + 1)) ρ2 cs2 = some o,
          fun σ2 H2 hN => ⟨ds.length - (i + 1), by omega, rfl, hlt, hN⟩, fun x H2 y => ?_⟩
        have key : ∀ G2, Tr m0 G' H' as' G2 H2 as' → Ok K κ G2 H2 as' cs' → Rep K κ G2 x ds[i] → g x σ' H2 fun σ2 H3 => tb { D with nx := fun σ2 H2 => ∃ ρ2 cs2 G2 as2, Tr m0 G1 H1 as1 G2 H2 as2 ∧ Sta K κ m0 ρ2 cs2 σ2 G2 H2 as2 ∧ forD tg body m0 (ds.drop (i + 1)) ρ2 cs2 = some o, ct := fun σ2 H2 => ∃ ρ2 cs2 G2 as2, Tr m0 G1 H1 as1 G2 H2 as2 ∧ Sta K κ m0 ρ2 cs2 σ2 G2 H2 as2 ∧ forD tg body m0 (ds.drop (i + 1)) ρ2 cs2 = some o, bk := D.nx } σ2 H3 := by
          intro G2 t2 ok2 r2
          have t12 := t'.trans s1.le t2
          refine hg G2 H2 as' σ' ρ' x ds[i] ρ1 _ ok2.ex (s'.sl.mono t2.ex t2.le) r2 hρ1 fun σ3 s3 l3 k3 => ?_
          have st3 : Sta K κ m0 ρ1 cs' σ3 G2 H2 as' := ⟨ok2, s3, s'.le⟩
          split at hf
          · rename_i ρ4 cs4 hb4
            refine hb m0 ρ1 cs' σ3 G2 H2 as' _ _ st3 hb4 fun σ5 G5 H5 as5 t5 ok5 s5 => ?_
            exact ⟨ρ4, cs4, G5, as5, t12.trans s1.le t5, ⟨ok5, s5, Nat.le_trans s'.le t5.leng⟩, hf⟩
          · rename_i ρ4 cs4 hb4
            refine hb m0 ρ1 cs' σ3 G2 H2 as' _ _ st3 hb4 fun σ5 G5 H5 as5 t5 ok5 s5 => ?_
            exact ⟨ρ4, cs4, G5, as5, t12.trans s1.le t5, ⟨ok5, s5, Nat.le_trans s'.le t5.leng⟩, hf⟩
          · rename_i ρ4 cs4 hb4
            cases hf
            exact hb m0 ρ1 cs' σ3 G2 H2 as' _ _ st3 hb4 fun σ5 G5 H5 as5 t5 ok5 s5 => q σ5 G5 H5 as5 ((t1.trans s.le t12).trans s.le t5) ok5 s5
          · rename_i e4 cs4 hb4
            cases hf
            exact hb m0 ρ1 cs' σ3 G2 H2 as' _ _ st3 hb4 fun σ5 G5 H5 as5 t5 ok5 s5 => q σ5 G5 H5 as5 ((t1.trans s.le t12).trans s.le t5) ok5 s5
          · cases hf
        rcases yl x H2 y with ⟨rfl, rx⟩ | ⟨T, o', hT, rfl, rx⟩
        · exact key G' Tr.refl s'.ok rx
        · exact key _ (Tr.newp s'.ok hT) (s'.ok.newp hT) rx
    · have e : i = ds.length := by omega
      subst e
      refine .inl ⟨gv2 rfl, ?_⟩
      rw [List.drop_length, forD] at hf
      cases hf
      exact q σ' G' H' as' (t1.trans s.le t') s'.ok s'.sl
  · cases hm
end
end Fw
set_option maxRecDepth 100000
set_option maxHeartbeats 4000000
namespace Fw
open PySem PySem.Spec PyProof.Rows L2
section
variable {K : PySem.W.Frag} {κ : Nat → Addr} {G G' H H' : Hp} {as as' : List Addr} {m0 : Nat} {ρ : Sl} {cs cs' : List Cell} {σ : L2.St}

/-! ### statements -/
def sSeq (a b : MS) : MS := fun n ρ cs => match a n ρ cs with
  | some (.nx ρ1 cs1) => b n ρ1 cs1
  | o => o
def sNext : MS := fun _ ρ cs => some (.nx ρ cs)
theorem ss_next : SS K κ tNext sNext := fun m0 ρ cs σ G H as o D s hm q => by
  cases hm; exact q σ G H as Tr.refl s.ok s.sl
theorem ss_seq {t u : TS} {a b : MS} (ha : SS K κ t a) (hb : SS K κ u b) : SS K κ (tSeq t u) (sSeq a b) := fun m0 ρ cs σ G H as o D s hm q => by
  unfold sSeq at hm
  split at hm
  · rename_i ρ1 cs1 h1
    refine ha m0 ρ cs σ G H as _ { D with nx := u D } s h1 fun σ1 G1 H1 as1 t1 ok1 s1 => ?_
    exact hb m0 ρ1 cs1 σ1 G1 H1 as1 o D ⟨ok1, s1, Nat.le_trans s.le t1.leng⟩ hm (by
      have := OutOk.of (N := ρ.length) s.le t1 q
      cases o <;> exact this)
  · rename_i hne
    refine ha m0 ρ cs σ G H as o { D with nx := u D } s hm ?_
    cases o with
    | nx ρ1 cs1 => exact absurd hm (by intro h; exact hne ρ1 cs1 h)
    | rt e cs1 => exact q
    | bk ρ1 cs1 => exact q
    | ct ρ1 cs1 => exact q
def sAsg (tg : MG) (m : ME) : MS := fun n ρ cs => match m n ρ cs with
  | some (.p d, cs1) => (tg d ρ).map fun ρ1 => .nx ρ1 cs1
  | _ => none
theorem ss_asg {te : TE} {g : TG} {m : ME} {tg : MG} {js : List Nat} (hg : SG K κ g tg js) (h : SE K κ te m) : SS K κ (tAsg te g) (sAsg tg m) := fun m0 ρ cs σ G H as o D s hm q => by
  unfold sAsg at hm
  split at hm
  · rename_i d cs1 h1
    rw [Option.map_eq_some_iff] at hm
    obtain ⟨ρ1, e1, e2⟩ := hm
    cases e2
    refine h m0 ρ cs σ G H as _ _ _ s h1 fun v G1 H1 as1 t1 ok1 r1 => ?_
    exact hg G1 H1 as1 σ ρ v d ρ1 _ ok1.ex (s.sl.mono t1.ex t1.le) r1 e1 fun σ' s' _ _ => q σ' G1 H1 as1 t1 ok1 s'
  · cases hm
/-- a name takes whatever comes -/
def sSet (i : Nat) (m : ME) : MS := fun n ρ cs => match m n ρ cs with
  | some (e, cs1) => some (.nx (ρ.set i (some e)) cs1)
  | _ => none
theorem ss_set {i : Nat} {te : TE} {m : ME} (h : SE K κ te m) : SS K κ (tAsg te (gName i)) (sSet i m) := fun m0 ρ cs σ G H as o D s hm q => by
  unfold sSet at hm
  split at hm
  · rename_i e cs1 h1
    cases hm
    refine h m0 ρ cs σ G H as _ _ _ s h1 fun v G1 H1 as1 t1 ok1 r1 => ?_
    exact q _ G1 H1 as1 t1 ok1 (SlR'.set (o := some v) (e := some e) ⟨v, rfl, r1⟩ i (s.sl.mono t1.ex t1.le))
  · cases hm
def sDrop (m : ME) : MS := fun n ρ cs => match m n ρ cs with
  | some (_, cs1) => some (.nx ρ cs1)
  | _ => none
theorem ss_drop {te : TE} {m : ME} (h : SE K κ te m) : SS K κ (tDrop te) (sDrop m) := fun m0 ρ cs σ G H as o D s hm q => by
  unfold sDrop at hm
  split at hm
  · rename_i e cs1 h1
    cases hm
    exact h m0 ρ cs σ G H as _ _ _ s h1 fun v G1 H1 as1 t1 ok1 r1 => q _ G1 H1 as1 t1 ok1 (s.sl.mono t1.ex t1.le)
  · cases hm
def sRet (m : ME) : MS := fun n ρ cs => match m n ρ cs with
  | some (e, cs1) => some (.rt e cs1)
  | _ => none
theorem ss_ret {te : TE} {m : ME} (h : SE K κ te m) : SS K κ (tRet te) (sRet m) := fun m0 ρ cs σ G H as o D s hm q => by
  unfold sRet at hm
  split at hm
  · rename_i e cs1 h1
    cases hm
    exact h m0 ρ cs σ G H as _ _ _ s h1 fun v G1 H1 as1 t1 ok1 r1 => q v G1 H1 as1 t1 ok1 r1
  · cases hm
def sRetN : MS := fun _ _ cs => some (.rt (.p .non) cs)
theorem ss_retN : SS K κ tRetN sRetN := fun m0 ρ cs σ G H as o D s hm q => by
  cases hm; exact q .non G H as Tr.refl s.ok .non
def sIf (t : MT) (a b : MS) : MS := fun n ρ cs => match t n ρ cs with
  | some (true, cs1) => a n ρ cs1
  | some (false, cs1) => b n ρ cs1
  | none => none
theorem ss_if {t : TT} {ta tb : TS} {mt : MT} {a b : MS} (ht : ST K κ t mt) (ha : SS K κ ta a) (hb : SS K κ tb b) : SS K κ (tIfS t ta tb) (sIf mt a b) := fun m0 ρ cs σ G H as o D s hm q => by
  unfold sIf at hm
  split at hm
  · rename_i cs1 h1
    exact ht m0 ρ cs σ G H as _ _ _ s h1 fun G1 H1 as1 t1 ok1 => iteT (ha m0 ρ cs1 σ G1 H1 as1 o D (s.step t1 ok1) hm (q.of s.le t1))
  · rename_i cs1 h1
    exact ht m0 ρ cs σ G H as _ _ _ s h1 fun G1 H1 as1 t1 ok1 => iteF (hb m0 ρ cs1 σ G1 H1 as1 o D (s.step t1 ok1) hm (q.of s.le t1))
  · cases hm
def sBreak : MS := fun _ ρ cs => some (.bk ρ cs)
def sCont : MS := fun _ ρ cs => some (.ct ρ cs)
theorem ss_break : SS K κ tBreak sBreak := fun m0 ρ cs σ G H as o D s hm q => by
  cases hm; exact q σ G H as Tr.refl s.ok s.sl
theorem ss_cont : SS K κ tCont sCont := fun m0 ρ cs σ G H as o D s hm q => by
  cases hm; exact q σ G H as Tr.refl s.ok s.sl
def sNever : MS := fun _ _ _ => none
theorem ss_never : SS K κ tNever sNever := fun m0 ρ cs σ G H as o D s hm q => by cases hm
/-- while, n turns at most -/
def whileD (t : MT) (body : MS) (n : Nat) : Nat → Sl → List Cell → Option Out
  | 0, _, _ => none
  | f + 1, ρ, cs => match t n ρ cs with
    | some (false, cs1) => some (.nx ρ cs1)
    | some (true, cs1) => match body n ρ cs1 with
      | some (.nx ρ2 cs2) => whileD t body n f ρ2 cs2
      | some (.ct ρ2 cs2) => whileD t body n f ρ2 cs2
      | some (.bk ρ2 cs2) => some (.nx ρ2 cs2)
      | some (.rt e cs2) => some (.rt e cs2)
      | none => none
    | none => none
def sWhile (f : Nat) (t : MT) (body : MS) : MS := fun n ρ cs => whileD t body n f ρ cs
theorem ss_while {t : TT} {tb : TS} {mt : MT} {body : MS} {f : Nat} (ht : ST K κ t mt) (hb : SS K κ tb body) : SS K κ (tWhile t tb) (sWhile f mt body) := fun m0 ρ cs σ G H as o D s hm q => by
  unfold sWhile at hm
  refine ⟨fun m σ' H' => ∃ ρ' cs' G' as', Tr m0 G H as G' H' as' ∧ Sta K κ m0 ρ' cs' σ' G' H' as' ∧ whileD mt body m0 m ρ' cs' = some o, ⟨f, ρ, cs, G, as, Tr.refl, s, hm⟩, ?_⟩
  rintro m σ' H' ⟨ρ', cs', G', as', t', s', hf⟩
  cases m with
  | zero => cases hf
  | succ m =>
    rw [whileD] at hf
    split at hf
    · rename_i cs1 h1
      cases hf
      exact ht m0 ρ' cs' σ' G' H' as' _ _ _ s' h1 fun G1 H1 as1 t1 ok1 => iteF (q σ' G1 H1 as1 (t'.trans s.le t1) ok1 (s'.sl.mono t1.ex t1.le))
    · rename_i cs1 h1
      refine ht m0 ρ' cs' σ' G' H' as' _ _ _ s' h1 fun G1 H1 as1 t1 ok1 => iteT ?_
      have s1 := s'.step t1 ok1
      have t01 := t'.trans s.le t1
      refine ⟨fun σ2 H2 => ∃ ρ2 cs2 G2 as2, Tr m0 G H as G2 H2 as2 ∧ Sta K κ m0 ρ2 cs2 σ2 G2 H2 as2 ∧ whileD mt body m0 m ρ2 cs2 = some o, fun σ2 H2 hN => ⟨m, Nat.lt_succ_self m, hN⟩, ?_⟩
      split at hf
      · rename_i ρ4 cs4 hb4
        exact hb m0 ρ' cs1 σ' G1 H1 as1 _ _ s1 hb4 fun σ5 G5 H5 as5 t5 ok5 s5 => ⟨ρ4, cs4, G5, as5, t01.trans s.le t5, ⟨ok5, s5, Nat.le_trans s1.le t5.leng⟩, hf⟩
      · rename_i ρ4 cs4 hb4
        exact hb m0 ρ' cs1 σ' G1 H1 as1 _ _ s1 hb4 fun σ5 G5 H5 as5 t5 ok5 s5 => ⟨ρ4, cs4, G5, as5, t01.trans s.le t5, ⟨ok5, s5, Nat.le_trans s1.le t5.leng⟩, hf⟩
      · rename_i ρ4 cs4 hb4
        cases hf
        exact hb m0 ρ' cs1 σ' G1 H1 as1 _ _ s1 hb4 fun σ5 G5 H5 as5 t5 ok5 s5 => q σ5 G5 H5 as5 (t01.trans s.le t5) ok5 s5
      · rename_i e4 cs4 hb4
        cases hf
        exact hb m0 ρ' cs1 σ' G1 H1 as1 _ _ s1 hb4 fun σ5 G5 H5 as5 t5 ok5 s5 => q σ5 G5 H5 as5 (t01.trans s.le t5) ok5 s5
      · cases hf
    · cases hf
/-- x op= e, ints -/
def sAug (i : Nat) (f : Int → Int → Int) (m : ME) : MS := fun n ρ cs => match ρ[i]? with
  | some (some (.p (.int a))) => match m n ρ cs with
    | some (.p (.int b), cs1) => some (.nx (ρ.set i (some (.p (.int (f a b))))) cs1)
    | _ => none
  | _ => none
theorem ss_aug {i : Nat} {f : Int → Int → Int} {te : TE} {m : ME} (h : SE K κ te m) : SS K κ (tAug i te (ipI f)) (sAug i f m) := fun m0 ρ cs σ G H as o D s hm q => by
  unfold sAug at hm
  split at hm
  · rename_i a ha
    split at hm
    · rename_i b cs1 h1
      cases hm
      obtain ⟨v, hv, rv⟩ := s.sl.get ha
      refine ⟨v, hv, h m0 ρ cs σ G H as _ _ _ s h1 fun w G1 H1 as1 t1 ok1 r1 => ⟨a, b, Rep.int_inv rv, Rep.int_inv r1, ?_⟩⟩
      exact q _ G1 H1 as1 t1 ok1 (SlR'.set (o := some (.int (f a b))) (e := some (.p (.int (f a b)))) ⟨_, rfl, .int _⟩ i (s.sl.mono t1.ex t1.le))
    · cases hm
  · cases hm

/-! ### cells -/
theorem Ok.lstC (ok : Ok K κ G H as cs) {k : Nat} {v : V} {es : List E} (r : ERep K κ G as v (.c k)) (h : cs[k]? = some (.lst es)) : ∃ a xs, v = .ref a ∧ as[k]? = some a ∧ G a = none ∧ H a = some (.lst xs) ∧ EAll K κ G as xs es := by
  obtain ⟨a, h1, h2⟩ := r
  obtain ⟨g, xs, hx, q⟩ := ok.cel k a _ h1 h
  exact ⟨a, xs, h2, h1, g, hx, q⟩
theorem sz_lt {n : Nat} (h : n < 100000) : n < sizeLine := Nat.lt_of_lt_of_le h (by decide)
/-- xs.append(e), xs a cell -/
def mAppend (mo : ME) (ma : MA) : ME := fun n ρ cs => match mo n ρ cs with
  | some (.c k, cs1) => match cs1[k]? with
    | some (.lst _) => match ma n ρ cs1 with
      | some ([e], cs2) => match cs2[k]? with
        | some (.lst es) => if es.length < 100000 then some (.p .non, cs2.set k (.lst (es ++ [e]))) else none
        | _ => none
      | _ => none
    | _ => none
  | _ => none
theorem se_append {to : TE} {ta : TA} {mo : ME} {ma : MA} (ho : SE K κ to mo) (ha : SA K κ ta ma) : SE K κ (tBM K "list" rAppend to ta) (mAppend mo ma) := fun m0 ρ cs σ G H as e cs' Q s hm q => by
  unfold mAppend at hm
  split at hm
  · rename_i k cs1 h1
    split at hm
    · rename_i es0 h2
      split at hm
      · rename_i e1 cs2 h3
        split at hm
        · rename_i es h4
          split at hm
          · rename_i hl
            cases hm
            refine ho m0 ρ cs σ G H as _ _ _ s h1 fun v G1 H1 as1 t1 ok1 r1 => ?_
            obtain ⟨a, xs, rfl, hk, g, hx, _⟩ := ok1.lstC r1 h2
            refine ⟨.inl ⟨rfl, _, SqL.of hx⟩, ha m0 ρ cs1 σ G1 H1 as1 _ _ _ (s.step t1 ok1) h3 fun vs G2 H2 as2 t2 ok2 r2 => ?_⟩
            have t12 := t1.trans s.le t2
            obtain ⟨a', xs', e', hk', g', hx', r'⟩ := ok2.lstC (t2.up r1) h4
            cases e'
            cases r2 with | cons ry t => cases t with | nil =>
              rename_i y
              refine ⟨a, xs', y, rfl, rfl, hx', sz_lt (by rw [r'.length]; exact hl), ?_⟩
              refine q _ G2 _ as2 (t12.trans s.le (Tr.put hk')) (ok2.put (c := .lst (es ++ [e1])) hk' g' ⟨g', _, upd_same, r'.append (.cons ry .nil)⟩) .non
          · cases hm
        · cases hm
      · cases hm
    · cases hm
  · cases hm
/-- xs.pop(i), xs a cell -/
def mPopAt (mo : ME) (ma : MA) : ME := fun n ρ cs => match mo n ρ cs with
  | some (.c k, cs1) => match cs1[k]? with
    | some (.lst _) => match ma n ρ cs1 with
      | some ([.p (.int i)], cs2) => match cs2[k]? with
        | some (.lst es) => if 0 ≤ i ∧ i.natAbs < 2 ^ 62 then match es[i.toNat]? with
          | some e => some (e, cs2.set k (.lst (es.eraseIdx i.toNat)))
          | none => none
          else none
        | _ => none
      | _ => none
    | _ => none
  | _ => none
theorem se_popAt {to : TE} {ta : TA} {mo : ME} {ma : MA} (ho : SE K κ to mo) (ha : SA K κ ta ma) : SE K κ (tBM K "list" rPopAt to ta) (mPopAt mo ma) := fun m0 ρ cs σ G H as e cs' Q s hm q => by
  unfold mPopAt at hm
  split at hm
  · rename_i k cs1 h1
    split at hm
    · rename_i es0 h2
      split at hm
      · rename_i i cs2 h3
        split at hm
        · rename_i es h4
          split at hm
          · rename_i hi
            split at hm
            · rename_i e1 he1
              cases hm
              refine ho m0 ρ cs σ G H as _ _ _ s h1 fun v G1 H1 as1 t1 ok1 r1 => ?_
              obtain ⟨a, xs, rfl, hk, g, hx, _⟩ := ok1.lstC r1 h2
              refine ⟨.inl ⟨rfl, _, SqL.of hx⟩, ha m0 ρ cs1 σ G1 H1 as1 _ _ _ (s.step t1 ok1) h3 fun vs G2 H2 as2 t2 ok2 r2 => ?_⟩
              have t12 := t1.trans s.le t2
              obtain ⟨a', xs', e', hk', g', hx', r'⟩ := ok2.lstC (t2.up r1) h4
              cases e'
              cases r2 with | cons ry t => cases t with | nil =>
                obtain ⟨y, hy, rye⟩ := r'.get he1
                have hlt : i.toNat < xs'.length := (List.getElem?_eq_some_iff.mp hy).1
                refine ⟨a, xs', i, i.toNat, y, rfl, by rw [Rep.int_inv ry], hx', by omega, by omega, ?_, hy, ?_⟩
                · have := ixN_seq (n := xs'.length) (i := i) (j := i.toNat) (by unfold ixN; rw [if_pos hi.1, if_pos (by omega)])
                  exact this.1
                · exact q _ G2 _ as2 (t12.trans s.le (Tr.put hk')) (ok2.put (c := .lst (es.eraseIdx i.toNat)) hk' g' ⟨g', _, upd_same, r'.erase _⟩) rye
            · cases hm
          · cases hm
        · cases hm
      · cases hm
    · cases hm
  · cases hm
/-- xs[i] = e, xs a cell -/
def sPutL (mv mo mi : ME) : MS := fun n ρ cs => match mv n ρ cs with
  | some (e, cs1) => match mo n ρ cs1 with
    | some (.c k, cs2) => match mi n ρ cs2 with
      | some (.p (.int i), cs3) => match cs3[k]? with
        | some (.lst es) => match ixN es.length i with
          | some j => some (.nx ρ (cs3.set k (.lst (es.set j e))))
          | none => none
        | _ => none
      | _ => none
    | _ => none
  | none => none
theorem ss_putL {tv to ti : TE} {mv mo mi : ME} (hv : SE K κ tv mv) (ho : SE K κ to mo) (hi : SE K κ ti mi) : SS K κ (tAsg tv (gSub to ti rSetL)) (sPutL mv mo mi) := fun m0 ρ cs σ G H as o D s hm q => by
  unfold sPutL at hm
  split at hm
  · rename_i e cs1 h1
    split at hm
    · rename_i k cs2 h2
      split at hm
      · rename_i i cs3 h3
        split at hm
        · rename_i es h4
          split at hm
          · rename_i j hj
            cases hm
            refine hv m0 ρ cs σ G H as _ _ _ s h1 fun v G1 H1 as1 t1 ok1 r1 => ?_
            have s1 := s.step t1 ok1
            refine ho m0 ρ cs1 σ G1 H1 as1 _ _ _ s1 h2 fun w G2 H2 as2 t2 ok2 r2 => ?_
            have s2 := s1.step t2 ok2
            refine hi m0 ρ cs2 σ G2 H2 as2 _ _ _ s2 h3 fun z G3 H3 as3 t3 ok3 r3 => ?_
            obtain ⟨a, xs, rfl, hk, g, hx, r⟩ := ok3.lstC (t3.up r2) h4
            have t13 := (t1.trans s.le t2).trans s.le t3
            refine ⟨a, xs, i, j, rfl, Rep.int_inv r3, hx, by rw [r.length]; exact hj, ?_⟩
            refine q σ G3 _ as3 (t13.trans s.le (Tr.put hk)) (ok3.put (c := .lst (es.set j e)) hk g ⟨g, _, upd_same, EAll.set (t3.up (t2.up r1)) j r⟩) (s.sl.mono t13.ex t13.le)
          · cases hm
        · cases hm
      · cases hm
    · cases hm
  · cases hm
/-! frozen: a cell whose items are all plain becomes plain data -/
def mFrz (m : ME) : ME := fun n ρ cs => match m n ρ cs with
  | some (.c k, cs1) => match cs1[k]? with
    | some (.lst es) => if n ≤ k then (pures es).map fun ds => (.p (.lst ds), cs1.set k .gone) else none
    | some (.dT ks es) => if n ≤ k then (pures es).map fun ds => (.p (.dT ks ds), cs1.set k .gone) else none
    | some (.dK ks es) => if n ≤ k then (pures es).map fun ds => (.p (.dK ks ds), cs1.set k .gone) else none
    | some (.obj c fs es) => if n ≤ k then (pures es).map fun ds => (.p (.obj c fs ds), cs1.set k .gone) else none
    | _ => none
  | _ => none
theorem se_frz {te : TE} {m : ME} (h : SE K κ te m) : SE K κ te (mFrz m) := fun m0 ρ cs σ G H as e cs' Q s hm q => by
  unfold mFrz at hm
  split at hm
  · rename_i k cs1 h1
    refine h m0 ρ cs σ G H as _ _ _ s h1 fun v G1 H1 as1 t1 ok1 r1 => ?_
    obtain ⟨a, hk, rfl⟩ := r1
    have fin : ∀ (o : HO) (d : D), m0 ≤ k → G1 a = none → H1 a = some o → (Rep K κ (upd G1 a o) (.ref a) d) → e = .p d → cs' = cs1.set k .gone → Q (.ref a) H1 := fun o d hm0 hG hH hr e1 e2 => by
      subst e1; subst e2
      exact q _ _ _ as1 (t1.trans s.le (Tr.frz hk hm0 hG hH)) (ok1.frz hk hG hH) hr
    split at hm
    · rename_i es h2
      split at hm
      · rename_i hm0
        rw [Option.map_eq_some_iff] at hm
        obtain ⟨ds, hp, e1⟩ := hm
        cases e1
        obtain ⟨g, xs, hx, r⟩ := ok1.cel k a _ hk h2
        rw [pures_some hp] at r
        exact fin _ _ hm0 g hx (.lst upd_same (r.pure_of.mono (SameH.new g))) rfl rfl
      · cases hm
    · rename_i ks es h2
      split at hm
      · rename_i hm0
        rw [Option.map_eq_some_iff] at hm
        obtain ⟨ds, hp, e1⟩ := hm
        cases e1
        obtain ⟨g, xs, hx, l, r⟩ := ok1.cel k a _ hk h2
        rw [pures_some hp] at r
        exact fin _ _ hm0 g hx (.dT upd_same l (r.pure_of.mono (SameH.new g))) rfl rfl
      · cases hm
    · rename_i ks es h2
      split at hm
      · rename_i hm0
        rw [Option.map_eq_some_iff] at hm
        obtain ⟨ds, hp, e1⟩ := hm
        cases e1
        obtain ⟨g, xs, hx, l, r⟩ := ok1.cel k a _ hk h2
        rw [pures_some hp] at r
        exact fin _ _ hm0 g hx (.dK upd_same l (r.pure_of.mono (SameH.new g))) rfl rfl
      · cases hm
    · rename_i c fs es h2
      split at hm
      · rename_i hm0
        rw [Option.map_eq_some_iff] at hm
        obtain ⟨ds, hp, e1⟩ := hm
        cases e1
        obtain ⟨g, dx, xs, hx, l, r⟩ := ok1.cel k a _ hk h2
        rw [pures_some hp] at r
        exact fin _ _ hm0 g hx (.obj upd_same l (r.pure_of.mono (SameH.new g))) rfl rfl
      · cases hm
    · cases hm
  · cases hm
/-! borrowed: all cells read as plain data, for a scalar -/
def deref : Nat → List Cell → E → Option D
  | _, _, .p d => some d
  | 0, _, .c _ => none
  | f + 1, cs, .c k => match cs[k]? with
    | some (.lst es) => (es.mapM (deref f cs)).map .lst
    | some (.dT ks es) => (es.mapM (deref f cs)).map (.dT ks)
    | some (.dK ks es) => (es.mapM (deref f cs)).map (.dK ks)
    | some (.obj c fs es) => (es.mapM (deref f cs)).map (.obj c fs)
    | _ => none
theorem mapM_rep {f : E → Option D} {P : V → E → Prop} (hf : ∀ v e d, P v e → f e = some d → Rep K κ H v d) : ∀ {vs : List V} {es : List E} {ds : List D}, Paired P vs es → es.mapM f = some ds → RepAll K κ H vs ds
  | _, [], ds, r, h => by
    cases r
    rw [List.mapM_nil] at h
    cases h; exact .nil
  | _, e :: es, ds, r, h => by
    cases r with | cons r t =>
      rw [List.mapM_cons] at h
      cases he : f e with
      | none => rw [he] at h; cases h
      | some d =>
        rw [he] at h
        cases hes : es.mapM f with
        | none => rw [hes] at h; cases h
        | some ds' =>
          rw [hes] at h
          cases h
          exact .cons (hf _ _ _ r he) (mapM_rep hf t hes)
theorem deref_rep (ok : Ok K κ G H as cs) : ∀ (f : Nat) (e : E) (v : V) (d : D), ERep K κ G as v e → deref f cs e = some d → Rep K κ H v d
  | f, .p d0, v, d, r, h => by
    have : some d0 = some d := by cases f <;> exact h
    cases this
    exact Rep.mono ok.ex r
  | 0, .c k, v, d, r, h => by cases h
  | f + 1, .c k, v, d, r, h => by
    obtain ⟨a, hk, rfl⟩ := r
    rw [deref] at h
    split at h
    · rename_i es h2
      rw [Option.map_eq_some_iff] at h
      obtain ⟨ds, hp, e1⟩ := h
      cases e1
      obtain ⟨g, xs, hx, r⟩ := ok.cel k a _ hk h2
      exact .lst hx (mapM_rep (fun v e d => deref_rep ok f e v d) r hp)
    · rename_i ks es h2
      rw [Option.map_eq_some_iff] at h
      obtain ⟨ds, hp, e1⟩ := h
      cases e1
      obtain ⟨g, xs, hx, l, r⟩ := ok.cel k a _ hk h2
      exact .dT hx l (mapM_rep (fun v e d => deref_rep ok f e v d) r hp)
    · rename_i ks es h2
      rw [Option.map_eq_some_iff] at h
      obtain ⟨ds, hp, e1⟩ := h
      cases e1
      obtain ⟨g, xs, hx, l, r⟩ := ok.cel k a _ hk h2
      exact .dK hx l (mapM_rep (fun v e d => deref_rep ok f e v d) r hp)
    · rename_i c fs es h2
      rw [Option.map_eq_some_iff] at h
      obtain ⟨ds, hp, e1⟩ := h
      cases e1
      obtain ⟨g, dx, xs, hx, l, r⟩ := ok.cel k a _ hk h2
      exact .obj hx l (mapM_rep (fun v e d => deref_rep ok f e v d) r hp)
    · cases h
def scalarD : D → Bool
  | .non => true | .bl _ => true | .int _ => true | .str _ => true
  | _ => false
def flatSl (cs : List Cell) (ρ : Sl) : Sl := ρ.map fun o => o.bind fun e => (deref 3 cs e).map E.p
def mBor (m : ME) : ME := fun _ ρ cs => match m 0 (flatSl cs ρ) [] with
  | some (.p d, _) => if scalarD d = true then some (.p d, cs) else none
  | _ => none
theorem flat_slots (ok : Ok K κ G H as cs) : ∀ {σ : L2.St} {ρ : Sl}, SlR' K κ G as σ ρ → SlR' K κ H [] σ (flatSl cs ρ)
  | _, _, .nil => .nil
  | _, _, .cons (a := o) (b := e) r t => .cons (by
      cases e with
      | none => trivial
      | some e =>
        show SlotR K κ H [] o ((deref 3 cs e).map E.p)
        cases hd : deref 3 cs e with
        | none => trivial
        | some d =>
          obtain ⟨v, rfl, rv⟩ := r
          exact ⟨v, rfl, deref_rep ok 3 e v d rv hd⟩) (flat_slots ok t)
theorem Rep.scalar {v : V} {d : D} (h : scalarD d = true) (r : Rep K κ G v d) : ∀ G', Rep K κ G' v d := fun G' => by
  cases r with
  | non => exact .non
  | bl b => exact .bl b
  | int i => exact .int i
  | str x => exact .str x
  | lst _ _ => cases h
  | tup _ _ => cases h
  | fls _ _ => cases h
  | dT _ _ _ => cases h
  | dK _ _ _ => cases h
  | obj _ _ _ => cases h
theorem Ok.flat (ok : Ok K κ G H as cs) : Ok K κ H H [] [] := ⟨SameH.refl _, rfl, List.nodup_nil, fun _ h => by simp at h, fun _ _ _ h => by simp at h⟩
/-- a step that lays new things alone, seen from the state with its cells -/
theorem Ok.over {H2 : Hp} (ok : Ok K κ G H as cs) (t : SameH H H2) : Ok K κ G H2 as cs where
  ex := ok.ex.trans t
  len := ok.len
  nd := ok.nd
  liv := fun a h => by obtain ⟨o, e⟩ := ok.liv a h; exact ⟨o, t _ _ e⟩
  cel := fun k a c h1 h2 => by
    obtain ⟨o, e⟩ := ok.liv a (ok.mem_at h1)
    exact (ok.cel k a c h1 h2).mono (SameH.refl _) (List.prefix_refl _) ((t _ _ e).trans e.symm) fun hc => (ok.cel k a c h1 h2).free hc
theorem Tr.over (t : SameH H H') : Tr m0 G H as G H' as := ⟨SameH.refl _, ⟨[], by simp, by simp⟩, fun a o h _ => t a o h, fun a o h => .inl ⟨o, h⟩, fun a o h => ⟨o, t a o h⟩⟩
theorem se_bor {te : TE} {m : ME} (h : SE K κ te m) : SE K κ te (mBor m) := fun m0 ρ cs σ G H as e cs' Q s hm q => by
  unfold mBor at hm
  split at hm
  · rename_i d cs1 h1
    split at hm
    · rename_i hs
      cases hm
      refine h 0 (flatSl cs ρ) [] σ H H [] _ _ _ ⟨s.ok.flat, flat_slots s.ok s.sl, Nat.zero_le _⟩ h1 fun v G1 H1 as1 t1 ok1 r1 => ?_
      have sm : SameH H H1 := fun a o hh => t1.keep a o hh (by simp)
      exact q v G H1 as (Tr.over sm) (Ok.over (H2 := H1) s.ok sm) (Rep.scalar hs r1 G)
    · cases hm
  · cases hm
def tBorT (m : MT) : MT := fun _ ρ cs => match m 0 (flatSl cs ρ) [] with
  | some (b, _) => some (b, cs)
  | none => none
theorem st_bor {tt : TT} {m : MT} (h : ST K κ tt m) : ST K κ tt (tBorT m) := fun m0 ρ cs σ G H as b cs' Q s hm q => by
  unfold tBorT at hm
  split at hm
  · rename_i d cs1 h1
    cases hm
    refine h 0 (flatSl cs ρ) [] σ H H [] _ _ _ ⟨s.ok.flat, flat_slots s.ok s.sl, Nat.zero_le _⟩ h1 fun G1 H1 as1 t1 ok1 => ?_
    have sm : SameH H H1 := fun a o hh => t1.keep a o hh (by simp)
    exact q G H1 as (Tr.over sm) (Ok.over (H2 := H1) s.ok sm)
  · cases hm
end
end Fw
set_option maxRecDepth 100000
set_option maxHeartbeats 4000000
namespace Fw
open PySem PySem.Spec PyProof.Rows L2
section
variable (K : PySem.W.Frag) (κ : Nat → Addr)
/-- a def of plain data -/
def spP (f : List D → Option D) : Sp := fun vs H Q _ => ∃ G ds d, SameH G H ∧ RepAll K κ G vs ds ∧ f ds = some d ∧ ∀ v G' H', Tr 0 G H [] G' H' [] → SameH G' H' → Rep K κ G' v d → Q v H'
/-- a def that may write the caller's cells -/
def spM (f : List E → List Cell → Option (E × List Cell)) : Sp := fun vs H Q _ => ∃ G as cs es e cs', Ok K κ G H as cs ∧ EAll K κ G as vs es ∧ f es cs = some (e, cs') ∧
  ∀ v G' H' as', Tr as.length G H as G' H' as' → Ok K κ G' H' as' cs' → ERep K κ G' as' v e → Q v H'
end
section
variable {K : PySem.W.Frag} {κ : Nat → Addr} {G G' H H' : Hp} {as as' : List Addr} {m0 : Nat} {ρ : Sl} {cs cs' : List Cell} {σ : L2.St}
theorem Tr.weak {n : Nat} (hm : m0 ≤ n) (t : Tr n G H as G' H' as') : Tr m0 G H as G' H' as' := ⟨t.ex, t.pre, t.keep, fun a o h => by
  rcases t.new a o h with h | h | h
  · exact .inl h
  · exact .inr (.inl h)
  · refine .inr (.inr ?_)
    have : as.drop n = (as.drop m0).drop (n - m0) := by rw [List.drop_drop, Nat.add_sub_cancel' hm]
    rw [this] at h
    exact List.mem_of_mem_drop h, t.liv⟩
/-- a step of plain data, beside the cells -/
theorem Tr.beside (ok : Ok K κ G H as cs) (t : Tr 0 G H [] G' H' []) (e : SameH G' H') : Tr m0 G H as G' H' as ∧ Ok K κ G' H' as cs := by
  have sm : SameH H H' := fun a o h => t.keep a o h (by simp)
  refine ⟨⟨t.ex, ⟨[], by simp, by simp⟩, fun a o h _ => sm a o h, fun a o h => ?_, t.liv⟩, e, ok.len, ok.nd, fun a h => ?_, fun k a c h1 h2 => ?_⟩
  · rcases t.new a o h with h | h | h
    · exact .inl h
    · exact .inr (.inl h)
    · simp at h
  · obtain ⟨o, q⟩ := ok.liv a h
    exact ⟨o, sm _ _ q⟩
  · obtain ⟨o, q⟩ := ok.liv a (ok.mem_at h1)
    refine (ok.cel k a c h1 h2).mono t.ex (List.prefix_refl _) ((sm _ _ q).trans q.symm) fun hc => ?_
    have hg := (ok.cel k a c h1 h2).free hc
    cases z : G' a with
    | none => rfl
    | some u =>
      rcases t.new a u z with ⟨w, h⟩ | h | h
      · rw [hg] at h; cases h
      · rw [q] at h; cases h
      · simp at h
theorem se_call {f : List D → Option D} {E : XK} {ta : TA} {ma : MA} (ha : SA K κ ta ma) : SE K κ (tCall (spP K κ f) [] E ta) (mCall f ma) := fun m0 ρ cs σ G H as e cs' Q s h q => by
  unfold mCall at h
  split at h
  · rename_i es cs1 h1
    split at h
    · rename_i ds h2
      rw [Option.map_eq_some_iff] at h
      obtain ⟨d, hd, e0⟩ := h
      cases e0
      refine ha m0 ρ cs σ G H as _ _ _ s h1 fun vs G1 H1 as1 t1 ok1 r1 => ?_
      rw [pures_some h2] at r1
      refine ⟨G1, ds, d, ok1.ex, by rw [List.append_nil]; exact r1.pure_of, hd, fun v G2 H2 t2 e2 r2 => ?_⟩
      obtain ⟨t3, ok3⟩ := Tr.beside (m0 := m0) ok1 t2 e2
      exact q v G2 H2 as1 (t1.trans s.le t3) ok3 r2
    · cases h
  · cases h
def mCallM (f : List E → List Cell → Option (E × List Cell)) (ma : MA) : ME := fun n ρ cs => match ma n ρ cs with
  | some (es, cs1) => f es cs1
  | none => none
theorem se_callM {f : List E → List Cell → Option (E × List Cell)} {E : XK} {ta : TA} {ma : MA} (ha : SA K κ ta ma) : SE K κ (tCall (spM K κ f) [] E ta) (mCallM f ma) := fun m0 ρ cs σ G H as e cs' Q s h q => by
  unfold mCallM at h
  split at h
  · rename_i es cs1 h1
    refine ha m0 ρ cs σ G H as _ _ _ s h1 fun vs G1 H1 as1 t1 ok1 r1 => ?_
    refine ⟨G1, as1, cs1, es, e, cs', ok1, by rw [List.append_nil]; exact r1, h, fun v G2 H2 as2 t2 ok2 r2 => ?_⟩
    exact q v G2 H2 as2 (t1.trans s.le (t2.weak (Nat.le_trans s.le t1.leng))) ok2 r2
  · cases h

/-! ### a def's body -/
def slots0 (n : Nat) (es : List E) : Sl := es.map some ++ List.replicate (n - es.length) none
theorem start_rep {N : List Str} : ∀ {vs : List V} {es : List E}, EAll K κ G as vs es → SlR' K κ G as (L2.start N vs) (slots0 N.length es) := fun {vs es} r => by
  unfold L2.start slots0
  rw [r.length]
  generalize N.length - es.length = n
  have h2 : ∀ n, SlR' K κ G as (List.replicate n none) (List.replicate n none) := fun n => by
    induction n with
    | zero => exact .nil
    | succ n ih => exact .cons trivial ih
  clear N
  induction es generalizing vs with
  | nil => cases r; exact h2 n
  | cons e es ih =>
    cases r with | cons r t => exact .cons ⟨_, rfl, r⟩ (ih t)
def fnP (np n : Nat) (m : MS) (ds : List D) : Option D := if ds.length = np then match m 0 (slots0 n (ds.map E.p)) [] with
  | some (.rt (.p d) _) => some d
  | some (.nx _ _) => some .non
  | _ => none
  else none
theorem Tr.close (t : Tr 0 G H [] G' H' as') (e : SameH G' H') : Tr 0 G H [] G' H' [] := ⟨t.ex, ⟨[], rfl, by simp⟩, t.keep, t.new, t.liv⟩
section
variable {P : Program} {w : World} {mg : Str → Option Value} {base : Heap}
theorem fnP_ok {x qual : Str} {st : Stmt} {f : Addr} {fd : FuncData} {N ps : List Str} {k : Nat} {m : MS} (F : Fun K x qual st f fd) (S : FnScope N ps (defScope st))
    (hb : ∀ (cdv : Value) (A : Around) (outer : List Env) (s : Shared) (H : Hp) (E : XK), Room k (A.deeper (envOfC qual (defScope st) s.heap.objs.size f cdv)) →
      ∃ t, PSs (cxOf CX0 P w K mg base N qual (defScope st) f cdv A outer s H E).nox (defBody st) t ∧ SS K κ t m) : FnOk P w K mg base CX0 (k + 1) f fd ps (spP K κ (fnP ps.length N.length m)) := by
  refine F.ok S (fun vs H Q E h => ?_) (fun cdv A outer s H vs Q Exc hr h => ?_)
  · obtain ⟨G, ds, d, _, r, hf, _⟩ := h
    unfold fnP at hf
    split at hf
    · rename_i hl
      rw [r.length]; exact hl
    · cases hf
  · obtain ⟨t, ht, hs⟩ := hb cdv A outer s H Exc hr
    refine ⟨t, ht, ?_⟩
    obtain ⟨G, ds, d, e0, r, hf, q⟩ := h
    unfold fnP at hf
    split at hf
    · have s0 : Sta K κ 0 (slots0 N.length (ds.map E.p)) [] (L2.start N vs) G H [] := ⟨⟨e0, rfl, List.nodup_nil, fun _ h => by simp at h, fun _ _ _ h => by simp at h⟩, start_rep (EAll.of_pure r), Nat.zero_le _⟩
      split at hf
      · rename_i d' cs' h1
        cases hf
        exact hs 0 _ _ _ G H [] _ _ s0 h1 fun v G' H' as' t' ok' r' => q v G' H' (t'.close ok'.ex) ok'.ex r'
      · rename_i ρ' cs' h1
        cases hf
        exact hs 0 _ _ _ G H [] _ _ s0 h1 fun σ' G' H' as' t' ok' _ => q .non G' H' (t'.close ok'.ex) ok'.ex .non
      · cases hf
    · cases hf
/-! cells that are the callee's alone fall away -/
def closedE (n : Nat) : E → Bool
  | .p _ => true
  | .c j => decide (j < n)
def closedC (n : Nat) : Cell → Bool
  | .gone => true
  | .lst es => es.all (closedE n)
  | .dT _ es => es.all (closedE n)
  | .dK _ es => es.all (closedE n)
  | .obj _ _ es => es.all (closedE n)
theorem ERep.closed {v : V} {e : E} {n : Nat} (h : closedE n e = true) (r : ERep K κ G as v e) : ERep K κ G (as.take n) v e := by
  cases e with
  | p d => exact r
  | c j =>
    obtain ⟨a, h1, h2⟩ := r
    exact ⟨a, by rw [List.getElem?_take_of_lt (of_decide_eq_true h)]; exact h1, h2⟩
theorem EAll.closed {n : Nat} : ∀ {vs : List V} {es : List E}, es.all (closedE n) = true → EAll K κ G as vs es → EAll K κ G (as.take n) vs es
  | _, [], _, r => by cases r; exact .nil
  | _, e :: es, h, r => by
    rw [List.all_cons, Bool.and_eq_true] at h
    cases r with | cons r t => exact .cons (r.closed h.1) (EAll.closed h.2 t)
def cutM (n : Nat) (x : E × List Cell) : E × List Cell := if (closedE n x.1 && (x.2.take n).all (closedC n)) = true then (x.1, x.2.take n) else x
theorem cut_ok {n : Nat} {v : V} {e : E} (hn : n = as.length) (t : Tr m0 G H as G' H' as') (ok : Ok K κ G' H' as' cs') (r : ERep K κ G' as' v e) :
    ∃ as2, Tr m0 G H as G' H' as2 ∧ Ok K κ G' H' as2 (cutM n (e, cs')).2 ∧ ERep K κ G' as2 v (cutM n (e, cs')).1 := by
  unfold cutM
  split
  · rename_i h
    rw [Bool.and_eq_true] at h
    obtain ⟨u, rfl, hu⟩ := t.pre
    subst hn
    have et : (as ++ u).take as.length = as := by simp
    refine ⟨as, ⟨t.ex, ⟨[], by simp, by simp⟩, t.keep, t.new, t.liv⟩, ?_, ?_⟩
    · have := ok.cut as.length (by simp) fun k a c hk h1 h2 => ?_
      · rw [et] at this; exact this
      · have hc : closedC as.length c = true := List.all_eq_true.mp h.2 c (List.mem_of_getElem? (i := k) (by rw [List.getElem?_take_of_lt hk]; exact h2))
        have q := ok.cel k a c h1 h2
        cases c with
        | gone => trivial
        | lst es => obtain ⟨g, xs, hx, r⟩ := q; exact ⟨g, xs, hx, r.closed hc⟩
        | dT ks es => obtain ⟨g, xs, hx, l, r⟩ := q; exact ⟨g, xs, hx, l, r.closed hc⟩
        | dK ks es => obtain ⟨g, xs, hx, l, r⟩ := q; exact ⟨g, xs, hx, l, r.closed hc⟩
        | obj c fs es => obtain ⟨g, dx, xs, hx, l, r⟩ := q; exact ⟨g, dx, xs, hx, l, r.closed hc⟩
    · have := r.closed h.1
      rw [et] at this; exact this
  · exact ⟨as', t, ok, r⟩
def fnM (np n : Nat) (m : MS) (es : List E) (cs : List Cell) : Option (E × List Cell) := if es.length = np then match m cs.length (slots0 n es) cs with
  | some (.rt e cs') => some (cutM cs.length (e, cs'))
  | some (.nx _ cs') => some (cutM cs.length (.p .non, cs'))
  | _ => none
  else none
theorem fnM_ok {x qual : Str} {st : Stmt} {f : Addr} {fd : FuncData} {N ps : List Str} {k : Nat} {m : MS} (F : Fun K x qual st f fd) (S : FnScope N ps (defScope st))
    (hb : ∀ (cdv : Value) (A : Around) (outer : List Env) (s : Shared) (H : Hp) (E : XK), Room k (A.deeper (envOfC qual (defScope st) s.heap.objs.size f cdv)) →
      ∃ t, PSs (cxOf CX0 P w K mg base N qual (defScope st) f cdv A outer s H E).nox (defBody st) t ∧ SS K κ t m) : FnOk P w K mg base CX0 (k + 1) f fd ps (spM K κ (fnM ps.length N.length m)) := by
  refine F.ok S (fun vs H Q E h => ?_) (fun cdv A outer s H vs Q Exc hr h => ?_)
  · obtain ⟨G, as, cs, es, e, cs', _, r, hf, _⟩ := h
    unfold fnM at hf
    split at hf
    · rename_i hl
      rw [r.length]; exact hl
    · cases hf
  · obtain ⟨t, ht, hs⟩ := hb cdv A outer s H Exc hr
    refine ⟨t, ht, ?_⟩
    obtain ⟨G, as, cs, es, e, cs', ok, r, hf, q⟩ := h
    unfold fnM at hf
    split at hf
    · have s0 : Sta K κ cs.length (slots0 N.length es) cs (L2.start N vs) G H as := ⟨ok, start_rep r, by rw [ok.len]; exact Nat.le_refl _⟩
      split at hf
      · rename_i e' cs1 h1
        refine hs cs.length _ _ _ G H as _ _ s0 h1 fun v G' H' as' t' ok' r' => ?_
        obtain ⟨as2, t2, ok2, r2⟩ := cut_ok ok.len.symm t' ok' r'
        rw [Option.some.inj hf] at ok2 r2
        exact q v G' H' as2 (by rw [ok.len]; exact t2) ok2 r2
      · rename_i ρ' cs1 h1
        refine hs cs.length _ _ _ G H as _ _ s0 h1 fun σ' G' H' as' t' ok' _ => ?_
        obtain ⟨as2, t2, ok2, r2⟩ := cut_ok (v := .non) (e := .p .non) ok.len.symm t' ok' .non
        rw [Option.some.inj hf] at ok2 r2
        exact q .non G' H' as2 (by rw [ok.len]; exact t2) ok2 r2
      · cases hf
    · cases hf
end

/-! ### objects -/
theorem lookup_zip_none {f : Str} : ∀ {fs : List Str} {vs : List V}, fs.contains f = false → (fs.zip vs).lookup f = none
  | [], _, _ => rfl
  | g :: fs, [], _ => rfl
  | g :: fs, v :: vs, h => by
    rw [List.contains_cons, Bool.or_eq_false_iff] at h
    rw [List.zip_cons_cons, List.lookup_cons, h.1]
    exact lookup_zip_none h.2
theorem lookup_zip_rep {f : Str} : ∀ {fs : List Str} {vs : List V} {es : List E} {e : E}, EAll K κ G as vs es → (fs.zip es).lookup f = some e → ∃ v, (fs.zip vs).lookup f = some v ∧ ERep K κ G as v e
  | [], _, _, _, _, h => by cases h
  | g :: fs, _, [], _, .nil, h => by cases h
  | g :: fs, _, e0 :: es, e, .cons (a := v) r t, h => by
    rw [List.zip_cons_cons, List.lookup_cons] at h
    rw [List.zip_cons_cons, List.lookup_cons]
    cases hb : f == g with
    | true => rw [hb] at h; cases h; exact ⟨v, rfl, r⟩
    | false => rw [hb] at h; exact lookup_zip_rep t h
theorem lookup_zip_p {f : Str} : ∀ {fs : List Str} {ds : List D} {d : D}, (fs.zip ds).lookup f = some d → (fs.zip (ds.map E.p)).lookup f = some (.p d)
  | [], _, _, h => by cases h
  | g :: fs, [], _, h => by cases h
  | g :: fs, d0 :: ds, d, h => by
    rw [List.zip_cons_cons, List.lookup_cons] at h
    rw [List.map_cons, List.zip_cons_cons, List.lookup_cons]
    cases hb : f == g with
    | true => rw [hb] at h; cases h; rfl
    | false => rw [hb] at h; exact lookup_zip_p h
def mFld (c : Nat) (f : Str) (mo : ME) : ME := fun n ρ cs => match mo n ρ cs with
  | some (.p (.obj c' fs ds), cs1) => if c' = c then ((fs.zip ds).lookup f).map fun d => (.p d, cs1) else none
  | some (.c k, cs1) => match cs1[k]? with
    | some (.obj c' fs es) => if c' = c then ((fs.zip es).lookup f).map fun e => (e, cs1) else none
    | _ => none
  | _ => none
theorem se_fld {c : Nat} {f : Str} {ta : TE} {mo : ME} (hc : Cls K (κ c)) (hn : NoAttr K (κ c) f) (h : SE K κ ta mo) : SE K κ (tFld K ta f) (mFld c f mo) := fun m0 ρ cs σ G H as e cs' Q s hm q => by
  unfold mFld at hm
  split at hm
  · rename_i c' fs ds cs1 h1
    split at hm
    · rename_i hcc
      subst hcc
      rw [Option.map_eq_some_iff] at hm
      obtain ⟨d, hd, e0⟩ := hm
      cases e0
      refine h m0 ρ cs σ G H as _ _ _ s h1 fun v G1 H1 as1 t1 ok1 r1 => ?_
      obtain ⟨a, dx, vs, rfl, g, l, r⟩ := Rep.obj_inv r1
      obtain ⟨v, hv, rv⟩ := lookup_zip_rep (as := as1) (EAll.of_pure r) (lookup_zip_p hd)
      exact ⟨a, _, dx, _, v, rfl, ok1.ex _ _ g, hc, hn, hv, q v G1 H1 as1 t1 ok1 rv⟩
    · cases hm
  · rename_i k cs1 h1
    split at hm
    · rename_i c' fs es h2
      split at hm
      · rename_i hcc
        subst hcc
        rw [Option.map_eq_some_iff] at hm
        obtain ⟨e1, hd, e0⟩ := hm
        cases e0
        refine h m0 ρ cs σ G H as _ _ _ s h1 fun v G1 H1 as1 t1 ok1 r1 => ?_
        obtain ⟨a, hk, rfl⟩ := r1
        obtain ⟨g, dx, vs, hx, l, r⟩ := ok1.cel k a _ hk h2
        obtain ⟨v, hv, rv⟩ := lookup_zip_rep r hd
        exact ⟨a, _, dx, _, v, rfl, hx, hc, hn, hv, q v G1 H1 as1 t1 ok1 rv⟩
      · cases hm
    · cases hm
  · cases hm
theorem putF_new {f : Str} {y : V} : ∀ {fs : List Str} {vs : List V}, fs.contains f = false → fs.length = vs.length → putF f y (fs.zip vs) = (fs ++ [f]).zip (vs ++ [y])
  | [], [], _, _ => rfl
  | [], _ :: _, _, h => by cases h
  | _ :: _, [], _, h => by cases h
  | g :: fs, v :: vs, h, l => by
    rw [List.contains_cons, Bool.or_eq_false_iff] at h
    have hne : g ≠ f := fun e => by subst e; simp at h
    rw [List.zip_cons_cons, List.cons_append, List.cons_append, List.zip_cons_cons]
    show (if g = f then _ else (g, v) :: putF f y (fs.zip vs)) = _
    rw [if_neg hne, putF_new h.2 (by simpa using l)]
/-- o.f = e, o a cell, the attribute new -/
def sFldN (c : Nat) (f : Str) (mo mv : ME) : MS := fun n ρ cs => match mv n ρ cs with
  | some (e, cs1) => match mo n ρ cs1 with
    | some (.c k, cs2) => match cs2[k]? with
      | some (.obj c' fs es) => if c' = c ∧ fs.contains f = false ∧ fs.length < 1000 then some (.nx ρ (cs2.set k (.obj c' (fs ++ [f]) (es ++ [e])))) else none
      | _ => none
    | _ => none
  | none => none
theorem ss_fldN {c : Nat} {f : Str} {ta tv : TE} {mo mv : ME} (hc : Cls K (κ c)) (hn : NoAttr K (κ c) f) (ho : SE K κ ta mo) (hv : SE K κ tv mv) : SS K κ (sFld K ta tv f) (sFldN c f mo mv) := fun m0 ρ cs σ G H as o D s hm q => by
  unfold sFldN at hm
  split at hm
  · rename_i e cs1 h1
    split at hm
    · rename_i k cs2 h2
      split at hm
      · rename_i c' fs es h3
        split at hm
        · rename_i hcc
          obtain ⟨rfl, hf, hl⟩ := hcc
          cases hm
          refine hv m0 ρ cs σ G H as _ _ _ s h1 fun y G1 H1 as1 t1 ok1 r1 => ?_
          have s1 := s.step t1 ok1
          refine ho m0 ρ cs1 σ G1 H1 as1 _ _ _ s1 h2 fun x G2 H2 as2 t2 ok2 r2 => ?_
          obtain ⟨a, hk, rfl⟩ := r2
          obtain ⟨g, dx, vs, hx, l, r⟩ := ok2.cel k a _ hk h3
          have t12 := t1.trans s.le t2
          refine ⟨a, _, dx, _, rfl, hx, hc, hn, by rw [List.length_zip, ← l, Nat.min_self]; exact hl, ?_⟩
          refine q σ G2 _ as2 (t12.trans s.le (Tr.put hk)) (ok2.put (c := .obj c' (fs ++ [f]) (es ++ [e])) hk g ⟨g, dx, vs ++ [y], ?_, by simp [l], r.append (.cons (t2.up r1) .nil)⟩) (s.sl.mono t12.ex t12.le)
          rw [upd_same, putF_new hf l]
        · cases hm
      · cases hm
    · cases hm
  · cases hm
/-- o.m(..), o plain -/
def mMeth (c : Nat) (m : Str) (f : List D → Option D) (mo : ME) (ma : MA) : ME := fun n ρ cs => match mo n ρ cs with
  | some (.p (.obj c' fs ds0), cs1) => if c' = c ∧ fs.contains m = false then match ma n ρ cs1 with
    | some (es, cs2) => match pures es with
      | some ds => (f (.obj c' fs ds0 :: ds)).map fun d => (.p d, cs2)
      | none => none
    | none => none
    else none
  | _ => none
theorem se_meth {c : Nat} {m : Str} {f : List D → Option D} {E : XK} {ta : TE} {t : TA} {mo : ME} {ma : MA} (ho : SE K κ ta mo) (ha : SA K κ t ma) : SE K κ (tMeth (κ c) m (spP K κ f) [] E ta t) (mMeth c m f mo ma) := fun m0 ρ cs σ G H as e cs' Q s hm q => by
  unfold mMeth at hm
  split at hm
  · rename_i c' fs ds0 cs1 h1
    split at hm
    · rename_i hcc
      obtain ⟨rfl, hf⟩ := hcc
      split at hm
      · rename_i es cs2 h2
        split at hm
        · rename_i ds h3
          rw [Option.map_eq_some_iff] at hm
          obtain ⟨d, hd, e0⟩ := hm
          cases e0
          refine ho m0 ρ cs σ G H as _ _ _ s h1 fun v G1 H1 as1 t1 ok1 r1 => ?_
          have r1' := r1
          obtain ⟨a, dx, vs, rfl, g, l, r⟩ := Rep.obj_inv r1
          refine ⟨a, dx, _, rfl, ok1.ex _ _ g, lookup_zip_none hf, ?_⟩
          refine ha m0 ρ cs1 σ G1 H1 as1 _ _ _ (s.step t1 ok1) h2 fun ws G2 H2 as2 t2 ok2 r2 => ?_
          rw [pures_some h3] at r2
          refine ⟨G2, _, d, ok2.ex, .cons (Rep.mono t2.ex r1') (by rw [List.append_nil]; exact r2.pure_of), hd, fun v G3 H3 t3 e3 r3 => ?_⟩
          obtain ⟨t4, ok4⟩ := Tr.beside (m0 := m0) ok2 t3 e3
          exact q v G3 H3 as2 ((t1.trans s.le t2).trans s.le t4) ok4 r3
        · cases hm
      · cases hm
    · cases hm
  · cases hm
/-- C(..): __init__ fills a new cell, which is then frozen -/
def mMake (c : Nat) (f : List E → List Cell → Option (E × List Cell)) (ma : MA) : ME := fun n ρ cs => match ma n ρ cs with
  | some (es, cs1) => match f (.c cs1.length :: es) (cs1 ++ [.obj c [] []]) with
    | some (.p .non, cs2) => match cs2[cs1.length]? with
      | some (.obj c' fs es2) => if cs2.length = cs1.length + 1 ∧ (cs2.take cs1.length).all (closedC cs1.length) = true then (pures es2).map fun ds => (.p (.obj c' fs ds), cs2.take cs1.length) else none
      | _ => none
    | _ => none
  | none => none
theorem se_make {c : Nat} {f : List E → List Cell → Option (E × List Cell)} {E : XK} {t : TA} {ma : MA} (ha : SA K κ t ma) : SE K κ (tMake (κ c) (spM K κ f) [] E t) (mMake c f ma) := fun m0 ρ cs σ G H as e cs' Q s hm q => by
  unfold mMake at hm
  split at hm
  · rename_i es cs1 h1
    split at hm
    · rename_i cs2 h2
      split at hm
      · rename_i c' fs es2 h3
        split at hm
        · rename_i hl
          obtain ⟨hl, hcl⟩ := hl
          rw [Option.map_eq_some_iff] at hm
          obtain ⟨ds, hp, e0⟩ := hm
          cases e0
          refine ha m0 ρ cs σ G H as _ _ _ s h1 fun vs G1 H1 as1 t1 ok1 r1 x dx hx hdx hne => ?_
          have okd : Ok K κ G1 (upd H1 dx (.own x)) as1 cs1 := ok1.newh hdx
          have td : Tr m0 G1 H1 as1 G1 (upd H1 dx (.own x)) as1 := Tr.newh hdx
          have hx' : upd H1 dx (.own x) x = none := by rw [upd_ne (Ne.symm hne)]; exact hx
          have okx : Ok K κ G1 (upd (upd H1 dx (.own x)) x (.ins (κ c) dx [])) (as1 ++ [x]) (cs1 ++ [.obj c [] []]) :=
            okd.newc hx' ⟨okd.free hx', dx, [], upd_same, rfl, .nil⟩
          have tx : Tr m0 G1 (upd H1 dx (.own x)) as1 G1 (upd (upd H1 dx (.own x)) x (.ins (κ c) dx [])) (as1 ++ [x]) := Tr.newc hx'
          have hk : (as1 ++ [x])[cs1.length]? = some x := by rw [← ok1.len, List.getElem?_append_right (Nat.le_refl _), Nat.sub_self]; rfl
          have le1 : m0 ≤ as1.length := Nat.le_trans s.le t1.leng
          refine ⟨G1, _, _, _, _, _, okx, by rw [List.append_nil]; exact .cons ⟨x, hk, rfl⟩ (r1.mono (SameH.refl _) ⟨[x], rfl⟩), h2, fun v G2 H2 as2 t2 ok2 r2 => ⟨Rep.non_inv r2, ?_⟩⟩
          have hk2 : as2[cs1.length]? = some x := get_pre t2.le hk
          obtain ⟨g, dx2, vs2, hx2, l2, q2⟩ := ok2.cel _ x _ hk2 h3
          rw [pures_some hp] at q2
          have ok3 := ok2.frz hk2 g hx2
          have t3 : Tr m0 G2 H2 as2 (upd G2 x (.ins (κ c') dx2 (fs.zip vs2))) H2 as2 := Tr.frz hk2 (by rw [← ok1.len]; exact le1) g hx2
          have tall : Tr m0 G H as (upd G2 x (.ins (κ c') dx2 (fs.zip vs2))) H2 as2 := by
            refine (((t1.trans s.le td).trans s.le tx).trans s.le (t2.weak ?_)).trans s.le t3
            rw [List.length_append]; omega
          have las2 : as2 = as1 ++ [x] := by
            obtain ⟨u, hu, _⟩ := t2.pre
            have : as2.length = cs1.length + 1 := by rw [ok2.len, hl]
            rw [hu, List.length_append, List.length_append, ok1.len] at this
            simp at this
            subst this
            rw [hu, List.append_nil]
          have e1 : as2.take cs1.length = as1 := by rw [las2, ← ok1.len]; simp
          have ok4 := ok3.cut cs1.length (by rw [las2, List.length_append, ok1.len]; omega) fun k a cl hkk h4 h5 => by
            have hcc : closedC cs1.length cl = true := List.all_eq_true.mp hcl cl (List.mem_of_getElem? (i := k) (by
              rw [List.getElem?_take_of_lt hkk]
              rw [List.getElem?_set_ne (by omega)] at h5
              exact h5))
            have q := ok3.cel k a cl h4 h5
            cases cl with
            | gone => trivial
            | lst es => obtain ⟨g, xs, hx, r⟩ := q; exact ⟨g, xs, hx, r.closed hcc⟩
            | dT ks es => obtain ⟨g, xs, hx, l, r⟩ := q; exact ⟨g, xs, hx, l, r.closed hcc⟩
            | dK ks es => obtain ⟨g, xs, hx, l, r⟩ := q; exact ⟨g, xs, hx, l, r.closed hcc⟩
            | obj c fs es => obtain ⟨g, dx, xs, hx, l, r⟩ := q; exact ⟨g, dx, xs, hx, l, r.closed hcc⟩
          rw [e1] at ok4
          have e2 : (cs2.set cs1.length .gone).take cs1.length = cs2.take cs1.length := by rw [List.take_set_of_le (Nat.le_refl _)]
          rw [e2] at ok4
          refine q (.ref x) _ H2 as1 ⟨tall.ex, t1.pre, tall.keep, tall.new, tall.liv⟩ ok4 (.obj upd_same l2 (q2.pure_of.mono (SameH.new g)))
        · cases hm
      · cases hm
    · cases hm
  · cases hm
end
end Fw
set_option maxRecDepth 100000
set_option maxHeartbeats 4000000
namespace Fw
open PySem PySem.Spec PyProof.Rows L2
section
variable {K : PySem.W.Frag} {κ : Nat → Addr} {G G' H H' : Hp} {as as' : List Addr} {m0 : Nat} {ρ : Sl} {cs cs' : List Cell} {σ : L2.St}

/-! ### comprehensions -/
theorem wipe_get : ∀ (σ : L2.St) (vs : List Nat) (k : Nat), (wipe σ vs)[k]? = if k ∈ vs then (σ[k]?).map fun _ => none else σ[k]?
  | σ, [], k => by simp [wipe]
  | σ, v :: vs, k => by
    have ih := wipe_get σ vs k
    unfold wipe
    by_cases h : v = k
    · subst h
      rw [List.getElem?_set_self']
      rw [ih]
      simp only [List.mem_cons, true_or, if_true]
      by_cases hk : v ∈ vs
      · rw [if_pos hk]; cases σ[v]? <;> rfl
      · rw [if_neg hk]; cases σ[v]? <;> rfl
    · rw [List.getElem?_set_ne h, ih]
      have : (k ∈ v :: vs) ↔ k ∈ vs := by
        rw [List.mem_cons]
        exact ⟨fun q => q.resolve_left fun e => h e.symm, .inr⟩
      by_cases hk : k ∈ vs
      · rw [if_pos hk, if_pos (this.mpr hk)]
      · rw [if_neg hk, if_neg fun q => hk (this.mp q)]
theorem wipe_eq {σ σ' : L2.St} {vs : List Nat} (hl : σ'.length = (wipe σ vs).length) (h : ∀ k, k ∉ vs → σ'[k]? = (wipe σ vs)[k]?) : wipe σ' vs = wipe σ vs := by
  apply List.ext_getElem?
  intro k
  rw [wipe_get, wipe_get]
  by_cases hk : k ∈ vs
  · rw [if_pos hk, if_pos hk]
    rw [wipe_length] at hl
    by_cases hlt : k < σ.length
    · rw [List.getElem?_eq_getElem hlt, List.getElem?_eq_getElem (hl ▸ hlt)]; rfl
    · rw [List.getElem?_eq_none (by omega), List.getElem?_eq_none (by omega)]
  · rw [if_neg hk, if_neg hk, h k hk, wipe_get, if_neg hk]
def wipeS (ρ : Sl) : List Nat → Sl
  | [] => ρ
  | v :: vs => (wipeS ρ vs).set v none
theorem wipe_rep (s : SlR' K κ G as σ ρ) : ∀ vs : List Nat, SlR' K κ G as (wipe σ vs) (wipeS ρ vs)
  | [] => s
  | v :: vs => SlR'.set (o := none) (e := none) trivial v (wipe_rep s vs)
/-- what stands while a comprehension's list grows -/
structure Acc (K : PySem.W.Frag) (κ : Nat → Addr) (m0 : Nat) (G1 H1 : Hp) (as1 : List Addr) (Dl : Addr) (G H : Hp) (as : List Addr) (cs : List Cell) (da : List D) : Prop where
  tr : Tr m0 G1 H1 as1 G H as
  ok : Ok K κ G H as cs
  le : m0 ≤ as.length
  gn : G Dl = none
  an : Dl ∉ as
  h1 : H1 Dl = none
  cur : ∃ acc, H Dl = some (.lst acc) ∧ RepAll K κ G acc da
theorem Acc.step {G1 H1 : Hp} {as1 : List Addr} {Dl : Addr} {da : List D} (hm : m0 ≤ as1.length) (a : Acc K κ m0 G1 H1 as1 Dl G H as cs da) (t : Tr m0 G H as G' H' as') (ok : Ok K κ G' H' as' cs') : Acc K κ m0 G1 H1 as1 Dl G' H' as' cs' da where
  tr := a.tr.trans hm t
  ok := ok
  le := Nat.le_trans a.le t.leng
  gn := by
    obtain ⟨acc, hc, _⟩ := a.cur
    cases z : G' Dl with
    | none => rfl
    | some o =>
      rcases t.new Dl o z with ⟨u, h⟩ | h | h
      · rw [a.gn] at h; cases h
      · rw [hc] at h; cases h
      · exact absurd (List.mem_of_mem_drop h) a.an
  an := fun h => by
    obtain ⟨acc, hc, _⟩ := a.cur
    obtain ⟨u, rfl, hu⟩ := t.pre
    rcases List.mem_append.mp h with h | h
    · exact a.an h
    · have := hu _ h; rw [hc] at this; cases this
  h1 := a.h1
  cur := by
    obtain ⟨acc, hc, r⟩ := a.cur
    exact ⟨acc, t.keep _ _ hc a.an, r.mono t.ex⟩
theorem Ok.side {p : Addr} {o : HO} (ok : Ok K κ G H as cs) (hg : G p = none) (hp : p ∉ as) (hs : ∃ u, H p = some u) : Ok K κ G (upd H p o) as cs where
  ex := ok.ex.mut hg
  len := ok.len
  nd := ok.nd
  liv := fun a h => by
    obtain ⟨u, e⟩ := ok.liv a h
    exact ⟨u, by rw [upd_ne fun z : a = p => hp (z ▸ h)]; exact e⟩
  cel := fun k a c h1 h2 => by
    have hne : a ≠ p := fun e => hp (e ▸ ok.mem_at h1)
    exact (ok.cel k a c h1 h2).mono (SameH.refl _) (List.prefix_refl _) (upd_ne hne) fun hc => (ok.cel k a c h1 h2).free hc
theorem Acc.push {G1 H1 : Hp} {as1 : List Addr} {Dl : Addr} {da : List D} {y : V} {d : D} (a : Acc K κ m0 G1 H1 as1 Dl G H as cs da) (r : Rep K κ G y d) :
    ∃ acc, H Dl = some (.lst acc) ∧ acc.length = da.length ∧ Acc K κ m0 G1 H1 as1 Dl G (upd H Dl (.lst (acc ++ [y]))) as cs (da ++ [d]) := by
  obtain ⟨acc, hc, q⟩ := a.cur
  refine ⟨acc, hc, q.length, ⟨a.tr.ex, a.tr.pre, fun b o h n => ?_, a.tr.new, fun b o h => ?_⟩, a.ok.side a.gn a.an ⟨_, hc⟩, a.le, a.gn, a.an, a.h1, _, upd_same, q.append (.cons r .nil)⟩
  · rw [upd_ne (fun z : b = Dl => by subst z; rw [a.h1] at h; cases h)]; exact a.tr.keep b o h n
  · by_cases z : b = Dl
    · subst z; exact ⟨_, upd_same⟩
    · rw [upd_ne z]; exact a.tr.liv b o h
theorem Acc.fin {G1 H1 : Hp} {as1 : List Addr} {Dl : Addr} {da : List D} (a : Acc K κ m0 G1 H1 as1 Dl G H as cs da) : ∃ G', Tr m0 G1 H1 as1 G' H as ∧ Ok K κ G' H as cs ∧ Rep K κ G' (.ref Dl) (.lst da) := by
  obtain ⟨acc, hc, q⟩ := a.cur
  refine ⟨upd G Dl (.lst acc), ⟨a.tr.ex.trans (SameH.new a.gn), a.tr.pre, a.tr.keep, fun b o h => ?_, a.tr.liv⟩, ⟨fun b u q => ?_, a.ok.len, a.ok.nd, a.ok.liv, fun k b c h1 h2 => ?_⟩, .lst upd_same (q.mono (SameH.new a.gn))⟩
  · by_cases z : b = Dl
    · subst z; exact .inr (.inl a.h1)
    · rw [upd_ne z] at h; exact a.tr.new b o h
  · by_cases z : b = Dl
    · subst z; rw [upd_same] at q; cases q; exact hc
    · rw [upd_ne z] at q; exact a.ok.ex _ _ q
  · have hne : b ≠ Dl := fun e => a.an (e ▸ a.ok.mem_at h1)
    refine (a.ok.cel k b c h1 h2).mono (SameH.new a.gn) (List.prefix_refl _) rfl fun hc => ?_
    rw [upd_ne hne]; exact (a.ok.cel k b c h1 h2).free hc
theorem Acc.new {G1 H1 : Hp} {as1 : List Addr} {Dl : Addr} (ok : Ok K κ G1 H1 as1 cs) (hm : m0 ≤ as1.length) (h : H1 Dl = none) : Acc K κ m0 G1 H1 as1 Dl G1 (upd H1 Dl (.lst [])) as1 cs [] :=
  ⟨Tr.newh h, ok.newh h, hm, ok.free h, ok.fresh h, h, [], upd_same, .nil⟩
def mYes : MT := fun _ _ cs => some (true, cs)
theorem st_yes : ST K κ tYes mYes := fun m0 ρ cs σ G H as b cs' Q s hm q => by
  cases hm; exact q G H as Tr.refl s.ok
def lcD (tg : MG) (mt : MT) (me : ME) (n : Nat) (ρw : Sl) : List D → List Cell → Option (List D × List Cell)
  | [], cs => some ([], cs)
  | d :: ds, cs => match tg d ρw with
    | none => none
    | some ρ1 => match mt n ρ1 cs with
      | some (true, cs1) => match me n ρ1 cs1 with
        | some (.p e, cs2) => match lcD tg mt me n ρw ds cs2 with
          | some (es, cs3) => some (e :: es, cs3)
          | none => none
        | _ => none
      | some (false, cs1) => lcD tg mt me n ρw ds cs1
      | none => none
def mLc (mi : MI) (tg : MG) (mt : MT) (me : ME) (vs : List Nat) : ME := fun n ρ cs => match mi n ρ cs with
  | some (ds, cs1) => if ds.length ≤ 100000 then match lcD tg mt me n (wipeS ρ vs) ds cs1 with
    | some (es, cs2) => some (.p (.lst es), cs2)
    | none => none
    else none
  | none => none
theorem lcD_len {tg : MG} {mt : MT} {me : ME} {n : Nat} {ρw : Sl} : ∀ {ds : List D} {cs : List Cell} {es : List D} {cs' : List Cell}, lcD tg mt me n ρw ds cs = some (es, cs') → es.length ≤ ds.length
  | [], cs, es, cs', h => by cases h; exact Nat.le_refl _
  | d :: ds, cs, es, cs', h => by
    rw [lcD] at h
    split at h
    · cases h
    · split at h
      · split at h
        · split at h
          · rename_i h4
            cases h
            have := lcD_len h4
            simp; omega
          · cases h
        · cases h
      · have := lcD_len h
        simp; omega
      · cases h
theorem se_lc {wi : TI} {g : TG} {tt : TT} {te : TE} {vs js : List Nat} {mi : MI} {tg : MG} {mt : MT} {me : ME} (hi : SI K κ wi mi) (hg : SG K κ g tg js) (hj : ∀ j ∈ js, j ∈ vs) (ht : ST K κ tt mt) (he : SE K κ te me) :
    SE K κ (tLc wi g tt te vs) (mLc mi tg mt me vs) := fun m0 ρ cs σ G H as e cs' Q s hm q => by
  unfold mLc at hm
  split at hm
  · rename_i ds cs1 h1
    split at hm
    · rename_i hlen
      split at hm
      · rename_i es cs2 h2
        cases hm
        refine hi m0 ρ cs σ G H as _ _ _ s h1 fun J G1 H1 as1 t1 ok1 gv Dl hD => ?_
        have le1 : m0 ≤ as1.length := Nat.le_trans s.le t1.leng
        have sw := wipe_rep (s.sl.mono t1.ex t1.le) vs
        refine ⟨fun i m H' => m = ds.length - i ∧ i ≤ ds.length ∧ ∃ G' as' ci da es', Acc K κ m0 G1 H1 as1 Dl G' H' as' ci da ∧ da.length ≤ i ∧ lcD tg mt me m0 (wipeS ρ vs) (ds.drop i) ci = some (es', cs') ∧ da ++ es' = es,
          ⟨ds.length, rfl, Nat.zero_le _, G1, as1, cs1, [], es, Acc.new ok1 le1 hD, Nat.le_refl _, h2, rfl⟩, ?_⟩
        rintro i m H' ⟨rfl, hi', G', as', ci, da, es', a, hda, hf, hes⟩
        obtain ⟨gv1, gv2⟩ := gv i G' H' a.tr.ex a.ok.ex
        by_cases hlt : i < ds.length
        · have hd : ds[i]? = some ds[i] := List.getElem?_eq_getElem hlt
          obtain ⟨go, yl⟩ := gv1 _ hd
          rw [List.drop_eq_getElem_cons hlt, lcD] at hf
          split at hf
          · cases hf
          · rename_i ρ1 hρ1
            refine .inr ⟨go, fun H2 => ∃ G' as' ci da es', Acc K κ m0 G1 H1 as1 Dl G' H2 as' ci da ∧ da.length ≤ i + 1 ∧ lcD tg mt me m0 (wipeS ρ vs) (ds.drop (i + 1)) ci = some (es', cs') ∧ da ++ es' = es,
              fun H2 hN => ⟨ds.length - (i + 1), by omega, rfl, hlt, hN⟩, fun x H2 y => ?_⟩
            have key : ∀ G2, Tr m0 G' H' as' G2 H2 as' → Ok K κ G2 H2 as' ci → Rep K κ G2 x ds[i] → g x (wipe σ vs) H2 fun σ2 H3 => wipe σ2 vs = wipe σ vs ∧ tt σ2 H3 fun b H4 => if b = true then te σ2 H4 fun y H5 => ∃ acc, H5 Dl = some (.lst acc) ∧ acc.length < sizeLine ∧ ∃ G' as' ci da es', Acc K κ m0 G1 H1 as1 Dl G' (upd H5 Dl (.lst (acc ++ [y]))) as' ci da ∧ da.length ≤ i + 1 ∧ lcD tg mt me m0 (wipeS ρ vs) (ds.drop (i + 1)) ci = some (es', cs') ∧ da ++ es' = es
                else ∃ G' as' ci da es', Acc K κ m0 G1 H1 as1 Dl G' H4 as' ci da ∧ da.length ≤ i + 1 ∧ lcD tg mt me m0 (wipeS ρ vs) (ds.drop (i + 1)) ci = some (es', cs') ∧ da ++ es' = es := by
              intro G2 t2 ok2 r2
              have a2 := a.step le1 t2 ok2
              refine hg G2 H2 as' (wipe σ vs) (wipeS ρ vs) x ds[i] ρ1 _ ok2.ex (sw.mono a2.tr.ex a2.tr.le) r2 hρ1 fun σ3 s3 l3 k3 => ⟨wipe_eq l3 fun k hk => k3 k fun z => hk (hj k z), ?_⟩
              have st3 : Sta K κ m0 ρ1 ci σ3 G2 H2 as' := ⟨ok2, s3, a2.le⟩
              split at hf
              · rename_i c1 hb
                refine ht m0 ρ1 ci σ3 G2 H2 as' _ _ _ st3 hb fun G3 H3 as3 t3 ok3 => iteT ?_
                have a3 := a2.step le1 t3 ok3
                split at hf
                · rename_i e4 c4 h4
                  split at hf
                  · rename_i es5 c5 h5
                    cases hf
                    refine he m0 ρ1 c1 σ3 G3 H3 as3 _ _ _ (st3.step t3 ok3) h4 fun y4 G4 H4 as4 t4 ok4 r4 => ?_
                    obtain ⟨acc, hc, hl, a5⟩ := (a3.step le1 t4 ok4).push r4
                    exact ⟨acc, hc, sz_lt (by omega), G4, as4, c4, _, es5, a5, by rw [List.length_append]; simp; omega, h5, by rw [List.append_assoc]; exact hes⟩
                  · cases hf
                · cases hf
              · rename_i c1 hb
                refine ht m0 ρ1 ci σ3 G2 H2 as' _ _ _ st3 hb fun G3 H3 as3 t3 ok3 => iteF ?_
                exact ⟨G3, as3, c1, da, es', a2.step le1 t3 ok3, by omega, hf, hes⟩
              · cases hf
            rcases yl x H2 y with ⟨rfl, rx⟩ | ⟨T, o', hT, rfl, rx⟩
            · exact key G' Tr.refl a.ok rx
            · exact key _ (Tr.newp a.ok hT) (a.ok.newp hT) rx
        · have e : i = ds.length := by omega
          subst e
          refine .inl ⟨gv2 rfl, ?_⟩
          rw [List.drop_length, lcD] at hf
          cases hf
          rw [List.append_nil] at hes
          subst hes
          obtain ⟨G9, t9, ok9, r9⟩ := a.fin
          exact q _ G9 H' as' (t1.trans s.le t9) ok9 r9
      · cases hm
    · cases hm
  · cases hm
/-- two clauses -/
def lc2D (tg : MG) (mt : MT) (mi1 : MI) (tg1 : MG) (mt1 : MT) (me : ME) (vs1 : List Nat) (n : Nat) (ρw : Sl) : List D → List Cell → Option (List D × List Cell)
  | [], cs => some ([], cs)
  | d :: ds, cs => match tg d ρw with
    | none => none
    | some ρ1 => match mt n ρ1 cs with
      | some (true, cs1) => match mi1 n ρ1 cs1 with
        | some (ds1, cs2) => if ds1.length ≤ 100000 then match lcD tg1 mt1 me n (wipeS ρ1 vs1) ds1 cs2 with
          | some (es, cs3) => match lc2D tg mt mi1 tg1 mt1 me vs1 n ρw ds cs3 with
            | some (es', cs4) => some (es ++ es', cs4)
            | none => none
          | none => none
          else none
        | none => none
      | some (false, cs1) => lc2D tg mt mi1 tg1 mt1 me vs1 n ρw ds cs1
      | none => none
def mLc2 (mi : MI) (tg : MG) (mt : MT) (mi1 : MI) (tg1 : MG) (mt1 : MT) (me : ME) (vs vs1 : List Nat) : ME := fun n ρ cs => match mi n ρ cs with
  | some (ds, cs1) => if ds.length ≤ 100000 then match lc2D tg mt mi1 tg1 mt1 me vs1 n (wipeS ρ vs) ds cs1 with
    | some (es, cs2) => if es.length ≤ 100000 then some (.p (.lst es), cs2) else none
    | none => none
    else none
  | none => none
/-- the inner loop of two: what is there grows by what its turns give -/
theorem inner_lc {g1 : TG} {tt1 : TT} {te : TE} {vs1 js1 : List Nat} {tg1 : MG} {mt1 : MT} {me : ME} (hg : SG K κ g1 tg1 js1) (hj : ∀ j ∈ js1, j ∈ vs1) (ht : ST K κ tt1 mt1) (he : SE K κ te me)
    {J : It} {ds : List D} {G1 H1 : Hp} {as1 : List Addr} {Dl : Addr} {Nx : Hp → Prop} {ρ2 : Sl} {σ2 : L2.St} {da es : List D} {Gb Hb : Hp} {asb : List Addr} {cb ce : List Cell} (le1 : m0 ≤ as1.length) (gv : Gives K κ J Gb ds)
    (a0 : Acc K κ m0 G1 H1 as1 Dl Gb Hb asb cb da) (sw : SlR' K κ Gb asb σ2 ρ2) (hf0 : lcD tg1 mt1 me m0 (wipeS ρ2 vs1) ds cb = some (es, ce)) (hlen : da.length + es.length ≤ 100000)
    (hN : ∀ G' H' as', SameH Gb G' → Acc K κ m0 G1 H1 as1 Dl G' H' as' ce (da ++ es) → Nx H') :
    ∃ W1 : Nat → Nat → Hp → Prop, (∃ m, W1 0 m Hb) ∧ ∀ j k H, W1 j k H →
      (J.stop j H ∧ Nx H) ∨ (J.go j H ∧ ∃ Nx1 : Hp → Prop, (∀ H', Nx1 H' → ∃ k', k' < k ∧ W1 (j + 1) k' H') ∧ ∀ x H', J.yld j H x H' → g1 x (wipe σ2 vs1) H' fun σ3 H5 => wipe σ3 vs1 = wipe σ2 vs1 ∧ tt1 σ3 H5 fun b H6 =>
        if b = true then te σ3 H6 fun y H7 => ∃ acc, H7 Dl = some (.lst acc) ∧ acc.length < sizeLine ∧ Nx1 (upd H7 Dl (.lst (acc ++ [y]))) else Nx1 H6) := by
  have swv := wipe_rep sw vs1
  refine ⟨fun i m H' => m = ds.length - i ∧ i ≤ ds.length ∧ ∃ G' as' ci da' es', SameH Gb G' ∧ (asb <+: as') ∧ Acc K κ m0 G1 H1 as1 Dl G' H' as' ci da' ∧ lcD tg1 mt1 me m0 (wipeS ρ2 vs1) (ds.drop i) ci = some (es', ce) ∧ da' ++ es' = da ++ es,
    ⟨ds.length, rfl, Nat.zero_le _, Gb, asb, cb, da, es, SameH.refl _, List.prefix_refl _, a0, hf0, rfl⟩, ?_⟩
  rintro i m H' ⟨rfl, hi', G', as', ci, da', es', eb, pb, a, hf, hes⟩
  obtain ⟨gv1, gv2⟩ := gv i G' H' eb a.ok.ex
  by_cases hlt : i < ds.length
  · have hd : ds[i]? = some ds[i] := List.getElem?_eq_getElem hlt
    obtain ⟨go, yl⟩ := gv1 _ hd
    rw [List.drop_eq_getElem_cons hlt, lcD] at hf
    split at hf
    · cases hf
    · rename_i ρ1 hρ1
      refine .inr ⟨go, fun H2 => ∃ G' as' ci da' es', SameH Gb G' ∧ (asb <+: as') ∧ Acc K κ m0 G1 H1 as1 Dl G' H2 as' ci da' ∧ lcD tg1 mt1 me m0 (wipeS ρ2 vs1) (ds.drop (i + 1)) ci = some (es', ce) ∧ da' ++ es' = da ++ es,
        fun H2 hN => ⟨ds.length - (i + 1), by omega, rfl, hlt, hN⟩, fun x H2 y => ?_⟩
      have key : ∀ G2, Tr m0 G' H' as' G2 H2 as' → Ok K κ G2 H2 as' ci → Rep K κ G2 x ds[i] → g1 x (wipe σ2 vs1) H2 fun σ3 H3 => wipe σ3 vs1 = wipe σ2 vs1 ∧ tt1 σ3 H3 fun b H4 => if b = true then te σ3 H4 fun y H5 => ∃ acc, H5 Dl = some (.lst acc) ∧ acc.length < sizeLine ∧ ∃ G' as' ci da' es', SameH Gb G' ∧ (asb <+: as') ∧ Acc K κ m0 G1 H1 as1 Dl G' (upd H5 Dl (.lst (acc ++ [y]))) as' ci da' ∧ lcD tg1 mt1 me m0 (wipeS ρ2 vs1) (ds.drop (i + 1)) ci = some (es', ce) ∧ da' ++ es' = da ++ es
          else ∃ G' as' ci da' es', SameH Gb G' ∧ (asb <+: as') ∧ Acc K κ m0 G1 H1 as1 Dl G' H4 as' ci da' ∧ lcD tg1 mt1 me m0 (wipeS ρ2 vs1) (ds.drop (i + 1)) ci = some (es', ce) ∧ da' ++ es' = da ++ es := by
        intro G2 t2 ok2 r2
        have a2 := a.step le1 t2 ok2
        refine hg G2 H2 as' (wipe σ2 vs1) (wipeS ρ2 vs1) x ds[i] ρ1 _ ok2.ex (swv.mono (eb.trans t2.ex) pb) r2 hρ1 fun σ3 s3 l3 k3 => ⟨wipe_eq l3 fun k hk => k3 k fun z => hk (hj k z), ?_⟩
        have st3 : Sta K κ m0 ρ1 ci σ3 G2 H2 as' := ⟨ok2, s3, a2.le⟩
        split at hf
        · rename_i c1 hb
          refine ht m0 ρ1 ci σ3 G2 H2 as' _ _ _ st3 hb fun G3 H3 as3 t3 ok3 => iteT ?_
          have a3 := a2.step le1 t3 ok3
          split at hf
          · rename_i e4 c4 h4
            split at hf
            · rename_i es5 c5 h5
              cases hf
              refine he m0 ρ1 c1 σ3 G3 H3 as3 _ _ _ (st3.step t3 ok3) h4 fun y4 G4 H4 as4 t4 ok4 r4 => ?_
              obtain ⟨acc, hc, hl, a5⟩ := (a3.step le1 t4 ok4).push r4
              have hll := congrArg List.length hes
              simp only [List.length_append, List.length_cons] at hll
              exact ⟨acc, hc, sz_lt (by omega), G4, as4, c4, _, es5, ((eb.trans t2.ex).trans t3.ex).trans t4.ex, (pb.trans t3.le).trans t4.le, a5, h5, by rw [List.append_assoc]; exact hes⟩
            · cases hf
          · cases hf
        · rename_i c1 hb
          refine ht m0 ρ1 ci σ3 G2 H2 as' _ _ _ st3 hb fun G3 H3 as3 t3 ok3 => iteF ?_
          exact ⟨G3, as3, c1, da', es', (eb.trans t2.ex).trans t3.ex, pb.trans t3.le, a2.step le1 t3 ok3, hf, hes⟩
        · cases hf
      rcases yl x H2 y with ⟨rfl, rx⟩ | ⟨T, o', hT, rfl, rx⟩
      · exact key G' Tr.refl a.ok rx
      · exact key _ (Tr.newp a.ok hT) (a.ok.newp hT) rx
  · have e : i = ds.length := by omega
    subst e
    rw [List.drop_length, lcD] at hf
    cases hf
    rw [List.append_nil] at hes
    subst hes
    exact .inl ⟨gv2 rfl, hN G' H' as' eb a⟩
theorem se_lc2 {wi wi1 : TI} {g g1 : TG} {tt tt1 : TT} {te : TE} {vs vs1 js js1 : List Nat} {mi mi1 : MI} {tg tg1 : MG} {mt mt1 : MT} {me : ME} (hi : SI K κ wi mi) (hg : SG K κ g tg js) (hj : ∀ j ∈ js, j ∈ vs) (ht : ST K κ tt mt)
    (hi1 : SI K κ wi1 mi1) (hg1 : SG K κ g1 tg1 js1) (hj1 : ∀ j ∈ js1, j ∈ vs1) (ht1 : ST K κ tt1 mt1) (he : SE K κ te me) :
    SE K κ (tLc2 wi g tt wi1 g1 tt1 te vs vs1) (mLc2 mi tg mt mi1 tg1 mt1 me vs vs1) := fun m0 ρ cs σ G H as e cs' Q s hm q => by
  unfold mLc2 at hm
  split at hm
  · rename_i ds cs1 h1
    split at hm
    · rename_i hlen
      split at hm
      · rename_i es cs2 h2
        split at hm
        · rename_i hlen2
          cases hm
          refine hi m0 ρ cs σ G H as _ _ _ s h1 fun J G1 H1 as1 t1 ok1 gv Dl hD => ?_
          have le1 : m0 ≤ as1.length := Nat.le_trans s.le t1.leng
          have sw := wipe_rep (s.sl.mono t1.ex t1.le) vs
          refine ⟨fun i m H' => m = ds.length - i ∧ i ≤ ds.length ∧ ∃ G' as' ci da es', Acc K κ m0 G1 H1 as1 Dl G' H' as' ci da ∧ lc2D tg mt mi1 tg1 mt1 me vs1 m0 (wipeS ρ vs) (ds.drop i) ci = some (es', cs') ∧ da ++ es' = es,
            ⟨ds.length, rfl, Nat.zero_le _, G1, as1, cs1, [], es, Acc.new ok1 le1 hD, h2, rfl⟩, ?_⟩
          rintro i m H' ⟨rfl, hi', G', as', ci, da, es', a, hf, hes⟩
          obtain ⟨gv1, gv2⟩ := gv i G' H' a.tr.ex a.ok.ex
          by_cases hlt : i < ds.length
          · have hd : ds[i]? = some ds[i] := List.getElem?_eq_getElem hlt
            obtain ⟨go, yl⟩ := gv1 _ hd
            rw [List.drop_eq_getElem_cons hlt, lc2D] at hf
            split at hf
            · cases hf
            · rename_i ρ1 hρ1
              refine .inr ⟨go, fun H2 => ∃ G' as' ci da es', Acc K κ m0 G1 H1 as1 Dl G' H2 as' ci da ∧ lc2D tg mt mi1 tg1 mt1 me vs1 m0 (wipeS ρ vs) (ds.drop (i + 1)) ci = some (es', cs') ∧ da ++ es' = es,
                fun H2 hN => ⟨ds.length - (i + 1), by omega, rfl, hlt, hN⟩, fun x H2 y => ?_⟩
              have key : ∀ G2, Tr m0 G' H' as' G2 H2 as' → Ok K κ G2 H2 as' ci → Rep K κ G2 x ds[i] → g x (wipe σ vs) H2 fun σ2 H3 => wipe σ2 vs = wipe σ vs ∧ tt σ2 H3 fun b H4 => if b = true then wi1 σ2 H4 fun J1 H4 => ∃ W1 : Nat → Nat → Hp → Prop, (∃ m, W1 0 m H4) ∧ ∀ j k H, W1 j k H →
                    (J1.stop j H ∧ ∃ G' as' ci da es', Acc K κ m0 G1 H1 as1 Dl G' H as' ci da ∧ lc2D tg mt mi1 tg1 mt1 me vs1 m0 (wipeS ρ vs) (ds.drop (i + 1)) ci = some (es', cs') ∧ da ++ es' = es) ∨ (J1.go j H ∧ ∃ Nx1 : Hp → Prop, (∀ H', Nx1 H' → ∃ k', k' < k ∧ W1 (j + 1) k' H') ∧ ∀ x H', J1.yld j H x H' → g1 x (wipe σ2 vs1) H' fun σ3 H5 => wipe σ3 vs1 = wipe σ2 vs1 ∧ tt1 σ3 H5 fun b H6 =>
                      if b = true then te σ3 H6 fun y H7 => ∃ acc, H7 Dl = some (.lst acc) ∧ acc.length < sizeLine ∧ Nx1 (upd H7 Dl (.lst (acc ++ [y]))) else Nx1 H6)
                  else ∃ G' as' ci da es', Acc K κ m0 G1 H1 as1 Dl G' H4 as' ci da ∧ lc2D tg mt mi1 tg1 mt1 me vs1 m0 (wipeS ρ vs) (ds.drop (i + 1)) ci = some (es', cs') ∧ da ++ es' = es := by
                intro G2 t2 ok2 r2
                have a2 := a.step le1 t2 ok2
                refine hg G2 H2 as' (wipe σ vs) (wipeS ρ vs) x ds[i] ρ1 _ ok2.ex (sw.mono a2.tr.ex a2.tr.le) r2 hρ1 fun σ3 s3 l3 k3 => ⟨wipe_eq l3 fun k hk => k3 k fun z => hk (hj k z), ?_⟩
                have st3 : Sta K κ m0 ρ1 ci σ3 G2 H2 as' := ⟨ok2, s3, a2.le⟩
                split at hf
                · rename_i c1 hb
                  refine ht m0 ρ1 ci σ3 G2 H2 as' _ _ _ st3 hb fun G3 H3 as3 t3 ok3 => iteT ?_
                  have a3 := a2.step le1 t3 ok3
                  have s3' := st3.step t3 ok3
                  split at hf
                  · rename_i ds1 c4 h4
                    split at hf
                    · rename_i hl1
                      split at hf
                      · rename_i es5 c5 h5
                        split at hf
                        · rename_i es6 c6 h6
                          cases hf
                          refine hi1 m0 ρ1 c1 σ3 G3 H3 as3 _ _ _ s3' h4 fun J1 G4 H4 as4 t4 ok4 gv4 => ?_
                          have a4 := a3.step le1 t4 ok4
                          have hll := congrArg List.length hes
                          simp only [List.length_append] at hll
                          exact inner_lc hg1 hj1 ht1 he le1 gv4 a4 (s3'.sl.mono t4.ex t4.le) h5 (by omega) fun G5 H5 as5 _ a5 => ⟨G5, as5, c5, _, es6, a5, h6, by rw [List.append_assoc]; exact hes⟩
                        · cases hf
                      · cases hf
                    · cases hf
                  · cases hf
                · rename_i c1 hb
                  refine ht m0 ρ1 ci σ3 G2 H2 as' _ _ _ st3 hb fun G3 H3 as3 t3 ok3 => iteF ?_
                  exact ⟨G3, as3, c1, da, es', a2.step le1 t3 ok3, hf, hes⟩
                · cases hf
              rcases yl x H2 y with ⟨rfl, rx⟩ | ⟨T, o', hT, rfl, rx⟩
              · exact key G' Tr.refl a.ok rx
              · exact key _ (Tr.newp a.ok hT) (a.ok.newp hT) rx
          · have e : i = ds.length := by omega
            subst e
            refine .inl ⟨gv2 rfl, ?_⟩
            rw [List.drop_length, lc2D] at hf
            cases hf
            rw [List.append_nil] at hes
            subst hes
            obtain ⟨G9, t9, ok9, r9⟩ := a.fin
            exact q _ G9 H' as' (t1.trans s.le t9) ok9 r9
        · cases hm
      · cases hm
    · cases hm
  · cases hm
end
end Fw
set_option maxRecDepth 100000
set_option maxHeartbeats 4000000
namespace Fw
open PySem PySem.Spec PyProof.Rows L2
section
variable {K : PySem.W.Frag} {κ : Nat → Addr} {G G' H H' : Hp} {as as' : List Addr} {m0 : Nat} {ρ : Sl} {cs cs' : List Cell} {σ : L2.St}

/-! ### slices -/
abbrev MO := Nat → Sl → List Cell → Option (Option Int × List Cell)
def SO (K : PySem.W.Frag) (κ : Nat → Addr) (to : TO) (m : MO) : Prop := ∀ m0 ρ cs σ G H as o cs' (Q : Option Int → Hp → Prop), Sta K κ m0 ρ cs σ G H as → m m0 ρ cs = some (o, cs') →
  (∀ G' H' as', Tr m0 G H as G' H' as' → Ok K κ G' H' as' cs' → Q o H') → to σ H Q
def mNo : MO := fun _ _ cs => some (none, cs)
def mPart (m : ME) : MO := fun n ρ cs => match m n ρ cs with
  | some (.p (.int i), cs1) => some (some i, cs1)
  | _ => none
theorem so_none : SO K κ tNoPart mNo := fun m0 ρ cs σ G H as o cs' Q s hm q => by
  cases hm; exact q G H as Tr.refl s.ok
theorem so_some {te : TE} {m : ME} (h : SE K κ te m) : SO K κ (tPart te) (mPart m) := fun m0 ρ cs σ G H as o cs' Q s hm q => by
  unfold mPart at hm
  split at hm
  · rename_i i cs1 h1
    cases hm
    exact h m0 ρ cs σ G H as _ _ _ s h1 fun v G1 H1 as1 t1 ok1 r1 => ⟨i, Rep.int_inv r1, q G1 H1 as1 t1 ok1⟩
  · cases hm
def cutD (xs : List D) (lo hi : Option Int) : List D := (xs.drop (HT.sIx xs.length 0 lo)).take (HT.sIx xs.length xs.length hi - HT.sIx xs.length 0 lo)
def fSlL (d : D) (lo hi : Option Int) : Option D := match d with
  | .lst xs => some (.lst (cutD xs lo hi))
  | .fls xs => some (.lst (cutD xs lo hi))
  | _ => none
def mSl (f : D → Option Int → Option Int → Option D) (m : ME) (ml mh : MO) : ME := fun n ρ cs => match m n ρ cs with
  | some (.p d, cs1) => match ml n ρ cs1 with
    | some (lo, cs2) => match mh n ρ cs2 with
      | some (hi, cs3) => (f d lo hi).map fun z => (.p z, cs3)
      | none => none
    | none => none
  | _ => none
theorem RepAll.take : ∀ {vs : List V} {ds : List D} (n : Nat), RepAll K κ G vs ds → RepAll K κ G (vs.take n) (ds.take n)
  | _, _, 0, _ => .nil
  | _, _, _ + 1, .nil => .nil
  | _, _, n + 1, .cons r t => .cons r (RepAll.take n t)
theorem RepAll.drop : ∀ {vs : List V} {ds : List D} (n : Nat), RepAll K κ G vs ds → RepAll K κ G (vs.drop n) (ds.drop n)
  | _, _, 0, r => r
  | _, _, _ + 1, .nil => .nil
  | _, _, n + 1, .cons _ t => RepAll.drop n t
theorem RepAll.cut {vs : List V} {ds : List D} (r : RepAll K κ G vs ds) (lo hi : Option Int) : RepAll K κ G (cutV vs lo hi) (cutD ds lo hi) := by
  unfold cutV cutD
  rw [r.length]
  exact (r.drop _).take _
theorem se_slL {te : TE} {tl th : TO} {m : ME} {ml mh : MO} (h : SE K κ te m) (hl : SO K κ tl ml) (hh : SO K κ th mh) : SE K κ (tSl (rSlL K) te tl th) (mSl fSlL m ml mh) := fun m0 ρ cs σ G H as e cs' Q s hm q => by
  unfold mSl at hm
  split at hm
  · rename_i d cs1 h1
    split at hm
    · rename_i lo cs2 h2
      split at hm
      · rename_i hi cs3 h3
        rw [Option.map_eq_some_iff] at hm
        obtain ⟨z, hz, e0⟩ := hm
        cases e0
        refine h m0 ρ cs σ G H as _ _ _ s h1 fun v G1 H1 as1 t1 ok1 r1 => ?_
        have s1 := s.step t1 ok1
        refine hl m0 ρ cs1 σ G1 H1 as1 _ _ _ s1 h2 fun G2 H2 as2 t2 ok2 => ?_
        have s2 := s1.step t2 ok2
        refine hh m0 ρ cs2 σ G2 H2 as2 _ _ _ s2 h3 fun G3 H3 as3 t3 ok3 => ?_
        have t13 := (t1.trans s.le t2).trans s.le t3
        have r3 := Rep.mono (t2.ex.trans t3.ex) r1
        unfold fSlL at hz
        split at hz
        · cases hz
          obtain ⟨a, xs, rfl, g, r⟩ := r3.lst_inv
          exact ⟨a, xs, rfl, SqL.of (ok3.ex _ _ g), fun p hp => q _ _ _ as3 (t13.trans s.le (Tr.newp ok3 hp)) (ok3.newp hp) (.lst upd_same ((r.cut lo hi).mono (SameH.new (ok3.free hp))))⟩
        · cases hz
          obtain ⟨a, xs, rfl, g, r⟩ := r3.fls_inv
          exact ⟨a, xs, rfl, ok3.ex.l g, fun p hp => q _ _ _ as3 (t13.trans s.le (Tr.newp ok3 hp)) (ok3.newp hp) (.lst upd_same ((r.cut lo hi).mono (SameH.new (ok3.free hp))))⟩
        · cases hz
      · cases hm
    · cases hm
  · cases hm

/-! ### chains -/
def mChain (f f' : D → D → Option D) (ma mb mc : ME) : ME := fun n ρ cs => match ma n ρ cs with
  | some (.p a, cs1) => match mb n ρ cs1 with
    | some (.p b, cs2) => match f a b with
      | some (.bl true) => match mc n ρ cs2 with
        | some (.p c, cs3) => (f' b c).map fun z => (.p z, cs3)
        | _ => none
      | some (.bl false) => some (.p (.bl false), cs2)
      | _ => none
    | _ => none
  | _ => none
theorem se_chain {r r' : R2} {f f' : D → D → Option D} {ta tb tc : TE} {ma mb mc : ME} (hr : R2ok K κ r f) (hr' : R2ok K κ r' f') (ha : SE K κ ta ma) (hb : SE K κ tb mb) (hc : SE K κ tc mc) :
    SE K κ (tChain r r' ta tb tc) (mChain f f' ma mb mc) := fun m0 ρ cs σ G H as e cs' Q s hm q => by
  unfold mChain at hm
  split at hm
  · rename_i a cs1 h1
    split at hm
    · rename_i b cs2 h2
      refine ha m0 ρ cs σ G H as _ _ _ s h1 fun x G1 H1 as1 t1 ok1 r1 => ?_
      have s1 := s.step t1 ok1
      refine hb m0 ρ cs1 σ G1 H1 as1 _ _ _ s1 h2 fun y G2 H2 as2 t2 ok2 r2 => ?_
      have s2 := s1.step t2 ok2
      have t12 := t1.trans s.le t2
      split at hm
      · rename_i h3
        split at hm
        · rename_i c cs3 h4
          rw [Option.map_eq_some_iff] at hm
          obtain ⟨z, hz, e0⟩ := hm
          cases e0
          refine hr G2 H2 x y a b _ _ ok2.ex (Rep.mono t2.ex r1) r2 h3 (PE1.lays (m0 := m0) ok2 fun v G3 H3 as3 t3 ok3 r3 => ?_)
          have s3 := s2.step t3 ok3
          refine ⟨true, Rep.bl_inv r3, iteT ?_⟩
          refine hc m0 ρ cs2 σ G3 H3 as3 _ _ _ s3 h4 fun w G4 H4 as4 t4 ok4 r4 => ?_
          exact hr' G4 H4 y w b c z Q ok4.ex (Rep.mono (t3.ex.trans t4.ex) r2) r4 hz (PE1.lays (m0 := m0) ok4 fun v G5 H5 as5 t5 ok5 r5 => q v G5 H5 as5 (((t12.trans s.le t3).trans s.le t4).trans s.le t5) ok5 r5)
        · cases hm
      · rename_i h3
        cases hm
        refine hr G2 H2 x y a b _ _ ok2.ex (Rep.mono t2.ex r1) r2 h3 (PE1.lays (m0 := m0) ok2 fun v G3 H3 as3 t3 ok3 r3 => ?_)
        exact ⟨false, Rep.bl_inv r3, iteF (q _ G3 H3 as3 (t12.trans s.le t3) ok3 (.bl false))⟩
      · cases hm
    · cases hm
  · cases hm
/-! a op b op c op d -/
def tChain3 (r r' r'' : R2) (ta tb tc td : TE) : TE := fun σ H Q => ta σ H fun x H1 => tb σ H1 fun y H2 => r x y H2 fun z H3 => ∃ k, z = .bl k ∧
  if k = true then tc σ H3 fun w H4 => r' y w H4 fun z H5 => ∃ k, z = .bl k ∧ if k = true then td σ H5 fun u H6 => r'' w u H6 Q else Q (.bl false) H5 else Q (.bl false) H3
theorem pt_chain3 {X : Cx} {a b c d : Expr} {ta tb tc td : TE} {pos : Pos} {op op' op'' : CmpOp} {r r' r'' : R2} (ho : OpR X (compareOp op) r) (ho' : OpR X (compareOp op') r') (ho'' : OpR X (compareOp op'') r'')
    (ha : PE X a ta) (hb : PE X b tb) (hc : PE X c tc) (hd : PE X d td) (hm : lastMarks [op, op', op''] [b, c, d] = false := by with_unfolding_all rfl) :
    PT X (.Compare a [op, op', op''] [b, c, d] pos) (tTest (tChain3 r r' r'' ta tb tc td)) := by
  constructor
  intro pins s σ H Q I h
  refine isTrue_chain (thn (ha.run pins s σ H _ I h) fun av s1 ⟨x, H1, I1, r1, q1⟩ => ?_) hm
  refine test_link (thn (hb.run pins s1 σ H1 _ I1 q1) fun bv s2 ⟨y, H2, I2, r2, q2⟩ => ?_)
  refine thn (ho pins s2 σ H2 x y av bv _ I2 r1 r2 q2) fun cv s3 ⟨z, H3, I3, r3, k, ek, q3⟩ => ?_
  subst ek
  obtain rfl : cv = Value.bool k := r3
  refine wpAny_truthy_bool ?_
  cases k with
  | false =>
    obtain ⟨k', e', q'⟩ := q3
    cases e'
    exact ite_ff ⟨H3, I3, q'⟩
  | true =>
    refine ite_tt (test_link (thn (hc.run pins s3 σ H3 _ I3 q3) fun wv s4 ⟨w, H4, I4, r4, q4⟩ => ?_))
    refine thn (ho' pins s4 σ H4 y w bv wv _ I4 r2 r4 q4) fun c2 s5 ⟨z2, H5, I5, r5, k2, ek2, q5⟩ => ?_
    subst ek2
    obtain rfl : c2 = Value.bool k2 := r5
    refine wpAny_truthy_bool ?_
    cases k2 with
    | false =>
      obtain ⟨k', e', q'⟩ := q5
      cases e'
      exact ite_ff ⟨H5, I5, q'⟩
    | true =>
      refine ite_tt (test_last (thn (hd.run pins s5 σ H5 _ I5 q5) fun uv s6 ⟨u, H6, I6, r6, q6⟩ => ?_))
      refine thn (ho'' pins s6 σ H6 w u wv uv _ I6 r4 r6 q6) fun c3 s7 ⟨z3, H7, I7, r7, k3, ek3, q7⟩ => ?_
      subst ek3
      obtain rfl : c3 = Value.bool k3 := r7
      exact wpAny_truthy_bool ⟨H7, I7, q7⟩
def mChain3 (f f' f'' : D → D → Option D) (ma mb mc md : ME) : ME := fun n ρ cs => match ma n ρ cs with
  | some (.p a, cs1) => match mb n ρ cs1 with
    | some (.p b, cs2) => match f a b with
      | some (.bl true) => match mc n ρ cs2 with
        | some (.p c, cs3) => match f' b c with
          | some (.bl true) => match md n ρ cs3 with
            | some (.p d, cs4) => (f'' c d).map fun z => (.p z, cs4)
            | _ => none
          | some (.bl false) => some (.p (.bl false), cs3)
          | _ => none
        | _ => none
      | some (.bl false) => some (.p (.bl false), cs2)
      | _ => none
    | _ => none
  | _ => none
theorem se_chain3 {r r' r'' : R2} {f f' f'' : D → D → Option D} {ta tb tc td : TE} {ma mb mc md : ME} (hr : R2ok K κ r f) (hr' : R2ok K κ r' f') (hr'' : R2ok K κ r'' f'') (ha : SE K κ ta ma) (hb : SE K κ tb mb) (hc : SE K κ tc mc) (hd : SE K κ td md) :
    SE K κ (tChain3 r r' r'' ta tb tc td) (mChain3 f f' f'' ma mb mc md) := fun m0 ρ cs σ G H as e cs' Q s hm q => by
  unfold mChain3 at hm
  split at hm
  · rename_i a cs1 h1
    split at hm
    · rename_i b cs2 h2
      refine ha m0 ρ cs σ G H as _ _ _ s h1 fun x G1 H1 as1 t1 ok1 r1 => ?_
      have s1 := s.step t1 ok1
      refine hb m0 ρ cs1 σ G1 H1 as1 _ _ _ s1 h2 fun y G2 H2 as2 t2 ok2 r2 => ?_
      have s2 := s1.step t2 ok2
      have t12 := t1.trans s.le t2
      split at hm
      · rename_i h3
        split at hm
        · rename_i c cs3 h4
          refine hr G2 H2 x y a b _ _ ok2.ex (Rep.mono t2.ex r1) r2 h3 (PE1.lays (m0 := m0) ok2 fun v G3 H3 as3 t3 ok3 r3 => ?_)
          have s3 := s2.step t3 ok3
          refine ⟨true, Rep.bl_inv r3, iteT ?_⟩
          refine hc m0 ρ cs2 σ G3 H3 as3 _ _ _ s3 h4 fun w G4 H4 as4 t4 ok4 r4 => ?_
          have s4 := s3.step t4 ok4
          have t14 := (t12.trans s.le t3).trans s.le t4
          split at hm
          · rename_i h5
            split at hm
            · rename_i d cs4 h6
              rw [Option.map_eq_some_iff] at hm
              obtain ⟨z, hz, e0⟩ := hm
              cases e0
              refine hr' G4 H4 y w b c _ _ ok4.ex (Rep.mono (t3.ex.trans t4.ex) r2) r4 h5 (PE1.lays (m0 := m0) ok4 fun v G5 H5 as5 t5 ok5 r5 => ?_)
              have s5 := s4.step t5 ok5
              refine ⟨true, Rep.bl_inv r5, iteT ?_⟩
              refine hd m0 ρ cs3 σ G5 H5 as5 _ _ _ s5 h6 fun u G6 H6 as6 t6 ok6 r6 => ?_
              exact hr'' G6 H6 w u c d z Q ok6.ex (Rep.mono (t5.ex.trans t6.ex) r4) r6 hz (PE1.lays (m0 := m0) ok6 fun v G7 H7 as7 t7 ok7 r7 => q v G7 H7 as7 (((t14.trans s.le t5).trans s.le t6).trans s.le t7) ok7 r7)
            · cases hm
          · rename_i h5
            cases hm
            refine hr' G4 H4 y w b c _ _ ok4.ex (Rep.mono (t3.ex.trans t4.ex) r2) r4 h5 (PE1.lays (m0 := m0) ok4 fun v G5 H5 as5 t5 ok5 r5 => ?_)
            exact ⟨false, Rep.bl_inv r5, iteF (q _ G5 H5 as5 (t14.trans s.le t5) ok5 (.bl false))⟩
          · cases hm
        · cases hm
      · rename_i h3
        cases hm
        refine hr G2 H2 x y a b _ _ ok2.ex (Rep.mono t2.ex r1) r2 h3 (PE1.lays (m0 := m0) ok2 fun v G3 H3 as3 t3 ok3 r3 => ?_)
        exact ⟨false, Rep.bl_inv r3, iteF (q _ G3 H3 as3 (t12.trans s.le t3) ok3 (.bl false))⟩
      · cases hm
    · cases hm
  · cases hm

/-! ### xs.index(y), whatever the items -/
def dataIx (ds : List PyData) (d : PyData) : Option Nat := ds.findIdx? fun z => PyData.eqv z d
def fIndex : D → List D → Option D
  | .lst xs, [y] => match D.pys xs, y.py with
    | some ds, some d => if (SeqAt.shaped (.list ds) && SeqAt.shaped d) = true then (dataIx ds d).map fun j => .int (j : Nat) else none
    | _, _ => none
  | _, _ => none
def mBM (f : D → List D → Option D) (mo : ME) (ma : MA) : ME := fun n ρ cs => match mo n ρ cs with
  | some (.p d, cs1) => match ma n ρ cs1 with
    | some (es, cs2) => match pures es with
      | some ds => (f d ds).map fun z => (.p z, cs2)
      | none => none
    | none => none
  | _ => none
theorem se_index {to : TE} {ta : TA} {mo : ME} {ma : MA} (ho : SE K κ to mo) (ha : SA K κ ta ma) : SE K κ (tBM K "list" (rIndexD K) to ta) (mBM fIndex mo ma) := fun m0 ρ cs σ G H as e cs' Q s hm q => by
  unfold mBM at hm
  split at hm
  · rename_i d cs1 h1
    split at hm
    · rename_i es cs2 h2
      split at hm
      · rename_i ds h3
        rw [Option.map_eq_some_iff] at hm
        obtain ⟨z, hz, e0⟩ := hm
        cases e0
        refine ho m0 ρ cs σ G H as _ _ _ s h1 fun x G1 H1 as1 t1 ok1 r1 => ?_
        have s1 := s.step t1 ok1
        unfold fIndex at hz
        split at hz
        · rename_i xs y
          split at hz
          · rename_i ps p h4 h5
            split at hz
            · rename_i hsh
              rw [Bool.and_eq_true] at hsh
              rw [Option.map_eq_some_iff] at hz
              obtain ⟨j, hj, e0⟩ := hz
              cases e0
              obtain ⟨a, ws, rfl, g, r⟩ := Rep.lst_inv r1
              refine ⟨.inl ⟨rfl, _, SqL.of (ok1.ex _ _ g)⟩, ha m0 ρ cs1 σ G1 H1 as1 _ _ _ s1 h2 fun vs G2 H2 as2 t2 ok2 r2 => ?_⟩
              rw [pures_some h3] at r2
              cases r2 with | cons ry t => cases t with | nil =>
                have hd : Dp K H2 (V.ref a) (.list ps) := Rep.dp (d := .lst xs) ok2.ex (.lst (t2.ex _ _ g) (r.mono t2.ex)) (by rw [D.py, h4]; rfl)
                have hj' := List.findIdx?_eq_some_iff_getElem.mp hj
                obtain ⟨hlt, he, hno⟩ := hj'
                refine ⟨a, _, p, ps, j, ps[j], rfl, rfl, hd, Rep.dp ok2.ex ry h5, hsh.1, hsh.2, List.getElem?_eq_getElem hlt, he, fun m z' hm hz' => ?_, ?_⟩
                · obtain ⟨hl2, e2⟩ := List.getElem?_eq_some_iff.mp hz'
                  subst e2
                  have := hno m hm
                  simpa using this
                · exact q _ G2 H2 as2 (t1.trans s.le t2) ok2 (.int _)
            · cases hz
          · cases hz
        · cases hz
      · cases hm
    · cases hm
  · cases hm

/-! ### dicts whose keys are tuples -/
def keyOf : D → Option Key
  | .int i => some (.inl i)
  | .str s => some (.inr s)
  | _ => none
def keysOf : List D → Option (List Key)
  | [] => some []
  | d :: ds => match keyOf d, keysOf ds with
    | some k, some ks => some (k :: ks)
    | _, _ => none
theorem keysOf_rep : ∀ {vs : List V} {ds : List D} {k : List Key}, RepAll K κ G vs ds → keysOf ds = some k → vs = k.map kV
  | _, [], k, r, h => by cases r; cases h; rfl
  | _, d :: ds, k, r, h => by
    cases r with | cons r t =>
      rw [keysOf] at h
      split at h
      · rename_i k1 ks h1 h2
        cases h
        rw [List.map_cons, ← keysOf_rep t h2]
        cases d <;> first
          | (cases h1; rw [Rep.int_inv r]; rfl)
          | (cases h1; rw [Rep.str_inv r]; rfl)
          | cases h1
      · cases h
def lookT {α κ' : Type} [DecidableEq κ'] (ks : List κ') (ds : List α) (k : κ') : Option α := ((ks.zip ds).find? fun p => decide (p.1 = k)).map (·.2)
theorem lookT_rep {κ' : Type} [DecidableEq κ'] {k : κ'} : ∀ {ks : List κ'} {vs : List V} {ds : List D}, RepAll K κ G vs ds →
    (∀ d, lookT ks ds k = some d → ∃ v, valV (ks.zip vs) k = some v ∧ Rep K κ G v d) ∧ (lookT ks ds k = none → valV (ks.zip vs) k = none)
  | [], _, _, _ => ⟨fun d h => (nomatch h), fun _ => rfl⟩
  | k1 :: ks, [], [], r => ⟨fun d h => (nomatch h), fun _ => rfl⟩
  | k1 :: ks, v :: vs, d1 :: ds, r => by
    cases r with | cons r t =>
      obtain ⟨i1, i2⟩ := lookT_rep (k := k) (ks := ks) t
      by_cases e : k1 = k
      · subst e
        refine ⟨fun d h => ⟨v, valV_pos (p := (k1, v)) rfl, ?_⟩, fun h => ?_⟩
        · have : lookT (k1 :: ks) (d1 :: ds) k1 = some d1 := by simp [lookT]
          rw [this] at h; cases h; exact r
        · have : lookT (k1 :: ks) (d1 :: ds) k1 = some d1 := by simp [lookT]
          rw [this] at h; cases h
      · have hl : lookT (k1 :: ks) (d1 :: ds) k = lookT ks ds k := by simp [lookT, e]
        rw [hl]
        rw [show (k1 :: ks).zip (v :: vs) = (k1, v) :: ks.zip vs from rfl, valV_neg (p := (k1, v)) e]
        exact ⟨i1, i2⟩
def fDGet : D → D → Option D
  | .dT ks ds, .tup xs => (keysOf xs).bind fun k => lookT ks ds k
  | .dK ks ds, x => (keyOf x).bind fun k => lookT ks ds k
  | _, _ => none
theorem keyOf_rep {v : V} {d : D} {k : Key} (r : Rep K κ G v d) (h : keyOf d = some k) : v = kV k := by
  cases d <;> first
    | (cases h; rw [Rep.int_inv r]; rfl)
    | (cases h; rw [Rep.str_inv r]; rfl)
    | cases h
theorem dget_ok {x y : V} {dx dy d : D} (e : SameH G H) (rx : Rep K κ G x dx) (ry : Rep K κ G y dy) (h : fDGet dx dy = some d) : ∃ a v, x = .ref a ∧ DGet H a y (some v) ∧ Rep K κ G v d := by
  unfold fDGet at h
  split at h
  · rw [Option.bind_eq_some_iff] at h
    obtain ⟨k, hk, hl⟩ := h
    obtain ⟨a, vs, rfl, g, l, r⟩ := rx.dT_inv
    obtain ⟨b, ws, rfl, g2, r2⟩ := ry.tup_inv
    obtain ⟨v, hv, rv⟩ := (lookT_rep r).1 _ hl
    refine ⟨a, v, rfl, ?_, rv⟩
    rw [← hv]
    exact DGet.t (e _ _ g) (by rw [← keysOf_rep r2 hk]; exact e _ _ g2)
  · rw [Option.bind_eq_some_iff] at h
    obtain ⟨k, hk, hl⟩ := h
    obtain ⟨a, vs, rfl, g, l, r⟩ := rx.dK_inv
    obtain ⟨v, hv, rv⟩ := (lookT_rep r).1 _ hl
    refine ⟨a, v, rfl, ?_, rv⟩
    rw [← hv, keyOf_rep ry hk]
    exact DGet.k (e _ _ g)
  · cases h
theorem se_dget {td ty : TE} {md my : ME} (hd : SE K κ td md) (hy : SE K κ ty my) : SE K κ (tDGet td ty) (mOp fDGet md my) := fun m0 ρ cs σ G H as e cs' Q s h q => by
  unfold mOp m2 mBind at h
  dsimp only at h
  split at h
  · rename_i x cs1 h1
    split at h
    · rename_i y cs2 h2
      refine hd m0 ρ cs σ G H as _ _ _ s h1 fun vx G1 H1 as1 t1 ok1 r1 => ?_
      refine hy m0 ρ cs1 σ G1 H1 as1 _ _ _ (s.step t1 ok1) h2 fun vy G2 H2 as2 t2 ok2 r2 => ?_
      split at h
      · rename_i a b
        rw [Option.map_eq_some_iff] at h
        obtain ⟨d, hd, e0⟩ := h
        cases e0
        obtain ⟨a, v, rfl, hg, rv⟩ := dget_ok ok2.ex (Rep.mono t2.ex r1) r2 hd
        exact ⟨a, v, rfl, hg, q v G2 H2 as2 (t1.trans s.le t2) ok2 rv⟩
      · cases h
    · cases h
  · cases h
def fDHas : D → D → Option Bool
  | .tup xs, .dT ks ds => (keysOf xs).map fun k => (lookT ks ds k).isSome
  | x, .dK ks ds => (keyOf x).map fun k => (lookT ks ds k).isSome
  | _, _ => none
theorem dhas_ok {x y : V} {dx dy : D} {b : Bool} (e : SameH G H) (ry : Rep K κ G y dy) (rx : Rep K κ G x dx) (h : fDHas dy dx = some b) : ∃ a o, x = .ref a ∧ DGet H a y o ∧ o.isSome = b := by
  unfold fDHas at h
  split at h
  · rename_i xs ks ds
    rw [Option.map_eq_some_iff] at h
    obtain ⟨k, hk, hl⟩ := h
    obtain ⟨a, vs, rfl, g, l, r⟩ := rx.dT_inv
    obtain ⟨b', ws, rfl, g2, r2⟩ := ry.tup_inv
    refine ⟨a, _, rfl, DGet.t (e _ _ g) (by rw [← keysOf_rep r2 hk]; exact e _ _ g2), ?_⟩
    cases hh : lookT ks ds k with
    | none => rw [(lookT_rep r).2 hh, ← hl, hh]; rfl
    | some d => obtain ⟨v, hv, _⟩ := (lookT_rep r).1 d hh; rw [hv, ← hl, hh]; rfl
  · rename_i ks ds
    rw [Option.map_eq_some_iff] at h
    obtain ⟨k, hk, hl⟩ := h
    obtain ⟨a, vs, rfl, g, l, r⟩ := rx.dK_inv
    refine ⟨a, _, rfl, by rw [keyOf_rep ry hk]; exact DGet.k (e _ _ g), ?_⟩
    cases hh : lookT ks ds k with
    | none => rw [(lookT_rep r).2 hh, ← hl, hh]; rfl
    | some d => obtain ⟨v, hv, _⟩ := (lookT_rep r).1 d hh; rw [hv, ← hl, hh]; rfl
  · cases h
theorem se_dhas {neg : Bool} {t : TE} {ty td : TE} {my md : ME} (ht : ∀ σ H Q, t σ H Q = ty σ H fun y H1 => td σ H1 fun x H2 => ∃ a o, x = .ref a ∧ DGet H2 a y o ∧ Q (.bl (if neg then !o.isSome else o.isSome)) H2) (hy : SE K κ ty my) (hd : SE K κ td md) :
    SE K κ t (mOp (fun y x => (fDHas y x).map fun b => .bl (if neg then !b else b)) my md) := fun m0 ρ cs σ G H as e cs' Q s h q => by
  unfold mOp m2 mBind at h
  dsimp only at h
  split at h
  · rename_i x cs1 h1
    split at h
    · rename_i y cs2 h2
      rw [ht]
      refine hy m0 ρ cs σ G H as _ _ _ s h1 fun vx G1 H1 as1 t1 ok1 r1 => ?_
      refine hd m0 ρ cs1 σ G1 H1 as1 _ _ _ (s.step t1 ok1) h2 fun vy G2 H2 as2 t2 ok2 r2 => ?_
      split at h
      · rename_i a b
        rw [Option.map_map, Option.map_eq_some_iff] at h
        obtain ⟨d, hd, e0⟩ := h
        cases e0
        obtain ⟨a, o, rfl, hg, ho⟩ := dhas_ok ok2.ex (Rep.mono t2.ex r1) r2 hd
        refine ⟨a, o, rfl, hg, ?_⟩
        rw [ho]
        exact q _ G2 H2 as2 (t1.trans s.le t2) ok2 (.bl _)
      · cases h
    · cases h
  · cases h
def fIn (y x : D) : Option D := (fDHas y x).map fun b => .bl (if false then !b else b)
def fNotIn (y x : D) : Option D := (fDHas y x).map fun b => .bl (if true then !b else b)
theorem se_dIn {ty td : TE} {my md : ME} (hy : SE K κ ty my) (hd : SE K κ td md) : SE K κ (tDIn ty td) (mOp fIn my md) := se_dhas (neg := false) (fun _ _ _ => rfl) hy hd
theorem se_dNotIn {ty td : TE} {my md : ME} (hy : SE K κ ty my) (hd : SE K κ td md) : SE K κ (tDNotIn ty td) (mOp fNotIn my md) := se_dhas (neg := true) (fun _ _ _ => rfl) hy hd
/-! a new dict as a cell; d[k] = v, k new -/
def mDNewT : ME := fun _ _ cs => some (.c cs.length, cs ++ [.dT [] []])
theorem se_dNewT : SE K κ tDNewT mDNewT := fun m0 ρ cs σ G H as e cs' Q s h q => by
  cases h
  intro p hp
  refine q _ _ _ _ (Tr.newc hp) (s.ok.newc (c := .dT [] []) hp ⟨s.ok.free hp, [], upd_same, rfl, .nil⟩) ⟨p, ?_, rfl⟩
  rw [← s.ok.len, List.getElem?_append_right (Nat.le_refl _), Nat.sub_self]; rfl
def sDPutT (md my mv : ME) : MS := fun n ρ cs => match mv n ρ cs with
  | some (e, cs1) => match md n ρ cs1 with
    | some (.c k, cs2) => match my n ρ cs2 with
      | some (.p (.tup xs), cs3) => match keysOf xs, cs3[k]? with
        | some key, some (.dT ks es) => if (ks.any fun z => decide (z = key)) = false ∧ ks.length = es.length ∧ ks.length < 100000 then some (.nx ρ (cs3.set k (.dT (ks ++ [key]) (es ++ [e])))) else none
        | _, _ => none
      | _ => none
    | _ => none
  | none => none
theorem valV_none {κ' : Type} [DecidableEq κ'] {k : κ'} : ∀ {ks : List κ'} {vs : List V}, (ks.any fun z => decide (z = k)) = false → valV (ks.zip vs) k = none
  | [], _, _ => rfl
  | _ :: _, [], _ => rfl
  | k1 :: ks, v :: vs, h => by
    rw [List.any_cons, Bool.or_eq_false_iff] at h
    rw [show (k1 :: ks).zip (v :: vs) = (k1, v) :: ks.zip vs from rfl, valV_neg (p := (k1, v)) (of_decide_eq_false h.1)]
    exact valV_none h.2
theorem ss_dputT {td ty tv : TE} {md my mv : ME} (hd : SE K κ td md) (hy : SE K κ ty my) (hv : SE K κ tv mv) : SS K κ (sDPut td ty tv) (sDPutT md my mv) := fun m0 ρ cs σ G H as o D s hm q => by
  unfold sDPutT at hm
  split at hm
  · rename_i e cs1 h1
    split at hm
    · rename_i k cs2 h2
      split at hm
      · rename_i xs cs3 h3
        split at hm
        · rename_i key ks es h4 h5
          split at hm
          · rename_i hc
            obtain ⟨hk, hl, hs⟩ := hc
            cases hm
            refine hv m0 ρ cs σ G H as _ _ _ s h1 fun v G1 H1 as1 t1 ok1 r1 => ?_
            have s1 := s.step t1 ok1
            refine hd m0 ρ cs1 σ G1 H1 as1 _ _ _ s1 h2 fun x G2 H2 as2 t2 ok2 r2 => ?_
            have s2 := s1.step t2 ok2
            refine hy m0 ρ cs2 σ G2 H2 as2 _ _ _ s2 h3 fun y G3 H3 as3 t3 ok3 r3 => ?_
            obtain ⟨a, ha, rfl⟩ := t3.up r2
            obtain ⟨g, vs, hx, l, r⟩ := ok3.cel k a _ ha h5
            obtain ⟨b, ws, rfl, gb, rb⟩ := Rep.tup_inv r3
            have t13 := (t1.trans s.le t2).trans s.le t3
            refine ⟨a, _, rfl, DPut.t hx (k := key) (by rw [← keysOf_rep rb h4]; exact ok3.ex _ _ gb) (sz_lt (by rw [List.length_zip, ← l, Nat.min_self]; exact hs)), ?_⟩
            refine q σ G3 _ as3 (t13.trans s.le (Tr.put ha)) (ok3.put (c := .dT (ks ++ [key]) (es ++ [e])) ha g ⟨g, vs ++ [v], ?_, by simp [l], r.append (.cons (t3.up (t2.up r1)) .nil)⟩) (s.sl.mono t13.ex t13.le)
            rw [upd_same, putK_new _ (valV_none hk), List.zip_append l]; rfl
          · cases hm
        · cases hm
      · cases hm
    · cases hm
  · cases hm
theorem rc_lenT : RCok K κ rLenT fLenT := fun G H xs ds d Q e r hf q => by
  unfold fLenT at hf
  split at hf
  · cases hf
    cases r with | cons r t => cases t with | nil =>
      obtain ⟨a, vs, rfl, g, l, r'⟩ := r.dT_inv
      refine ⟨a, _, rfl, e _ _ g, ?_⟩
      rw [List.length_zip, ← l, Nat.min_self]
      exact q.1 _ (.int _)
  · cases hf
end
end Fw
set_option maxRecDepth 100000
set_option maxHeartbeats 4000000
namespace Fw
open PySem PySem.Spec PyProof.Rows L2
section
variable {K : PySem.W.Frag} {κ : Nat → Addr} {G G' H H' : Hp} {as as' : List Addr} {m0 : Nat} {ρ : Sl} {cs cs' : List Cell} {σ : L2.St}

/-! ### steps of the reading alone: a cell frozen where it stands -/
abbrev GOp := Nat → Sl → List Cell → Option (Sl × List Cell)
def GOk (K : PySem.W.Frag) (κ : Nat → Addr) (op : GOp) : Prop := ∀ m0 ρ cs σ G H as ρ' cs', Sta K κ m0 ρ cs σ G H as → op m0 ρ cs = some (ρ', cs') → ∃ G', Tr m0 G H as G' H as ∧ Ok K κ G' H as cs' ∧ SlR' K κ G' as σ ρ'
def sPre (op : GOp) (m : MS) : MS := fun n ρ cs => match op n ρ cs with
  | some (ρ1, cs1) => m n ρ1 cs1
  | none => none
def sPost (op : GOp) (m : MS) : MS := fun n ρ cs => match m n ρ cs with
  | some (.nx ρ1 cs1) => (op n ρ1 cs1).map fun x => .nx x.1 x.2
  | o => o
theorem ss_pre {op : GOp} {ts : TS} {m : MS} (g : GOk K κ op) (h : SS K κ ts m) : SS K κ ts (sPre op m) := fun m0 ρ cs σ G H as o D s hm q => by
  unfold sPre at hm
  split at hm
  · rename_i ρ1 cs1 h1
    obtain ⟨G', t, ok, sl⟩ := g m0 ρ cs σ G H as ρ1 cs1 s h1
    refine h m0 ρ1 cs1 σ G' H as o D ⟨ok, sl, s.le⟩ hm ?_
    have := q.of s.le t
    cases o <;> exact this
  · cases hm
theorem ss_post {op : GOp} {ts : TS} {m : MS} (g : GOk K κ op) (h : SS K κ ts m) : SS K κ ts (sPost op m) := fun m0 ρ cs σ G H as o D s hm q => by
  unfold sPost at hm
  split at hm
  · rename_i ρ1 cs1 h1
    rw [Option.map_eq_some_iff] at hm
    obtain ⟨⟨ρ2, cs2⟩, h2, e⟩ := hm
    cases e
    refine h m0 ρ cs σ G H as _ D s h1 fun σ' G1 H1 as1 t1 ok1 sl1 => ?_
    obtain ⟨G2, t2, ok2, sl2⟩ := g m0 ρ1 cs1 σ' G1 H1 as1 ρ2 cs2 ⟨ok1, sl1, Nat.le_trans s.le t1.leng⟩ h2
    exact q σ' G2 H1 as1 (t1.trans s.le t2) ok2 sl2
  · exact h m0 ρ cs σ G H as o D s hm q
/-- one cell -/
def frzC (n k : Nat) (cs : List Cell) : Option (D × List Cell) := if n ≤ k then match cs[k]? with
  | some (.lst es) => (pures es).map fun ds => (.lst ds, cs.set k .gone)
  | some (.dT ks es) => (pures es).map fun ds => (.dT ks ds, cs.set k .gone)
  | some (.dK ks es) => (pures es).map fun ds => (.dK ks ds, cs.set k .gone)
  | some (.obj c fs es) => (pures es).map fun ds => (.obj c fs ds, cs.set k .gone)
  | _ => none
  else none
theorem frzC_ok {k : Nat} {d : D} {a : Addr} (ok : Ok K κ G H as cs) (ha : as[k]? = some a) (h : frzC m0 k cs = some (d, cs')) : ∃ G', Tr m0 G H as G' H as ∧ Ok K κ G' H as cs' ∧ Rep K κ G' (.ref a) d ∧ (∀ j, j ≠ k → cs'[j]? = cs[j]?) := by
  unfold frzC at h
  split at h
  · rename_i hm
    have keep : ∀ c : Cell, ∀ j, j ≠ k → (cs.set k c)[j]? = cs[j]? := fun c j hj => List.getElem?_set_ne fun e => hj e.symm
    split at h
    · rename_i es h2
      rw [Option.map_eq_some_iff] at h
      obtain ⟨ds, hp, e1⟩ := h
      cases e1
      obtain ⟨g, xs, hx, r⟩ := ok.cel k a _ ha h2
      rw [pures_some hp] at r
      exact ⟨_, Tr.frz ha hm g hx, ok.frz ha g hx, .lst upd_same (r.pure_of.mono (SameH.new g)), keep _⟩
    · rename_i ks es h2
      rw [Option.map_eq_some_iff] at h
      obtain ⟨ds, hp, e1⟩ := h
      cases e1
      obtain ⟨g, xs, hx, l, r⟩ := ok.cel k a _ ha h2
      rw [pures_some hp] at r
      exact ⟨_, Tr.frz ha hm g hx, ok.frz ha g hx, .dT upd_same l (r.pure_of.mono (SameH.new g)), keep _⟩
    · rename_i ks es h2
      rw [Option.map_eq_some_iff] at h
      obtain ⟨ds, hp, e1⟩ := h
      cases e1
      obtain ⟨g, xs, hx, l, r⟩ := ok.cel k a _ ha h2
      rw [pures_some hp] at r
      exact ⟨_, Tr.frz ha hm g hx, ok.frz ha g hx, .dK upd_same l (r.pure_of.mono (SameH.new g)), keep _⟩
    · rename_i c fs es h2
      rw [Option.map_eq_some_iff] at h
      obtain ⟨ds, hp, e1⟩ := h
      cases e1
      obtain ⟨g, dx, xs, hx, l, r⟩ := ok.cel k a _ ha h2
      rw [pures_some hp] at r
      exact ⟨_, Tr.frz ha hm g hx, ok.frz ha g hx, .obj upd_same l (r.pure_of.mono (SameH.new g)), keep _⟩
    · cases h
  · cases h
/-- the cells of a list, one behind another -/
def frzAll (n : Nat) : List E → List Cell → Option (List D × List Cell)
  | [], cs => some ([], cs)
  | .p d :: es, cs => (frzAll n es cs).map fun x => (d :: x.1, x.2)
  | .c k :: es, cs => match frzC n k cs with
    | some (d, cs1) => (frzAll n es cs1).map fun x => (d :: x.1, x.2)
    | none => none
theorem frzAll_ok : ∀ {es : List E} {vs : List V} {ds : List D} {cs cs' : List Cell} {G : Hp}, Ok K κ G H as cs → m0 ≤ as.length → EAll K κ G as vs es → frzAll m0 es cs = some (ds, cs') →
    ∃ G', Tr m0 G H as G' H as ∧ Ok K κ G' H as cs' ∧ RepAll K κ G' vs ds ∧ (∀ j, E.c j ∉ es → cs'[j]? = cs[j]?)
  | [], vs, ds, cs, cs', G, ok, _, r, h => by
    cases r; cases h
    exact ⟨G, Tr.refl, ok, .nil, fun _ _ => rfl⟩
  | .p d :: es, vs, ds, cs, cs', G, ok, hm, r, h => by
    cases r with | cons r t =>
      rw [frzAll, Option.map_eq_some_iff] at h
      obtain ⟨⟨ds1, cs1⟩, h1, e⟩ := h
      cases e
      obtain ⟨G1, t1, ok1, r1, k1⟩ := frzAll_ok ok hm t h1
      exact ⟨G1, t1, ok1, .cons (Rep.mono t1.ex r) r1, fun j hj => k1 j fun q => hj (List.mem_cons_of_mem _ q)⟩
  | .c k :: es, vs, ds, cs, cs', G, ok, hm, r, h => by
    cases r with | cons r t =>
      rw [frzAll] at h
      split at h
      · rename_i d cs1 h1
        rw [Option.map_eq_some_iff] at h
        obtain ⟨⟨ds1, cs2⟩, h2, e⟩ := h
        cases e
        obtain ⟨a, ha, rfl⟩ := r
        obtain ⟨G1, t1, ok1, r1, k1⟩ := frzC_ok ok ha h1
        obtain ⟨G2, t2, ok2, r2, k2⟩ := frzAll_ok ok1 hm (EAll.mono t1.ex (List.prefix_refl _) t) h2
        refine ⟨G2, t1.trans hm t2, ok2, .cons (Rep.mono t2.ex r1) r2, fun j hj => ?_⟩
        rw [k2 j fun q => hj (List.mem_cons_of_mem _ q)]
        exact k1 j fun e => hj (by rw [e]; exact List.mem_cons_self)
      · cases h
def gFrz (i : Nat) : GOp := fun n ρ cs => match ρ[i]? with
  | some (some (.c k)) => (frzC n k cs).map fun x => (ρ.set i (some (.p x.1)), x.2)
  | _ => none
theorem set_slot {σ : L2.St} {ρ : Sl} {i : Nat} {v : V} {e : E} (s : SlR' K κ G as σ ρ) (hv : σ[i]? = some (some v)) (r : ERep K κ G as v e) : SlR' K κ G as σ (ρ.set i (some e)) := by
  have h := SlR'.set (o := some v) (e := some e) ⟨v, rfl, r⟩ i s
  have : σ.set i (some v) = σ := by
    obtain ⟨hl, he⟩ := List.getElem?_eq_some_iff.mp hv
    rw [← he]; exact List.set_getElem_self hl
  rw [this] at h; exact h
theorem go_frz {i : Nat} : GOk K κ (gFrz i) := fun m0 ρ cs σ G H as ρ' cs' s h => by
  unfold gFrz at h
  split at h
  · rename_i k hk
    rw [Option.map_eq_some_iff] at h
    obtain ⟨⟨d, cs1⟩, h1, e⟩ := h
    cases e
    obtain ⟨v, hv, a, ha, rfl⟩ := s.sl.get hk
    obtain ⟨G1, t1, ok1, r1, _⟩ := frzC_ok s.ok ha h1
    exact ⟨G1, t1, ok1, set_slot (s.sl.mono t1.ex (List.prefix_refl _)) hv r1⟩
  · cases h
/-- a list of cells, then the list itself -/
def isC (k : Nat) : E → Bool
  | .c j => decide (j = k)
  | .p _ => false
def frz2 (n k : Nat) (cs : List Cell) : Option (D × List Cell) := if n ≤ k then match cs[k]? with
  | some (.lst es) => if es.any (isC k) = false then (frzAll n es cs).map fun x => (.lst x.1, x.2.set k .gone) else none
  | _ => none
  else none
theorem frz2_ok {k : Nat} {d : D} {a : Addr} (ok : Ok K κ G H as cs) (hm : m0 ≤ as.length) (ha : as[k]? = some a) (h : frz2 m0 k cs = some (d, cs')) : ∃ G', Tr m0 G H as G' H as ∧ Ok K κ G' H as cs' ∧ Rep K κ G' (.ref a) d := by
  unfold frz2 at h
  split at h
  · rename_i hmk
    split at h
    · rename_i es h2
      split at h
      · rename_i hno
        rw [Option.map_eq_some_iff] at h
        obtain ⟨⟨ds, cs1⟩, h1, e⟩ := h
        cases e
        obtain ⟨g, xs, hx, r⟩ := ok.cel k a _ ha h2
        obtain ⟨G1, t1, ok1, r1, k1⟩ := frzAll_ok ok hm r h1
        have hnm : E.c k ∉ es := fun q => by
          have := List.any_eq_false.mp hno _ q
          simp [isC] at this
        have hk1 : cs1[k]? = some (.lst es) := (k1 k hnm).trans h2
        obtain ⟨g1, xs1, hx1, _⟩ := ok1.cel k a _ ha hk1
        rw [hx] at hx1; cases hx1
        exact ⟨_, t1.trans hm (Tr.frz ha hmk g1 hx), ok1.frz ha g1 hx, .lst upd_same (r1.mono (SameH.new g1))⟩
      · cases h
    · cases h
  · cases h
def gFrz2 (i : Nat) : GOp := fun n ρ cs => match ρ[i]? with
  | some (some (.c k)) => (frz2 n k cs).map fun x => (ρ.set i (some (.p x.1)), x.2)
  | _ => none
theorem go_frz2 {i : Nat} : GOk K κ (gFrz2 i) := fun m0 ρ cs σ G H as ρ' cs' s h => by
  unfold gFrz2 at h
  split at h
  · rename_i k hk
    rw [Option.map_eq_some_iff] at h
    obtain ⟨⟨d, cs1⟩, h1, e⟩ := h
    cases e
    obtain ⟨v, hv, a, ha, rfl⟩ := s.sl.get hk
    obtain ⟨G1, t1, ok1, r1⟩ := frz2_ok s.ok s.le ha h1
    exact ⟨G1, t1, ok1, set_slot (s.sl.mono t1.ex (List.prefix_refl _)) hv r1⟩
  · cases h
/-- the cells that an object's attributes hold -/
def gFrzO (i : Nat) : GOp := fun n ρ cs => match ρ[i]? with
  | some (some (.c k)) => match cs[k]? with
    | some (.obj c fs es) => if es.any (isC k) = false then match frzAll n es cs with
      | some (ds, cs1) => some (ρ, cs1.set k (.obj c fs (ds.map E.p)))
      | none => none
      else none
    | _ => none
  | _ => none
theorem go_frzO {i : Nat} : GOk K κ (gFrzO i) := fun m0 ρ cs σ G H as ρ' cs' s h => by
  unfold gFrzO at h
  split at h
  · rename_i k hk
    split at h
    · rename_i c fs es h2
      split at h
      · rename_i hno
        split at h
        · rename_i ds cs1 h1
          cases h
          obtain ⟨v, hv, a, ha, rfl⟩ := s.sl.get hk
          obtain ⟨g, dx, xs, hx, l, r⟩ := s.ok.cel k a _ ha h2
          obtain ⟨G1, t1, ok1, r1, k1⟩ := frzAll_ok s.ok s.le r h1
          have hnm : E.c k ∉ es := fun q => by
            have := List.any_eq_false.mp hno _ q
            simp [isC] at this
          have hk1 : cs1[k]? = some (.obj c fs es) := (k1 k hnm).trans h2
          obtain ⟨g1, dx1, xs1, hx1, l1, _⟩ := ok1.cel k a _ ha hk1
          have hput := ok1.put (c := .obj c fs (ds.map E.p)) (o := .ins (κ c) dx (fs.zip xs)) ha g1 ⟨g1, dx, xs, upd_same, l, EAll.of_pure r1⟩
          have hH : upd H a (.ins (κ c) dx (fs.zip xs)) = H := by
            funext b
            by_cases e : b = a
            · subst e; rw [upd_same, hx]
            · rw [upd_ne e]
          rw [hH] at hput
          exact ⟨G1, t1, hput, s.sl.mono t1.ex (List.prefix_refl _)⟩
        · cases h
      · cases h
    · cases h
  · cases h

/-! ### more of cells -/
/-- xs[i], xs a cell -/
def mIxC (mo mi : ME) : ME := fun n ρ cs => match mo n ρ cs with
  | some (.c k, cs1) => match mi n ρ cs1 with
    | some (.p (.int i), cs2) => match cs2[k]? with
      | some (.lst es) => (atI es i).map fun e => (e, cs2)
      | _ => none
    | _ => none
  | _ => none
theorem EAll.atI {vs : List V} {es : List E} {i : Int} {e : E} (r : EAll K κ G as vs es) (h : L2.atI es i = some e) : ∃ v, L2.atI vs i = some v ∧ ERep K κ G as v e := by
  unfold L2.atI at h ⊢
  rw [r.length]
  cases z : ixN es.length i with
  | none => rw [z] at h; cases h
  | some j => rw [z] at h; exact r.get h
theorem se_ixC {to ti : TE} {mo mi : ME} (ho : SE K κ to mo) (hi : SE K κ ti mi) : SE K κ (tOp (rIxL K) to ti) (mIxC mo mi) := fun m0 ρ cs σ G H as e cs' Q s hm q => by
  unfold mIxC at hm
  split at hm
  · rename_i k cs1 h1
    split at hm
    · rename_i i cs2 h2
      split at hm
      · rename_i es h3
        rw [Option.map_eq_some_iff] at hm
        obtain ⟨e1, he, e0⟩ := hm
        cases e0
        refine ho m0 ρ cs σ G H as _ _ _ s h1 fun v G1 H1 as1 t1 ok1 r1 => ?_
        refine hi m0 ρ cs1 σ G1 H1 as1 _ _ _ (s.step t1 ok1) h2 fun w G2 H2 as2 t2 ok2 r2 => ?_
        obtain ⟨a, xs, rfl, ha, g, hx, r⟩ := ok2.lstC (t2.up r1) h3
        obtain ⟨v, hv, rv⟩ := r.atI he
        exact ⟨a, xs, i, v, rfl, Rep.int_inv r2, SqL.of hx, hv, q v G2 H2 as2 (t1.trans s.le t2) ok2 rv⟩
      · cases hm
    · cases hm
  · cases hm
/-- a list that a rule makes, as a cell -/
def toC (m : ME) : ME := fun n ρ cs => match m n ρ cs with
  | some (.p (.lst ds), cs1) => some (.c cs1.length, cs1 ++ [.lst (ds.map E.p)])
  | _ => none
theorem mkC {p : Addr} {xs : List V} {ds : List D} (ok : Ok K κ G H as cs) (hp : H p = none) (r : RepAll K κ G xs ds) :
    Tr m0 G H as G (upd H p (.lst xs)) (as ++ [p]) ∧ Ok K κ G (upd H p (.lst xs)) (as ++ [p]) (cs ++ [.lst (ds.map E.p)]) ∧ ERep K κ G (as ++ [p]) (.ref p) (.c cs.length) := by
  refine ⟨Tr.newc hp, ok.newc hp ⟨ok.free hp, xs, upd_same, EAll.of_pure r⟩, p, ?_, rfl⟩
  rw [← ok.len, List.getElem?_append_right (Nat.le_refl _), Nat.sub_self]; rfl
theorem se_repC {ta tb : TE} {ma mb : ME} (ha : SE K κ ta ma) (hb : SE K κ tb mb) : SE K κ (tOp rRep ta tb) (toC (mOp fRep ma mb)) := fun m0 ρ cs σ G H as e cs' Q s hm q => by
  unfold toC at hm
  split at hm
  · rename_i ds cs1 h
    cases hm
    unfold mOp m2 mBind at h
    dsimp only at h
    split at h
    · rename_i x c1 h1
      split at h
      · rename_i y c2 h2
        refine ha m0 ρ cs σ G H as _ _ _ s h1 fun vx G1 H1 as1 t1 ok1 r1 => ?_
        refine hb m0 ρ c1 σ G1 H1 as1 _ _ _ (s.step t1 ok1) h2 fun vy G2 H2 as2 t2 ok2 r2 => ?_
        split at h
        · rename_i a b
          rw [Option.map_eq_some_iff] at h
          obtain ⟨d, hd, e0⟩ := h
          cases e0
          unfold fRep at hd
          split at hd
          · split at hd
            · rename_i hl
              cases hd
              obtain ⟨a, xs, rfl, g, r⟩ := Rep.lst_inv (Rep.mono t2.ex r1)
              refine ⟨a, _, xs, rfl, Rep.int_inv r2, ok2.ex _ _ g, by omega, (by omega), sz_of (by rw [r.length]; exact hl.2.2), fun p hp => ?_⟩
              obtain ⟨t3, ok3, r3⟩ := mkC (m0 := m0) ok2 hp (r.rep _)
              exact q _ _ _ _ ((t1.trans s.le t2).trans s.le t3) ok3 r3
            · cases hd
          · cases hd
        · cases h
      · cases h
    · cases h
  · cases hm
theorem se_listC {ta : TA} {ma : MA} (ha : SA K κ ta ma) : SE K κ (tCB (fun xs H Q => ∃ p ys, xs = [.ref p] ∧ (SqL K H p ys ∨ SqT K H p ys) ∧ ∀ l, H l = none → Q (.ref l) (upd H l (.lst ys))) ta) (toC (mCall fListOf ma)) := fun m0 ρ cs σ G H as e cs' Q s hm q => by
  unfold toC at hm
  split at hm
  · rename_i ds cs1 h
    cases hm
    unfold mCall at h
    split at h
    · rename_i es c1 h1
      split at h
      · rename_i ds1 h2
        rw [Option.map_eq_some_iff] at h
        obtain ⟨d, hd, e0⟩ := h
        cases e0
        refine ha m0 ρ cs σ G H as _ _ _ s h1 fun vs G1 H1 as1 t1 ok1 r1 => ?_
        rw [pures_some h2] at r1
        have r1 := r1.pure_of
        unfold fListOf at hd
        split at hd
        · cases hd
          cases r1 with | cons r t => cases t with | nil =>
            obtain ⟨a, ys, rfl, g, r'⟩ := r.lst_inv
            refine ⟨_, _, rfl, .inl (SqL.of (ok1.ex _ _ g)), fun l hl => ?_⟩
            obtain ⟨t3, ok3, r3⟩ := mkC (m0 := m0) ok1 hl r'
            exact q _ _ _ _ (t1.trans s.le t3) ok3 r3
        · cases hd
          cases r1 with | cons r t => cases t with | nil =>
            obtain ⟨a, ys, rfl, g, r'⟩ := r.tup_inv
            refine ⟨_, _, rfl, .inr (SqT.of (ok1.ex _ _ g)), fun l hl => ?_⟩
            obtain ⟨t3, ok3, r3⟩ := mkC (m0 := m0) ok1 hl r'
            exact q _ _ _ _ (t1.trans s.le t3) ok3 r3
        · cases hd
          cases r1 with | cons r t => cases t with | nil =>
            obtain ⟨a, ys, rfl, g, r'⟩ := r.fls_inv
            refine ⟨_, _, rfl, .inl (ok1.ex.l g), fun l hl => ?_⟩
            obtain ⟨t3, ok3, r3⟩ := mkC (m0 := m0) ok1 hl r'
            exact q _ _ _ _ (t1.trans s.le t3) ok3 r3
        · cases hd
      · cases h
    · cases h
  · cases hm
/-- a comprehension's list as a cell -/
theorem Acc.finC {G1 H1 : Hp} {as1 : List Addr} {Dl : Addr} {da : List D} (a : Acc K κ m0 G1 H1 as1 Dl G H as cs da) :
    Tr m0 G1 H1 as1 G H (as ++ [Dl]) ∧ Ok K κ G H (as ++ [Dl]) (cs ++ [.lst (da.map E.p)]) ∧ ERep K κ G (as ++ [Dl]) (.ref Dl) (.c cs.length) := by
  obtain ⟨acc, hc, r⟩ := a.cur
  refine ⟨⟨a.tr.ex, ?_, a.tr.keep, a.tr.new, a.tr.liv⟩, ⟨a.ok.ex, by simp [a.ok.len], ?_, fun b h => ?_, fun k b c h1 h2 => ?_⟩, Dl, ?_, rfl⟩
  · obtain ⟨t, rfl, ht⟩ := a.tr.pre
    refine ⟨t ++ [Dl], by simp, fun b hb => ?_⟩
    rcases List.mem_append.mp hb with hb | hb
    · exact ht b hb
    · rw [List.mem_singleton] at hb; subst hb; exact a.h1
  · rw [List.nodup_append]
    refine ⟨a.ok.nd, by simp, fun b h c hc' e => ?_⟩
    rw [List.mem_singleton] at hc'
    subst hc'; subst e
    exact a.an h
  · rcases List.mem_append.mp h with h | h
    · exact a.ok.liv b h
    · rw [List.mem_singleton] at h; subst h; exact ⟨_, hc⟩
  · by_cases hk : k < as.length
    · rw [List.getElem?_append_left hk] at h1
      rw [List.getElem?_append_left (a.ok.len ▸ hk)] at h2
      exact (a.ok.cel k b c h1 h2).mono (SameH.refl _) ⟨[Dl], rfl⟩ rfl fun hc => (a.ok.cel k b c h1 h2).free hc
    · have hl := (List.getElem?_eq_some_iff.mp h1).1
      rw [List.length_append] at hl
      have e : k = as.length := by simp at hl; omega
      subst e
      rw [List.getElem?_append_right (Nat.le_refl _), Nat.sub_self] at h1
      rw [a.ok.len, List.getElem?_append_right (Nat.le_refl _), Nat.sub_self] at h2
      cases h1; cases h2
      exact ⟨a.gn, acc, hc, EAll.of_pure r⟩
  · rw [← a.ok.len, List.getElem?_append_right (Nat.le_refl _), Nat.sub_self]; rfl
/-! xs[i] op= e, xs a cell of ints -/
def rGetL (K : PySem.W.Frag) : V → V → Hp → VK → Prop := fun o i H Q => ∃ p xs j v, o = .ref p ∧ i = .int (j : Nat) ∧ SqL K H p xs ∧ xs[j]? = some v ∧ Q v H
theorem get_list {X : Cx} : PGet X (rGetL X.K) := fun pins s σ H o i ov iv Q I ro ri h => by
  obtain ⟨p, xs, j, z, rfl, rfl, hq, he, q⟩ := h
  obtain rfl : ov = Value.ref p := ro
  obtain ⟨t, rfl⟩ := (show ∃ t, iv = Value.int (j : Nat) t from ri)
  obtain ⟨its, r, pl, hz⟩ := I.list hq
  obtain ⟨w, ew, rw'⟩ := r.get he
  have hl := r.length
  have hn := line63
  have hj := (List.getElem?_eq_some_iff.mp he).1
  exact wpAny_getItem_list (x := w) pl.isList (by omega) (by omega) (by simpa using ew) ⟨z, H, I, rw', q⟩
def sAugL (f : Int → Int → Int) (mo mi me : ME) : MS := fun n ρ cs => match mo n ρ cs with
  | some (.c k, cs1) => match mi n ρ cs1 with
    | some (.p (.int i), cs2) => match cs2[k]? with
      | some (.lst es) => if 0 ≤ i then match es[i.toNat]? with
        | some (.p (.int a)) => match me n ρ cs2 with
          | some (.p (.int b), cs3) => match cs3[k]? with
            | some (.lst es3) => if i.toNat < es3.length then some (.nx ρ (cs3.set k (.lst (es3.set i.toNat (.p (.int (f a b))))))) else none
            | _ => none
          | _ => none
        | _ => none
        else none
      | _ => none
    | _ => none
  | _ => none
theorem ss_augL {f : Int → Int → Int} {to ti te : TE} {mo mi me : ME} (ho : SE K κ to mo) (hi : SE K κ ti mi) (he : SE K κ te me) : SS K κ (tAugS to ti te (rGetL K) (ipI f) rSetL) (sAugL f mo mi me) := fun m0 ρ cs σ G H as o D s hm q => by
  unfold sAugL at hm
  split at hm
  · rename_i k cs1 h1
    split at hm
    · rename_i i cs2 h2
      split at hm
      · rename_i es h3
        split at hm
        · rename_i hi0
          split at hm
          · rename_i a h4
            split at hm
            · rename_i b cs3 h5
              split at hm
              · rename_i es3 h6
                split at hm
                · rename_i hlt
                  cases hm
                  refine ho m0 ρ cs σ G H as _ _ _ s h1 fun v G1 H1 as1 t1 ok1 r1 => ?_
                  have s1 := s.step t1 ok1
                  refine hi m0 ρ cs1 σ G1 H1 as1 _ _ _ s1 h2 fun w G2 H2 as2 t2 ok2 r2 => ?_
                  have s2 := s1.step t2 ok2
                  obtain ⟨p, xs, rfl, hp, g, hx, r⟩ := ok2.lstC (t2.up r1) h3
                  obtain ⟨x, hxi, rx⟩ := r.get h4
                  have e1 : ((i.toNat : Nat) : Int) = i := by omega
                  refine ⟨p, xs, i.toNat, x, rfl, by rw [Rep.int_inv r2, e1], SqL.of hx, hxi, ?_⟩
                  refine he m0 ρ cs2 σ G2 H2 as2 _ _ _ s2 h5 fun y G3 H3 as3 t3 ok3 r3 => ?_
                  obtain ⟨p', xs3, e2, hp3, g3, hx3, r3'⟩ := ok3.lstC (t3.up (t2.up r1)) h6
                  cases e2
                  refine ⟨a, b, Rep.int_inv rx, Rep.int_inv r3, p, xs3, i, i.toNat, rfl, Rep.int_inv r2, hx3, ?_, ?_⟩
                  · unfold ixN
                    rw [if_pos hi0, if_pos (by rw [r3'.length]; omega)]
                  · have t13 := (t1.trans s.le t2).trans s.le t3
                    exact q σ G3 _ as3 (t13.trans s.le (Tr.put hp3)) (ok3.put (c := .lst (es3.set i.toNat (.p (.int (f a b))))) hp3 g3 ⟨g3, _, upd_same, EAll.set (v := .int (f a b)) (e := .p (.int (f a b))) (.int _) _ r3'⟩) (s.sl.mono t13.ex t13.le)
                · cases hm
              · cases hm
            · cases hm
          · cases hm
        · cases hm
      · cases hm
    · cases hm
  · cases hm
/-! sorted(set(pairs)) -/
def pairOf : D → Option (Int × Int)
  | .tup [.int a, .int b] => if 0 ≤ a ∧ a < 64 ∧ 0 ≤ b ∧ b < 64 then some (a, b) else none
  | _ => none
def pairsOf : List D → Option (List (Int × Int))
  | [] => some []
  | d :: ds => match pairOf d, pairsOf ds with
    | some p, some ps => some (p :: ps)
    | _, _ => none
def pairLt (p q : Int × Int) : Bool := decide (p.1 < q.1) || (decide (p.1 = q.1) && decide (p.2 < q.2))
def insP (p : Int × Int) : List (Int × Int) → List (Int × Int)
  | [] => [p]
  | q :: r => if p = q then q :: r else if pairLt p q then p :: q :: r else q :: insP p r
def sortP (ps : List (Int × Int)) : List (Int × Int) := ps.foldr insP []
def pairD (p : Int × Int) : D := .tup [.int p.1, .int p.2]
theorem pairOf_some {d : D} {p : Int × Int} (h : pairOf d = some p) : d = pairD p ∧ 0 ≤ p.1 ∧ p.1 < 64 ∧ 0 ≤ p.2 ∧ p.2 < 64 := by
  unfold pairOf at h
  split at h
  · split at h
    · rename_i hc
      cases h
      exact ⟨rfl, hc⟩
    · cases h
  · cases h
theorem pairsOf_some : ∀ {ds : List D} {ps : List (Int × Int)}, pairsOf ds = some ps → ds = ps.map pairD ∧ ∀ p ∈ ps, 0 ≤ p.1 ∧ p.1 < 64 ∧ 0 ≤ p.2 ∧ p.2 < 64
  | [], _, h => by cases h; exact ⟨rfl, by simp⟩
  | d :: ds, ps, h => by
    rw [pairsOf] at h
    split at h
    · rename_i p ps' h1 h2
      cases h
      obtain ⟨e1, b1⟩ := pairOf_some h1
      obtain ⟨e2, b2⟩ := pairsOf_some h2
      refine ⟨by rw [e1, e2]; rfl, fun q hq => ?_⟩
      rcases List.mem_cons.mp hq with rfl | hq
      · exact b1
      · exact b2 q hq
    · cases h
theorem pairLt_irrefl (p : Int × Int) : pairLt p p = false := by simp [pairLt]
theorem pairLt_trans {p q r : Int × Int} (h1 : pairLt p q = true) (h2 : pairLt q r = true) : pairLt p r = true := by
  simp only [pairLt, Bool.or_eq_true, Bool.and_eq_true, decide_eq_true_eq] at *
  omega
theorem pairLt_total {p q : Int × Int} (h : p ≠ q) (h1 : pairLt p q ≠ true) : pairLt q p = true := by
  simp only [pairLt, Bool.or_eq_true, Bool.and_eq_true, decide_eq_true_eq, ne_eq] at h1 ⊢
  have : ¬ (p.1 = q.1 ∧ p.2 = q.2) := fun e => h (Prod.ext e.1 e.2)
  omega
theorem insP_mem (p q : Int × Int) : ∀ l, q ∈ insP p l ↔ q = p ∨ q ∈ l
  | [] => by simp [insP]
  | r :: l => by
    unfold insP
    by_cases h : p = r
    · rw [if_pos h]; subst h; simp
    · rw [if_neg h]
      by_cases h2 : pairLt p r = true
      · rw [if_pos h2]; simp
      · rw [if_neg h2, List.mem_cons, insP_mem p q l, List.mem_cons]
        constructor <;> rintro (h | h | h) <;> simp [h]
theorem insP_sorted (p : Int × Int) : ∀ {l : List (Int × Int)}, l.Pairwise (fun a b => pairLt a b = true) → (insP p l).Pairwise (fun a b => pairLt a b = true)
  | [], _ => by simp [insP]
  | r :: l, h => by
    rw [List.pairwise_cons] at h
    unfold insP
    by_cases e : p = r
    · rw [if_pos e]; exact List.pairwise_cons.mpr h
    · rw [if_neg e]
      by_cases h2 : pairLt p r = true
      · rw [if_pos h2, List.pairwise_cons]
        refine ⟨fun q hq => ?_, List.pairwise_cons.mpr h⟩
        rcases List.mem_cons.mp hq with rfl | hq
        · exact h2
        · exact pairLt_trans h2 (h.1 q hq)
      · rw [if_neg h2, List.pairwise_cons]
        refine ⟨fun q hq => ?_, insP_sorted p h.2⟩
        rcases (insP_mem p q l).mp hq with rfl | hq
        · exact pairLt_total e h2
        · exact h.1 q hq
theorem sortP_sorted (ps : List (Int × Int)) : (sortP ps).Pairwise (fun a b => pairLt a b = true) := by
  induction ps with
  | nil => exact .nil
  | cons p ps ih => exact insP_sorted p ih
theorem sortP_mem (q : Int × Int) (ps : List (Int × Int)) : q ∈ sortP ps ↔ q ∈ ps := by
  induction ps with
  | nil => exact Iff.rfl
  | cons p ps ih =>
    show q ∈ insP p (sortP ps) ↔ _
    rw [insP_mem, ih, List.mem_cons]
theorem sorted_one {l l' : List (Int × Int)} (h : l.Pairwise (fun a b => pairLt a b = true)) (h' : l'.Pairwise (fun a b => pairLt a b = true)) (hm : ∀ q, q ∈ l ↔ q ∈ l') : l = l' := by
  induction l generalizing l' with
  | nil =>
    cases l' with
    | nil => rfl
    | cons q r => exact absurd ((hm q).mpr List.mem_cons_self) (by simp)
  | cons p l ih =>
    cases l' with
    | nil => exact absurd ((hm p).mp List.mem_cons_self) (by simp)
    | cons q l' =>
      rw [List.pairwise_cons] at h h'
      have e : p = q := by
        rcases List.mem_cons.mp ((hm p).mp List.mem_cons_self) with e | e
        · exact e
        · rcases List.mem_cons.mp ((hm q).mpr List.mem_cons_self) with e2 | e2
          · exact e2.symm
          · have a := h'.1 p e
            have b := h.1 q e2
            have := pairLt_trans a b
            rw [pairLt_irrefl] at this; cases this
      subst e
      rw [ih h.2 h'.2 fun z => ?_]
      constructor
      · intro hz
        rcases List.mem_cons.mp ((hm z).mp (List.mem_cons_of_mem _ hz)) with e | e
        · subst e; have := h.1 z hz; rw [pairLt_irrefl] at this; cases this
        · exact e
      · intro hz
        rcases List.mem_cons.mp ((hm z).mpr (List.mem_cons_of_mem _ hz)) with e | e
        · subst e; have := h'.1 z hz; rw [pairLt_irrefl] at this; cases this
        · exact e
def fSortSet : List D → Option D
  | [.lst ds] => match pairsOf ds with
    | some ps => if ps.length < 64 then some (.lst ((sortP ps).map pairD)) else none
    | none => none
  | _ => none
theorem RepAll.pairs : ∀ {vs : List V} {ps : List (Int × Int)}, RepAll K κ G vs (ps.map pairD) → ∃ ks : List (Addr × List Int), vs = ks.map (fun p => V.ref p.1) ∧ ks.map (·.2) = ps.map (fun p => [p.1, p.2]) ∧ ∀ p ∈ ks, G p.1 = some (.tup (p.2.map V.int))
  | _, [], h => by cases h; exact ⟨[], rfl, rfl, by simp⟩
  | _, p :: ps, h => by
    cases h with | cons r t =>
      obtain ⟨ks, e1, e2, e3⟩ := RepAll.pairs t
      obtain ⟨a, xs, rfl, g, r'⟩ := Rep.tup_inv r
      have hx : xs = [V.int p.1, V.int p.2] := RepAll.ints (ns := [p.1, p.2]) r'
      subst hx
      refine ⟨(a, [p.1, p.2]) :: ks, by rw [e1]; rfl, by rw [List.map_cons, e2]; rfl, fun q hq => ?_⟩
      rcases List.mem_cons.mp hq with rfl | hq
      · exact g
      · exact e3 q hq
theorem RepAll.of_pairs : ∀ {L : List (Addr × List Int)} {qs : List (Int × Int)}, L.map (·.2) = qs.map (fun p => [p.1, p.2]) → (∀ p ∈ L, G p.1 = some (.tup (p.2.map V.int))) → RepAll K κ G (L.map fun q => V.ref q.1) (qs.map pairD)
  | [], [], _, _ => .nil
  | [], _ :: _, h, _ => by cases h
  | _ :: _, [], h, _ => by cases h
  | p :: L, q :: qs, h, g => by
    rw [List.map_cons, List.map_cons] at h
    injection h with h1 h2
    refine .cons (.tup (g p List.mem_cons_self) ?_) (RepAll.of_pairs h2 fun z hz => g z (List.mem_cons_of_mem _ hz))
    rw [h1]
    exact .cons (.int _) (.cons (.int _) .nil)
def tSortSet (K : PySem.W.Frag) (P : Program) (w : World) (ta : TE) : TE := tCB (rSortedT K P w) (tCons (tCB (rSetOfT K P w) (tCons ta tNil)) tNil)
theorem se_sortset {P : Program} {w : World} {ta : TE} {ma : ME} (ha : SE K κ ta ma) : SE K κ (tCB (rSortedT K P w) (tCons (tCB (rSetOfT K P w) (tCons ta tNil)) tNil)) (mCall fSortSet (mCons ma mNil)) := fun m0 ρ cs σ G H as e cs' Q s hm q => by
  unfold mCall at hm
  split at hm
  · rename_i es cs1 h1
    split at hm
    · rename_i ds h2
      rw [Option.map_eq_some_iff] at hm
      obtain ⟨d, hd, e0⟩ := hm
      cases e0
      unfold mCons mNil at h1
      split at h1
      · rename_i x c1 h3
        cases h1
        unfold fSortSet at hd
        split at hd
        · rename_i items
          split at hd
          · rename_i ps hps
            split at hd
            · rename_i hlt
              cases hd
              have ex := pures_some h2
              rw [List.map_cons, List.map_nil] at ex
              cases ex
              refine ha m0 ρ cs σ G H as _ _ _ s h3 fun v G1 H1 as1 t1 ok1 r1 => ?_
              obtain ⟨a, xs, rfl, g, r⟩ := Rep.lst_inv r1
              obtain ⟨ei, bi⟩ := pairsOf_some hps
              rw [ei] at r
              obtain ⟨ks, ek1, ek2, ek3⟩ := RepAll.pairs r
              have hlen : ks.length = ps.length := by have := congrArg List.length ek2; simpa using this
              refine ⟨a, ks, rfl, by rw [← ek1]; exact SqL.of (ok1.ex _ _ g), fun p hp => SqT.of (ok1.ex _ _ (ek3 p hp)), by omega, fun b L hb hL1 hL2 => ?_⟩
              have okb : Ok K κ G1 (upd H1 b (SetTO P w b L)) as1 cs' := ok1.newh hb
              have tb : Tr m0 G1 H1 as1 G1 (upd H1 b (SetTO P w b L)) as1 := Tr.newh hb
              have hks : ∀ p ∈ ks, ∃ pr ∈ ps, p.2 = [pr.1, pr.2] := fun p hp => by
                have : p.2 ∈ ks.map (·.2) := List.mem_map_of_mem hp
                rw [ek2] at this
                obtain ⟨pr, h1, h2⟩ := List.mem_map.mp this
                exact ⟨pr, h1, h2.symm⟩
              refine ⟨b, L, 2, 64, rfl, upd_same, fun p hp => SqT.of (okb.ex _ _ (ek3 p (hL1 p hp))), by omega, fun p hp => ?_, fun L' c pm nd hl pw hc => ?_⟩
              · obtain ⟨pr, hpr, e⟩ := hks p (hL1 p hp)
                rw [e]
                refine ⟨rfl, fun m hm => ?_⟩
                have := bi pr hpr
                simp only [List.mem_cons, List.not_mem_nil, or_false] at hm
                rcases hm with rfl | rfl
                · exact ⟨this.1, this.2.1⟩
                · exact ⟨this.2.2.1, this.2.2.2⟩
              · -- L' stands as the sorted pairs do
                have hL' : ∀ p ∈ L', ∃ pr ∈ ps, p.2 = [pr.1, pr.2] := fun p hp => hks p (hL1 p (pm.mem_iff.mp hp))
                have key : ∃ qs : List (Int × Int), L'.map (·.2) = qs.map (fun p => [p.1, p.2]) ∧ (∀ q ∈ qs, q ∈ ps) := by
                  clear pm nd hl pw hc
                  induction L' with
                  | nil => exact ⟨[], rfl, by simp⟩
                  | cons p L' ih =>
                    obtain ⟨qs, e1, e2⟩ := ih fun p hp => hL' p (List.mem_cons_of_mem _ hp)
                    obtain ⟨pr, hpr, e⟩ := hL' p List.mem_cons_self
                    refine ⟨pr :: qs, by rw [List.map_cons, e1, e]; rfl, fun q hq => ?_⟩
                    rcases List.mem_cons.mp hq with rfl | hq
                    · exact hpr
                    · exact e2 q hq
                obtain ⟨qs, eqs, hqs⟩ := key
                have srt : qs.Pairwise (fun a b => pairLt a b = true) := by
                  have p1 : (L'.map (·.2)).Pairwise (fun x y => TS.code 64 x ≤ TS.code 64 y ∧ x ≠ y) := by
                    refine List.Pairwise.and (List.pairwise_map.mpr pw) nd
                  rw [eqs] at p1
                  refine List.Pairwise.imp_of_mem (fun {x y} hx hy h => ?_) (List.pairwise_map.mp p1)
                  have bx := bi x (hqs x hx)
                  have bY := bi y (hqs y hy)
                  have := pair_lt h.1 h.2 ⟨bx.1, bx.2.1⟩ ⟨bx.2.2.1, bx.2.2.2⟩ ⟨bY.1, bY.2.1⟩ ⟨bY.2.2.1, bY.2.2.2⟩
                  simp only [pairLt, Bool.or_eq_true, Bool.and_eq_true, decide_eq_true_eq]
                  exact this
                have eall : qs = sortP ps := sorted_one srt (sortP_sorted ps) fun q => by
                  rw [sortP_mem]
                  refine ⟨hqs q, fun hq => ?_⟩
                  have h1 : [q.1, q.2] ∈ ks.map (·.2) := by rw [ek2]; exact List.mem_map_of_mem (f := fun p : Int × Int => [p.1, p.2]) hq
                  obtain ⟨p, hp, ep⟩ := List.mem_map.mp h1
                  have h3 : [q.1, q.2] ∈ L'.map (·.2) := by
                    have := hL2 p hp
                    rw [ep] at this
                    exact (pm.map (·.2)).mem_iff.mpr this
                  rw [eqs] at h3
                  obtain ⟨z, hz, ez⟩ := List.mem_map.mp h3
                  have : z = q := by
                    simp only [List.cons.injEq, and_true] at ez
                    exact Prod.ext ez.1 ez.2
                  rw [← this]; exact hz
                have tc : Tr m0 G1 (upd H1 b (SetTO P w b L)) as1 (upd G1 c (.lst (L'.map fun q => V.ref q.1))) (upd (upd H1 b (SetTO P w b L)) c (.lst (L'.map fun q => V.ref q.1))) as1 := Tr.newp okb hc
                refine q _ _ _ as1 ((t1.trans s.le tb).trans s.le tc) (okb.newp hc) (.lst upd_same ?_)
                rw [← eall]
                have tup : ∀ p ∈ L', G1 p.1 = some (.tup (p.2.map V.int)) := fun p hp => ek3 p (hL1 p (pm.mem_iff.mp hp))
                exact (RepAll.of_pairs eqs tup).mono (SameH.new (okb.free hc))
            · cases hd
          · cases hd
        · cases hd
      · cases h1
    · cases hm
  · cases hm
end
end Fw
set_option maxRecDepth 100000
set_option maxHeartbeats 4000000
namespace Fw
open PySem PySem.Spec PyProof.Rows L2
theorem u65 {A : Around} {k : Nat} (hr : Room k A) : A.units + 65 < cLine := by have := hr.un; omega
section
variable {K : PySem.W.Frag} {κ : Nat → Addr} {G G' H H' : Hp} {as as' : List Addr} {m0 : Nat} {ρ : Sl} {cs cs' : List Cell} {σ : L2.St} {X : Cx}
/-! ### a written table of ints -/
def mTab (f : Str → Option Int) (m : ME) : ME := mUn (fun d => match d with
  | .str x => (f x).map .int
  | _ => none) m
theorem se_tab {w : World} {a : Addr} {f : Str → Option Int} {ty : TE} {m : ME} (hf : ∀ x n, f x = some n → KDct K w a x (.int n)) (h : SE K κ ty m) : SE K κ (tOp (rIxD K w) (tC (.ref a)) ty) (mTab f m) := fun m0 ρ cs σ G H as e cs' Q s hm q => by
  unfold mTab mUn mBind at hm
  dsimp only at hm
  split at hm
  · rename_i x cs1 h1
    refine h m0 ρ cs σ G H as _ _ _ s h1 fun v G1 H1 as1 t1 ok1 r1 => ?_
    split at hm
    · rename_i d
      rw [Option.map_eq_some_iff] at hm
      obtain ⟨z, hz, e0⟩ := hm
      cases e0
      split at hz
      · rename_i y
        rw [Option.map_eq_some_iff] at hz
        obtain ⟨n, hn, e1⟩ := hz
        cases e1
        exact ⟨a, y, _, rfl, Rep.str_inv r1, hf y n hn, q _ G1 H1 as1 t1 ok1 (.int n)⟩
      · cases hz
    · cases hm
  · cases hm

/-! ### sum and max of a tuple -/
def rSumT (K : PySem.W.Frag) : List V → Hp → VK → Prop := fun vs H Q => ∃ (a : Addr) (ns : List Int), vs = [V.ref a] ∧ SqT K H a (ns.map V.int) ∧ Q (.int ns.sum) H
theorem cr_sumT (hc : X.calm = true) : CallR X (.builtin "sum") (rSumT X.K) := by
  intro pins s σ H vs us Q I r h
  obtain ⟨a, ns, rfl, hs, q⟩ := h
  obtain ⟨its, rv, ht, _⟩ := I.tuple hs
  rw [Vals.ref1 r]
  have hi := rv.ints
  obtain ⟨xs, e⟩ := hi.allInts.items
  have hn : numsOf (intItems xs).toList = ns := by rw [← e]; exact hi.numsOf
  rw [nums_intItems] at hn
  rw [e] at ht
  refine PySem.W.ktm_sumG (I.ok.hd hc) ht fun h' tk t' hk => ?_
  have e2 : preSum (numAt xs) xs.size = ns.sum := by rw [preSum_eq, List.take_of_length_le (by simp), hn]
  rw [e2]
  exact ⟨.int ns.sum, H, I.kept hk, ⟨t', rfl⟩, q⟩
def rMaxT (K : PySem.W.Frag) : List V → Hp → VK → Prop := fun vs H Q => ∃ (a : Addr) (ns : List Int), vs = [V.ref a] ∧ SqT K H a (ns.map V.int) ∧ ns ≠ [] ∧ ∀ m, maxOf ns = some m → Q (.int m) H
theorem cr_maxT (hc : X.calm = true) (hu : X.A.units + 64 < cLine) : CallR X (.builtin "max") (rMaxT X.K) := by
  intro pins s σ H vs us Q I r h
  obtain ⟨a, ns, rfl, hs, hne, q⟩ := h
  obtain ⟨its, rv, ht, _⟩ := I.tuple hs
  rw [Vals.ref1 r]
  cases ns with
  | nil => exact absurd rfl hne
  | cons n ns =>
    have hdp : ∀ (ms : List Int), DpAll X.K H (ms.map V.int) (ms.map PyData.int) := fun ms => by
      induction ms with
      | nil => exact .nil
      | cons m ms ih => exact .cons (.int m) ih
    obtain ⟨as, hr⟩ := Dp.readsAll I ((n :: ns).map PyData.int) _ its (hdp _) rv
    refine PySem.W.max_tuple_data (x := .int n) (xs := ns.map PyData.int) (I.ok.hd hc) ht hr ?_ ?_ fun i v h' tk bs hv rd hk => ?_
    · refine ⟨fun x hx y hy => ?_, fun x hx => ?_⟩
      · rw [← List.map_cons] at hx hy
        obtain ⟨i, _, rfl⟩ := List.mem_map.mp hx
        obtain ⟨j, _, rfl⟩ := List.mem_map.mp hy
        simp [PySem.W.alike]
      · rw [← List.map_cons] at hx
        obtain ⟨i, _, rfl⟩ := List.mem_map.mp hx
        exact fun e => nomatch e
    · rw [← List.map_cons (f := PyData.int), PySem.W.depth_ints]
      show X.A.units + 1 + 0 < _
      omega
    · rw [PySem.W.maxD_ints] at rd
      cases rd
      exact ⟨.int _, H, I.kept hk, ⟨_, rfl⟩, q _ rfl⟩
def fSumT : List D → Option D
  | [.tup xs] => (intsOf xs).map fun ns => .int ns.sum
  | _ => none
def fMaxT : List D → Option D
  | [.tup xs] => (intsOf xs).bind fun ns => (maxOf ns).map .int
  | _ => none
theorem rc_sumT : RCok K κ (rSumT K) fSumT := fun G H xs ds d Q e r hf q => by
  unfold fSumT at hf
  split at hf
  · rw [Option.map_eq_some_iff] at hf
    obtain ⟨ns, h1, e0⟩ := hf
    cases e0
    cases r with | cons r t => cases t with | nil =>
      obtain ⟨a, ys, rfl, g, r'⟩ := r.tup_inv
      rw [intsOf_some h1] at r'
      exact ⟨a, ns, rfl, by rw [← r'.ints]; exact SqT.of (e _ _ g), q.1 _ (.int _)⟩
  · cases hf
theorem rc_maxT : RCok K κ (rMaxT K) fMaxT := fun G H xs ds d Q e r hf q => by
  unfold fMaxT at hf
  split at hf
  · rw [Option.bind_eq_some_iff] at hf
    obtain ⟨ns, h1, h2⟩ := hf
    rw [Option.map_eq_some_iff] at h2
    obtain ⟨m, h3, e0⟩ := h2
    cases e0
    cases r with | cons r t => cases t with | nil =>
      obtain ⟨a, ys, rfl, g, r'⟩ := r.tup_inv
      rw [intsOf_some h1] at r'
      refine ⟨a, ns, rfl, by rw [← r'.ints]; exact SqT.of (e _ _ g), (fun z => by subst z; cases h3), fun m' hm => ?_⟩
      rw [h3] at hm; cases hm
      exact q.1 _ (.int _)
  · cases hf

/-! ### sorted of tuples of ints, any number -/
def leI (a b : List Int) : Bool := decide (a ≤ b)
def rSortTL (K : PySem.W.Frag) : List V → Hp → VK → Prop := fun vs H Q => ∃ (a : Addr) (ks : List (Addr × List Int)), vs = [V.ref a] ∧ SqL K H a (ks.map fun p => V.ref p.1) ∧ (∀ p ∈ ks, SqT K H p.1 (p.2.map V.int)) ∧ (∀ p ∈ ks, p.2 ≠ []) ∧ ks.length ≤ 100000 ∧
  ∀ l, H l = none → Q (.ref l) (upd H l (.lst ((ks.mergeSort fun p q => leI p.2 q.2).map fun p => V.ref p.1)))
theorem each_refs {R : Value → (Addr × List Int) → Prop} : ∀ {ks : List (Addr × List Int)}, (∀ p ∈ ks, R (.ref p.1) p) → PySem.W.EachIs R (ks.map fun p => Value.ref p.1) ks
  | [], _ => .nil
  | p :: ks, h => .cons (h p List.mem_cons_self) (each_refs fun q hq => h q (List.mem_cons_of_mem _ hq))
theorem each_back : ∀ {out : List Value} {ks : List (Addr × List Int)}, PySem.W.EachIs (fun v (p : Addr × List Int) => v = Value.ref p.1) out ks → Vals (ks.map fun p => V.ref p.1) out
  | _, _, .nil => .nil
  | _, _, .cons h t => .cons h (each_back t)
theorem cr_sortedTL {k : Nat} (hc : X.calm = true) (hr : Room k X.A) : CallR X (.builtin "sorted") (rSortTL X.K) := by
  intro pins s σ H vs us Q I r h
  obtain ⟨a, ks, rfl, hs, hk, hne, hl, q⟩ := h
  obtain ⟨its, rv, pl, hz⟩ := I.list hs
  rw [Vals.ref1 r]
  have eits : its = ks.map fun p => Value.ref p.1 := refs_of_vals rv
  have hrd : ∀ p ∈ ks, ∃ as, Reads s.heap (.ref p.1) (PyData.tuple (p.2.map PyData.int)) as := fun p hp => by
    have hall : ∀ ms : List Int, DpAll X.K H (ms.map V.int) (ms.map PyData.int) := fun ms => by
      induction ms with
      | nil => exact .nil
      | cons m ms ih => exact .cons (.int m) ih
    exact Dp.reads I _ _ _ (.tup (hk p hp) (hall p.2)) rfl
  subst eits
  have hd : ∀ p : Addr × List Int, (PyData.tuple (p.2.map PyData.int)).depth ≤ 1 := fun p => by
    show (PyData.tuple (p.2.map PyData.int)).depth ≤ 1
    rw [PyData.depth, PySem.W.depth_ints]
    exact Nat.le_refl _
  have hu := hr.un
  refine PySem.W.sorted_data (β := Addr × List Int) (bs := ks) (enc := fun p => PyData.tuple (p.2.map PyData.int)) (R := fun v p => v = Value.ref p.1) pl.isList (each_refs fun _ _ => rfl) (each_refs hrd)
    (PySem.W.AllAlike.of fun b b' => by simpa [PySem.W.alike] using PySem.W.alike_ints b.2 b'.2) ?_ (sz_of hl) (fun b _ => by have := hd b; omega) fun out ho eo => ?_
  · refine .inl fun d hd' => ?_
    obtain ⟨p, hp, rfl⟩ := List.mem_map.mp hd'
    obtain ⟨x, r, e⟩ : ∃ x r, p.2 = x :: r := by
      cases e : p.2 with
      | nil => exact absurd e (hne p hp)
      | cons x r => exact ⟨x, r, rfl⟩
    exact ⟨_, _, by rw [e]; rfl⟩
  · have eord : PySem.W.dataLe false (fun p : Addr × List Int => PyData.tuple (p.2.map PyData.int)) = fun p q => leI p.2 q.2 := by
      have := PySem.W.dataLe_rows (fun p : Addr × List Int => p.2)
      funext p q
      have e2 := congrFun (congrFun this p) q
      show PySem.W.dataLe false _ p q = decide (p.2 ≤ q.2)
      rw [← e2]
      first | rfl | (show (!PySem.W.dataLt _ _) = (!PySem.W.dataLt _ _); rw [PySem.W.dataLt_tuple, PySem.W.dataLt_list])
    rw [eord] at eo
    obtain ⟨ep, he'⟩ := PyProof.Rows.sortedAll_at s.heap (ks.map fun p => Value.ref p.1) out.toArray
    have hlen : ((ks.mergeSort fun p q => leI p.2 q.2).map fun p => V.ref p.1).length ≤ sizeLine := by rw [List.length_map, List.length_mergeSort]; exact sz_of hl
    exact ⟨.ref _, upd H (s.heap.objs.size + 1) (.lst _), I.laid (t' := s.toks) (fun _ _ => PyProof.Rows.sortedAll_old) (Nat.le_succ _) ⟨hlen, out, ep, each_back eo, he'⟩, rfl, q _ (I.hok.fresh (Nat.le_succ _))⟩
def tupsOf : List D → Option (List (List Int))
  | [] => some []
  | .tup xs :: ds => match intsOf xs, tupsOf ds with
    | some ns, some r => if ns = [] then none else some (ns :: r)
    | _, _ => none
  | _ :: _ => none
def tupD (ns : List Int) : D := .tup (ns.map .int)
theorem tupsOf_some : ∀ {ds : List D} {ts : List (List Int)}, tupsOf ds = some ts → ds = ts.map tupD ∧ ∀ t ∈ ts, t ≠ []
  | [], _, h => by cases h; exact ⟨rfl, by simp⟩
  | d :: ds, ts, h => by
    cases d with
    | tup xs =>
      rw [tupsOf] at h
      split at h
      · rename_i ns r h1 h2
        split at h
        · cases h
        · rename_i hn
          cases h
          obtain ⟨e, b⟩ := tupsOf_some h2
          refine ⟨by rw [e, List.map_cons, tupD, intsOf_some h1], fun t ht => ?_⟩
          rcases List.mem_cons.mp ht with rfl | ht
          · exact hn
          · exact b t ht
      · cases h
    | _ => simp [tupsOf] at h
theorem RepAll.tups : ∀ {vs : List V} {ts : List (List Int)}, RepAll K κ G vs (ts.map tupD) → ∃ ks : List (Addr × List Int), vs = ks.map (fun p => V.ref p.1) ∧ ks.map (·.2) = ts ∧ ∀ p ∈ ks, G p.1 = some (.tup (p.2.map V.int))
  | _, [], h => by cases h; exact ⟨[], rfl, rfl, by simp⟩
  | _, t :: ts, h => by
    cases h with | cons r t' =>
      obtain ⟨ks, e1, e2, e3⟩ := RepAll.tups t'
      obtain ⟨a, xs, rfl, g, r'⟩ := Rep.tup_inv r
      have hx : xs = t.map V.int := RepAll.ints r'
      subst hx
      refine ⟨(a, t) :: ks, by rw [e1]; rfl, by rw [List.map_cons, e2], fun q hq => ?_⟩
      rcases List.mem_cons.mp hq with rfl | hq
      · exact g
      · exact e3 q hq
theorem RepAll.of_tups : ∀ {ks : List (Addr × List Int)}, (∀ p ∈ ks, G p.1 = some (.tup (p.2.map V.int))) → RepAll K κ G (ks.map fun p => V.ref p.1) ((ks.map (·.2)).map tupD)
  | [], _ => .nil
  | p :: ks, h => .cons (.tup (h p List.mem_cons_self) (RepAll.of_ints _)) (RepAll.of_tups fun q hq => h q (List.mem_cons_of_mem _ hq))
theorem map_merge (ks : List (Addr × List Int)) : (ks.mergeSort fun p q => leI p.2 q.2).map (·.2) = (ks.map (·.2)).mergeSort leI := by
  rw [List.map_mergeSort]
  intro a _ b _; rfl
def fSortT : List D → Option D
  | [.lst ds] => match tupsOf ds with
    | some ts => if ts.length ≤ 100000 then some (.lst ((ts.mergeSort leI).map tupD)) else none
    | none => none
  | _ => none
theorem rc_sortedTL : RCok K κ (rSortTL K) fSortT := fun G H xs ds d Q e r hf q => by
  unfold fSortT at hf
  split at hf
  · split at hf
    · rename_i ts h1
      split at hf
      · rename_i hl
        cases hf
        cases r with | cons r t => cases t with | nil =>
          obtain ⟨a, ys, rfl, g, r'⟩ := r.lst_inv
          obtain ⟨e1, hne⟩ := tupsOf_some h1
          rw [e1] at r'
          obtain ⟨ks, rfl, e2, e3⟩ := RepAll.tups r'
          refine ⟨a, ks, rfl, SqL.of (e _ _ g), fun p hp => SqT.of (e _ _ (e3 p hp)), fun p hp => hne _ (by rw [← e2]; exact List.mem_map_of_mem hp), by rw [← e2, List.length_map] at hl; exact hl, fun l hl' => ?_⟩
          refine q.2 l _ hl' (.lst upd_same ?_)
          rw [← e2, ← map_merge]
          refine (RepAll.of_tups fun p hp => e3 p ?_).mono (SameH.new (e.none hl'))
          exact (List.mergeSort_perm ks _).mem_iff.mp hp
      · cases hf
    · cases hf
  · cases hf
/-! list(range(..)) -/
def mLstRg1 (m : ME) : ME := fun n ρ cs => match m n ρ cs with
  | some (.p (.int j), cs1) => if 0 ≤ j ∧ j.natAbs ≤ 100000 then some (.p (.lst (rangeD 0 j.toNat)), cs1) else none
  | _ => none
theorem rep_rgV (a b : Int) : RepAll K κ G (rgV a b) (rangeD a (b - a).toNat) := by
  unfold rgV rangeD
  generalize (b - a).toNat = n
  induction List.range n with
  | nil => exact .nil
  | cons i l ih => exact .cons (.int _) ih
theorem se_listRg1 {ta : TE} {m : ME} (h : SE K κ ta m) : SE K κ (tLstRg (tRg1 ta)) (mLstRg1 m) := fun m0 ρ cs σ G H as e cs' Q s hm q => by
  unfold mLstRg1 at hm
  split at hm
  · rename_i j cs1 h1
    split at hm
    · rename_i hj
      cases hm
      refine h m0 ρ cs σ G H as _ _ _ s h1 fun v G1 H1 as1 t1 ok1 r1 => ⟨j, Rep.int_inv r1, RgOk.of_le (by omega) (by omega) (by omega) (by omega), fun p hp => ?_⟩
      have e : j = j - 0 := by omega
      refine q _ _ _ as1 (t1.trans s.le (Tr.newp ok1 hp)) (ok1.newp hp) (.lst upd_same ((?_ : RepAll K κ G1 _ _).mono (SameH.new (ok1.free hp))))
      have := rep_rgV (K := K) (κ := κ) (G := G1) 0 j
      rw [← e] at this; exact this
    · cases hm
  · cases hm
end
end Fw
set_option maxRecDepth 100000
set_option maxHeartbeats 4000000
namespace Fw
open PySem PySem.Spec PyProof.Rows L2
section
variable {K : PySem.W.Frag} {κ : Nat → Addr} {G G' H H' : Hp} {as as' : List Addr} {m0 : Nat} {ρ : Sl} {cs cs' : List Cell} {σ : L2.St} {X : Cx}
/-! ### zip of a list and a tuple -/
def ItzLT (K : PySem.W.Frag) (a b : Addr) : It :=
  ⟨fun i H => ∃ (xs ys : List V) (x y : V), SqL K H a xs ∧ SqT K H b ys ∧ xs[i]? = some x ∧ ys[i]? = some y,
   fun i H v H' => ∃ T x y, v = .ref T ∧ H T = none ∧ H' = upd H T (.tup [x, y]) ∧ (∀ zs, SqL K H a zs → zs[i]? = some x) ∧ (∀ zs, SqT K H b zs → zs[i]? = some y),
   fun i H => ∃ xs ys : List V, SqL K H a xs ∧ SqT K H b ys ∧ i ≤ xs.length ∧ i ≤ ys.length ∧ (xs.length = i ∨ ys.length = i)⟩
theorem sep_of {z TI TO i1 i2 a b : Addr} (D : ZipApart z TI TO i1 i2 a b) : ZipSep2 z TI TO i1 i2 [i1, a] [i2, b] where
  TIz := D.TIz
  TOz := D.TOz
  TITO := D.TITO
  TIi1 := D.TIi1
  mem1 := List.mem_cons_self
  zf1 := by simp only [List.mem_cons, List.not_mem_nil, or_false, not_or]; exact ⟨D.i1z.symm, D.l1z.symm⟩
  Tf1 := by simp only [List.mem_cons, List.not_mem_nil, or_false, not_or]; exact ⟨D.TOi1, D.l1TO.symm⟩
  TIi2 := D.TIi2
  mem2 := List.mem_cons_self
  zf2 := by simp only [List.mem_cons, List.not_mem_nil, or_false, not_or]; exact ⟨D.i2z.symm, D.l2z.symm⟩
  Tf2 := by simp only [List.mem_cons, List.not_mem_nil, or_false, not_or]; exact ⟨D.TOi2, D.l2TO.symm⟩
  sep1_2 := by simp only [List.mem_cons, List.not_mem_nil, or_false, not_or]; exact ⟨D.i12, D.l2i1.symm⟩
  sep2_1 := by simp only [List.mem_cons, List.not_mem_nil, or_false, not_or]; exact ⟨D.i12.symm, D.l1i2.symm⟩
theorem five {α : Type} {a b c d e x : α} (h : x ∈ [a, b, c, d, e]) : x = a ∨ x = b ∨ x = c ∨ x = d ∨ x = e := by simpa using h
theorem turn_zipLT {P : Program} {w : World} {K : PySem.W.Frag} {elts : List Expr} {kk : Nat} {tpos : Pos} {a b z TI TO i1 i2 : Addr} (D : ZipApart z TI TO i1 i2 a b) :
    Turn P w K (.Tuple elts kk tpos) (ItzLT K a b) [z, TI, TO, i1, i2] z (fun i h => IsZip h z TI TO .none ∧ IsTupOf2 h TI (.ref i1) (.ref i2) ∧ (∃ a1 a2, IsTupOf2 h TO a1 a2) ∧ h.IsListIter i1 a i ∧ h.IsTupleIter i2 b i) where
  mem := List.mem_cons_self
  obj := by
    rintro i h ⟨hz, hI, ⟨a1, a2, hO⟩, ⟨o1, e1, _, d1⟩, ⟨o2, e2, _, d2⟩⟩ c hc
    rcases five hc with rfl | rfl | rfl | rfl | rfl
    · exact ⟨_, hz, fun v q => nomatch q⟩
    · exact ⟨_, hI, fun v q => nomatch q⟩
    · exact ⟨_, hO, fun v q => nomatch q⟩
    · exact ⟨o1, e1, fun v q => by rw [d1] at q; cases q⟩
    · exact ⟨o2, e2, fun v q => by rw [d2] at q; cases q⟩
  keep := by
    rintro i h h' ⟨hz, hI, ⟨a1, a2, hO⟩, q1, q2⟩ k
    exact ⟨k _ (by simp) _ hz, k _ (by simp) _ hI, ⟨a1, a2, k _ (by simp) _ hO⟩, q1.at fun o => k _ (by simp) o, q2.at fun o => k _ (by simp) o⟩
  item := by
    rintro X rfl rfl rfl hcalm i pins s σ H E I hf ⟨hz, hI, ⟨a1, a2, hO⟩, q1, q2⟩ ⟨xs, ys, x, y, sx, sy, hx, hy⟩
    obtain ⟨us, rx, px, _⟩ := I.list sx
    obtain ⟨vs, ry, py, _⟩ := I.tuple sy
    obtain ⟨u, hu, ru⟩ := rx.get hx
    obtain ⟨v, hv, rv⟩ := ry.get hy
    have lz : z < s.heap.objs.size := Heap.lt_size hz
    have hd := I.ok.hd hcalm
    refine wpAny_pyNext_zipD2_item (sep_of D) (Draws.list (A := X.A.in1) hd i1 a D.l1i1 us.toArray) (Draws.tuple (A := X.A.in1) hd i2 b D.l2i2 vs.toArray) hz hI hO ⟨q1, px.isList⟩ ⟨q2, py⟩
      (by have := (List.getElem?_eq_some_iff.mp hu).1; simpa using this) (by have := (List.getElem?_eq_some_iff.mp hv).1; simpa using this) fun x1 x2 h' tk e1 e2 z' O' n1 n2 T' sz k => ?_
    have ex1 : x1 = u := by have e1' : us[i]? = some x1 := by simpa using e1
                            rw [hu] at e1'; cases e1'; rfl
    have ex2 : x2 = v := by have e2' : vs[i]? = some x2 := by simpa using e2
                            rw [hv] at e2'; cases e2'; rfl
    subst ex1; subst ex2
    refine ⟨_, rfl, wpAny_letOwnedTupleGo_zip (s := { s with heap := h', toks := tk }) z' fun h2 z2 sb => ?_⟩
    have hT2 : h2.get? s.heap.objs.size = some { cls := .type "tuple", data := .seq #[x1, x2] } := (sb.2 _ (Nat.ne_of_gt lz)).trans T'
    have I1 : Inv X pins σ (upd H s.heap.objs.size (.tup [x, y])) { s with heap := h2, toks := tk } := by
      refine I.turnedNew (t' := tk) (ch := [z, TI, TO, i1, i2]) (fun c o hn q => ?_) hf (Nat.le_refl _) ⟨by show 2 ≤ sizeLine; decide, [x1, x2], .cons ru (.cons rv .nil), ⟨_, hT2, rfl, _, rfl⟩⟩
      simp only [List.mem_cons, List.not_mem_nil, or_false, not_or] at hn
      exact (sb.2 c hn.1).trans (k c o hn.1 hn.2.2.1 hn.2.2.2.1 hn.2.2.2.2 q)
    refine ⟨.ref s.heap.objs.size, _, I1, rfl, ⟨_, x, y, rfl, I.hok.fresh (Nat.le_refl _), rfl, fun zs hzs => by rw [I.list_inj hzs sx]; exact hx, fun zs hzs => by rw [I.tuple_inj hzs sy]; exact hy⟩, ⟨z2, ?_, ⟨x1, x2, ?_⟩, ?_, ?_⟩, fun c hc => ?_⟩
    · exact (sb.2 _ D.TIz).trans (k _ _ D.TIz D.TITO D.TIi1 D.TIi2 hI)
    · exact (sb.2 _ D.TOz).trans O'
    · exact n1.1.at fun o q => (sb.2 _ D.i1z).trans q
    · exact n2.1.at fun o q => (sb.2 _ D.i2z).trans q
    · have hlt : c < s.heap.objs.size := by
        rcases five hc with rfl | rfl | rfl | rfl | rfl
        · exact lz
        · exact Heap.lt_size hI
        · exact Heap.lt_size hO
        · obtain ⟨_, e1, _⟩ := q1; exact Heap.lt_size e1
        · obtain ⟨_, e2, _⟩ := q2; exact Heap.lt_size e2
      rw [upd_ne (Nat.ne_of_lt hlt)]
      exact (hf c hc).1
  done := by
    rintro X rfl rfl rfl hcalm i pins s σ H E I hf ⟨hz, hI, ⟨a1, a2, hO⟩, q1, q2⟩ ⟨xs, ys, sx, sy, l1, l2, hend⟩
    obtain ⟨us, rx, px, _⟩ := I.list sx
    obtain ⟨vs, ry, py, _⟩ := I.tuple sy
    have e1 := rx.length
    have e2 := ry.length
    have hd := I.ok.hd hcalm
    refine wpAny_pyNext_zipD2_end (i := i) (sep_of D) (Draws.list (A := X.A.in1) hd i1 a D.l1i1 us.toArray) (Draws.tuple (A := X.A.in1) hd i2 b D.l2i2 vs.toArray) hz hI hO ⟨q1, px.isList⟩ ⟨q2, py⟩
      (by simp; omega) (by simp; omega) (by simp; omega) fun h' tk k => ⟨rfl, I.turnedL (t' := tk) (ch := [z, TI, TO, i1, i2]) (fun c o hn q => ?_) hf⟩
    simp only [List.mem_cons, List.not_mem_nil, or_false, not_or] at hn
    exact k c o hn.1 hn.2.2.1 hn.2.2.2.1 hn.2.2.2.2 q
  self := fun A i s Q E st h => wpAny_pyIter_zip st.1 h
def iZipLT (K : PySem.W.Frag) (ta : TA) : TI := fun σ H R => ta σ H fun vs H1 => ∃ a b xs ys, vs = [.ref a, .ref b] ∧ SqL K H1 a xs ∧ SqT K H1 b ys ∧ R (ItzLT K a b) H1
theorem pi_zipLT {e e2 : Expr} {ta : TA} {p pos tpos : Pos} {elts : List Expr} {kk : Nat} (hg : Gl X "zip") (hm : X.mg "zip" = none) (ha : PA X [e, e2] ta)
    (hs : starEach [e, e2] X.env = (false, eval e X.env) :: starEach [e2] X.env := by rfl) (hpl : (backTo pos (starEach [e2] X.env)).any (·.1) = false := by rfl) :
    PI X (.Tuple elts kk tpos) (.Call (.Name "zip" p) [e, e2] [] pos) (iZipLT X.K ta) := by
  constructor
  intro pins s σ H R I h
  refine Call_ (ld_blt I hg hm PyProof.Rows.boot_zip (PyProof.Rows.callWith_type1 (thn (ha.run pos pins s σ H _ I h) fun us s1 q1 => ?_) hs hpl))
  obtain ⟨vs, H1, I1, r1, a, b, xs, ys, rfl, sx, sy, q⟩ := q1
  cases r1 with | cons ra r1 => cases r1 with | cons rb r1 => cases r1 with | nil =>
    cases ra
    cases rb
    obtain ⟨us, rx, px, _⟩ := I1.list sx
    obtain ⟨ws, ry, py, _⟩ := I1.tuple sy
    have lb : b < s1.heap.objs.size := by obtain ⟨o, ho, _⟩ := id py; exact Heap.lt_size ho
    refine zip_begins2 (begins_list a us.toArray) (begins_tuple b ws.toArray) px.isList py fun h' hz hI hO g1 g2 hsz hk => wpAny_pyIter_zip hz ?_
    refine ⟨_, [s1.heap.objs.size + 4, s1.heap.objs.size + 2, s1.heap.objs.size + 3, s1.heap.objs.size, s1.heap.objs.size + 1], _, _, H1, rfl, I1.kept (t' := s1.toks) hk, turn_zipLT (PySem.W.ktu_apart s1.heap.objs.size a b px.lt lb),
      ⟨hz, hI, ⟨_, _, hO⟩, ⟨_, g1, rfl, rfl⟩, ⟨_, g2, rfl, rfl⟩⟩, fun c hc => ?_, q⟩
    have hle : s1.heap.objs.size ≤ c := by
      rcases five hc with rfl | rfl | rfl | rfl | rfl <;> first | exact Nat.le_add_right _ _ | exact Nat.le_refl _
    exact I1.fpOk hle (I1.hok.fresh hle)
def zipD (xs ys : List D) : List D := (xs.zip ys).map fun p => D.tup [p.1, p.2]
def mIZLT (ma : MA) : MI := fun n ρ cs => match ma n ρ cs with
  | some ([.p (.lst xs), .p (.tup ys)], cs1) => some (zipD xs ys, cs1)
  | _ => none
theorem gives_zipLT {a b : Addr} {xs ys : List V} {ds es : List D} (hx : SqL K G a xs) (hy : SqT K G b ys) (rx : RepAll K κ G xs ds) (ry : RepAll K κ G ys es) : Gives K κ (ItzLT K a b) G (zipD ds es) := fun i G1 H1 e1 e2 => by
  have hx1 := e2.l (e1.l hx)
  have hy1 := e2.t (e1.t hy)
  refine ⟨fun d hd => ?_, fun hi => ?_⟩
  · rw [zipD, List.getElem?_map, Option.map_eq_some_iff] at hd
    obtain ⟨⟨d1, d2⟩, hz, rfl⟩ := hd
    rw [List.getElem?_zip_eq_some] at hz
    obtain ⟨v1, hv1, r1⟩ := rx.get hz.1
    obtain ⟨v2, hv2, r2⟩ := ry.get hz.2
    refine ⟨⟨xs, ys, v1, v2, hx1, hy1, hv1, hv2⟩, fun x H' y => ?_⟩
    obtain ⟨T, x', y', rfl, hT, rfl, q1, q2⟩ := y
    have a1 := q1 xs hx1
    have a2 := q2 ys hy1
    rw [hv1] at a1; rw [hv2] at a2
    cases a1; cases a2
    have fr := e1.trans (SameH.new (o := HO.tup [v1, v2]) (e2.none hT))
    exact .inr ⟨T, _, hT, rfl, .tup upd_same (.cons (r1.mono fr) (.cons (r2.mono fr) .nil))⟩
  · rw [zipD, List.length_map, List.length_zip] at hi
    have l1 := rx.length
    have l2 := ry.length
    exact ⟨xs, ys, hx1, hy1, by omega, by omega, by omega⟩
theorem si_zipLT {ta : TA} {ma : MA} (h : SA K κ ta ma) : SI K κ (iZipLT K ta) (mIZLT ma) := fun m0 ρ cs σ G H as ds cs' R s hm q => by
  unfold mIZLT at hm
  split at hm
  · rename_i xs ys cs1 h1
    cases hm
    refine h m0 ρ cs σ G H as _ _ _ s h1 fun vs G1 H1 as1 t1 ok1 r1 => ?_
    cases r1 with | cons ra t => cases t with | cons rb t => cases t with | nil =>
      obtain ⟨a, us, rfl, ga, ra'⟩ := Rep.lst_inv ra
      obtain ⟨b, ws, rfl, gb, rb'⟩ := Rep.tup_inv rb
      exact ⟨a, b, us, ws, rfl, SqL.of (ok1.ex _ _ ga), SqT.of (ok1.ex _ _ gb), q _ G1 H1 as1 t1 ok1 (gives_zipLT (SqL.of ga) (SqT.of gb) ra' rb')⟩
  · cases hm
end
end Fw
set_option maxRecDepth 100000
set_option maxHeartbeats 4000000
namespace Fw
open PySem PySem.Spec PyProof.Rows L2

/-! ### a comprehension of a dict whose keys are tuples -/
section
variable {X : Cx}
/-- one store under a tuple, as the comprehension does it -/
theorem keep_tup {pins : List (Addr × Obj)} {σ : L2.St} {H : Hp} {s : Shared} {Er : Value → Shared → Prop} {T b : Addr} {es : List (List Key × V)} {k : List Key} {v : V} {w' : Value} {Q : Unit → Shared → Prop} (hu : X.A.units + 1 < cLine) (J : Inv X pins σ H s)
    (hT : H T = some (.dT es)) (hl : es.length < sizeLine) (hb : H b = some (.tup (k.map kV))) (rv : RelV v w') (fin : ∀ t, Inv X pins σ (upd H T (.dT (putK es k v))) t → Q () t) :
    wpAny (model X.prog X.w) X.A (dictSet T (.ref b) w') Q Er s := by
  obtain ⟨_, notmod, ps, both, there⟩ := dt_of J.hok hT
  have len' : (putK es k v).length ≤ sizeLine := Nat.le_trans (length_putK es k v) hl
  have room : ps.length ≤ sizeLine := by rw [← Paired.length both]; exact Nat.le_of_lt hl
  refine wpAny_dictSet_heap (hsz := room) (Nat.lt_of_le_of_lt (Nat.le_succ _) hu : X.A.units < cLine) (key_of J.hok hb) there fun g there' but => fin _ ?_
  obtain ⟨ob, cells, order, at1, at2, at3, at4, _, at5⟩ := there'
  refine d_write J (by rw [hT]; trivial) but ⟨ob, at1⟩ ⟨len', notmod, _, (both.put k hb rv).keeps fun c ys here => ?_, ob, cells, order, at1, at2, at3, at4, at5⟩
  rw [upd_ne (ne_of here hT fun z => nomatch z)]
  exact here
/-- {k: v for .. in .. if ..}, every k a tuple of ints and texts -/
def tDcT (wi : TI) (g : TG) (tt : TT) (tk tv : TE) (vs : List Nat) : TE := fun σ H Q => wi σ H fun J H1 => ∀ T, H1 T = none → ∃ W : Nat → Nat → Hp → Prop, (∃ m, W 0 m (upd H1 T (.dT []))) ∧ ∀ i m H, W i m H →
  (J.stop i H ∧ Q (.ref T) H) ∨ (J.go i H ∧ ∃ Nx : Hp → Prop, (∀ H', Nx H' → ∃ m', m' < m ∧ W (i + 1) m' H') ∧ ∀ x H', J.yld i H x H' → g x (wipe σ vs) H' fun σ2 H2 => wipe σ2 vs = wipe σ vs ∧ tt σ2 H2 fun b H3 =>
    if b = true then tk σ2 H3 fun y H4 => tv σ2 H4 fun z H5 => ∃ es k c, y = .ref c ∧ H5 c = some (.tup (k.map kV)) ∧ H5 T = some (.dT es) ∧ es.length < sizeLine ∧ Nx (upd H5 T (.dT (putK es k z))) else Nx H3)
theorem pe_dcT {ke ve te ie : Expr} {fs : List Expr} {bs : Scope} {own : List (Str × Nat)} {at' : Pos} {wi : TI} {g : TG} {tt : TT} {tk tv : TE} (calm : X.calm = true) (dist : X.N.Nodup) (hr : X.A.units + 1 < cLine) (src : PI X ie te wi) (blk : BlkOk X.N X.env.scope bs own)
    (tgt : ∀ (s : Shared) (H : Hp) (C : Addr) (cl : List (Str × Addr)) (fp : List Addr), PG (X.blk s H bs (compEnvC bs cl C X.env) fp) ie g)
    (tst : ∀ (s : Shared) (H : Hp) (C : Addr) (cl : List (Str × Addr)) (fp : List Addr), PTs (X.blk s H bs (compEnvC bs cl C X.env) fp) fs tt)
    (key : ∀ (s : Shared) (H : Hp) (C : Addr) (cl : List (Str × Addr)) (fp : List Addr), PE (X.blk s H bs (compEnvC bs cl C X.env) fp) ke tk)
    (val : ∀ (s : Shared) (H : Hp) (C : Addr) (cl : List (Str × Addr)) (fp : List Addr), PE (X.blk s H bs (compEnvC bs cl C X.env) fp) ve tv) (nofold : ∀ x, foldedSetIterable te X.env x = pure x := by intro _; rfl) :
    PE X (.DictComp ke ve [⟨ie, te, fs, 0⟩] bs at') (tDcT wi g tt tk tv (own.map (·.2))) := by
  constructor
  intro pins s σ H Q J hyp
  have frees : ∀ y ∈ bs.names, y.2 = .free → ∃ c, X.env.cells.lookup y.1 = some c := fun y my fy => (blk.free y my fy).elim (fun z => J.ok.has _ (.inl z)) fun z => J.ok.has _ (.inr z)
  rw [arm_eval_DictComp]
  refine wpAny_comprehension_free rfl nofold (closure_ok frees) blk.kind (fun y my fy => by rw [blk.uniq y my, fy]) (thn (src.run pins s σ H _ J hyp) fun xv sa ha => thn ha fun itv sb hb => ?_)
  obtain ⟨it, fp, tn, I, Hb, eqv, Jb, T, stb, fpb, gives⟩ := hb
  subst eqv
  refine wpAny_newObj_type (newEnv_comp ?_)
  have fresh : Hb sb.heap.objs.size = none := Jb.hok.fresh (Nat.le_refl _)
  obtain ⟨W, ⟨start, w0⟩, turn⟩ := gives sb.heap.objs.size fresh
  generalize hT : sb.heap.objs.size = Td at fresh w0 turn ⊢
  generalize hsc : ({ sb with heap := sb.heap.push { cls := .type "dict", data := .dict #[] } } : Shared) = sc
  have hpc : sc.heap = sb.heap.push { cls := .type "dict", data := .dict #[] } := by rw [← hsc]
  have Jc : Inv X pins σ (upd Hb Td (.dT [])) sc := by
    rw [← hsc]
    refine Jb.laid (t' := sb.toks) (fun b o e => Heap.get?_push_of_some _ e) (Nat.le_of_eq hT) ?_
    rw [← hT]; exact dt_empty sb.heap Jb.big
  have fpc : ∀ b ∈ fp, FpOk X pins (upd Hb Td (.dT [])) b ∧ b < sc.heap.objs.size := fun b mb => by
    obtain ⟨o, e, _⟩ := T.obj _ _ stb b mb
    have lt := Heap.lt_size e
    rw [hT] at lt
    refine ⟨⟨?_, (fpb b mb).2⟩, by rw [hpc, Heap.size_push, hT]; exact Nat.lt_succ_of_lt lt⟩
    rw [upd_ne (Nat.ne_of_lt lt)]; exact (fpb b mb).1
  have stc : tn 0 sc.heap := T.keep _ _ _ stb fun b _ o e => by rw [hpc]; exact Heap.get?_push_of_some _ e
  have Jd := block_start Jc blk dist fpc
  -- the block's own rules, at this very block
  have rg := tgt sc (upd Hb Td (.dT [])) sc.heap.objs.size (cellsFrom (sc.heap.objs.size + 1) bs.names (cloFrom X.env.cells bs.names [])) fp
  have rt := tst sc (upd Hb Td (.dT [])) sc.heap.objs.size (cellsFrom (sc.heap.objs.size + 1) bs.names (cloFrom X.env.cells bs.names [])) fp
  have rk := key sc (upd Hb Td (.dT [])) sc.heap.objs.size (cellsFrom (sc.heap.objs.size + 1) bs.names (cloFrom X.env.cells bs.names [])) fp
  have rv := val sc (upd Hb Td (.dT [])) sc.heap.objs.size (cellsFrom (sc.heap.objs.size + 1) bs.names (cloFrom X.env.cells bs.names [])) fp
  generalize hce : compEnvC bs (cellsFrom (sc.heap.objs.size + 1) bs.names (cloFrom X.env.cells bs.names [])) sc.heap.objs.size X.env = ce at Jd rg rt rk rv
  have frame : ce.locals = sc.heap.objs.size := by rw [← hce]; rfl
  have none0 : ∀ b ∈ fp, (upd Hb Td (.dT [])) b = none := fun b mb => (fpc b mb).1.1
  generalize hHc : upd Hb Td (.dT []) = Hc at Jc Jd rg rt rk rv w0 none0 fpc
  generalize hsd : ({ sc with heap := pushCells (sc.heap.push { cls := .type "dict", data := .dict #[] }) bs.names } : Shared) = sd at Jd
  have std : tn 0 sd.heap := T.keep _ _ _ stc fun b _ o e => by rw [← hsd]; exact pushCells_keeps _ _ _ _ (Heap.get?_push_of_some _ e)
  have ends : ∀ {τ : L2.St} {H' : Hp} {t : Shared}, Inv (X.blk sc Hc bs ce fp) [] τ H' t → (∀ b ∈ fp, H' b = none) → ∀ b ∈ fp, FpOk (X.blk sc Hc bs ce fp) [] H' b := fun {τ H' t} Jt nn b mb =>
    ⟨nn b mb, (Jt.ok.exf b mb).1, Jt.ok.exfs b mb, .inl mb, fun x c e => (Jt.ok.exf b mb).2 x c e, fun p mp => absurd (show p ∈ ([] : List (Addr × Obj)) ++ [] from mp) (by simp)⟩
  have all : codeAny (model X.prog X.w) X.A (.compLoop (.DictComp ke ve [⟨ie, te, fs, 0⟩] bs at') 0 (.ref it) (.ref Td) ce) (compPost (model X.prog X.w) X.A X.xe none (fun v t => ∃ y H', Inv X pins σ H' t ∧ RelV y v ∧ Q y H') (.ref Td) sc.heap.objs.size) sd := by
    refine compLoop_anyD (fun n t => ∃ i H', Inv (X.blk sc Hc bs ce fp) [] (wipe σ (own.map (·.2))) H' t ∧ tn i t.heap ∧ (∀ b ∈ fp, H' b = none) ∧ W i n H') ?_ start ⟨0, Hc, Jd, std, none0, w0⟩
    rintro n se ⟨i, He, Je, ste, ne, we⟩
    rcases turn i n He we with ⟨stop, done⟩ | ⟨go, Nx, onward, step⟩
    · refine thnF (T.done (X.blk sc Hc bs ce fp) rfl rfl rfl calm i [] se _ He (fun _ _ => False) Je (ends Je ne) ste stop) fun r sf hrf => ?_
      obtain ⟨rfl, Jf⟩ := hrf
      have Jg : Inv X pins σ He sf := Jc.call' (ch := fp) Jf.os Jf.base Jf.hok Jf.bare fun b mb => ⟨(fpc b mb).1.2.2.2.1, (fpc b mb).1.2.1, (fpc b mb).1.2.2.2.2.1, (fpc b mb).1.2.2.2.2.2⟩
      have gone : He sc.heap.objs.size = none := frame ▸ (show He ce.locals = none from Jf.free)
      obtain ⟨m, names, _⟩ := Jf.loc
      obtain ⟨f0, f1, f2, f3, f4, f5⟩ := Jc.fpOk (Nat.le_refl sc.heap.objs.size) gone
      refine ⟨m, frame ▸ (show sf.heap.Ns ce.locals m from names), fun h' same => ?_⟩
      exact ⟨.ref Td, He, Jg.turned (t' := sf.toks) (fun b o hb e => (same.2 b hb).trans e) f0 f1 f3 f4 f5, rfl, done⟩
    · refine thnF (T.item (X.blk sc Hc bs ce fp) rfl rfl rfl calm i [] se _ He (fun _ _ => False) Je (ends Je ne) ste go) fun r sf hf => ?_
      obtain ⟨u, rfl, hf⟩ := hf
      refine thnF hf fun _ sg hg => ?_
      obtain ⟨x, Hg, Jg, rx, yx, stg, ng⟩ := hg
      refine thnF (rg.run _ sg _ Hg x u _ (Jg.pinned (ends Jg ng) (T.obj _ _ stg)) rx (step x Hg yx)) fun _ sh hh => ?_
      obtain ⟨τ, Hh, Jh, wh, hh⟩ := hh
      refine thnF (rt.run _ sh τ Hh _ Jh hh) fun b si hi => ?_
      obtain ⟨Hi, Ji, hi⟩ := hi
      have close : ∀ {t : Shared} {H' : Hp}, Inv (X.blk sc Hc bs ce fp) ([] ++ pinsAt fp sg.heap) τ H' t → Nx H' → ∃ m, m < n ∧ ∃ i H', Inv (X.blk sc Hc bs ce fp) [] (wipe σ (own.map (·.2))) H' t ∧ tn i t.heap ∧ (∀ b ∈ fp, H' b = none) ∧ W i m H' := by
        intro t H' Jt nx
        obtain ⟨m', less, w'⟩ := onward H' nx
        have held : ∀ b ∈ fp, ∀ o, sg.heap.get? b = some o → t.heap.get? b = some o ∧ H' b = none := fun b mb o e => by
          have z := Jt.pin (b, o) (List.mem_append_right _ (List.mem_append_right _ (mem_pinsAt mb e)))
          exact ⟨z.1, z.2.1⟩
        refine ⟨m', less, i + 1, H', (Jt.unpinned (pins := [])).weak (by rw [← wh, wipe_length]) (fun j v e => (wipe_some (wh ▸ e)).1), T.keep _ _ _ stg fun b mb o e => (held b mb o e).1, fun b mb => ?_, w'⟩
        obtain ⟨o, e, _⟩ := T.obj _ _ stg b mb
        exact (held b mb o e).2
      by_cases hb : b = true
      · rw [if_pos hb] at hi ⊢
        refine thnF (rk.run _ si τ Hi _ Ji hi) fun z sj hj => ?_
        obtain ⟨yk, Hj, Jj, rz, hj⟩ := hj
        refine thnF (rv.run _ sj τ Hj _ Jj hj) fun z2 sk hk => ?_
        obtain ⟨yv, Hk, Jk, rz2, es, k, c, ek, tup, dct, small, nx⟩ := hk
        subst ek
        obtain ⟨w, H9, J9, r9, tup⟩ : ∃ w, ∃ H9 : Hp, H9 = Hk ∧ RelV (.ref c) w ∧ H9 c = some (.tup (k.map kV)) := ⟨z, Hk, rfl, rz, tup⟩
        subst J9
        cases (show z = Value.ref c from rz)
        exact keep_tup (X := X.blk sc Hc bs ce fp) hr Jk dct small tup rz2 fun sl Jl => close Jl nx
      · rw [if_neg hb] at hi ⊢
        exact close Ji hi
  subst hsc hsd hce
  exact codeAny_compStart_dict all (T.self X.A 0 _ _ _ std all)
end

section
variable {K : PySem.W.Frag} {κ : Nat → Addr} {G G' H H' : Hp} {as as' : List Addr} {m0 : Nat} {ρ : Sl} {cs cs' : List Cell} {σ : L2.St}
/-- what stands while a comprehension's dict grows -/
structure AccT (K : PySem.W.Frag) (κ : Nat → Addr) (m0 : Nat) (G1 H1 : Hp) (as1 : List Addr) (Dl : Addr) (G H : Hp) (as : List Addr) (cs : List Cell) (ks : List (List Key)) (ds : List D) : Prop where
  tr : Tr m0 G1 H1 as1 G H as
  ok : Ok K κ G H as cs
  le : m0 ≤ as.length
  gn : G Dl = none
  an : Dl ∉ as
  h1 : H1 Dl = none
  cur : ∃ vs, H Dl = some (.dT (ks.zip vs)) ∧ ks.length = vs.length ∧ RepAll K κ G vs ds
theorem AccT.step {G1 H1 : Hp} {as1 : List Addr} {Dl : Addr} {ks : List (List Key)} {ds : List D} (hm : m0 ≤ as1.length) (a : AccT K κ m0 G1 H1 as1 Dl G H as cs ks ds) (t : Tr m0 G H as G' H' as') (ok : Ok K κ G' H' as' cs') : AccT K κ m0 G1 H1 as1 Dl G' H' as' cs' ks ds where
  tr := a.tr.trans hm t
  ok := ok
  le := Nat.le_trans a.le t.leng
  gn := by
    obtain ⟨acc, hc, _⟩ := a.cur
    cases z : G' Dl with
    | none => rfl
    | some o =>
      rcases t.new Dl o z with ⟨u, h⟩ | h | h
      · rw [a.gn] at h; cases h
      · rw [hc] at h; cases h
      · exact absurd (List.mem_of_mem_drop h) a.an
  an := fun h => by
    obtain ⟨acc, hc, _⟩ := a.cur
    obtain ⟨u, rfl, hu⟩ := t.pre
    rcases List.mem_append.mp h with h | h
    · exact a.an h
    · have := hu _ h; rw [hc] at this; cases this
  h1 := a.h1
  cur := by
    obtain ⟨acc, hc, l, r⟩ := a.cur
    exact ⟨acc, t.keep _ _ hc a.an, l, r.mono t.ex⟩
theorem AccT.push {G1 H1 : Hp} {as1 : List Addr} {Dl : Addr} {ks : List (List Key)} {ds : List D} {key : List Key} {y : V} {d : D} (a : AccT K κ m0 G1 H1 as1 Dl G H as cs ks ds) (r : Rep K κ G y d) (hk : (ks.any fun z => decide (z = key)) = false) :
    ∃ es, H Dl = some (.dT es) ∧ es.length = ds.length ∧ AccT K κ m0 G1 H1 as1 Dl G (upd H Dl (.dT (putK es key y))) as cs (ks ++ [key]) (ds ++ [d]) := by
  obtain ⟨vs, hc, l, q⟩ := a.cur
  refine ⟨ks.zip vs, hc, by rw [List.length_zip, ← l, Nat.min_self, l, q.length], ⟨a.tr.ex, a.tr.pre, fun b o h n => ?_, a.tr.new, fun b o h => ?_⟩, a.ok.side a.gn a.an ⟨_, hc⟩, a.le, a.gn, a.an, a.h1, vs ++ [y], ?_, by simp [l], q.append (.cons r .nil)⟩
  · rw [upd_ne (fun z : b = Dl => by subst z; rw [a.h1] at h; cases h)]; exact a.tr.keep b o h n
  · by_cases z : b = Dl
    · subst z; exact ⟨_, upd_same⟩
    · rw [upd_ne z]; exact a.tr.liv b o h
  · rw [upd_same, putK_new _ (valV_none hk), List.zip_append l]; rfl
theorem AccT.fin {G1 H1 : Hp} {as1 : List Addr} {Dl : Addr} {ks : List (List Key)} {ds : List D} (a : AccT K κ m0 G1 H1 as1 Dl G H as cs ks ds) : ∃ G', Tr m0 G1 H1 as1 G' H as ∧ Ok K κ G' H as cs ∧ Rep K κ G' (.ref Dl) (.dT ks ds) := by
  obtain ⟨vs, hc, l, q⟩ := a.cur
  refine ⟨upd G Dl (.dT (ks.zip vs)), ⟨a.tr.ex.trans (SameH.new a.gn), a.tr.pre, a.tr.keep, fun b o h => ?_, a.tr.liv⟩, ⟨fun b u q => ?_, a.ok.len, a.ok.nd, a.ok.liv, fun k b c h1 h2 => ?_⟩, .dT upd_same l (q.mono (SameH.new a.gn))⟩
  · by_cases z : b = Dl
    · subst z; exact .inr (.inl a.h1)
    · rw [upd_ne z] at h; exact a.tr.new b o h
  · by_cases z : b = Dl
    · subst z; rw [upd_same] at q; cases q; exact hc
    · rw [upd_ne z] at q; exact a.ok.ex _ _ q
  · have hne : b ≠ Dl := fun e => a.an (e ▸ a.ok.mem_at h1)
    refine (a.ok.cel k b c h1 h2).mono (SameH.new a.gn) (List.prefix_refl _) rfl fun hc => ?_
    rw [upd_ne hne]; exact (a.ok.cel k b c h1 h2).free hc
theorem AccT.new {G1 H1 : Hp} {as1 : List Addr} {Dl : Addr} (ok : Ok K κ G1 H1 as1 cs) (hm : m0 ≤ as1.length) (h : H1 Dl = none) : AccT K κ m0 G1 H1 as1 Dl G1 (upd H1 Dl (.dT [])) as1 cs [] [] :=
  ⟨Tr.newh h, ok.newh h, hm, ok.free h, ok.fresh h, h, [], upd_same, rfl, .nil⟩
def dcD (tg : MG) (mt : MT) (mk mv : ME) (n : Nat) (ρw : Sl) : List D → List (List Key) → List D → List Cell → Option (List (List Key) × List D × List Cell)
  | [], ks, ds, cs => some (ks, ds, cs)
  | d :: r, ks, ds, cs => match tg d ρw with
    | none => none
    | some ρ1 => match mt n ρ1 cs with
      | some (true, cs1) => match mk n ρ1 cs1 with
        | some (.p (.tup xs), cs2) => match mv n ρ1 cs2 with
          | some (.p e, cs3) => match keysOf xs with
            | some key => if (ks.any fun z => decide (z = key)) = false then dcD tg mt mk mv n ρw r (ks ++ [key]) (ds ++ [e]) cs3 else none
            | none => none
          | _ => none
        | _ => none
      | some (false, cs1) => dcD tg mt mk mv n ρw r ks ds cs1
      | none => none
def mDcT (mi : MI) (tg : MG) (mt : MT) (mk mv : ME) (vs : List Nat) : ME := fun n ρ cs => match mi n ρ cs with
  | some (ds, cs1) => if ds.length ≤ 100000 then match dcD tg mt mk mv n (wipeS ρ vs) ds [] [] cs1 with
    | some (ks, es, cs2) => some (.p (.dT ks es), cs2)
    | none => none
    else none
  | none => none
theorem se_dcT {wi : TI} {g : TG} {tt : TT} {tk tv : TE} {vs js : List Nat} {mi : MI} {tg : MG} {mt : MT} {mk mv : ME} (hi : SI K κ wi mi) (hg : SG K κ g tg js) (hj : ∀ j ∈ js, j ∈ vs) (ht : ST K κ tt mt) (hk : SE K κ tk mk) (he : SE K κ tv mv) :
    SE K κ (tDcT wi g tt tk tv vs) (mDcT mi tg mt mk mv vs) := fun m0 ρ cs σ G H as e cs' Q s hm q => by
  unfold mDcT at hm
  split at hm
  · rename_i ds cs1 h1
    split at hm
    · rename_i hlen
      split at hm
      · rename_i ks es cs2 h2
        cases hm
        refine hi m0 ρ cs σ G H as _ _ _ s h1 fun J G1 H1 as1 t1 ok1 gv Dl hD => ?_
        have le1 : m0 ≤ as1.length := Nat.le_trans s.le t1.leng
        have sw := wipe_rep (s.sl.mono t1.ex t1.le) vs
        refine ⟨fun i m H' => m = ds.length - i ∧ i ≤ ds.length ∧ ∃ G' as' ci kk da, AccT K κ m0 G1 H1 as1 Dl G' H' as' ci kk da ∧ da.length ≤ i ∧ dcD tg mt mk mv m0 (wipeS ρ vs) (ds.drop i) kk da ci = some (ks, es, cs'),
          ⟨ds.length, rfl, Nat.zero_le _, G1, as1, cs1, [], [], AccT.new ok1 le1 hD, Nat.le_refl _, h2⟩, ?_⟩
        rintro i m H' ⟨rfl, hi', G', as', ci, kk, da, a, hda, hf⟩
        obtain ⟨gv1, gv2⟩ := gv i G' H' a.tr.ex a.ok.ex
        by_cases hlt : i < ds.length
        · have hd : ds[i]? = some ds[i] := List.getElem?_eq_getElem hlt
          obtain ⟨go, yl⟩ := gv1 _ hd
          rw [List.drop_eq_getElem_cons hlt, dcD] at hf
          split at hf
          · cases hf
          · rename_i ρ1 hρ1
            refine .inr ⟨go, fun H2 => ∃ G' as' ci kk da, AccT K κ m0 G1 H1 as1 Dl G' H2 as' ci kk da ∧ da.length ≤ i + 1 ∧ dcD tg mt mk mv m0 (wipeS ρ vs) (ds.drop (i + 1)) kk da ci = some (ks, es, cs'),
              fun H2 hN => ⟨ds.length - (i + 1), by omega, rfl, hlt, hN⟩, fun x H2 y => ?_⟩
            have key : ∀ G2, Tr m0 G' H' as' G2 H2 as' → Ok K κ G2 H2 as' ci → Rep K κ G2 x ds[i] → g x (wipe σ vs) H2 fun σ2 H3 => wipe σ2 vs = wipe σ vs ∧ tt σ2 H3 fun b H4 => if b = true then tk σ2 H4 fun y H5 => tv σ2 H5 fun z H6 => ∃ ps k c, y = .ref c ∧ H6 c = some (.tup (k.map kV)) ∧ H6 Dl = some (.dT ps) ∧ ps.length < sizeLine ∧
                  ∃ G' as' ci kk da, AccT K κ m0 G1 H1 as1 Dl G' (upd H6 Dl (.dT (putK ps k z))) as' ci kk da ∧ da.length ≤ i + 1 ∧ dcD tg mt mk mv m0 (wipeS ρ vs) (ds.drop (i + 1)) kk da ci = some (ks, es, cs')
                else ∃ G' as' ci kk da, AccT K κ m0 G1 H1 as1 Dl G' H4 as' ci kk da ∧ da.length ≤ i + 1 ∧ dcD tg mt mk mv m0 (wipeS ρ vs) (ds.drop (i + 1)) kk da ci = some (ks, es, cs') := by
              intro G2 t2 ok2 r2
              have a2 := a.step le1 t2 ok2
              refine hg G2 H2 as' (wipe σ vs) (wipeS ρ vs) x ds[i] ρ1 _ ok2.ex (sw.mono a2.tr.ex a2.tr.le) r2 hρ1 fun σ3 s3 l3 k3 => ⟨wipe_eq l3 fun k hk => k3 k fun z => hk (hj k z), ?_⟩
              have st3 : Sta K κ m0 ρ1 ci σ3 G2 H2 as' := ⟨ok2, s3, a2.le⟩
              split at hf
              · rename_i c1 hb
                refine ht m0 ρ1 ci σ3 G2 H2 as' _ _ _ st3 hb fun G3 H3 as3 t3 ok3 => iteT ?_
                have a3 := a2.step le1 t3 ok3
                have st4 := st3.step t3 ok3
                split at hf
                · rename_i xs c2 h4
                  split at hf
                  · rename_i e5 c3 h5
                    split at hf
                    · rename_i kx h6
                      split at hf
                      · rename_i hnew
                        refine hk m0 ρ1 c1 σ3 G3 H3 as3 _ _ _ st4 h4 fun y4 G4 H4 as4 t4 ok4 r4 => ?_
                        refine he m0 ρ1 c2 σ3 G4 H4 as4 _ _ _ (st4.step t4 ok4) h5 fun y5 G5 H5 as5 t5 ok5 r5 => ?_
                        have a5 := (a3.step le1 t4 ok4).step le1 t5 ok5
                        obtain ⟨b, ws, rfl, gb, rb⟩ := Rep.tup_inv (t5.up r4)
                        obtain ⟨ps, hc, hl, a6⟩ := a5.push r5 hnew
                        exact ⟨ps, kx, b, rfl, by rw [← keysOf_rep rb h6]; exact ok5.ex _ _ gb, hc, sz_lt (by omega), G5, as5, c3, _, _, a6, by rw [List.length_append]; simp; omega, hf⟩
                      · cases hf
                    · cases hf
                  · cases hf
                · cases hf
              · rename_i c1 hb
                refine ht m0 ρ1 ci σ3 G2 H2 as' _ _ _ st3 hb fun G3 H3 as3 t3 ok3 => iteF ?_
                exact ⟨G3, as3, c1, kk, da, a2.step le1 t3 ok3, by omega, hf⟩
              · cases hf
            rcases yl x H2 y with ⟨rfl, rx⟩ | ⟨T, o', hT, rfl, rx⟩
            · exact key G' Tr.refl a.ok rx
            · exact key _ (Tr.newp a.ok hT) (a.ok.newp hT) rx
        · have e : i = ds.length := by omega
          subst e
          refine .inl ⟨gv2 rfl, ?_⟩
          rw [List.drop_length, dcD] at hf
          cases hf
          obtain ⟨G9, t9, ok9, r9⟩ := a.fin
          exact q _ G9 H' as' (t1.trans s.le t9) ok9 r9
      · cases hm
    · cases hm
  · cases hm
end
end Fw
set_option maxRecDepth 100000
set_option maxHeartbeats 4000000
namespace Fw
open PySem PySem.Spec PyProof.Rows L2
section
variable {K : PySem.W.Frag} {κ : Nat → Addr} {G G' H H' : Hp} {as as' : List Addr} {m0 : Nat} {ρ : Sl} {cs cs' : List Cell} {σ : L2.St}
/-! ### a comprehension whose list stays a cell: its items may be cells -/
structure AccE (K : PySem.W.Frag) (κ : Nat → Addr) (m0 : Nat) (G1 H1 : Hp) (as1 : List Addr) (Dl : Addr) (G H : Hp) (as : List Addr) (cs : List Cell) (da : List E) : Prop where
  tr : Tr m0 G1 H1 as1 G H as
  ok : Ok K κ G H as cs
  le : m0 ≤ as.length
  gn : G Dl = none
  an : Dl ∉ as
  h1 : H1 Dl = none
  cur : ∃ acc, H Dl = some (.lst acc) ∧ EAll K κ G as acc da
theorem AccE.step {G1 H1 : Hp} {as1 : List Addr} {Dl : Addr} {da : List E} (hm : m0 ≤ as1.length) (a : AccE K κ m0 G1 H1 as1 Dl G H as cs da) (t : Tr m0 G H as G' H' as') (ok : Ok K κ G' H' as' cs') : AccE K κ m0 G1 H1 as1 Dl G' H' as' cs' da where
  tr := a.tr.trans hm t
  ok := ok
  le := Nat.le_trans a.le t.leng
  gn := by
    obtain ⟨acc, hc, _⟩ := a.cur
    cases z : G' Dl with
    | none => rfl
    | some o =>
      rcases t.new Dl o z with ⟨u, h⟩ | h | h
      · rw [a.gn] at h; cases h
      · rw [hc] at h; cases h
      · exact absurd (List.mem_of_mem_drop h) a.an
  an := fun h => by
    obtain ⟨acc, hc, _⟩ := a.cur
    obtain ⟨u, rfl, hu⟩ := t.pre
    rcases List.mem_append.mp h with h | h
    · exact a.an h
    · have := hu _ h; rw [hc] at this; cases this
  h1 := a.h1
  cur := by
    obtain ⟨acc, hc, r⟩ := a.cur
    exact ⟨acc, t.keep _ _ hc a.an, t.ups r⟩
theorem AccE.push {G1 H1 : Hp} {as1 : List Addr} {Dl : Addr} {da : List E} {y : V} {d : E} (a : AccE K κ m0 G1 H1 as1 Dl G H as cs da) (r : ERep K κ G as y d) :
    ∃ acc, H Dl = some (.lst acc) ∧ acc.length = da.length ∧ AccE K κ m0 G1 H1 as1 Dl G (upd H Dl (.lst (acc ++ [y]))) as cs (da ++ [d]) := by
  obtain ⟨acc, hc, q⟩ := a.cur
  refine ⟨acc, hc, q.length, ⟨a.tr.ex, a.tr.pre, fun b o h n => ?_, a.tr.new, fun b o h => ?_⟩, a.ok.side a.gn a.an ⟨_, hc⟩, a.le, a.gn, a.an, a.h1, _, upd_same, q.append (.cons r .nil)⟩
  · rw [upd_ne (fun z : b = Dl => by subst z; rw [a.h1] at h; cases h)]; exact a.tr.keep b o h n
  · by_cases z : b = Dl
    · subst z; exact ⟨_, upd_same⟩
    · rw [upd_ne z]; exact a.tr.liv b o h
theorem AccE.fin {G1 H1 : Hp} {as1 : List Addr} {Dl : Addr} {da : List E} (a : AccE K κ m0 G1 H1 as1 Dl G H as cs da) :
    Tr m0 G1 H1 as1 G H (as ++ [Dl]) ∧ Ok K κ G H (as ++ [Dl]) (cs ++ [.lst da]) ∧ ERep K κ G (as ++ [Dl]) (.ref Dl) (.c cs.length) := by
  obtain ⟨acc, hc, r⟩ := a.cur
  refine ⟨⟨a.tr.ex, ?_, a.tr.keep, a.tr.new, a.tr.liv⟩, ⟨a.ok.ex, by simp [a.ok.len], ?_, fun b h => ?_, fun k b c h1 h2 => ?_⟩, Dl, ?_, rfl⟩
  · obtain ⟨t, rfl, ht⟩ := a.tr.pre
    refine ⟨t ++ [Dl], by simp, fun b hb => ?_⟩
    rcases List.mem_append.mp hb with hb | hb
    · exact ht b hb
    · rw [List.mem_singleton] at hb; subst hb; exact a.h1
  · rw [List.nodup_append]
    refine ⟨a.ok.nd, by simp, fun b h c hc' e => ?_⟩
    rw [List.mem_singleton] at hc'
    subst hc'; subst e
    exact a.an h
  · rcases List.mem_append.mp h with h | h
    · exact a.ok.liv b h
    · rw [List.mem_singleton] at h; subst h; exact ⟨_, hc⟩
  · by_cases hk : k < as.length
    · rw [List.getElem?_append_left hk] at h1
      rw [List.getElem?_append_left (a.ok.len ▸ hk)] at h2
      exact (a.ok.cel k b c h1 h2).mono (SameH.refl _) ⟨[Dl], rfl⟩ rfl fun hc => (a.ok.cel k b c h1 h2).free hc
    · have hl := (List.getElem?_eq_some_iff.mp h1).1
      rw [List.length_append] at hl
      have e : k = as.length := by simp at hl; omega
      subst e
      rw [List.getElem?_append_right (Nat.le_refl _), Nat.sub_self] at h1
      rw [a.ok.len, List.getElem?_append_right (Nat.le_refl _), Nat.sub_self] at h2
      simp at h1 h2
      subst h1; subst h2
      exact ⟨a.gn, acc, hc, r.mono (SameH.refl _) ⟨[Dl], rfl⟩⟩
  · rw [← a.ok.len, List.getElem?_append_right (Nat.le_refl _), Nat.sub_self]; rfl
theorem AccE.new {G1 H1 : Hp} {as1 : List Addr} {Dl : Addr} (ok : Ok K κ G1 H1 as1 cs) (hm : m0 ≤ as1.length) (h : H1 Dl = none) : AccE K κ m0 G1 H1 as1 Dl G1 (upd H1 Dl (.lst [])) as1 cs [] :=
  ⟨Tr.newh h, ok.newh h, hm, ok.free h, ok.fresh h, h, [], upd_same, .nil⟩
def lcE (tg : MG) (mt : MT) (me : ME) (n : Nat) (ρw : Sl) : List D → List Cell → Option (List E × List Cell)
  | [], cs => some ([], cs)
  | d :: ds, cs => match tg d ρw with
    | none => none
    | some ρ1 => match mt n ρ1 cs with
      | some (true, cs1) => match me n ρ1 cs1 with
        | some (e, cs2) => match lcE tg mt me n ρw ds cs2 with
          | some (es, cs3) => some (e :: es, cs3)
          | none => none
        | none => none
      | some (false, cs1) => lcE tg mt me n ρw ds cs1
      | none => none
def mLcE (mi : MI) (tg : MG) (mt : MT) (me : ME) (vs : List Nat) : ME := fun n ρ cs => match mi n ρ cs with
  | some (ds, cs1) => if ds.length ≤ 100000 then match lcE tg mt me n (wipeS ρ vs) ds cs1 with
    | some (es, cs2) => some (.c cs2.length, cs2 ++ [.lst es])
    | none => none
    else none
  | none => none
theorem se_lcE {wi : TI} {g : TG} {tt : TT} {te : TE} {vs js : List Nat} {mi : MI} {tg : MG} {mt : MT} {me : ME} (hi : SI K κ wi mi) (hg : SG K κ g tg js) (hj : ∀ j ∈ js, j ∈ vs) (ht : ST K κ tt mt) (he : SE K κ te me) :
    SE K κ (tLc wi g tt te vs) (mLcE mi tg mt me vs) := fun m0 ρ cs σ G H as e cs' Q s hm q => by
  unfold mLcE at hm
  split at hm
  · rename_i ds cs1 h1
    split at hm
    · rename_i hlen
      split at hm
      · rename_i es cs2 h2
        cases hm
        refine hi m0 ρ cs σ G H as _ _ _ s h1 fun J G1 H1 as1 t1 ok1 gv Dl hD => ?_
        have le1 : m0 ≤ as1.length := Nat.le_trans s.le t1.leng
        have sw := wipe_rep (s.sl.mono t1.ex t1.le) vs
        refine ⟨fun i m H' => m = ds.length - i ∧ i ≤ ds.length ∧ ∃ G' as' ci da es', AccE K κ m0 G1 H1 as1 Dl G' H' as' ci da ∧ da.length ≤ i ∧ lcE tg mt me m0 (wipeS ρ vs) (ds.drop i) ci = some (es', cs2) ∧ da ++ es' = es,
          ⟨ds.length, rfl, Nat.zero_le _, G1, as1, cs1, [], es, AccE.new ok1 le1 hD, Nat.le_refl _, h2, rfl⟩, ?_⟩
        rintro i m H' ⟨rfl, hi', G', as', ci, da, es', a, hda, hf, hes⟩
        obtain ⟨gv1, gv2⟩ := gv i G' H' a.tr.ex a.ok.ex
        by_cases hlt : i < ds.length
        · have hd : ds[i]? = some ds[i] := List.getElem?_eq_getElem hlt
          obtain ⟨go, yl⟩ := gv1 _ hd
          rw [List.drop_eq_getElem_cons hlt, lcE] at hf
          split at hf
          · cases hf
          · rename_i ρ1 hρ1
            refine .inr ⟨go, fun H2 => ∃ G' as' ci da es', AccE K κ m0 G1 H1 as1 Dl G' H2 as' ci da ∧ da.length ≤ i + 1 ∧ lcE tg mt me m0 (wipeS ρ vs) (ds.drop (i + 1)) ci = some (es', cs2) ∧ da ++ es' = es,
              fun H2 hN => ⟨ds.length - (i + 1), by omega, rfl, hlt, hN⟩, fun x H2 y => ?_⟩
            have key : ∀ G2, Tr m0 G' H' as' G2 H2 as' → Ok K κ G2 H2 as' ci → Rep K κ G2 x ds[i] → g x (wipe σ vs) H2 fun σ2 H3 => wipe σ2 vs = wipe σ vs ∧ tt σ2 H3 fun b H4 => if b = true then te σ2 H4 fun y H5 => ∃ acc, H5 Dl = some (.lst acc) ∧ acc.length < sizeLine ∧ ∃ G' as' ci da es', AccE K κ m0 G1 H1 as1 Dl G' (upd H5 Dl (.lst (acc ++ [y]))) as' ci da ∧ da.length ≤ i + 1 ∧ lcE tg mt me m0 (wipeS ρ vs) (ds.drop (i + 1)) ci = some (es', cs2) ∧ da ++ es' = es
                else ∃ G' as' ci da es', AccE K κ m0 G1 H1 as1 Dl G' H4 as' ci da ∧ da.length ≤ i + 1 ∧ lcE tg mt me m0 (wipeS ρ vs) (ds.drop (i + 1)) ci = some (es', cs2) ∧ da ++ es' = es := by
              intro G2 t2 ok2 r2
              have a2 := a.step le1 t2 ok2
              refine hg G2 H2 as' (wipe σ vs) (wipeS ρ vs) x ds[i] ρ1 _ ok2.ex (sw.mono a2.tr.ex a2.tr.le) r2 hρ1 fun σ3 s3 l3 k3 => ⟨wipe_eq l3 fun k hk => k3 k fun z => hk (hj k z), ?_⟩
              have st3 : Sta K κ m0 ρ1 ci σ3 G2 H2 as' := ⟨ok2, s3, a2.le⟩
              split at hf
              · rename_i c1 hb
                refine ht m0 ρ1 ci σ3 G2 H2 as' _ _ _ st3 hb fun G3 H3 as3 t3 ok3 => iteT ?_
                have a3 := a2.step le1 t3 ok3
                split at hf
                · rename_i e4 c4 h4
                  split at hf
                  · rename_i es5 c5 h5
                    cases hf
                    refine he m0 ρ1 c1 σ3 G3 H3 as3 _ _ _ (st3.step t3 ok3) h4 fun y4 G4 H4 as4 t4 ok4 r4 => ?_
                    obtain ⟨acc, hc, hl, a5⟩ := (a3.step le1 t4 ok4).push r4
                    exact ⟨acc, hc, sz_lt (by omega), G4, as4, c4, _, es5, a5, by rw [List.length_append]; simp; omega, h5, by rw [List.append_assoc]; exact hes⟩
                  · cases hf
                · cases hf
              · rename_i c1 hb
                refine ht m0 ρ1 ci σ3 G2 H2 as' _ _ _ st3 hb fun G3 H3 as3 t3 ok3 => iteF ?_
                exact ⟨G3, as3, c1, da, es', a2.step le1 t3 ok3, by omega, hf, hes⟩
              · cases hf
            rcases yl x H2 y with ⟨rfl, rx⟩ | ⟨T, o', hT, rfl, rx⟩
            · exact key G' Tr.refl a.ok rx
            · exact key _ (Tr.newp a.ok hT) (a.ok.newp hT) rx
        · have e : i = ds.length := by omega
          subst e
          refine .inl ⟨gv2 rfl, ?_⟩
          rw [List.drop_length, lcE] at hf
          cases hf
          rw [List.append_nil] at hes
          subst hes
          obtain ⟨t9, ok9, r9⟩ := a.fin
          exact q _ G' H' _ (t1.trans s.le t9) ok9 r9
      · cases hm
    · cases hm
  · cases hm
end
end Fw
set_option maxRecDepth 100000
set_option maxHeartbeats 4000000
namespace Fw
open PySem PySem.Spec PyProof.Rows L2
section
variable {K : PySem.W.Frag} {κ : Nat → Addr} {G G' H H' : Hp} {as as' : List Addr} {m0 : Nat} {ρ : Sl} {cs cs' : List Cell} {σ : L2.St} {X : Cx}
/-! ### isinstance of built-in classes, is None, code that no run reaches -/
def D.tyn : D → Option String
  | .non => some "NoneType" | .bl _ => some "bool" | .int _ => some "int" | .str _ => some "str"
  | .lst _ => some "list" | .tup _ => some "tuple" | .dT _ _ => some "dict" | .dK _ _ => some "dict"
  | _ => none
def isiR (a b : String) : Bool := a == b || (a == "bool" && b == "int")
def isiKnown (b : String) : Bool := ["bool", "int", "str", "list", "tuple", "dict"].contains b
theorem isi_tab : ∀ a ∈ ["NoneType", "bool", "int", "str", "list", "tuple", "dict"], ∀ b ∈ ["bool", "int", "str", "list", "tuple", "dict"], kitB a b = some (isiR a b) := by decide +kernel
def fIsi (T : String) (d : D) : Option D := if isiKnown T = true then d.tyn.map fun a => .bl (isiR a T) else none
theorem D.tyn_mem {d : D} {a : String} (h : d.tyn = some a) : a ∈ ["NoneType", "bool", "int", "str", "list", "tuple", "dict"] := by
  cases d <;> first | (cases h; decide) | cases h
theorem Rep.tyx (e : SameH G H) {v : V} {d : D} {a : String} (r : Rep K κ G v d) (h : d.tyn = some a) : TyX K H v (.type a) := by
  cases r with
  | non => cases h; exact .base .non
  | bl b => cases h; exact .base (.bl b)
  | int i => cases h; exact .base (.int i)
  | str x => cases h; exact .base (.str x)
  | lst g _ => cases h; exact .base (.lst (e _ _ g))
  | tup g _ => cases h; exact .base (.tup (e _ _ g))
  | fls _ _ => cases h
  | dT g _ _ => cases h; exact .base (.dT (e _ _ g))
  | dK g _ _ => cases h; exact .base (.dK (e _ _ g))
  | obj _ _ _ => cases h
theorem se_isi {T : String} {te : TE} {me : ME} (he : SE K κ te me) : SE K κ (tCB (rIsi K) (tCons te (tCons (tC (.ty T)) tNil))) (mUn (fIsi T) me) := fun m0 ρ cs σ G H as e cs' Q s hm q => by
  unfold mUn mBind at hm
  dsimp only at hm
  split at hm
  · rename_i x cs1 h1
    split at hm
    · rename_i a
      rw [Option.map_eq_some_iff] at hm
      obtain ⟨d, hd, e0⟩ := hm
      cases e0
      unfold fIsi at hd
      split at hd
      · rename_i hk
        rw [Option.map_eq_some_iff] at hd
        obtain ⟨t, ht, e0⟩ := hd
        cases e0
        refine he m0 ρ cs σ G H as _ _ _ s h1 fun vx G1 H1 as1 t1 ok1 r1 => ?_
        refine ⟨vx, .ty T, .type t, .type T, isiR t T, rfl, .ty T, Rep.tyx ok1.ex r1 ht, kit_ty (isi_tab _ (D.tyn_mem ht) _ ?_), q _ G1 H1 as1 (t1) ok1 (.bl _)⟩
        unfold isiKnown at hk
        exact List.contains_iff_mem.mp hk
      · cases hd
    · cases hm
  · cases hm
def D.isNon : D → Bool
  | .non => true
  | _ => false
theorem Rep.non_iff {v : V} {d : D} (r : Rep K κ G v d) : decide (v = V.non) = d.isNon := by
  cases r with
  | non => rfl
  | bl b => exact decide_eq_false (by intro z; cases z)
  | int i => exact decide_eq_false (by intro z; cases z)
  | str x => exact decide_eq_false (by intro z; cases z)
  | lst g _ => exact decide_eq_false (by intro z; cases z)
  | tup g _ => exact decide_eq_false (by intro z; cases z)
  | fls _ _ => exact decide_eq_false (by intro z; cases z)
  | dT g _ _ => exact decide_eq_false (by intro z; cases z)
  | dK g _ _ => exact decide_eq_false (by intro z; cases z)
  | obj _ _ _ => exact decide_eq_false (by intro z; cases z)
def fIsN (neg : Bool) (a b : D) : Option D := match b with
  | .non => some (.bl (if neg then !a.isNon else a.isNon))
  | _ => none
theorem r2_isN : R2ok K κ (fun x y H Q => y = .non ∧ Q (.bl (decide (x = .non))) H) (fIsN false) := fun G H x y dx dy d Q e rx ry hf q => by
  unfold fIsN at hf
  split at hf
  · cases hf
    cases ry
    exact ⟨rfl, by rw [Rep.non_iff rx]; exact q.1 _ (.bl _)⟩
  · cases hf
theorem r2_notN : R2ok K κ (fun x y H Q => y = .non ∧ Q (.bl (!decide (x = .non))) H) (fIsN true) := fun G H x y dx dy d Q e rx ry hf q => by
  unfold fIsN at hf
  split at hf
  · cases hf
    cases ry
    exact ⟨rfl, by rw [Rep.non_iff rx]; exact q.1 _ (.bl _)⟩
  · cases hf
theorem pe_dead {e : Expr} : PE X e (fun _ _ _ => False) := ⟨fun _ _ _ _ _ _ h => h.elim⟩
def mDead : ME := fun _ _ _ => none
theorem se_dead {te : TE} : SE K κ te mDead := fun _ _ _ _ _ _ _ _ _ _ _ h => by cases h
end
end Fw
set_option maxRecDepth 100000
set_option maxHeartbeats 4000000
namespace Fw
open PySem PySem.Spec PyProof.Rows L2
/-! ### the module's facts, and the end -/
/-- a def of the module as the walk wants it -/
structure DefAt (K : PySem.W.Frag) (mg : Str → Option Value) (x : Str) (st : Stmt) (ps : List Str) where
  f : Addr
  fd : FuncData
  F : Fun K x x st f fd
  b : Binds K fd ps []
  g : mg x = some (.ref f)
  bt : ∀ (s : Shared) (us : List Value), us.length = ps.length → BindsTo s fd ⟨us, []⟩ (ps.zip us)
/-- a method of the class at C -/
structure MetAt (K : PySem.W.Frag) (C : Addr) (m qual : Str) (st : Stmt) (ps : List Str) where
  f : Addr
  fd : FuncData
  F : Fun K m qual st f fd
  b : Binds K fd ps []
  M : Meth K C m f
section
variable {K : PySem.W.Frag} {mg : Str → Option Value} {h : Heap}
def mkDef (X : K.In h) (G : h.Ns mainGlobals mg) {x : Str} {st : Stmt} {ps : List Str} {f : Addr} {oc : Value} {od an : Option Addr} {osl : Array (Option Value)} {kV doc pm cdv ct : Value} (a : PySem.W.nsIn K mainGlobals x = some (some (.ref f)))
    (l : K.lookup f = some ⟨oc, od, .func (PySem.W.fnOf x x (defArgs st) (defBody st) (defScope st) .none kV doc pm an cdv ct), osl⟩) (c : PySem.W.codeIn K cdv x = true) (k : PySem.W.keepIn K (.ref f) = true)
    (b : ∀ (kV doc pm : Value) (an : Option Addr) (cdv ct : Value) (us : List Value), us.length = ps.length → bindArgs (PySem.W.fnOf x x (defArgs st) (defBody st) (defScope st) .none kV doc pm an cdv ct) ⟨us, []⟩ = pure (ps.zip us)) : DefAt K mg x st ps :=
  ⟨f, _, fun_mk l c k, (fun_mk l c k).binds b, PySem.W.mg_of X G a, fun s us hl => .of_eq (b _ _ _ _ _ _ us hl)⟩
abbrev kOf (_ : K.In h) : PySem.W.Frag := K
theorem mkG (X : K.In h) (G : h.Ns mainGlobals mg) {x : Str} {C : Addr} (a : PySem.W.nsIn K mainGlobals x = some (some (.ref C))) : mg x = some (.ref C) := PySem.W.mg_of X G a
theorem mkN (X : K.In h) (G : h.Ns mainGlobals mg) {x : Str} (a : PySem.W.nsIn K mainGlobals x = some none) : mg x = none := PySem.W.mg_none_of X G a
theorem mkCls (_ : K.In h) {x : Str} {C : Addr} (_ : mg x = some (.ref C)) (pg : PySem.W.plainGet K C Str.empty = true) (hd : PySem.W.hasDictIn K C = true) (po : PySem.W.plainOver K C = true) (sa : PySem.W.findIn K (.ref C) "__setattr__" = some (some (.builtin "object.__setattr__"))) : Cls K C := ⟨pg, hd, po, sa⟩
theorem mkNo (_ : K.In h) {x f : Str} {C : Addr} (_ : mg x = some (.ref C)) (a : PySem.W.findIn K (.ref C) f = some none) : NoAttr K C f := a
theorem mkMk (_ : K.In h) {x : Str} {C f : Addr} (_ : mg x = some (.ref C)) (M : Meth K C "__init__" f) (a : PySem.W.makesIn K C = true) (b : PySem.W.keepIn K (.ref C) = true) : Mk K C f := ⟨a, M.at_, M.fn, b⟩
def mkMet (_ : K.In h) {x : Str} {C : Addr} (_ : mg x = some (.ref C)) {m qual : Str} {st : Stmt} {ps : List Str} {f : Addr} {oc : Value} {od an : Option Addr} {osl : Array (Option Value)} {kV doc pm cdv ct : Value} (a : PySem.W.findIn K (.ref C) m = some (some (.ref f))) (i : PySem.W.isFn K (.ref f) = true)
    (l : K.lookup f = some ⟨oc, od, .func (PySem.W.fnOf m qual (defArgs st) (defBody st) (defScope st) .none kV doc pm an cdv ct), osl⟩) (c : PySem.W.codeIn K cdv qual = true) (k : PySem.W.keepIn K (.ref f) = true)
    (b : ∀ (kV doc pm : Value) (an : Option Addr) (cdv ct : Value) (us : List Value), us.length = ps.length → bindArgs (PySem.W.fnOf m qual (defArgs st) (defBody st) (defScope st) .none kV doc pm an cdv ct) ⟨us, []⟩ = pure (ps.zip us)) : MetAt K C m qual st ps :=
  ⟨f, _, fun_mk l c k, (fun_mk l c k).binds b, ⟨a, i, k⟩⟩
theorem mkTab (_ : K.In h) {x0 : Str} {w : World} {aL : Addr} (_ : mg x0 = some (.ref aL)) {es : Array DictEntry} {n : Nat} {x : Str} {i : Int} {t : Tok} (l : K.lookup aL = some ⟨.type "dict", none, .dict es n, #[]⟩) (kl : PySem.W.KeysLit w.params es.toList) (e : PySem.W.nsIn K aL x = some (some (.int i t))) : KDct K w aL x (.int i) :=
  ⟨es, n, _, l, kl, e, ⟨t, rfl⟩⟩
/-- law's promise: a list of at most 63 ints is handed in, True comes out -/
def spLaw (K : PySem.W.Frag) : Sp := fun vs H Q _ => ∃ (a : Addr) (ns : List Int), vs = [.ref a] ∧ SqL K H a (ns.map V.int) ∧ ns.length ≤ 63 ∧ ∀ H', Q (.bl true) H'
theorem rep_ints {κ : Nat → Addr} {G : Hp} : ∀ ns : List Int, RepAll K κ G (ns.map V.int) (ns.map D.int)
  | [] => .nil
  | n :: ns => .cons (.int n) (rep_ints ns)
theorem ok_nil {κ : Nat → Addr} {H : Hp} : Ok K κ H H [] [] := ⟨SameH.refl _, rfl, .nil, fun _ h => (nomatch h), fun k a c h => by simp at h⟩
theorem sp_lawM {κ : Nat → Addr} {F : List E → List Cell → Option (E × List Cell)} (hF : ∀ ns : List Int, ns.length ≤ 63 → ∃ cs', F [.p (.fls (ns.map D.int))] [] = some (.p (.bl true), cs')) (vs : List V) (H : Hp) (Q : VK) (E : XK) (s : spLaw K vs H Q E) : spM K κ F vs H Q E := by
  obtain ⟨a, ns, rfl, hs, hl, q⟩ := s
  obtain ⟨cs', hf⟩ := hF ns hl
  refine ⟨H, [], [], [.p (.fls (ns.map D.int))], _, cs', ok_nil, .cons (.fls hs (rep_ints ns)) .nil, hf, fun v G' H' as' _ _ r => ?_⟩
  rw [Rep.bl_inv r]; exact q H'
theorem walk {l : PySem.W.OpenLaw} {q : Program} {loose : List Str} {XP : (Str → Option Value) → Heap → Prop} {YP : World → Heap → Prop} {d : DefRec} {K : Params → PySem.W.Frag} (k : Nat) (hr : Room k callerA) (hn : l.most = some 63) (hdf : d.params.defaults = [])
    (hY : ∀ (w : World) (h : Heap), YP w h → (K w.params).In h)
    (F : ∀ (w : World) (mg : Str → Option Value) (fa : Addr) (h : Heap), (K w.params).In h → h.Ns mainGlobals mg → mg d.name = some (.ref fa) →
      ∃ fd : FuncData, (∀ (s : Shared) (u : Value), BindsTo s fd ⟨[u], []⟩ [("script", u)]) ∧ ∀ base : Heap, (K w.params).In base → base.Ns mainGlobals mg → FnOk l.prog w (K w.params) mg base CX0 k fa fd ["script"] (spLaw (K w.params))) :
    PySem.W.WalkO q loose XP YP l.row.toRowW d [] (fun f vs => PySem.call f vs) :=
  L2.walk_of (n := 63) (k := k) (x := "script") (CX := fun _ => CX0) (sp := fun w => spLaw (K w.params)) hn (by decide) hdf hr hY F (fun _ _ a ns hl _ hS => ⟨a, ns, rfl, hS, hl, fun _ => rfl⟩) fun _ _ _ _ _ z => z
end
end Fw
set_option maxRecDepth 100000
set_option maxHeartbeats 4000000
namespace Fw
open PySem PySem.Spec PyProof.Rows L2
def tab_LIMITS (x : Str) : Option Int :=
  if x = "beats" then some 60 else
  if x = "spans" then some 80 else
  if x = "hall" then some 5 else
  if x = "values" then some 4 else
  none
theorem tab_LIMITS_ok {K : PySem.W.Frag} {w : World} {aL : Addr} (h0 : KDct K w aL "hall" (.int 5)) (h1 : KDct K w aL "values" (.int 4)) (h2 : KDct K w aL "beats" (.int 60)) (h3 : KDct K w aL "spans" (.int 80)) {x : Str} {n : Int} (hx : tab_LIMITS x = some n) : KDct K w aL x (.int n) := by
  unfold tab_LIMITS at hx
  split at hx
  · rename_i e; subst e; cases hx; exact h2
  split at hx
  · rename_i e; subst e; cases hx; exact h3
  split at hx
  · rename_i e; subst e; cases hx; exact h0
  split at hx
  · rename_i e; subst e; cases hx; exact h1
  cases hx
def topS (i : Nat) : Stmt := PySem.Challenge.pw_clearonce_k80_whole_questions_with_known.main.body.getD i (.Pass ⟨0, 0, 0, 0⟩)
abbrev s_side_of : Stmt := topS 2
abbrev s_rows_of : Stmt := topS 3
abbrev s_whole_row : Stmt := topS 4
abbrev s_split_hills : Stmt := topS 5
abbrev s_class_list : Stmt := topS 6
abbrev s_check : Stmt := topS 14
abbrev s_check_each : Stmt := topS 15
abbrev s_children_of : Stmt := topS 17
abbrev s_sorted_spans : Stmt := topS 24
abbrev s_least_ends : Stmt := topS 27
abbrev s_end_from : Stmt := topS 28
abbrev s_pick_ends : Stmt := topS 29
abbrev s_latest_beginning : Stmt := topS 30
abbrev s_pick_spans : Stmt := topS 31
abbrev s_Promise___init__ : Stmt := inClass (topS 33) 0
abbrev s_Promise_last : Stmt := inClass (topS 33) 1
abbrev s_Promise_picks : Stmt := inClass (topS 33) 5
abbrev s_are_hills : Stmt := topS 19
abbrev s_are_sessions : Stmt := topS 20
abbrev s_are_answers : Stmt := topS 21
abbrev s_Question___init__ : Stmt := inClass (topS 22) 0
abbrev s_Question_hills : Stmt := inClass (topS 22) 1
abbrev s_Question_classes : Stmt := inClass (topS 22) 2
abbrev s_Question_session_picks : Stmt := inClass (topS 22) 3
abbrev s_Question_needs : Stmt := inClass (topS 22) 4
abbrev s_Question_answered : Stmt := inClass (topS 22) 5
abbrev s__law_children : Stmt := topS 35
abbrev s__law_side : Stmt := topS 36
abbrev s__law_rows_of : Stmt := topS 37
abbrev s__law_needs : Stmt := topS 38
abbrev s__law_purse : Stmt := topS 39
abbrev s__law_draw : Stmt := topS 40
abbrev s__law_mix : Stmt := topS 41
abbrev s__law_matches : Stmt := topS 42
abbrev s__law_windows : Stmt := topS 43
abbrev s__law_drawn_sizes : Stmt := topS 44
abbrev s__law_key : Stmt := topS 45
abbrev s__law_formula : Stmt := topS 46
abbrev s__law_table : Stmt := topS 47
abbrev s__law_lengths : Stmt := topS 48
abbrev s__law_made : Stmt := topS 49
abbrev s__law_classes_hold : Stmt := topS 50
abbrev s__law_exact : Stmt := topS 51
abbrev s_law : Stmt := topS 52
structure Top (K : PySem.W.Frag) (mg : Str → Option Value) (w : World) where
  c_Promise : Addr
  c_Question : Addr
  cls_Promise : Cls K c_Promise
  g_Promise : mg "Promise" = some (.ref c_Promise)
  no_Promise_day_number : NoAttr K c_Promise "day_number"
  no_Promise_span_list : NoAttr K c_Promise "span_list"
  no_Promise_end_table : NoAttr K c_Promise "end_table"
  cls_Question : Cls K c_Question
  g_Question : mg "Question" = some (.ref c_Question)
  no_Question_parent_list : NoAttr K c_Question "parent_list"
  no_Question_size_list : NoAttr K c_Question "size_list"
  no_Question_session_list : NoAttr K c_Question "session_list"
  no_Question_promise_list : NoAttr K c_Question "promise_list"
  no_Question_child_table : NoAttr K c_Question "child_table"
  no_Question_answer_table : NoAttr K c_Question "answer_table"
  no_Question_group_table : NoAttr K c_Question "group_table"
  d_side_of : DefAt K mg "side_of" s_side_of ["parents", "v"]
  d_rows_of : DefAt K mg "rows_of" s_rows_of ["sizes"]
  d_whole_row : DefAt K mg "whole_row" s_whole_row ["many", "side", "row", "others", "rest"]
  d_split_hills : DefAt K mg "split_hills" s_split_hills ["parents", "v"]
  d_class_list : DefAt K mg "class_list" s_class_list ["parents", "sizes", "table", "v"]
  d_check : DefAt K mg "check" s_check ["what", "number"]
  d_check_each : DefAt K mg "check_each" s_check_each ["what", "numbers"]
  d_children_of : DefAt K mg "children_of" s_children_of ["parents"]
  d_sorted_spans : DefAt K mg "sorted_spans" s_sorted_spans ["spans"]
  d_least_ends : DefAt K mg "least_ends" s_least_ends ["last", "spans"]
  d_end_from : DefAt K mg "end_from" s_end_from ["ends", "start"]
  d_pick_ends : DefAt K mg "pick_ends" s_pick_ends ["ends", "s", "t"]
  d_latest_beginning : DefAt K mg "latest_beginning" s_latest_beginning ["spans", "start", "end"]
  d_pick_spans : DefAt K mg "pick_spans" s_pick_spans ["spans", "ends", "s", "t"]
  m_Promise___init__ : MetAt K c_Promise "__init__" "Promise.__init__" s_Promise___init__ ["self", "last", "spans"]
  m_Promise_last : MetAt K c_Promise "last" "Promise.last" s_Promise_last ["self"]
  m_Promise_picks : MetAt K c_Promise "picks" "Promise.picks" s_Promise_picks ["self", "s", "t"]
  d_are_hills : DefAt K mg "are_hills" s_are_hills ["parents", "values", "sessions", "promises"]
  d_are_sessions : DefAt K mg "are_sessions" s_are_sessions ["parents", "sessions", "last"]
  d_are_answers : DefAt K mg "are_answers" s_are_answers ["sizes", "answers"]
  m_Question___init__ : MetAt K c_Question "__init__" "Question.__init__" s_Question___init__ ["self", "parents", "values", "sessions", "promises", "answers"]
  m_Question_hills : MetAt K c_Question "hills" "Question.hills" s_Question_hills ["self"]
  m_Question_classes : MetAt K c_Question "classes" "Question.classes" s_Question_classes ["self", "v"]
  m_Question_session_picks : MetAt K c_Question "session_picks" "Question.session_picks" s_Question_session_picks ["self", "v"]
  m_Question_needs : MetAt K c_Question "needs" "Question.needs" s_Question_needs ["self", "v", "q"]
  m_Question_answered : MetAt K c_Question "answered" "Question.answered" s_Question_answered ["self", "q"]
  d__law_children : DefAt K mg "_law_children" s__law_children ["parents", "v"]
  d__law_side : DefAt K mg "_law_side" s__law_side ["parents", "v"]
  d__law_rows_of : DefAt K mg "_law_rows_of" s__law_rows_of ["sizes"]
  d__law_needs : DefAt K mg "_law_needs" s__law_needs ["many", "q"]
  d__law_purse : DefAt K mg "_law_purse" s__law_purse ["script", "at"]
  d__law_draw : DefAt K mg "_law_draw" s__law_draw ["purse", "many"]
  d__law_mix : DefAt K mg "_law_mix" s__law_mix ["purse", "things"]
  d__law_matches : DefAt K mg "_law_matches" s__law_matches ["answer", "due"]
  d__law_windows : DefAt K mg "_law_windows" s__law_windows ["n", "a"]
  d__law_drawn_sizes : DefAt K mg "_law_drawn_sizes" s__law_drawn_sizes ["purse", "many"]
  d__law_key : DefAt K mg "_law_key" s__law_key ["kind", "hill", "side", "row"]
  d__law_formula : DefAt K mg "_law_formula" s__law_formula ["kind", "hill", "side", "sizes"]
  d__law_table : DefAt K mg "_law_table" s__law_table ["kind", "hill", "sizes"]
  d__law_lengths : DefAt K mg "_law_lengths" s__law_lengths ["parents", "lengths"]
  d__law_made : DefAt K mg "_law_made" s__law_made ["parents", "sizes", "lengths", "table"]
  d__law_classes_hold : DefAt K mg "_law_classes_hold" s__law_classes_hold ["made", "kind", "hill", "parents", "sizes"]
  d__law_exact : DefAt K mg "_law_exact" s__law_exact ["purse", "q", "kind", "hill", "parents", "sizes", "table"]
  d_law : DefAt K mg "law" s_law ["script"]
  mk_Promise : Mk K c_Promise m_Promise___init__.f
  mk_Question : Mk K c_Question m_Question___init__.f
  a_LIMITS : Addr
  g_LIMITS : mg "LIMITS" = some (.ref a_LIMITS)
  k_LIMITS : ∀ x n, tab_LIMITS x = some n → KDct K w a_LIMITS x (.int n)
  n_abs : mg "abs" = none
  n_bool : mg "bool" = none
  n_enumerate : mg "enumerate" = none
  n_int : mg "int" = none
  n_isinstance : mg "isinstance" = none
  n_len : mg "len" = none
  n_list : mg "list" = none
  n_max : mg "max" = none
  n_min : mg "min" = none
  n_range : mg "range" = none
  n_set : mg "set" = none
  n_sorted : mg "sorted" = none
  n_str : mg "str" = none
  n_sum : mg "sum" = none
  n_tuple : mg "tuple" = none
  n_zip : mg "zip" = none
def Top.κ {K : PySem.W.Frag} {mg : Str → Option Value} {w : World} (T : Top K mg w) : Nat → Addr
  | 0 => T.c_Promise
  | 1 => T.c_Question
  | _ => 0
section
variable {P : Program} {w : World} {K : PySem.W.Frag} {mg : Str → Option Value} {base : Heap}
theorem sc_side_of : FnScope ["parents", "v", "inside", "hill"] ["parents", "v"] (defScope s_side_of) := ⟨rfl, rfl, rfl, by decide +kernel, rfl, by decide +kernel, by decide +kernel⟩
def m_side_of_b1 : MS := (sIf (tBorT (mTest (mOp (fInD false) (mOp fIxL (mVar 0) (mOp fSub (mVar 3) (mC (.int 1)))) (mVar 2))))
  (sDrop (mAppend (mVar 2) (mCons (mVar 3) mNil)))
  sNext)
def m_side_of : MS := (sSeq (sSet 2 (mLstC (mCons (mVar 1) mNil)))
  (sSeq (mFor (mIR2 (mCons (mOp fAdd (mVar 1) (mC (.int 1))) (mCons (mOp fAdd (mCall fLen (mCons (mVar 0) mNil)) (mC (.int 1))) mNil))) (tgN 3) m_side_of_b1)
  (sRet (mFrz (mVar 2)))))
def F_side_of : List D → Option D := fnP 2 4 m_side_of
theorem ok_side_of (T : Top K mg w) : FnOk P w K mg base CX0 1 T.d_side_of.f T.d_side_of.fd ["parents", "v"] (spP K T.κ F_side_of) := by
  refine fnP_ok T.d_side_of.F sc_side_of (fun cdv A outer s H Exc hr => ⟨_, (pss_cons (ps_set (i := 2) sc_side_of.nd rfl (Or.inl rfl) (pe_lst (pa_cons (pv 1) pa_nil)))
  (pss_cons (ps_for PassesOwn.never rfl (pi_range2 (by rfl) T.n_range (pa_cons (pe_op op_add (pv 1) pe_int) (pa_cons (pe_op op_add (pe_callB (r := (fun xs H Q => ∃ x n, xs = [x] ∧ LenV K x H n ∧ Q (.int n) H)) call_len (by rfl) T.n_len (by decide +kernel) (pa_cons (pv 0) pa_nil)) pe_int) pa_nil))) (pg_name (i := 3) sc_side_of.nd rfl (Or.inl rfl))
  (pss_one (ps_if (pt_cmpR (r := rInD K) (op_inD (u65 hr)) (pe_ix (r := rIxL K) ix_list (pv 0) (pe_op op_sub (pv 3) pe_int) (fun _ _ => rfl)) (pv 2) (by rfl))
  (pss_one (ps_expr (pe_bm PySem.F.plainAttrs_list PySem.F.slot_list_append PySem.F.type_list_append mt_append (pv 2) (pa_cons (pv 3) pa_nil))))
  pss_nil)))
  (pss_one (ps_ret (pv 2))))), ?_⟩)
  exact (ss_seq (ss_set (se_lstC (sa_cons se_var sa_nil)))
  (ss_seq (ss_for (si_range2 (sa_cons (se_op r2_add se_var se_int) (sa_cons (se_op r2_add (se_cb rc_len (sa_cons se_var sa_nil)) se_int) sa_nil))) sg_name
  (ss_if (st_bor (st_test (se_op r2_inD (se_op r2_ixL se_var (se_op r2_sub se_var se_int)) se_var)))
  (ss_drop (se_append se_var (sa_cons se_var sa_nil)))
  ss_next))
  (ss_ret (se_frz se_var))))
theorem sc_rows_of : FnScope ["sizes", "rows", "size", "row", "value"] ["sizes"] (defScope s_rows_of) := ⟨rfl, rfl, rfl, by decide +kernel, rfl, by decide +kernel, by decide +kernel⟩
def m_rows_of_b1 : MS := (sSet 1 (mLc2 (mIL (mVar 1)) (tgN 3) mYes (mIR1 (mCons (mVar 2) mNil)) (tgN 4) mYes (mOp fCatT (mVar 3) (mTup (mCons (mVar 4) mNil))) [3, 4] [4]))
def m_rows_of : MS := (sSeq (sSet 1 (mLst (mCons (mTup mNil) mNil)))
  (sSeq (mFor (mIL (mVar 0)) (tgN 2) m_rows_of_b1)
  (sRet (mVar 1))))
def F_rows_of : List D → Option D := fnP 1 5 m_rows_of
theorem ok_rows_of (T : Top K mg w) : FnOk P w K mg base CX0 1 T.d_rows_of.f T.d_rows_of.fd ["sizes"] (spP K T.κ F_rows_of) := by
  refine fnP_ok T.d_rows_of.F sc_rows_of (fun cdv A outer s H Exc hr => ⟨_, (pss_cons (ps_set (i := 1) sc_rows_of.nd rfl (Or.inl rfl) (pe_lst (pa_cons (pe_tup pa_nil) pa_nil)))
  (pss_cons (ps_for PassesOwn.never rfl (pi_list (pv 0)) (pg_name (i := 2) sc_rows_of.nd rfl (Or.inr rfl))
  (pss_one (ps_setLc2 (i := 1) (own := [("row", 3), ("value", 4)]) (vs1 := [4]) (by rfl) sc_rows_of.nd rfl rfl (sw_true rfl rfl rfl (by decide +kernel)) (pi_list (pv 1)) (blkOk_by (own := [("row", 3), ("value", 4)]) (N := ["sizes", "rows", "size", "row", "value"]) (sc := defScope s_rows_of) (by decide +kernel)) (by decide) (fun _ _ _ _ _ => (pg_name (i := 3) sc_rows_of.nd rfl (Or.inl rfl))) (fun _ _ _ _ _ => pts_nil) (fun _ _ _ _ _ => (pi_range1 (by rfl) T.n_range (pa_cons (pv 2) pa_nil))) (fun _ _ _ _ _ => (pg_name (i := 4) sc_rows_of.nd rfl (Or.inl rfl))) (fun _ _ _ _ _ => pts_nil) (fun _ _ _ _ _ => (pe_op (r := rCatA K) op_catA (pv 3) (pe_tup (pa_cons (pv 4) pa_nil)))))))
  (pss_one (ps_ret (pv 1))))), ?_⟩)
  exact (ss_seq (ss_set (se_lst (sa_cons (se_tup sa_nil) sa_nil)))
  (ss_seq (ss_for (si_list se_var) sg_name
  (ss_set (se_lc2 (si_list se_var) sg_name (by decide) st_yes (si_range1 (sa_cons se_var sa_nil)) sg_name (by decide) st_yes (se_op r2_catA se_var (se_tup (sa_cons se_var sa_nil))))))
  (ss_ret se_var)))
theorem sc_whole_row : FnScope ["many", "side", "row", "others", "rest", "found", "hill", "value"] ["many", "side", "row", "others", "rest"] (defScope s_whole_row) := ⟨rfl, rfl, rfl, by decide +kernel, rfl, by decide +kernel, by decide +kernel⟩
def m_whole_row_b1 : MS := (sPutL (mVar 7) (mVar 5) (mVar 6))
def m_whole_row_b2 : MS := (sPutL (mVar 7) (mVar 5) (mVar 6))
def m_whole_row : MS := (sSeq (sSet 5 (toC (mOp fRep (mLst (mCons (mC (.int 0)) mNil)) (mVar 0))))
  (sSeq (mFor (mIZLT (mCons (mVar 1) (mCons (mVar 2) mNil))) (tg2 6 7) m_whole_row_b1)
  (sSeq (mFor (mIZLT (mCons (mVar 3) (mCons (mVar 4) mNil))) (tg2 6 7) m_whole_row_b2)
  (sRet (mCall fTupOf (mCons (mFrz (mVar 5)) mNil))))))
def F_whole_row : List D → Option D := fnP 5 8 m_whole_row
theorem ok_whole_row (T : Top K mg w) : FnOk P w K mg base CX0 1 T.d_whole_row.f T.d_whole_row.fd ["many", "side", "row", "others", "rest"] (spP K T.κ F_whole_row) := by
  refine fnP_ok T.d_whole_row.F sc_whole_row (fun cdv A outer s H Exc hr => ⟨_, (pss_cons (ps_set (i := 5) sc_whole_row.nd rfl (Or.inl rfl) (pe_op op_rep (pe_lst (pa_cons pe_int pa_nil)) (pv 0)))
  (pss_cons (ps_for PassesOwn.never rfl (pi_zipLT (by rfl) T.n_zip (pa_cons (pv 1) (pa_cons (pv 2) pa_nil))) (pg_tup rfl (pgs_cons (pg_name (i := 6) sc_whole_row.nd rfl (Or.inl rfl)) (pgs_cons (pg_name (i := 7) sc_whole_row.nd rfl (Or.inl rfl)) pgs_nil)))
  (pss_one (ps_asg (pv 7) (pg_sub (pv 5) (pv 6) set_list))))
  (pss_cons (ps_for PassesOwn.never rfl (pi_zipLT (by rfl) T.n_zip (pa_cons (pv 3) (pa_cons (pv 4) pa_nil))) (pg_tup rfl (pgs_cons (pg_name (i := 6) sc_whole_row.nd rfl (Or.inl rfl)) (pgs_cons (pg_name (i := 7) sc_whole_row.nd rfl (Or.inl rfl)) pgs_nil)))
  (pss_one (ps_asg (pv 7) (pg_sub (pv 5) (pv 6) set_list))))
  (pss_one (ps_ret (pe_callTy (r := (fun xs H Q => ∃ p ys, xs = [.ref p] ∧ ((SqL K H p ys ∧ ∀ l, H l = none → Q (.ref l) (upd H l (.tup ys))) ∨ (SqT K H p ys ∧ Q (.ref p) H)))) call_tuple_of (by rfl) T.n_tuple (by decide +kernel) (pa_cons (pv 5) pa_nil))))))), ?_⟩)
  exact (ss_seq (ss_set (se_repC (se_lst (sa_cons se_int sa_nil)) se_var))
  (ss_seq (ss_for (si_zipLT (sa_cons se_var (sa_cons se_var sa_nil))) sg_two
  (ss_putL se_var se_var se_var))
  (ss_seq (ss_for (si_zipLT (sa_cons se_var (sa_cons se_var sa_nil))) sg_two
  (ss_putL se_var se_var se_var))
  (ss_ret (se_cb rc_tuple (sa_cons (se_frz se_var) sa_nil))))))
theorem sc_split_hills : FnScope ["parents", "v", "side", "hill"] ["parents", "v"] (defScope s_split_hills) := ⟨rfl, rfl, rfl, by decide +kernel, rfl, by decide +kernel, by decide +kernel⟩
def m_split_hills : MS := (sSeq (sSet 2 (mCall F_side_of (mCons (mVar 0) (mCons (mVar 1) mNil))))
  (sRet (mTup (mCons (mVar 2) (mCons (mLc (mIR1 (mCons (mOp fAdd (mCall fLen (mCons (mVar 0) mNil)) (mC (.int 1))) mNil)) (tgN 3) (mTest (mOp (fInD true) (mVar 3) (mVar 2))) (mVar 3) [3]) mNil)))))
def F_split_hills : List D → Option D := fnP 2 4 m_split_hills
theorem ok_split_hills (T : Top K mg w) : FnOk P w K mg base CX0 2 T.d_split_hills.f T.d_split_hills.fd ["parents", "v"] (spP K T.κ F_split_hills) := by
  have G_side_of := ok_side_of (P := P) (w := w) (base := base) T
  refine fnP_ok T.d_split_hills.F sc_split_hills (fun cdv A outer s H Exc hr => ⟨_, (pss_cons (ps_set (i := 2) sc_split_hills.nd rfl (Or.inr rfl) (pe_call G_side_of (hr.mono (by decide)) (by rfl) T.d_side_of.g T.d_side_of.F.kp T.d_side_of.b .nil pass0 (pa_cons (pv 0) (pa_cons (pv 1) pa_nil))))
  (pss_one (ps_ret (pe_tup (pa_cons (pv 2) (pa_cons (pe_lc (own := [("hill", 3)]) (by rfl) sc_split_hills.nd (pi_range1 (by rfl) T.n_range (pa_cons (pe_op op_add (pe_callB (r := (fun xs H Q => ∃ x n, xs = [x] ∧ LenV K x H n ∧ Q (.int n) H)) call_len (by rfl) T.n_len (by decide +kernel) (pa_cons (pv 0) pa_nil)) pe_int) pa_nil)) (blkOk_by (own := [("hill", 3)]) (N := ["parents", "v", "side", "hill"]) (sc := defScope s_split_hills) (by decide +kernel)) (fun _ _ _ _ _ => (pg_name (i := 3) sc_split_hills.nd rfl (Or.inl rfl))) (fun _ _ _ _ _ => (pts_one (pt_cmpR (r := rNotInD K) (op_notInD (u65 hr)) (pv 3) (pv 2) (by rfl)))) (fun _ _ _ _ _ => (pv 3))) pa_nil)))))), ?_⟩)
  exact (ss_seq (ss_set (se_call (sa_cons se_var (sa_cons se_var sa_nil))))
  (ss_ret (se_tup (sa_cons se_var (sa_cons (se_lc (si_range1 (sa_cons (se_op r2_add (se_cb rc_len (sa_cons se_var sa_nil)) se_int) sa_nil)) sg_name (by decide) (st_test (se_op r2_notInD se_var se_var)) se_var) sa_nil)))))
theorem sc_class_list : FnScope ["parents", "sizes", "table", "v", "side", "others", "rests", "groups", "columns", "row", "column", "mine", "hill", "rest"] ["parents", "sizes", "table", "v"] (defScope s_class_list) := ⟨rfl, rfl, rfl, by decide +kernel, rfl, by decide +kernel, by decide +kernel⟩
def m_class_list_b1 : MS := (sSeq (sSet 10 (mLc (mIL (mVar 6)) (tgN 13) mYes (mOp fDGet (mVar 2) (mCall F_whole_row (mCons (mCall fLen (mCons (mVar 1) mNil)) (mCons (mVar 4) (mCons (mVar 9) (mCons (mVar 5) (mCons (mVar 13) mNil))))))) [13]))
  (sIf (tBorT (mTest (mOp (fInD false) (mVar 10) (mVar 8))))
  (sSeq (sSet 11 (mIxC (mVar 7) (mBor (mBM fIndex (mVar 8) (mCons (mVar 10) mNil)))))
  (sDrop (mAppend (mVar 11) (mCons (mVar 9) mNil))))
  (sSeq (sDrop (mAppend (mVar 8) (mCons (mVar 10) mNil)))
  (sDrop (mAppend (mVar 7) (mCons (mLstC (mCons (mVar 9) mNil)) mNil))))))
def m_class_list : MS := (sSeq (sAsg (tg2 4 5) (mCall F_split_hills (mCons (mVar 0) (mCons (mVar 3) mNil))))
  (sSeq (sSet 6 (mCall F_rows_of (mCons (mLc (mIL (mVar 5)) (tgN 12) mYes (mOp fIxL (mVar 1) (mVar 12)) [12]) mNil)))
  (sSeq (sSet 7 (mLstC mNil))
  (sSeq (sSet 8 (mLstC mNil))
  (sSeq (mFor (mIL (mCall F_rows_of (mCons (mLc (mIL (mVar 4)) (tgN 12) mYes (mOp fIxL (mVar 1) (mVar 12)) [12]) mNil))) (tgN 9) m_class_list_b1)
  (sPre (gFrz2 7) (sRet (mVar 7))))))))
def F_class_list : List D → Option D := fnP 4 14 m_class_list
theorem ok_class_list (T : Top K mg w) : FnOk P w K mg base CX0 3 T.d_class_list.f T.d_class_list.fd ["parents", "sizes", "table", "v"] (spP K T.κ F_class_list) := by
  have G_rows_of := ok_rows_of (P := P) (w := w) (base := base) T
  have G_split_hills := ok_split_hills (P := P) (w := w) (base := base) T
  have G_whole_row := ok_whole_row (P := P) (w := w) (base := base) T
  refine fnP_ok T.d_class_list.F sc_class_list (fun cdv A outer s H Exc hr => ⟨_, (pss_cons (ps_asg (pe_call G_split_hills (hr.mono (by decide)) (by rfl) T.d_split_hills.g T.d_split_hills.F.kp T.d_split_hills.b .nil pass0 (pa_cons (pv 0) (pa_cons (pv 3) pa_nil))) (pg_tup rfl (pgs_cons (pg_name (i := 4) sc_class_list.nd rfl (Or.inr rfl)) (pgs_cons (pg_name (i := 5) sc_class_list.nd rfl (Or.inr rfl)) pgs_nil))))
  (pss_cons (ps_set (i := 6) sc_class_list.nd rfl (Or.inl rfl) (pe_call G_rows_of (hr.mono (by decide)) (by rfl) T.d_rows_of.g T.d_rows_of.F.kp T.d_rows_of.b .nil pass0 (pa_cons (pe_lc (own := [("hill", 12)]) (by rfl) sc_class_list.nd (pi_list (pv 5)) (blkOk_by (own := [("hill", 12)]) (N := ["parents", "sizes", "table", "v", "side", "others", "rests", "groups", "columns", "row", "column", "mine", "hill", "rest"]) (sc := defScope s_class_list) (by decide +kernel)) (fun _ _ _ _ _ => (pg_name (i := 12) sc_class_list.nd rfl (Or.inl rfl))) (fun _ _ _ _ _ => pts_nil) (fun _ _ _ _ _ => (pe_ix (r := rIxL K) ix_list (pv 1) (pv 12) (fun _ _ => rfl)))) pa_nil)))
  (pss_cons (ps_set (i := 7) sc_class_list.nd rfl (Or.inl rfl) (pe_lst pa_nil))
  (pss_cons (ps_set (i := 8) sc_class_list.nd rfl (Or.inl rfl) (pe_lst pa_nil))
  (pss_cons (ps_for PassesOwn.never rfl (pi_list (pe_call G_rows_of (hr.mono (by decide)) (by rfl) T.d_rows_of.g T.d_rows_of.F.kp T.d_rows_of.b .nil pass0 (pa_cons (pe_lc (own := [("hill", 12)]) (by rfl) sc_class_list.nd (pi_list (pv 4)) (blkOk_by (own := [("hill", 12)]) (N := ["parents", "sizes", "table", "v", "side", "others", "rests", "groups", "columns", "row", "column", "mine", "hill", "rest"]) (sc := defScope s_class_list) (by decide +kernel)) (fun _ _ _ _ _ => (pg_name (i := 12) sc_class_list.nd rfl (Or.inl rfl))) (fun _ _ _ _ _ => pts_nil) (fun _ _ _ _ _ => (pe_ix (r := rIxL K) ix_list (pv 1) (pv 12) (fun _ _ => rfl)))) pa_nil))) (pg_name (i := 9) sc_class_list.nd rfl (Or.inr rfl))
  (pss_cons (ps_setLc (i := 10) (own := [("rest", 13)]) (by rfl) sc_class_list.nd rfl rfl (sw_true rfl rfl rfl (by decide +kernel)) (pi_list (pv 6)) (blkOk_by (own := [("rest", 13)]) (N := ["parents", "sizes", "table", "v", "side", "others", "rests", "groups", "columns", "row", "column", "mine", "hill", "rest"]) (sc := defScope s_class_list) (by decide +kernel)) (fun _ _ _ _ _ => (pg_name (i := 13) sc_class_list.nd rfl (Or.inl rfl))) (fun _ _ _ _ _ => pts_nil) (fun _ _ _ _ _ => (pe_dget (hu_of hr) (pv 2) (pe_call G_whole_row (hr.mono (by decide)) (by rfl) T.d_whole_row.g T.d_whole_row.F.kp T.d_whole_row.b .nil pass0 (pa_cons (pe_callB (r := (fun xs H Q => ∃ x n, xs = [x] ∧ LenV K x H n ∧ Q (.int n) H)) call_len (by rfl) T.n_len (by decide +kernel) (pa_cons (pv 1) pa_nil)) (pa_cons (pv 4) (pa_cons (pv 9) (pa_cons (pv 5) (pa_cons (pv 13) pa_nil)))))) (fun _ _ => rfl))))
  (pss_one (ps_if (pt_cmpR (r := rInD K) (op_inD (u65 hr)) (pv 10) (pv 8) (by rfl))
  (pss_cons (ps_set (i := 11) sc_class_list.nd rfl (Or.inl rfl) (pe_ix (r := rIxL K) ix_list (pv 7) (pe_bm PySem.F.plainAttrs_list PySem.F.slot_list_index PySem.F.type_list_index (mt_indexD (u65 hr)) (pv 8) (pa_cons (pv 10) pa_nil)) (fun _ _ => rfl)))
  (pss_one (ps_expr (pe_bm PySem.F.plainAttrs_list PySem.F.slot_list_append PySem.F.type_list_append mt_append (pv 11) (pa_cons (pv 9) pa_nil)))))
  (pss_cons (ps_expr (pe_bm PySem.F.plainAttrs_list PySem.F.slot_list_append PySem.F.type_list_append mt_append (pv 8) (pa_cons (pv 10) pa_nil)))
  (pss_one (ps_expr (pe_bm PySem.F.plainAttrs_list PySem.F.slot_list_append PySem.F.type_list_append mt_append (pv 7) (pa_cons (pe_lst (pa_cons (pv 9) pa_nil)) pa_nil)))))))))
  (pss_one (ps_ret (pv 7)))))))), ?_⟩)
  exact (ss_seq (ss_asg sg_two (se_call (sa_cons se_var (sa_cons se_var sa_nil))))
  (ss_seq (ss_set (se_call (sa_cons (se_lc (si_list se_var) sg_name (by decide) st_yes (se_op r2_ixL se_var se_var)) sa_nil)))
  (ss_seq (ss_set (se_lstC sa_nil))
  (ss_seq (ss_set (se_lstC sa_nil))
  (ss_seq (ss_for (si_list (se_call (sa_cons (se_lc (si_list se_var) sg_name (by decide) st_yes (se_op r2_ixL se_var se_var)) sa_nil))) sg_name
  (ss_seq (ss_set (se_lc (si_list se_var) sg_name (by decide) st_yes (se_dget se_var (se_call (sa_cons (se_cb rc_len (sa_cons se_var sa_nil)) (sa_cons se_var (sa_cons se_var (sa_cons se_var (sa_cons se_var sa_nil)))))))))
  (ss_if (st_bor (st_test (se_op r2_inD se_var se_var)))
  (ss_seq (ss_set (se_ixC se_var (se_bor (se_index se_var (sa_cons se_var sa_nil)))))
  (ss_drop (se_append se_var (sa_cons se_var sa_nil))))
  (ss_seq (ss_drop (se_append se_var (sa_cons se_var sa_nil)))
  (ss_drop (se_append se_var (sa_cons (se_lstC (sa_cons se_var sa_nil)) sa_nil)))))))
  (ss_pre (go_frz2 (i := 7)) (ss_ret se_var)))))))
theorem sc_check : FnScope ["what", "number"] ["what", "number"] (defScope s_check) := ⟨rfl, rfl, rfl, by decide +kernel, rfl, by decide +kernel, by decide +kernel⟩
def m_check : MS := (sIf (mTest (mOp fGt (mVar 1) (mTab tab_LIMITS (mVar 0))))
  sNever
  sNext)
def F_check : List D → Option D := fnP 2 2 m_check
theorem ok_check (T : Top K mg w) : FnOk P w K mg base CX0 1 T.d_check.f T.d_check.fd ["what", "number"] (spP K T.κ F_check) := by
  refine fnP_ok T.d_check.F sc_check (fun cdv A outer s H Exc hr => ⟨_, (pss_one (ps_if (pt_cmpR op_gt (pv 1) (pe_ix (r := rIxD K w) ix_kdict (pe_glob (v := .ref T.a_LIMITS) rfl T.g_LIMITS rfl) (pv 0) (fun _ _ => rfl)) (nomark _))
  (pss_one ps_never)
  pss_nil)), ?_⟩)
  exact (ss_if (st_test (se_op r2_gt se_var (se_tab T.k_LIMITS se_var)))
  ss_never
  ss_next)
theorem sc_check_each : FnScope ["what", "numbers", "number"] ["what", "numbers"] (defScope s_check_each) := ⟨rfl, rfl, rfl, by decide +kernel, rfl, by decide +kernel, by decide +kernel⟩
def m_check_each_b1 : MS := (sIf (mTest (mOp fGt (mVar 2) (mTab tab_LIMITS (mVar 0))))
  sNever
  sNext)
def m_check_each : MS := (mFor (mIL (mVar 1)) (tgN 2) m_check_each_b1)
def F_check_each : List D → Option D := fnP 2 3 m_check_each
theorem ok_check_each (T : Top K mg w) : FnOk P w K mg base CX0 1 T.d_check_each.f T.d_check_each.fd ["what", "numbers"] (spP K T.κ F_check_each) := by
  refine fnP_ok T.d_check_each.F sc_check_each (fun cdv A outer s H Exc hr => ⟨_, (pss_one (ps_for PassesOwn.never rfl (pi_list (pv 1)) (pg_name (i := 2) sc_check_each.nd rfl (Or.inl rfl))
  (pss_one (ps_if (pt_cmpR op_gt (pv 2) (pe_ix (r := rIxD K w) ix_kdict (pe_glob (v := .ref T.a_LIMITS) rfl T.g_LIMITS rfl) (pv 0) (fun _ _ => rfl)) (nomark _))
  (pss_one ps_never)
  pss_nil)))), ?_⟩)
  exact (ss_for (si_list se_var) sg_name
  (ss_if (st_test (se_op r2_gt se_var (se_tab T.k_LIMITS se_var)))
  ss_never
  ss_next))
theorem sc_children_of : FnScope ["parents", "found", "at", "parent", "mine", "v"] ["parents"] (defScope s_children_of) := ⟨rfl, rfl, rfl, by decide +kernel, rfl, by decide +kernel, by decide +kernel⟩
def m_children_of_b1 : MS := (sSeq (sSet 4 (mIxC (mVar 1) (mVar 3)))
  (sDrop (mAppend (mVar 4) (mCons (mOp fAdd (mVar 2) (mC (.int 1))) mNil))))
def m_children_of : MS := (sSeq (sSet 1 (mLcE (mIR1 (mCons (mOp fAdd (mCall fLen (mCons (mVar 0) mNil)) (mC (.int 1))) mNil)) (tgN 5) mYes (mLstC mNil) [5]))
  (sSeq (mFor (mIE (mCons (mVar 0) mNil)) (tg2 2 3) m_children_of_b1)
  (sPre (gFrz2 1) (sRet (mVar 1)))))
def F_children_of : List D → Option D := fnP 1 6 m_children_of
theorem ok_children_of (T : Top K mg w) : FnOk P w K mg base CX0 1 T.d_children_of.f T.d_children_of.fd ["parents"] (spP K T.κ F_children_of) := by
  refine fnP_ok T.d_children_of.F sc_children_of (fun cdv A outer s H Exc hr => ⟨_, (pss_cons (ps_setLc (i := 1) (own := [("v", 5)]) (by rfl) sc_children_of.nd rfl rfl (sw_true rfl rfl rfl (by decide +kernel)) (pi_range1 (by rfl) T.n_range (pa_cons (pe_op op_add (pe_callB (r := (fun xs H Q => ∃ x n, xs = [x] ∧ LenV K x H n ∧ Q (.int n) H)) call_len (by rfl) T.n_len (by decide +kernel) (pa_cons (pv 0) pa_nil)) pe_int) pa_nil)) (blkOk_by (own := [("v", 5)]) (N := ["parents", "found", "at", "parent", "mine", "v"]) (sc := defScope s_children_of) (by decide +kernel)) (fun _ _ _ _ _ => (pg_name (i := 5) sc_children_of.nd rfl (Or.inl rfl))) (fun _ _ _ _ _ => pts_nil) (fun _ _ _ _ _ => (pe_lst pa_nil)))
  (pss_cons (ps_for PassesOwn.never rfl (pi_enum (by rfl) T.n_enumerate (pa_cons (pv 0) pa_nil)) (pg_tup rfl (pgs_cons (pg_name (i := 2) sc_children_of.nd rfl (Or.inl rfl)) (pgs_cons (pg_name (i := 3) sc_children_of.nd rfl (Or.inl rfl)) pgs_nil)))
  (pss_cons (ps_set (i := 4) sc_children_of.nd rfl (Or.inl rfl) (pe_ix (r := rIxL K) ix_list (pv 1) (pv 3) (fun _ _ => rfl)))
  (pss_one (ps_expr (pe_bm PySem.F.plainAttrs_list PySem.F.slot_list_append PySem.F.type_list_append mt_append (pv 4) (pa_cons (pe_op op_add (pv 2) pe_int) pa_nil))))))
  (pss_one (ps_ret (pv 1))))), ?_⟩)
  exact (ss_seq (ss_set (se_lcE (si_range1 (sa_cons (se_op r2_add (se_cb rc_len (sa_cons se_var sa_nil)) se_int) sa_nil)) sg_name (by decide) st_yes (se_lstC sa_nil)))
  (ss_seq (ss_for (si_enum (sa_cons se_var sa_nil)) sg_two
  (ss_seq (ss_set (se_ixC se_var se_var))
  (ss_drop (se_append se_var (sa_cons (se_op r2_add se_var se_int) sa_nil)))))
  (ss_pre (go_frz2 (i := 1)) (ss_ret se_var))))
theorem sc_sorted_spans : FnScope ["spans", "span"] ["spans"] (defScope s_sorted_spans) := ⟨rfl, rfl, rfl, by decide +kernel, rfl, by decide +kernel, by decide +kernel⟩
def m_sorted_spans : MS := (sRet (mCall fSortSet (mCons (mLc (mIL (mVar 0)) (tgN 1) mYes (mTup (mCons (mOp fIxT (mVar 1) (mC (.int 0))) (mCons (mOp fIxT (mVar 1) (mC (.int 1))) mNil))) [1]) mNil)))
def F_sorted_spans : List D → Option D := fnP 1 2 m_sorted_spans
theorem ok_sorted_spans (T : Top K mg w) : FnOk P w K mg base CX0 1 T.d_sorted_spans.f T.d_sorted_spans.fd ["spans"] (spP K T.κ F_sorted_spans) := by
  refine fnP_ok T.d_sorted_spans.F sc_sorted_spans (fun cdv A outer s H Exc hr => ⟨_, (pss_one (ps_ret (pe_callB (cr_sortedT rfl) (by rfl) T.n_sorted (by decide +kernel) (pa_cons (pe_callTy (cr_setOfT rfl hr.units) (by rfl) T.n_set (by decide +kernel) (pa_cons (pe_lc (own := [("span", 1)]) (by rfl) sc_sorted_spans.nd (pi_list (pv 0)) (blkOk_by (own := [("span", 1)]) (N := ["spans", "span"]) (sc := defScope s_sorted_spans) (by decide +kernel)) (fun _ _ _ _ _ => (pg_name (i := 1) sc_sorted_spans.nd rfl (Or.inl rfl))) (fun _ _ _ _ _ => pts_nil) (fun _ _ _ _ _ => (pe_tup (pa_cons (pe_ix (r := rIxT K) ix_tup (pv 1) pe_int (fun _ _ => rfl)) (pa_cons (pe_ix (r := rIxT K) ix_tup (pv 1) pe_int (fun _ _ => rfl)) pa_nil))))) pa_nil)) pa_nil)))), ?_⟩)
  exact (ss_ret (se_sortset (se_lc (si_list se_var) sg_name (by decide) st_yes (se_tup (sa_cons (se_op r2_ixT se_var se_int) (sa_cons (se_op r2_ixT se_var se_int) sa_nil))))))
theorem sc_least_ends : FnScope ["last", "spans", "ends", "span", "back", "start"] ["last", "spans"] (defScope s_least_ends) := ⟨rfl, rfl, rfl, by decide +kernel, rfl, by decide +kernel, by decide +kernel⟩
def m_least_ends_b1 : MS := (sPutL (mBor (mCall fMin2 (mCons (mOp fIxL (mVar 2) (mOp fIxT (mVar 3) (mC (.int 0)))) (mCons (mOp fIxT (mVar 3) (mC (.int 1))) mNil)))) (mVar 2) (mOp fIxT (mVar 3) (mC (.int 0))))
def m_least_ends_b2 : MS := (sSeq (sSet 5 (mOp fSub (mVar 0) (mVar 4)))
  (sPutL (mBor (mCall fMin2 (mCons (mOp fIxL (mVar 2) (mVar 5)) (mCons (mOp fIxL (mVar 2) (mOp fAdd (mVar 5) (mC (.int 1)))) mNil)))) (mVar 2) (mVar 5)))
def m_least_ends : MS := (sSeq (sSet 2 (toC (mOp fRep (mLst (mCons (mOp fAdd (mVar 0) (mC (.int 1))) mNil)) (mOp fAdd (mVar 0) (mC (.int 2))))))
  (sSeq (mFor (mIL (mVar 1)) (tgN 3) m_least_ends_b1)
  (sSeq (mFor (mIR1 (mCons (mVar 0) mNil)) (tgN 4) m_least_ends_b2)
  (sRet (mFrz (mVar 2))))))
def F_least_ends : List D → Option D := fnP 2 6 m_least_ends
theorem ok_least_ends (T : Top K mg w) : FnOk P w K mg base CX0 1 T.d_least_ends.f T.d_least_ends.fd ["last", "spans"] (spP K T.κ F_least_ends) := by
  refine fnP_ok T.d_least_ends.F sc_least_ends (fun cdv A outer s H Exc hr => ⟨_, (pss_cons (ps_set (i := 2) sc_least_ends.nd rfl (Or.inl rfl) (pe_op op_rep (pe_lst (pa_cons (pe_op op_add (pv 0) pe_int) pa_nil)) (pe_op op_add (pv 0) pe_int)))
  (pss_cons (ps_for PassesOwn.never rfl (pi_list (pv 1)) (pg_name (i := 3) sc_least_ends.nd rfl (Or.inl rfl))
  (pss_one (ps_asg (pe_callB (call_min2 rfl) (by rfl) T.n_min (by decide +kernel) (pa_cons (pe_ix (r := rIxL K) ix_list (pv 2) (pe_ix (r := rIxT K) ix_tup (pv 3) pe_int (fun _ _ => rfl)) (fun _ _ => rfl)) (pa_cons (pe_ix (r := rIxT K) ix_tup (pv 3) pe_int (fun _ _ => rfl)) pa_nil))) (pg_sub (pv 2) (pe_ix (r := rIxT K) ix_tup (pv 3) pe_int (fun _ _ => rfl)) set_list))))
  (pss_cons (ps_for PassesOwn.never rfl (pi_range1 (by rfl) T.n_range (pa_cons (pv 0) pa_nil)) (pg_name (i := 4) sc_least_ends.nd rfl (Or.inl rfl))
  (pss_cons (ps_set (i := 5) sc_least_ends.nd rfl (Or.inl rfl) (pe_op op_sub (pv 0) (pv 4)))
  (pss_one (ps_asg (pe_callB (call_min2 rfl) (by rfl) T.n_min (by decide +kernel) (pa_cons (pe_ix (r := rIxL K) ix_list (pv 2) (pv 5) (fun _ _ => rfl)) (pa_cons (pe_ix (r := rIxL K) ix_list (pv 2) (pe_op op_add (pv 5) pe_int) (fun _ _ => rfl)) pa_nil))) (pg_sub (pv 2) (pv 5) set_list)))))
  (pss_one (ps_ret (pv 2)))))), ?_⟩)
  exact (ss_seq (ss_set (se_repC (se_lst (sa_cons (se_op r2_add se_var se_int) sa_nil)) (se_op r2_add se_var se_int)))
  (ss_seq (ss_for (si_list se_var) sg_name
  (ss_putL (se_bor (se_cb rc_min2 (sa_cons (se_op r2_ixL se_var (se_op r2_ixT se_var se_int)) (sa_cons (se_op r2_ixT se_var se_int) sa_nil)))) se_var (se_op r2_ixT se_var se_int)))
  (ss_seq (ss_for (si_range1 (sa_cons se_var sa_nil)) sg_name
  (ss_seq (ss_set (se_op r2_sub se_var se_var))
  (ss_putL (se_bor (se_cb rc_min2 (sa_cons (se_op r2_ixL se_var se_var) (sa_cons (se_op r2_ixL se_var (se_op r2_add se_var se_int)) sa_nil)))) se_var se_var)))
  (ss_ret (se_frz se_var)))))
theorem sc_end_from : FnScope ["ends", "start"] ["ends", "start"] (defScope s_end_from) := ⟨rfl, rfl, rfl, by decide +kernel, rfl, by decide +kernel, by decide +kernel⟩
def m_end_from : MS := (sSeq (sIf (mTest (mOp fGe (mVar 1) (mCall fLen (mCons (mVar 0) mNil))))
  (sRet (mVar 1))
  sNext)
  (sRet (mOp fIxL (mVar 0) (mVar 1))))
def F_end_from : List D → Option D := fnP 2 2 m_end_from
theorem ok_end_from (T : Top K mg w) : FnOk P w K mg base CX0 1 T.d_end_from.f T.d_end_from.fd ["ends", "start"] (spP K T.κ F_end_from) := by
  refine fnP_ok T.d_end_from.F sc_end_from (fun cdv A outer s H Exc hr => ⟨_, (pss_cons (ps_if (pt_cmpR op_ge (pv 1) (pe_callB (r := (fun xs H Q => ∃ x n, xs = [x] ∧ LenV K x H n ∧ Q (.int n) H)) call_len (by rfl) T.n_len (by decide +kernel) (pa_cons (pv 0) pa_nil)) (nomark _))
  (pss_one (ps_ret (pv 1)))
  pss_nil)
  (pss_one (ps_ret (pe_ix (r := rIxL K) ix_list (pv 0) (pv 1) (fun _ _ => rfl))))), ?_⟩)
  exact (ss_seq (ss_if (st_test (se_op r2_ge se_var (se_cb rc_len (sa_cons se_var sa_nil))))
  (ss_ret se_var)
  ss_next)
  (ss_ret (se_op r2_ixL se_var se_var)))
theorem sc_pick_ends : FnScope ["ends", "s", "t", "found", "end"] ["ends", "s", "t"] (defScope s_pick_ends) := ⟨rfl, rfl, rfl, by decide +kernel, rfl, by decide +kernel, by decide +kernel⟩
def m_pick_ends_b1 : MS := (sSeq (sDrop (mAppend (mVar 3) (mCons (mVar 4) mNil)))
  (sSet 4 (mCall F_end_from (mCons (mVar 0) (mCons (mOp fAdd (mVar 4) (mC (.int 1))) mNil)))))
def m_pick_ends : MS := (sSeq (sSet 3 (mLstC mNil))
  (sSeq (sSet 4 (mCall F_end_from (mCons (mVar 0) (mCons (mOp fAdd (mVar 1) (mC (.int 1))) mNil))))
  (sSeq (sWhile 1000 (mTest (mOp fLe (mVar 4) (mVar 2))) m_pick_ends_b1)
  (sRet (mFrz (mVar 3))))))
def F_pick_ends : List D → Option D := fnP 3 5 m_pick_ends
theorem ok_pick_ends (T : Top K mg w) : FnOk P w K mg base CX0 2 T.d_pick_ends.f T.d_pick_ends.fd ["ends", "s", "t"] (spP K T.κ F_pick_ends) := by
  have G_end_from := ok_end_from (P := P) (w := w) (base := base) T
  refine fnP_ok T.d_pick_ends.F sc_pick_ends (fun cdv A outer s H Exc hr => ⟨_, (pss_cons (ps_set (i := 3) sc_pick_ends.nd rfl (Or.inl rfl) (pe_lst pa_nil))
  (pss_cons (ps_set (i := 4) sc_pick_ends.nd rfl (Or.inl rfl) (pe_call G_end_from (hr.mono (by decide)) (by rfl) T.d_end_from.g T.d_end_from.F.kp T.d_end_from.b .nil pass0 (pa_cons (pv 0) (pa_cons (pe_op op_add (pv 1) pe_int) pa_nil))))
  (pss_cons (ps_while PassesOwn.never (pt_cmpR op_le (pv 4) (pv 2) (nomark _))
  (pss_cons (ps_expr (pe_bm PySem.F.plainAttrs_list PySem.F.slot_list_append PySem.F.type_list_append mt_append (pv 3) (pa_cons (pv 4) pa_nil)))
  (pss_one (ps_set (i := 4) sc_pick_ends.nd rfl (Or.inl rfl) (pe_call G_end_from (hr.mono (by decide)) (by rfl) T.d_end_from.g T.d_end_from.F.kp T.d_end_from.b .nil pass0 (pa_cons (pv 0) (pa_cons (pe_op op_add (pv 4) pe_int) pa_nil)))))))
  (pss_one (ps_ret (pv 3)))))), ?_⟩)
  exact (ss_seq (ss_set (se_lstC sa_nil))
  (ss_seq (ss_set (se_call (sa_cons se_var (sa_cons (se_op r2_add se_var se_int) sa_nil))))
  (ss_seq (ss_while (st_test (se_op r2_le se_var se_var))
  (ss_seq (ss_drop (se_append se_var (sa_cons se_var sa_nil)))
  (ss_set (se_call (sa_cons se_var (sa_cons (se_op r2_add se_var se_int) sa_nil))))))
  (ss_ret (se_frz se_var)))))
theorem sc_latest_beginning : FnScope ["spans", "start", "end", "span"] ["spans", "start", "end"] (defScope s_latest_beginning) := ⟨rfl, rfl, rfl, by decide +kernel, rfl, by decide +kernel, by decide +kernel⟩
def m_latest_beginning : MS := (sRet (mCall fMax (mCons (mLc (mIL (mVar 0)) (tgN 3) (mAnd (mTest (mOp fEq (mOp fIxT (mVar 3) (mC (.int 1))) (mVar 2))) (mTest (mOp fGe (mOp fIxT (mVar 3) (mC (.int 0))) (mVar 1)))) (mOp fIxT (mVar 3) (mC (.int 0))) [3]) mNil)))
def F_latest_beginning : List D → Option D := fnP 3 4 m_latest_beginning
theorem ok_latest_beginning (T : Top K mg w) : FnOk P w K mg base CX0 1 T.d_latest_beginning.f T.d_latest_beginning.fd ["spans", "start", "end"] (spP K T.κ F_latest_beginning) := by
  refine fnP_ok T.d_latest_beginning.F sc_latest_beginning (fun cdv A outer s H Exc hr => ⟨_, (pss_one (ps_ret (pe_callB (r := (rMax K)) (cr_max rfl) (by rfl) T.n_max (by decide +kernel) (pa_cons (pe_lc (own := [("span", 3)]) (by rfl) sc_latest_beginning.nd (pi_list (pv 0)) (blkOk_by (own := [("span", 3)]) (N := ["spans", "start", "end", "span"]) (sc := defScope s_latest_beginning) (by decide +kernel)) (fun _ _ _ _ _ => (pg_name (i := 3) sc_latest_beginning.nd rfl (Or.inl rfl))) (fun _ _ _ _ _ => (pts_one (PW.pt (pw_and (pt_cmpR op_eq (pe_ix (r := rIxT K) ix_tup (pv 3) pe_int (fun _ _ => rfl)) (pv 2) (nomark _)) (pw_and1 (pt_cmpR op_ge (pe_ix (r := rIxT K) ix_tup (pv 3) pe_int (fun _ _ => rfl)) (pv 1) (nomark _))))))) (fun _ _ _ _ _ => (pe_ix (r := rIxT K) ix_tup (pv 3) pe_int (fun _ _ => rfl)))) pa_nil)))), ?_⟩)
  exact (ss_ret (se_cb rc_max (sa_cons (se_lc (si_list se_var) sg_name (by decide) (st_and (st_test (se_op r2_eq (se_op r2_ixT se_var se_int) se_var)) (st_test (se_op r2_ge (se_op r2_ixT se_var se_int) se_var))) (se_op r2_ixT se_var se_int)) sa_nil)))
theorem sc_pick_spans : FnScope ["spans", "ends", "s", "t", "found", "start", "end"] ["spans", "ends", "s", "t"] (defScope s_pick_spans) := ⟨rfl, rfl, rfl, by decide +kernel, rfl, by decide +kernel, by decide +kernel⟩
def m_pick_spans_b1 : MS := (sSeq (sDrop (mAppend (mVar 4) (mCons (mTup (mCons (mCall F_latest_beginning (mCons (mVar 0) (mCons (mVar 5) (mCons (mVar 6) mNil)))) (mCons (mVar 6) mNil))) mNil)))
  (sSet 5 (mOp fAdd (mVar 6) (mC (.int 1)))))
def m_pick_spans : MS := (sSeq (sSet 4 (mLstC mNil))
  (sSeq (sSet 5 (mOp fAdd (mVar 2) (mC (.int 1))))
  (sSeq (mFor (mIL (mCall F_pick_ends (mCons (mVar 1) (mCons (mVar 2) (mCons (mVar 3) mNil))))) (tgN 6) m_pick_spans_b1)
  (sRet (mFrz (mVar 4))))))
def F_pick_spans : List D → Option D := fnP 4 7 m_pick_spans
theorem ok_pick_spans (T : Top K mg w) : FnOk P w K mg base CX0 3 T.d_pick_spans.f T.d_pick_spans.fd ["spans", "ends", "s", "t"] (spP K T.κ F_pick_spans) := by
  have G_latest_beginning := ok_latest_beginning (P := P) (w := w) (base := base) T
  have G_pick_ends := ok_pick_ends (P := P) (w := w) (base := base) T
  refine fnP_ok T.d_pick_spans.F sc_pick_spans (fun cdv A outer s H Exc hr => ⟨_, (pss_cons (ps_set (i := 4) sc_pick_spans.nd rfl (Or.inl rfl) (pe_lst pa_nil))
  (pss_cons (ps_set (i := 5) sc_pick_spans.nd rfl (Or.inl rfl) (pe_op op_add (pv 2) pe_int))
  (pss_cons (ps_for PassesOwn.never rfl (pi_list (pe_call G_pick_ends (hr.mono (by decide)) (by rfl) T.d_pick_ends.g T.d_pick_ends.F.kp T.d_pick_ends.b .nil pass0 (pa_cons (pv 1) (pa_cons (pv 2) (pa_cons (pv 3) pa_nil))))) (pg_name (i := 6) sc_pick_spans.nd rfl (Or.inl rfl))
  (pss_cons (ps_expr (pe_bm PySem.F.plainAttrs_list PySem.F.slot_list_append PySem.F.type_list_append mt_append (pv 4) (pa_cons (pe_tup (pa_cons (pe_call G_latest_beginning (hr.mono (by decide)) (by rfl) T.d_latest_beginning.g T.d_latest_beginning.F.kp T.d_latest_beginning.b .nil pass0 (pa_cons (pv 0) (pa_cons (pv 5) (pa_cons (pv 6) pa_nil)))) (pa_cons (pv 6) pa_nil))) pa_nil)))
  (pss_one (ps_set (i := 5) sc_pick_spans.nd rfl (Or.inl rfl) (pe_op op_add (pv 6) pe_int)))))
  (pss_one (ps_ret (pv 4)))))), ?_⟩)
  exact (ss_seq (ss_set (se_lstC sa_nil))
  (ss_seq (ss_set (se_op r2_add se_var se_int))
  (ss_seq (ss_for (si_list (se_call (sa_cons se_var (sa_cons se_var (sa_cons se_var sa_nil))))) sg_name
  (ss_seq (ss_drop (se_append se_var (sa_cons (se_tup (sa_cons (se_call (sa_cons se_var (sa_cons se_var (sa_cons se_var sa_nil)))) (sa_cons se_var sa_nil))) sa_nil)))
  (ss_set (se_op r2_add se_var se_int))))
  (ss_ret (se_frz se_var)))))
theorem sc_Promise___init__ : FnScope ["self", "last", "spans", "at", "span"] ["self", "last", "spans"] (defScope s_Promise___init__) := ⟨rfl, rfl, rfl, by decide +kernel, rfl, by decide +kernel, by decide +kernel⟩
def m_Promise___init___b1 : MS := (sIf (mOr (mTest (mOp fLt (mOp fIxT (mVar 4) (mC (.int 0))) (mC (.int 1)))) (mOr (mTest (mOp fLt (mOp fIxT (mVar 4) (mC (.int 1))) (mOp fIxT (mVar 4) (mC (.int 0))))) (mTest (mOp fGt (mOp fIxT (mVar 4) (mC (.int 1))) (mVar 1)))))
  sNever
  sNext)
def m_Promise___init__ : MS := (sSeq (sDrop (mCall F_check (mCons (mC (.str "beats")) (mCons (mVar 1) mNil))))
  (sSeq (sDrop (mCall F_check (mCons (mC (.str "spans")) (mCons (mCall fLen (mCons (mVar 2) mNil)) mNil))))
  (sSeq (sIf (mTest (mOp fLt (mVar 1) (mC (.int 1))))
  sNever
  sNext)
  (sSeq (mFor (mIE (mCons (mVar 2) mNil)) (tg2 3 4) m_Promise___init___b1)
  (sSeq (sFldN 0 "day_number" (mVar 0) (mVar 1))
  (sSeq (sFldN 0 "span_list" (mVar 0) (mCall F_sorted_spans (mCons (mVar 2) mNil)))
  (sFldN 0 "end_table" (mVar 0) (mCall F_least_ends (mCons (mVar 1) (mCons (mFld 0 "span_list" (mVar 0)) mNil))))))))))
def F_Promise___init__ : List E → List Cell → Option (E × List Cell) := fnM 3 5 m_Promise___init__
theorem ok_Promise___init__ (T : Top K mg w) : FnOk P w K mg base CX0 2 T.m_Promise___init__.f T.m_Promise___init__.fd ["self", "last", "spans"] (spM K T.κ F_Promise___init__) := by
  have G_check := ok_check (P := P) (w := w) (base := base) T
  have G_least_ends := ok_least_ends (P := P) (w := w) (base := base) T
  have G_sorted_spans := ok_sorted_spans (P := P) (w := w) (base := base) T
  refine fnM_ok T.m_Promise___init__.F sc_Promise___init__ (fun cdv A outer s H Exc hr => ⟨_, (pss_cons (ps_expr (pe_call G_check (hr.mono (by decide)) (by rfl) T.d_check.g T.d_check.F.kp T.d_check.b .nil pass0 (pa_cons pe_str (pa_cons (pv 1) pa_nil))))
  (pss_cons (ps_expr (pe_call G_check (hr.mono (by decide)) (by rfl) T.d_check.g T.d_check.F.kp T.d_check.b .nil pass0 (pa_cons pe_str (pa_cons (pe_callB (r := (fun xs H Q => ∃ x n, xs = [x] ∧ LenV K x H n ∧ Q (.int n) H)) call_len (by rfl) T.n_len (by decide +kernel) (pa_cons (pv 2) pa_nil)) pa_nil))))
  (pss_cons (ps_if (pt_cmpR op_lt (pv 1) pe_int (nomark _))
  (pss_one ps_never)
  pss_nil)
  (pss_cons (ps_for PassesOwn.never rfl (pi_enum (by rfl) T.n_enumerate (pa_cons (pv 2) pa_nil)) (pg_tup rfl (pgs_cons (pg_name (i := 3) sc_Promise___init__.nd rfl (Or.inl rfl)) (pgs_cons (pg_name (i := 4) sc_Promise___init__.nd rfl (Or.inl rfl)) pgs_nil)))
  (pss_one (ps_if (PW.pt (pw_or (pt_cmpR op_lt (pe_ix (r := rIxT K) ix_tup (pv 4) pe_int (fun _ _ => rfl)) pe_int (nomark _)) (pw_or (pt_cmpR op_lt (pe_ix (r := rIxT K) ix_tup (pv 4) pe_int (fun _ _ => rfl)) (pe_ix (r := rIxT K) ix_tup (pv 4) pe_int (fun _ _ => rfl)) (nomark _)) (pw_or1 (pt_cmpR op_gt (pe_ix (r := rIxT K) ix_tup (pv 4) pe_int (fun _ _ => rfl)) (pv 1) (nomark _))))))
  (pss_one ps_never)
  pss_nil)))
  (pss_cons (ps_fld (pv 0) (pv 1) rfl)
  (pss_cons (ps_fld (pv 0) (pe_call G_sorted_spans (hr.mono (by decide)) (by rfl) T.d_sorted_spans.g T.d_sorted_spans.F.kp T.d_sorted_spans.b .nil pass0 (pa_cons (pv 2) pa_nil)) rfl)
  (pss_one (ps_fld (pv 0) (pe_call G_least_ends (hr.mono (by decide)) (by rfl) T.d_least_ends.g T.d_least_ends.F.kp T.d_least_ends.b .nil pass0 (pa_cons (pv 1) (pa_cons (pe_fld (pv 0) rfl) pa_nil))) rfl)))))))), ?_⟩)
  exact (ss_seq (ss_drop (se_call (sa_cons se_str (sa_cons se_var sa_nil))))
  (ss_seq (ss_drop (se_call (sa_cons se_str (sa_cons (se_cb rc_len (sa_cons se_var sa_nil)) sa_nil))))
  (ss_seq (ss_if (st_test (se_op r2_lt se_var se_int))
  ss_never
  ss_next)
  (ss_seq (ss_for (si_enum (sa_cons se_var sa_nil)) sg_two
  (ss_if (st_or (st_test (se_op r2_lt (se_op r2_ixT se_var se_int) se_int)) (st_or (st_test (se_op r2_lt (se_op r2_ixT se_var se_int) (se_op r2_ixT se_var se_int))) (st_test (se_op r2_gt (se_op r2_ixT se_var se_int) se_var))))
  ss_never
  ss_next))
  (ss_seq (ss_fldN T.cls_Promise T.no_Promise_day_number se_var se_var)
  (ss_seq (ss_fldN T.cls_Promise T.no_Promise_span_list se_var (se_call (sa_cons se_var sa_nil)))
  (ss_fldN T.cls_Promise T.no_Promise_end_table se_var (se_call (sa_cons se_var (sa_cons (se_fld T.cls_Promise T.no_Promise_span_list se_var) sa_nil))))))))))
theorem sc_Promise_last : FnScope ["self"] ["self"] (defScope s_Promise_last) := ⟨rfl, rfl, rfl, by decide +kernel, rfl, by decide +kernel, by decide +kernel⟩
def m_Promise_last : MS := (sRet (mFld 0 "day_number" (mVar 0)))
def F_Promise_last : List D → Option D := fnP 1 1 m_Promise_last
theorem ok_Promise_last (T : Top K mg w) : FnOk P w K mg base CX0 1 T.m_Promise_last.f T.m_Promise_last.fd ["self"] (spP K T.κ F_Promise_last) := by
  refine fnP_ok T.m_Promise_last.F sc_Promise_last (fun cdv A outer s H Exc hr => ⟨_, (pss_one (ps_ret (pe_fld (pv 0) rfl))), ?_⟩)
  exact (ss_ret (se_fld T.cls_Promise T.no_Promise_day_number se_var))
theorem sc_Promise_picks : FnScope ["self", "s", "t"] ["self", "s", "t"] (defScope s_Promise_picks) := ⟨rfl, rfl, rfl, by decide +kernel, rfl, by decide +kernel, by decide +kernel⟩
def m_Promise_picks : MS := (sRet (mCall F_pick_spans (mCons (mFld 0 "span_list" (mVar 0)) (mCons (mFld 0 "end_table" (mVar 0)) (mCons (mVar 1) (mCons (mVar 2) mNil))))))
def F_Promise_picks : List D → Option D := fnP 3 3 m_Promise_picks
theorem ok_Promise_picks (T : Top K mg w) : FnOk P w K mg base CX0 4 T.m_Promise_picks.f T.m_Promise_picks.fd ["self", "s", "t"] (spP K T.κ F_Promise_picks) := by
  have G_pick_spans := ok_pick_spans (P := P) (w := w) (base := base) T
  refine fnP_ok T.m_Promise_picks.F sc_Promise_picks (fun cdv A outer s H Exc hr => ⟨_, (pss_one (ps_ret (pe_call G_pick_spans (hr.mono (by decide)) (by rfl) T.d_pick_spans.g T.d_pick_spans.F.kp T.d_pick_spans.b .nil pass0 (pa_cons (pe_fld (pv 0) rfl) (pa_cons (pe_fld (pv 0) rfl) (pa_cons (pv 1) (pa_cons (pv 2) pa_nil))))))), ?_⟩)
  exact (ss_ret (se_call (sa_cons (se_fld T.cls_Promise T.no_Promise_span_list se_var) (sa_cons (se_fld T.cls_Promise T.no_Promise_end_table se_var) (sa_cons se_var (sa_cons se_var sa_nil))))))
theorem sc_are_hills : FnScope ["parents", "values", "sessions", "promises", "many", "at", "parent"] ["parents", "values", "sessions", "promises"] (defScope s_are_hills) := ⟨rfl, rfl, rfl, by decide +kernel, rfl, by decide +kernel, by decide +kernel⟩
def m_are_hills_b1 : MS := (sIf (mOr (mNot (mTest (mChain fLe fLe (mC (.int 0)) (mVar 6) (mVar 5)))) (mTest (mOp fNe (mMeth 0 "last" F_Promise_last (mOp fIxL (mVar 3) (mVar 5)) mNil) (mMeth 0 "last" F_Promise_last (mOp fIxL (mVar 3) (mC (.int 0))) mNil))))
  (sRet (mC (.bl false)))
  sNext)
def m_are_hills : MS := (sSeq (sSet 4 (mCall fLen (mCons (mVar 1) mNil)))
  (sSeq (sIf (mOr (mTest (mOp fLt (mVar 4) (mC (.int 2)))) (mOr (mTest (mOp fNe (mCall fLen (mCons (mVar 0) mNil)) (mOp fSub (mVar 4) (mC (.int 1))))) (mOr (mTest (mOp fNe (mCall fLen (mCons (mVar 2) mNil)) (mOp fSub (mVar 4) (mC (.int 1))))) (mTest (mOp fNe (mCall fLen (mCons (mVar 3) mNil)) (mOp fSub (mVar 4) (mC (.int 1))))))))
  (sRet (mC (.bl false)))
  sNext)
  (sSeq (mFor (mIE (mCons (mVar 0) mNil)) (tg2 5 6) m_are_hills_b1)
  (sRet (mC (.bl true))))))
def F_are_hills : List D → Option D := fnP 4 7 m_are_hills
theorem ok_are_hills (T : Top K mg w) : FnOk P w K mg base CX0 2 T.d_are_hills.f T.d_are_hills.fd ["parents", "values", "sessions", "promises"] (spP K T.κ F_are_hills) := by
  have G_Promise_last := ok_Promise_last (P := P) (w := w) (base := base) T
  refine fnP_ok T.d_are_hills.F sc_are_hills (fun cdv A outer s H Exc hr => ⟨_, (pss_cons (ps_set (i := 4) sc_are_hills.nd rfl (Or.inl rfl) (pe_callB (r := (fun xs H Q => ∃ x n, xs = [x] ∧ LenV K x H n ∧ Q (.int n) H)) call_len (by rfl) T.n_len (by decide +kernel) (pa_cons (pv 1) pa_nil)))
  (pss_cons (ps_if (PW.pt (pw_or (pt_cmpR op_lt (pv 4) pe_int (nomark _)) (pw_or (pt_cmpR op_ne (pe_callB (r := (fun xs H Q => ∃ x n, xs = [x] ∧ LenV K x H n ∧ Q (.int n) H)) call_len (by rfl) T.n_len (by decide +kernel) (pa_cons (pv 0) pa_nil)) (pe_op op_sub (pv 4) pe_int) (nomark _)) (pw_or (pt_cmpR op_ne (pe_callB (r := (fun xs H Q => ∃ x n, xs = [x] ∧ LenV K x H n ∧ Q (.int n) H)) call_len (by rfl) T.n_len (by decide +kernel) (pa_cons (pv 2) pa_nil)) (pe_op op_sub (pv 4) pe_int) (nomark _)) (pw_or1 (pt_cmpR op_ne (pe_callB (r := (fun xs H Q => ∃ x n, xs = [x] ∧ LenV K x H n ∧ Q (.int n) H)) call_len (by rfl) T.n_len (by decide +kernel) (pa_cons (pv 3) pa_nil)) (pe_op op_sub (pv 4) pe_int) (nomark _)))))))
  (pss_one (ps_ret pe_bl))
  pss_nil)
  (pss_cons (ps_for PassesOwn.never rfl (pi_enum (by rfl) T.n_enumerate (pa_cons (pv 0) pa_nil)) (pg_tup rfl (pgs_cons (pg_name (i := 5) sc_are_hills.nd rfl (Or.inl rfl)) (pgs_cons (pg_name (i := 6) sc_are_hills.nd rfl (Or.inl rfl)) pgs_nil)))
  (pss_one (ps_if (PW.pt (pw_or (pt_not (pt_chain op_le op_le pe_int (pv 6) (pv 5))) (pw_or1 (pt_cmpR op_ne (pe_meth0 (pe_ix (r := rIxL K) ix_list (pv 3) (pv 5) (fun _ _ => rfl)) T.cls_Promise T.m_Promise_last.M G_Promise_last (hr.mono (by decide)) T.m_Promise_last.b .nil pass0) (pe_meth0 (pe_ix (r := rIxL K) ix_list (pv 3) pe_int (fun _ _ => rfl)) T.cls_Promise T.m_Promise_last.M G_Promise_last (hr.mono (by decide)) T.m_Promise_last.b .nil pass0) (nomark _)))))
  (pss_one (ps_ret pe_bl))
  pss_nil)))
  (pss_one (ps_ret pe_bl))))), ?_⟩)
  exact (ss_seq (ss_set (se_cb rc_len (sa_cons se_var sa_nil)))
  (ss_seq (ss_if (st_or (st_test (se_op r2_lt se_var se_int)) (st_or (st_test (se_op r2_ne (se_cb rc_len (sa_cons se_var sa_nil)) (se_op r2_sub se_var se_int))) (st_or (st_test (se_op r2_ne (se_cb rc_len (sa_cons se_var sa_nil)) (se_op r2_sub se_var se_int))) (st_test (se_op r2_ne (se_cb rc_len (sa_cons se_var sa_nil)) (se_op r2_sub se_var se_int))))))
  (ss_ret se_bl)
  ss_next)
  (ss_seq (ss_for (si_enum (sa_cons se_var sa_nil)) sg_two
  (ss_if (st_or (st_not (st_test (se_chain r2_le r2_le se_int se_var se_var))) (st_test (se_op r2_ne (se_meth (c := 0) (se_op r2_ixL se_var se_var) sa_nil) (se_meth (c := 0) (se_op r2_ixL se_var se_int) sa_nil))))
  (ss_ret se_bl)
  ss_next))
  (ss_ret se_bl))))
theorem sc_are_sessions : FnScope ["parents", "sessions", "last", "at", "session"] ["parents", "sessions", "last"] (defScope s_are_sessions) := ⟨rfl, rfl, rfl, by decide +kernel, rfl, by decide +kernel, by decide +kernel⟩
def m_are_sessions_b1 : MS := (sSeq (sIf (mNot (mTest (mChain3 fLe fLe fLe (mC (.int 1)) (mOp fIxT (mVar 4) (mC (.int 0))) (mOp fIxT (mVar 4) (mC (.int 1))) (mVar 2))))
  (sRet (mC (.bl false)))
  sNext)
  (sIf (mAnd (mTest (mOp fGt (mOp fIxL (mVar 0) (mVar 3)) (mC (.int 0)))) (mTest (mOp fGe (mOp fIxT (mVar 4) (mC (.int 1))) (mOp fIxT (mOp fIxL (mVar 1) (mOp fSub (mOp fIxL (mVar 0) (mVar 3)) (mC (.int 1)))) (mC (.int 0))))))
  (sRet (mC (.bl false)))
  sNext))
def m_are_sessions : MS := (sSeq (mFor (mIE (mCons (mVar 1) mNil)) (tg2 3 4) m_are_sessions_b1)
  (sRet (mC (.bl true))))
def F_are_sessions : List D → Option D := fnP 3 5 m_are_sessions
theorem ok_are_sessions (T : Top K mg w) : FnOk P w K mg base CX0 1 T.d_are_sessions.f T.d_are_sessions.fd ["parents", "sessions", "last"] (spP K T.κ F_are_sessions) := by
  refine fnP_ok T.d_are_sessions.F sc_are_sessions (fun cdv A outer s H Exc hr => ⟨_, (pss_cons (ps_for PassesOwn.never rfl (pi_enum (by rfl) T.n_enumerate (pa_cons (pv 1) pa_nil)) (pg_tup rfl (pgs_cons (pg_name (i := 3) sc_are_sessions.nd rfl (Or.inl rfl)) (pgs_cons (pg_name (i := 4) sc_are_sessions.nd rfl (Or.inl rfl)) pgs_nil)))
  (pss_cons (ps_if (pt_not (pt_chain3 op_le op_le op_le pe_int (pe_ix (r := rIxT K) ix_tup (pv 4) pe_int (fun _ _ => rfl)) (pe_ix (r := rIxT K) ix_tup (pv 4) pe_int (fun _ _ => rfl)) (pv 2)))
  (pss_one (ps_ret pe_bl))
  pss_nil)
  (pss_one (ps_if (PW.pt (pw_and (pt_cmpR op_gt (pe_ix (r := rIxL K) ix_list (pv 0) (pv 3) (fun _ _ => rfl)) pe_int (nomark _)) (pw_and1 (pt_cmpR op_ge (pe_ix (r := rIxT K) ix_tup (pv 4) pe_int (fun _ _ => rfl)) (pe_ix (r := rIxT K) ix_tup (pe_ix (r := rIxL K) ix_list (pv 1) (pe_op op_sub (pe_ix (r := rIxL K) ix_list (pv 0) (pv 3) (fun _ _ => rfl)) pe_int) (fun _ _ => rfl)) pe_int (fun _ _ => rfl)) (nomark _)))))
  (pss_one (ps_ret pe_bl))
  pss_nil))))
  (pss_one (ps_ret pe_bl))), ?_⟩)
  exact (ss_seq (ss_for (si_enum (sa_cons se_var sa_nil)) sg_two
  (ss_seq (ss_if (st_not (st_test (se_chain3 r2_le r2_le r2_le se_int (se_op r2_ixT se_var se_int) (se_op r2_ixT se_var se_int) se_var)))
  (ss_ret se_bl)
  ss_next)
  (ss_if (st_and (st_test (se_op r2_gt (se_op r2_ixL se_var se_var) se_int)) (st_test (se_op r2_ge (se_op r2_ixT se_var se_int) (se_op r2_ixT (se_op r2_ixL se_var (se_op r2_sub (se_op r2_ixL se_var se_var) se_int)) se_int))))
  (ss_ret se_bl)
  ss_next)))
  (ss_ret se_bl))
theorem sc_are_answers : FnScope ["sizes", "answers", "rows", "row"] ["sizes", "answers"] (defScope s_are_answers) := ⟨rfl, rfl, rfl, by decide +kernel, rfl, by decide +kernel, by decide +kernel⟩
def m_are_answers : MS := (sSeq (sSet 2 (mCall F_rows_of (mCons (mVar 0) mNil)))
  (sRet (mOfT (mAnd (mTest (mOp fEq (mCall fLenT (mCons (mVar 1) mNil)) (mCall fLen (mCons (mVar 2) mNil)))) (mTest (mOp fEq (mCall fLen (mCons (mLc (mIL (mVar 2)) (tgN 3) (mTest (mOp fNotIn (mVar 3) (mVar 1))) (mVar 3) [3]) mNil)) (mC (.int 0))))))))
def F_are_answers : List D → Option D := fnP 2 4 m_are_answers
theorem ok_are_answers (T : Top K mg w) : FnOk P w K mg base CX0 2 T.d_are_answers.f T.d_are_answers.fd ["sizes", "answers"] (spP K T.κ F_are_answers) := by
  have G_rows_of := ok_rows_of (P := P) (w := w) (base := base) T
  refine fnP_ok T.d_are_answers.F sc_are_answers (fun cdv A outer s H Exc hr => ⟨_, (pss_cons (ps_set (i := 2) sc_are_answers.nd rfl (Or.inl rfl) (pe_call G_rows_of (hr.mono (by decide)) (by rfl) T.d_rows_of.g T.d_rows_of.F.kp T.d_rows_of.b .nil pass0 (pa_cons (pv 0) pa_nil)))
  (pss_one (ps_ret (pe_and (pe_cmpR op_eq (pe_callB call_len_dT (by rfl) T.n_len (by decide +kernel) (pa_cons (pv 1) pa_nil)) (pe_callB (r := (fun xs H Q => ∃ x n, xs = [x] ∧ LenV K x H n ∧ Q (.int n) H)) call_len (by rfl) T.n_len (by decide +kernel) (pa_cons (pv 2) pa_nil)) (nomark _)) (pe_one (pe_cmpR op_eq (pe_callB (r := (fun xs H Q => ∃ x n, xs = [x] ∧ LenV K x H n ∧ Q (.int n) H)) call_len (by rfl) T.n_len (by decide +kernel) (pa_cons (pe_lc (own := [("row", 3)]) (by rfl) sc_are_answers.nd (pi_list (pv 2)) (blkOk_by (own := [("row", 3)]) (N := ["sizes", "answers", "rows", "row"]) (sc := defScope s_are_answers) (by decide +kernel)) (fun _ _ _ _ _ => (pg_name (i := 3) sc_are_answers.nd rfl (Or.inl rfl))) (fun _ _ _ _ _ => (pts_one (pt_cmp (pc_dnotin (hu_of hr) (pv 3) (pv 1))))) (fun _ _ _ _ _ => (pv 3))) pa_nil)) pe_int (nomark _))))))), ?_⟩)
  exact (ss_seq (ss_set (se_call (sa_cons se_var sa_nil)))
  (ss_ret (se_andV (se_op r2_eq (se_cb rc_lenT (sa_cons se_var sa_nil)) (se_cb rc_len (sa_cons se_var sa_nil))) (se_op r2_eq (se_cb rc_len (sa_cons (se_lc (si_list se_var) sg_name (by decide) (st_b (se_dNotIn se_var se_var)) se_var) sa_nil)) se_int))))
theorem sc_Question___init__ : FnScope ["self", "parents", "values", "sessions", "promises", "answers", "v", "session", "row", "size"] ["self", "parents", "values", "sessions", "promises", "answers"] (defScope s_Question___init__) := ⟨rfl, rfl, rfl, by decide +kernel, rfl, by decide +kernel, by decide +kernel⟩
def m_Question___init___b1 : MS := (sDrop (mAppend (mFld 1 "group_table" (mVar 0)) (mCons (mCall F_class_list (mCons (mFld 1 "parent_list" (mVar 0)) (mCons (mFld 1 "size_list" (mVar 0)) (mCons (mFld 1 "answer_table" (mVar 0)) (mCons (mVar 6) mNil))))) mNil)))
def m_Question___init__ : MS := (sSeq (sDrop (mCall F_check (mCons (mC (.str "hall")) (mCons (mCall fMax (mCons (mLst (mCons (mCall fLen (mCons (mVar 2) mNil)) (mCons (mOp fAdd (mCall fLen (mCons (mVar 1) mNil)) (mC (.int 1))) (mCons (mOp fAdd (mCall fLen (mCons (mVar 3) mNil)) (mC (.int 1))) (mCons (mOp fAdd (mCall fLen (mCons (mVar 4) mNil)) (mC (.int 1))) mNil))))) mNil)) mNil))))
  (sSeq (sDrop (mCall F_check_each (mCons (mC (.str "values")) (mCons (mVar 2) mNil))))
  (sSeq (sIf (mNot (mTest (mCall F_are_hills (mCons (mVar 1) (mCons (mVar 2) (mCons (mVar 3) (mCons (mVar 4) mNil)))))))
  sNever
  sNext)
  (sSeq (sIf (mTest (mOp fGt (mCall fLen (mCons (mLc (mIL (mVar 2)) (tgN 9) (mTest (mOp fLt (mVar 9) (mC (.int 1)))) (mVar 9) [9]) mNil)) (mC (.int 0))))
  sNever
  sNext)
  (sSeq (sIf (mNot (mTest (mCall F_are_sessions (mCons (mVar 1) (mCons (mVar 3) (mCons (mMeth 0 "last" F_Promise_last (mOp fIxL (mVar 4) (mC (.int 0))) mNil) mNil))))))
  sNever
  sNext)
  (sSeq (sIf (mNot (mTest (mCall F_are_answers (mCons (mVar 2) (mCons (mVar 5) mNil)))))
  sNever
  sNext)
  (sSeq (sFldN 1 "parent_list" (mVar 0) (mCall fListOf (mCons (mVar 1) mNil)))
  (sSeq (sFldN 1 "size_list" (mVar 0) (mCall fListOf (mCons (mVar 2) mNil)))
  (sSeq (sFldN 1 "session_list" (mVar 0) (mLc (mIL (mVar 3)) (tgN 7) mYes (mTup (mCons (mOp fIxT (mVar 7) (mC (.int 0))) (mCons (mOp fIxT (mVar 7) (mC (.int 1))) mNil))) [7]))
  (sSeq (sFldN 1 "promise_list" (mVar 0) (mCall fListOf (mCons (mVar 4) mNil)))
  (sSeq (sFldN 1 "child_table" (mVar 0) (mCall F_children_of (mCons (mFld 1 "parent_list" (mVar 0)) mNil)))
  (sSeq (sFldN 1 "answer_table" (mVar 0) (mDcT (mIL (mCall F_rows_of (mCons (mVar 2) mNil))) (tgN 8) mYes (mVar 8) (mOp fDGet (mVar 5) (mVar 8)) [8]))
  (sSeq (sFldN 1 "group_table" (mVar 0) (mLstC mNil))
  (sPost (gFrzO 0) (mFor (mIR1 (mCons (mCall fLen (mCons (mVar 2) mNil)) mNil)) (tgN 6) m_Question___init___b1)))))))))))))))
def F_Question___init__ : List E → List Cell → Option (E × List Cell) := fnM 6 10 m_Question___init__
theorem ok_Question___init__ (T : Top K mg w) : FnOk P w K mg base CX0 4 T.m_Question___init__.f T.m_Question___init__.fd ["self", "parents", "values", "sessions", "promises", "answers"] (spM K T.κ F_Question___init__) := by
  have G_Promise_last := ok_Promise_last (P := P) (w := w) (base := base) T
  have G_are_answers := ok_are_answers (P := P) (w := w) (base := base) T
  have G_are_hills := ok_are_hills (P := P) (w := w) (base := base) T
  have G_are_sessions := ok_are_sessions (P := P) (w := w) (base := base) T
  have G_check := ok_check (P := P) (w := w) (base := base) T
  have G_check_each := ok_check_each (P := P) (w := w) (base := base) T
  have G_children_of := ok_children_of (P := P) (w := w) (base := base) T
  have G_class_list := ok_class_list (P := P) (w := w) (base := base) T
  have G_rows_of := ok_rows_of (P := P) (w := w) (base := base) T
  refine fnM_ok T.m_Question___init__.F sc_Question___init__ (fun cdv A outer s H Exc hr => ⟨_, (pss_cons (ps_expr (pe_call G_check (hr.mono (by decide)) (by rfl) T.d_check.g T.d_check.F.kp T.d_check.b .nil pass0 (pa_cons pe_str (pa_cons (pe_callB (r := (rMax K)) (cr_max rfl) (by rfl) T.n_max (by decide +kernel) (pa_cons (pe_lst (pa_cons (pe_callB (r := (fun xs H Q => ∃ x n, xs = [x] ∧ LenV K x H n ∧ Q (.int n) H)) call_len (by rfl) T.n_len (by decide +kernel) (pa_cons (pv 2) pa_nil)) (pa_cons (pe_op op_add (pe_callB (r := (fun xs H Q => ∃ x n, xs = [x] ∧ LenV K x H n ∧ Q (.int n) H)) call_len (by rfl) T.n_len (by decide +kernel) (pa_cons (pv 1) pa_nil)) pe_int) (pa_cons (pe_op op_add (pe_callB (r := (fun xs H Q => ∃ x n, xs = [x] ∧ LenV K x H n ∧ Q (.int n) H)) call_len (by rfl) T.n_len (by decide +kernel) (pa_cons (pv 3) pa_nil)) pe_int) (pa_cons (pe_op op_add (pe_callB (r := (fun xs H Q => ∃ x n, xs = [x] ∧ LenV K x H n ∧ Q (.int n) H)) call_len (by rfl) T.n_len (by decide +kernel) (pa_cons (pv 4) pa_nil)) pe_int) pa_nil))))) pa_nil)) pa_nil))))
  (pss_cons (ps_expr (pe_call G_check_each (hr.mono (by decide)) (by rfl) T.d_check_each.g T.d_check_each.F.kp T.d_check_each.b .nil pass0 (pa_cons pe_str (pa_cons (pv 2) pa_nil))))
  (pss_cons (ps_if (pt_not (pt_val (pe_call G_are_hills (hr.mono (by decide)) (by rfl) T.d_are_hills.g T.d_are_hills.F.kp T.d_are_hills.b .nil pass0 (pa_cons (pv 1) (pa_cons (pv 2) (pa_cons (pv 3) (pa_cons (pv 4) pa_nil)))))))
  (pss_one ps_never)
  pss_nil)
  (pss_cons (ps_if (pt_cmpR op_gt (pe_callB (r := (fun xs H Q => ∃ x n, xs = [x] ∧ LenV K x H n ∧ Q (.int n) H)) call_len (by rfl) T.n_len (by decide +kernel) (pa_cons (pe_lc (own := [("size", 9)]) (by rfl) sc_Question___init__.nd (pi_list (pv 2)) (blkOk_by (own := [("size", 9)]) (N := ["self", "parents", "values", "sessions", "promises", "answers", "v", "session", "row", "size"]) (sc := defScope s_Question___init__) (by decide +kernel)) (fun _ _ _ _ _ => (pg_name (i := 9) sc_Question___init__.nd rfl (Or.inl rfl))) (fun _ _ _ _ _ => (pts_one (pt_cmpR op_lt (pv 9) pe_int (nomark _)))) (fun _ _ _ _ _ => (pv 9))) pa_nil)) pe_int (nomark _))
  (pss_one ps_never)
  pss_nil)
  (pss_cons (ps_if (pt_not (pt_val (pe_call G_are_sessions (hr.mono (by decide)) (by rfl) T.d_are_sessions.g T.d_are_sessions.F.kp T.d_are_sessions.b .nil pass0 (pa_cons (pv 1) (pa_cons (pv 3) (pa_cons (pe_meth0 (pe_ix (r := rIxL K) ix_list (pv 4) pe_int (fun _ _ => rfl)) T.cls_Promise T.m_Promise_last.M G_Promise_last (hr.mono (by decide)) T.m_Promise_last.b .nil pass0) pa_nil))))))
  (pss_one ps_never)
  pss_nil)
  (pss_cons (ps_if (pt_not (pt_val (pe_call G_are_answers (hr.mono (by decide)) (by rfl) T.d_are_answers.g T.d_are_answers.F.kp T.d_are_answers.b .nil pass0 (pa_cons (pv 2) (pa_cons (pv 5) pa_nil)))))
  (pss_one ps_never)
  pss_nil)
  (pss_cons (ps_fld (pv 0) (pe_callTy (r := (fun xs H Q => ∃ p ys, xs = [.ref p] ∧ (SqL K H p ys ∨ SqT K H p ys) ∧ ∀ l, H l = none → Q (.ref l) (upd H l (.lst ys)))) call_list_of (by rfl) T.n_list (by decide +kernel) (pa_cons (pv 1) pa_nil)) rfl)
  (pss_cons (ps_fld (pv 0) (pe_callTy (r := (fun xs H Q => ∃ p ys, xs = [.ref p] ∧ (SqL K H p ys ∨ SqT K H p ys) ∧ ∀ l, H l = none → Q (.ref l) (upd H l (.lst ys)))) call_list_of (by rfl) T.n_list (by decide +kernel) (pa_cons (pv 2) pa_nil)) rfl)
  (pss_cons (ps_fld (pv 0) (pe_lc (own := [("session", 7)]) (by rfl) sc_Question___init__.nd (pi_list (pv 3)) (blkOk_by (own := [("session", 7)]) (N := ["self", "parents", "values", "sessions", "promises", "answers", "v", "session", "row", "size"]) (sc := defScope s_Question___init__) (by decide +kernel)) (fun _ _ _ _ _ => (pg_name (i := 7) sc_Question___init__.nd rfl (Or.inl rfl))) (fun _ _ _ _ _ => pts_nil) (fun _ _ _ _ _ => (pe_tup (pa_cons (pe_ix (r := rIxT K) ix_tup (pv 7) pe_int (fun _ _ => rfl)) (pa_cons (pe_ix (r := rIxT K) ix_tup (pv 7) pe_int (fun _ _ => rfl)) pa_nil))))) rfl)
  (pss_cons (ps_fld (pv 0) (pe_callTy (r := (fun xs H Q => ∃ p ys, xs = [.ref p] ∧ (SqL K H p ys ∨ SqT K H p ys) ∧ ∀ l, H l = none → Q (.ref l) (upd H l (.lst ys)))) call_list_of (by rfl) T.n_list (by decide +kernel) (pa_cons (pv 4) pa_nil)) rfl)
  (pss_cons (ps_fld (pv 0) (pe_call G_children_of (hr.mono (by decide)) (by rfl) T.d_children_of.g T.d_children_of.F.kp T.d_children_of.b .nil pass0 (pa_cons (pe_fld (pv 0) rfl) pa_nil)) rfl)
  (pss_cons (ps_fld (pv 0) (pe_dcT (own := [("row", 8)]) (by rfl) sc_Question___init__.nd (hu_of hr) (pi_list (pe_call G_rows_of (hr.mono (by decide)) (by rfl) T.d_rows_of.g T.d_rows_of.F.kp T.d_rows_of.b .nil pass0 (pa_cons (pv 2) pa_nil))) (blkOk_by (own := [("row", 8)]) (N := ["self", "parents", "values", "sessions", "promises", "answers", "v", "session", "row", "size"]) (sc := defScope s_Question___init__) (by decide +kernel)) (fun _ _ _ _ _ => (pg_name (i := 8) sc_Question___init__.nd rfl (Or.inl rfl))) (fun _ _ _ _ _ => pts_nil) (fun _ _ _ _ _ => (pv 8)) (fun _ _ _ _ _ => (pe_dget (hu_of hr) (pv 5) (pv 8) (fun _ _ => rfl)))) rfl)
  (pss_cons (ps_fld (pv 0) (pe_lst pa_nil) rfl)
  (pss_one (ps_for PassesOwn.never rfl (pi_range1 (by rfl) T.n_range (pa_cons (pe_callB (r := (fun xs H Q => ∃ x n, xs = [x] ∧ LenV K x H n ∧ Q (.int n) H)) call_len (by rfl) T.n_len (by decide +kernel) (pa_cons (pv 2) pa_nil)) pa_nil)) (pg_name (i := 6) sc_Question___init__.nd rfl (Or.inl rfl))
  (pss_one (ps_expr (pe_bm PySem.F.plainAttrs_list PySem.F.slot_list_append PySem.F.type_list_append mt_append (pe_fld (pv 0) rfl) (pa_cons (pe_call G_class_list (hr.mono (by decide)) (by rfl) T.d_class_list.g T.d_class_list.F.kp T.d_class_list.b .nil pass0 (pa_cons (pe_fld (pv 0) rfl) (pa_cons (pe_fld (pv 0) rfl) (pa_cons (pe_fld (pv 0) rfl) (pa_cons (pv 6) pa_nil))))) pa_nil))))))))))))))))))), ?_⟩)
  exact (ss_seq (ss_drop (se_call (sa_cons se_str (sa_cons (se_cb rc_max (sa_cons (se_lst (sa_cons (se_cb rc_len (sa_cons se_var sa_nil)) (sa_cons (se_op r2_add (se_cb rc_len (sa_cons se_var sa_nil)) se_int) (sa_cons (se_op r2_add (se_cb rc_len (sa_cons se_var sa_nil)) se_int) (sa_cons (se_op r2_add (se_cb rc_len (sa_cons se_var sa_nil)) se_int) sa_nil))))) sa_nil)) sa_nil))))
  (ss_seq (ss_drop (se_call (sa_cons se_str (sa_cons se_var sa_nil))))
  (ss_seq (ss_if (st_not (st_b (se_call (sa_cons se_var (sa_cons se_var (sa_cons se_var (sa_cons se_var sa_nil)))))))
  ss_never
  ss_next)
  (ss_seq (ss_if (st_test (se_op r2_gt (se_cb rc_len (sa_cons (se_lc (si_list se_var) sg_name (by decide) (st_test (se_op r2_lt se_var se_int)) se_var) sa_nil)) se_int))
  ss_never
  ss_next)
  (ss_seq (ss_if (st_not (st_b (se_call (sa_cons se_var (sa_cons se_var (sa_cons (se_meth (c := 0) (se_op r2_ixL se_var se_int) sa_nil) sa_nil))))))
  ss_never
  ss_next)
  (ss_seq (ss_if (st_not (st_b (se_call (sa_cons se_var (sa_cons se_var sa_nil)))))
  ss_never
  ss_next)
  (ss_seq (ss_fldN T.cls_Question T.no_Question_parent_list se_var (se_cb rc_list (sa_cons se_var sa_nil)))
  (ss_seq (ss_fldN T.cls_Question T.no_Question_size_list se_var (se_cb rc_list (sa_cons se_var sa_nil)))
  (ss_seq (ss_fldN T.cls_Question T.no_Question_session_list se_var (se_lc (si_list se_var) sg_name (by decide) st_yes (se_tup (sa_cons (se_op r2_ixT se_var se_int) (sa_cons (se_op r2_ixT se_var se_int) sa_nil)))))
  (ss_seq (ss_fldN T.cls_Question T.no_Question_promise_list se_var (se_cb rc_list (sa_cons se_var sa_nil)))
  (ss_seq (ss_fldN T.cls_Question T.no_Question_child_table se_var (se_call (sa_cons (se_fld T.cls_Question T.no_Question_parent_list se_var) sa_nil)))
  (ss_seq (ss_fldN T.cls_Question T.no_Question_answer_table se_var (se_dcT (si_list (se_call (sa_cons se_var sa_nil))) sg_name (by decide) st_yes se_var (se_dget se_var se_var)))
  (ss_seq (ss_fldN T.cls_Question T.no_Question_group_table se_var (se_lstC sa_nil))
  (ss_post (go_frzO (i := 0)) (ss_for (si_range1 (sa_cons (se_cb rc_len (sa_cons se_var sa_nil)) sa_nil)) sg_name
  (ss_drop (se_append (se_fld T.cls_Question T.no_Question_group_table se_var) (sa_cons (se_call (sa_cons (se_fld T.cls_Question T.no_Question_parent_list se_var) (sa_cons (se_fld T.cls_Question T.no_Question_size_list se_var) (sa_cons (se_fld T.cls_Question T.no_Question_answer_table se_var) (sa_cons se_var sa_nil))))) sa_nil))))))))))))))))))
theorem sc_Question_hills : FnScope ["self"] ["self"] (defScope s_Question_hills) := ⟨rfl, rfl, rfl, by decide +kernel, rfl, by decide +kernel, by decide +kernel⟩
def m_Question_hills : MS := (sRet (mCall fLen (mCons (mFld 1 "size_list" (mVar 0)) mNil)))
def F_Question_hills : List D → Option D := fnP 1 1 m_Question_hills
theorem ok_Question_hills (T : Top K mg w) : FnOk P w K mg base CX0 1 T.m_Question_hills.f T.m_Question_hills.fd ["self"] (spP K T.κ F_Question_hills) := by
  refine fnP_ok T.m_Question_hills.F sc_Question_hills (fun cdv A outer s H Exc hr => ⟨_, (pss_one (ps_ret (pe_callB (r := (fun xs H Q => ∃ x n, xs = [x] ∧ LenV K x H n ∧ Q (.int n) H)) call_len (by rfl) T.n_len (by decide +kernel) (pa_cons (pe_fld (pv 0) rfl) pa_nil)))), ?_⟩)
  exact (ss_ret (se_cb rc_len (sa_cons (se_fld T.cls_Question T.no_Question_size_list se_var) sa_nil)))
theorem sc_Question_classes : FnScope ["self", "v", "group"] ["self", "v"] (defScope s_Question_classes) := ⟨rfl, rfl, rfl, by decide +kernel, rfl, by decide +kernel, by decide +kernel⟩
def m_Question_classes : MS := (sRet (mLc (mIL (mOp fIxL (mFld 1 "group_table" (mVar 0)) (mVar 1))) (tgN 2) mYes (mCall fListOf (mCons (mVar 2) mNil)) [2]))
def F_Question_classes : List D → Option D := fnP 2 3 m_Question_classes
theorem ok_Question_classes (T : Top K mg w) : FnOk P w K mg base CX0 1 T.m_Question_classes.f T.m_Question_classes.fd ["self", "v"] (spP K T.κ F_Question_classes) := by
  refine fnP_ok T.m_Question_classes.F sc_Question_classes (fun cdv A outer s H Exc hr => ⟨_, (pss_one (ps_ret (pe_lc (own := [("group", 2)]) (by rfl) sc_Question_classes.nd (pi_list (pe_ix (r := rIxL K) ix_list (pe_fld (pv 0) rfl) (pv 1) (fun _ _ => rfl))) (blkOk_by (own := [("group", 2)]) (N := ["self", "v", "group"]) (sc := defScope s_Question_classes) (by decide +kernel)) (fun _ _ _ _ _ => (pg_name (i := 2) sc_Question_classes.nd rfl (Or.inl rfl))) (fun _ _ _ _ _ => pts_nil) (fun _ _ _ _ _ => (pe_callTy (r := (fun xs H Q => ∃ p ys, xs = [.ref p] ∧ (SqL K H p ys ∨ SqT K H p ys) ∧ ∀ l, H l = none → Q (.ref l) (upd H l (.lst ys)))) call_list_of (by rfl) T.n_list (by decide +kernel) (pa_cons (pv 2) pa_nil)))))), ?_⟩)
  exact (ss_ret (se_lc (si_list (se_op r2_ixL (se_fld T.cls_Question T.no_Question_group_table se_var) se_var)) sg_name (by decide) st_yes (se_cb rc_list (sa_cons se_var sa_nil))))
theorem sc_Question_session_picks : FnScope ["self", "v", "first", "final"] ["self", "v"] (defScope s_Question_session_picks) := ⟨rfl, rfl, rfl, by decide +kernel, rfl, by decide +kernel, by decide +kernel⟩
def m_Question_session_picks : MS := (sSeq (sAsg (tg2 2 3) (mOp fIxL (mFld 1 "session_list" (mVar 0)) (mOp fSub (mVar 1) (mC (.int 1)))))
  (sRet (mMeth 0 "picks" F_Promise_picks (mOp fIxL (mFld 1 "promise_list" (mVar 0)) (mOp fSub (mVar 1) (mC (.int 1)))) (mCons (mOp fSub (mVar 2) (mC (.int 1))) (mCons (mVar 3) mNil)))))
def F_Question_session_picks : List D → Option D := fnP 2 4 m_Question_session_picks
theorem ok_Question_session_picks (T : Top K mg w) : FnOk P w K mg base CX0 5 T.m_Question_session_picks.f T.m_Question_session_picks.fd ["self", "v"] (spP K T.κ F_Question_session_picks) := by
  have G_Promise_picks := ok_Promise_picks (P := P) (w := w) (base := base) T
  refine fnP_ok T.m_Question_session_picks.F sc_Question_session_picks (fun cdv A outer s H Exc hr => ⟨_, (pss_cons (ps_asg (pe_ix (r := rIxL K) ix_list (pe_fld (pv 0) rfl) (pe_op op_sub (pv 1) pe_int) (fun _ _ => rfl)) (pg_tup rfl (pgs_cons (pg_name (i := 2) sc_Question_session_picks.nd rfl (Or.inl rfl)) (pgs_cons (pg_name (i := 3) sc_Question_session_picks.nd rfl (Or.inl rfl)) pgs_nil))))
  (pss_one (ps_ret (pe_meth (pe_ix (r := rIxL K) ix_list (pe_fld (pv 0) rfl) (pe_op op_sub (pv 1) pe_int) (fun _ _ => rfl)) T.cls_Promise T.m_Promise_picks.M G_Promise_picks (hr.mono (by decide)) T.m_Promise_picks.b .nil pass0 (pa_cons (pe_op op_sub (pv 2) pe_int) (pa_cons (pv 3) pa_nil)))))), ?_⟩)
  exact (ss_seq (ss_asg sg_two (se_op r2_ixL (se_fld T.cls_Question T.no_Question_session_list se_var) (se_op r2_sub se_var se_int)))
  (ss_ret (se_meth (c := 0) (se_op r2_ixL (se_fld T.cls_Question T.no_Question_promise_list se_var) (se_op r2_sub se_var se_int)) (sa_cons (se_op r2_sub se_var se_int) (sa_cons se_var sa_nil)))))
theorem sc_Question_needs : FnScope ["self", "v", "q", "many", "found", "power"] ["self", "v", "q"] (defScope s_Question_needs) := ⟨rfl, rfl, rfl, by decide +kernel, rfl, by decide +kernel, by decide +kernel⟩
def m_Question_needs_b1 : MS := (sSeq (sSet 5 (mOp fMul (mVar 5) (mVar 2)))
  (sAug 4 (fun i j => i + j) (mC (.int 1))))
def m_Question_needs : MS := (sSeq (sSet 3 (mCall fLen (mCons (mOp fIxL (mFld 1 "group_table" (mVar 0)) (mVar 1)) mNil)))
  (sSeq (sSet 4 (mC (.int 0)))
  (sSeq (sSet 5 (mC (.int 1)))
  (sSeq (sWhile 1000 (mTest (mOp fLt (mVar 5) (mVar 3))) m_Question_needs_b1)
  (sRet (mVar 4))))))
def F_Question_needs : List D → Option D := fnP 3 6 m_Question_needs
theorem ok_Question_needs (T : Top K mg w) : FnOk P w K mg base CX0 1 T.m_Question_needs.f T.m_Question_needs.fd ["self", "v", "q"] (spP K T.κ F_Question_needs) := by
  refine fnP_ok T.m_Question_needs.F sc_Question_needs (fun cdv A outer s H Exc hr => ⟨_, (pss_cons (ps_set (i := 3) sc_Question_needs.nd rfl (Or.inl rfl) (pe_callB (r := (fun xs H Q => ∃ x n, xs = [x] ∧ LenV K x H n ∧ Q (.int n) H)) call_len (by rfl) T.n_len (by decide +kernel) (pa_cons (pe_ix (r := rIxL K) ix_list (pe_fld (pv 0) rfl) (pv 1) (fun _ _ => rfl)) pa_nil)))
  (pss_cons (ps_set (i := 4) sc_Question_needs.nd rfl (Or.inl rfl) pe_int)
  (pss_cons (ps_set (i := 5) sc_Question_needs.nd rfl (Or.inl rfl) pe_int)
  (pss_cons (ps_while PassesOwn.never (pt_cmpR op_lt (pv 5) (pv 3) (nomark _))
  (pss_cons (ps_set (i := 5) sc_Question_needs.nd rfl (Or.inl rfl) (pe_op op_mul (pv 5) (pv 2)))
  (pss_one (ps_aug (i := 4) sc_Question_needs.nd rfl (Or.inl rfl) pe_int ip_add))))
  (pss_one (ps_ret (pv 4))))))), ?_⟩)
  exact (ss_seq (ss_set (se_cb rc_len (sa_cons (se_op r2_ixL (se_fld T.cls_Question T.no_Question_group_table se_var) se_var) sa_nil)))
  (ss_seq (ss_set se_int)
  (ss_seq (ss_set se_int)
  (ss_seq (ss_while (st_test (se_op r2_lt se_var se_var))
  (ss_seq (ss_set (se_op r2_mul se_var se_var))
  (ss_aug se_int)))
  (ss_ret se_var)))))
theorem sc_Question_answered : FnScope ["self", "q", "v"] ["self", "q"] (defScope s_Question_answered) := ⟨rfl, rfl, rfl, by decide +kernel, rfl, by decide +kernel, by decide +kernel⟩
def m_Question_answered_b1 : MS := (sIf (mTest (mOp fGt (mMeth 1 "needs" F_Question_needs (mVar 0) (mCons (mVar 2) (mCons (mVar 1) mNil))) (mCall fLen (mCons (mMeth 1 "session_picks" F_Question_session_picks (mVar 0) (mCons (mVar 2) mNil)) mNil))))
  (sRet (mVar 2))
  sNext)
def m_Question_answered : MS := (sSeq (mFor (mIR2 (mCons (mC (.int 1)) (mCons (mMeth 1 "hills" F_Question_hills (mVar 0) mNil) mNil))) (tgN 2) m_Question_answered_b1)
  (sRet (mC .non)))
def F_Question_answered : List D → Option D := fnP 2 3 m_Question_answered
theorem ok_Question_answered (T : Top K mg w) : FnOk P w K mg base CX0 6 T.m_Question_answered.f T.m_Question_answered.fd ["self", "q"] (spP K T.κ F_Question_answered) := by
  have G_Question_hills := ok_Question_hills (P := P) (w := w) (base := base) T
  have G_Question_needs := ok_Question_needs (P := P) (w := w) (base := base) T
  have G_Question_session_picks := ok_Question_session_picks (P := P) (w := w) (base := base) T
  refine fnP_ok T.m_Question_answered.F sc_Question_answered (fun cdv A outer s H Exc hr => ⟨_, (pss_cons (ps_for PassesOwn.never rfl (pi_range2 (by rfl) T.n_range (pa_cons pe_int (pa_cons (pe_meth0 (pv 0) T.cls_Question T.m_Question_hills.M G_Question_hills (hr.mono (by decide)) T.m_Question_hills.b .nil pass0) pa_nil))) (pg_name (i := 2) sc_Question_answered.nd rfl (Or.inl rfl))
  (pss_one (ps_if (pt_cmpR op_gt (pe_meth (pv 0) T.cls_Question T.m_Question_needs.M G_Question_needs (hr.mono (by decide)) T.m_Question_needs.b .nil pass0 (pa_cons (pv 2) (pa_cons (pv 1) pa_nil))) (pe_callB (r := (fun xs H Q => ∃ x n, xs = [x] ∧ LenV K x H n ∧ Q (.int n) H)) call_len (by rfl) T.n_len (by decide +kernel) (pa_cons (pe_meth (pv 0) T.cls_Question T.m_Question_session_picks.M G_Question_session_picks (hr.mono (by decide)) T.m_Question_session_picks.b .nil pass0 (pa_cons (pv 2) pa_nil)) pa_nil)) (nomark _))
  (pss_one (ps_ret (pv 2)))
  pss_nil)))
  (pss_one (ps_ret pe_non))), ?_⟩)
  exact (ss_seq (ss_for (si_range2 (sa_cons se_int (sa_cons (se_meth (c := 1) se_var sa_nil) sa_nil))) sg_name
  (ss_if (st_test (se_op r2_gt (se_meth (c := 1) se_var (sa_cons se_var (sa_cons se_var sa_nil))) (se_cb rc_len (sa_cons (se_meth (c := 1) se_var (sa_cons se_var sa_nil)) sa_nil))))
  (ss_ret se_var)
  ss_next))
  (ss_ret se_non))
theorem sc__law_children : FnScope ["parents", "v", "at"] ["parents", "v"] (defScope s__law_children) := ⟨rfl, rfl, rfl, by decide +kernel, rfl, by decide +kernel, by decide +kernel⟩
def m__law_children : MS := (sRet (mLc (mIR1 (mCons (mCall fLen (mCons (mVar 0) mNil)) mNil)) (tgN 2) (mTest (mOp fEq (mOp fIxL (mVar 0) (mVar 2)) (mVar 1))) (mOp fAdd (mVar 2) (mC (.int 1))) [2]))
def F__law_children : List D → Option D := fnP 2 3 m__law_children
theorem ok__law_children (T : Top K mg w) : FnOk P w K mg base CX0 1 T.d__law_children.f T.d__law_children.fd ["parents", "v"] (spP K T.κ F__law_children) := by
  refine fnP_ok T.d__law_children.F sc__law_children (fun cdv A outer s H Exc hr => ⟨_, (pss_one (ps_ret (pe_lc (own := [("at", 2)]) (by rfl) sc__law_children.nd (pi_range1 (by rfl) T.n_range (pa_cons (pe_callB (r := (fun xs H Q => ∃ x n, xs = [x] ∧ LenV K x H n ∧ Q (.int n) H)) call_len (by rfl) T.n_len (by decide +kernel) (pa_cons (pv 0) pa_nil)) pa_nil)) (blkOk_by (own := [("at", 2)]) (N := ["parents", "v", "at"]) (sc := defScope s__law_children) (by decide +kernel)) (fun _ _ _ _ _ => (pg_name (i := 2) sc__law_children.nd rfl (Or.inl rfl))) (fun _ _ _ _ _ => (pts_one (pt_cmpR op_eq (pe_ix (r := rIxL K) ix_list (pv 0) (pv 2) (fun _ _ => rfl)) (pv 1) (nomark _)))) (fun _ _ _ _ _ => (pe_op op_add (pv 2) pe_int))))), ?_⟩)
  exact (ss_ret (se_lc (si_range1 (sa_cons (se_cb rc_len (sa_cons se_var sa_nil)) sa_nil)) sg_name (by decide) (st_test (se_op r2_eq (se_op r2_ixL se_var se_var) se_var)) (se_op r2_add se_var se_int)))
theorem sc__law_side : FnScope ["parents", "v", "inside", "hill"] ["parents", "v"] (defScope s__law_side) := ⟨rfl, rfl, rfl, by decide +kernel, rfl, by decide +kernel, by decide +kernel⟩
def m__law_side_b1 : MS := (sIf (tBorT (mTest (mOp (fInD false) (mOp fIxL (mVar 0) (mOp fSub (mVar 3) (mC (.int 1)))) (mVar 2))))
  (sDrop (mAppend (mVar 2) (mCons (mVar 3) mNil)))
  sNext)
def m__law_side : MS := (sSeq (sSet 2 (mLstC (mCons (mVar 1) mNil)))
  (sSeq (mFor (mIR2 (mCons (mOp fAdd (mVar 1) (mC (.int 1))) (mCons (mOp fAdd (mCall fLen (mCons (mVar 0) mNil)) (mC (.int 1))) mNil))) (tgN 3) m__law_side_b1)
  (sRet (mFrz (mVar 2)))))
def F__law_side : List D → Option D := fnP 2 4 m__law_side
theorem ok__law_side (T : Top K mg w) : FnOk P w K mg base CX0 1 T.d__law_side.f T.d__law_side.fd ["parents", "v"] (spP K T.κ F__law_side) := by
  refine fnP_ok T.d__law_side.F sc__law_side (fun cdv A outer s H Exc hr => ⟨_, (pss_cons (ps_set (i := 2) sc__law_side.nd rfl (Or.inl rfl) (pe_lst (pa_cons (pv 1) pa_nil)))
  (pss_cons (ps_for PassesOwn.never rfl (pi_range2 (by rfl) T.n_range (pa_cons (pe_op op_add (pv 1) pe_int) (pa_cons (pe_op op_add (pe_callB (r := (fun xs H Q => ∃ x n, xs = [x] ∧ LenV K x H n ∧ Q (.int n) H)) call_len (by rfl) T.n_len (by decide +kernel) (pa_cons (pv 0) pa_nil)) pe_int) pa_nil))) (pg_name (i := 3) sc__law_side.nd rfl (Or.inl rfl))
  (pss_one (ps_if (pt_cmpR (r := rInD K) (op_inD (u65 hr)) (pe_ix (r := rIxL K) ix_list (pv 0) (pe_op op_sub (pv 3) pe_int) (fun _ _ => rfl)) (pv 2) (by rfl))
  (pss_one (ps_expr (pe_bm PySem.F.plainAttrs_list PySem.F.slot_list_append PySem.F.type_list_append mt_append (pv 2) (pa_cons (pv 3) pa_nil))))
  pss_nil)))
  (pss_one (ps_ret (pv 2))))), ?_⟩)
  exact (ss_seq (ss_set (se_lstC (sa_cons se_var sa_nil)))
  (ss_seq (ss_for (si_range2 (sa_cons (se_op r2_add se_var se_int) (sa_cons (se_op r2_add (se_cb rc_len (sa_cons se_var sa_nil)) se_int) sa_nil))) sg_name
  (ss_if (st_bor (st_test (se_op r2_inD (se_op r2_ixL se_var (se_op r2_sub se_var se_int)) se_var)))
  (ss_drop (se_append se_var (sa_cons se_var sa_nil)))
  ss_next))
  (ss_ret (se_frz se_var))))
theorem sc__law_rows_of : FnScope ["sizes", "rows", "size", "longer", "row", "value"] ["sizes"] (defScope s__law_rows_of) := ⟨rfl, rfl, rfl, by decide +kernel, rfl, by decide +kernel, by decide +kernel⟩
def m__law_rows_of_b1 : MS := (sSet 3 (mOp fCat (mVar 3) (mLc (mIR1 (mCons (mVar 2) mNil)) (tgN 5) mYes (mOp fCatT (mVar 4) (mTup (mCons (mVar 5) mNil))) [5])))
def m__law_rows_of_b2 : MS := (sSeq (sSet 3 (mLst mNil))
  (sSeq (mFor (mIL (mVar 1)) (tgN 4) m__law_rows_of_b1)
  (sSet 1 (mVar 3))))
def m__law_rows_of : MS := (sSeq (sSet 1 (mLst (mCons (mTup mNil) mNil)))
  (sSeq (mFor (mIL (mVar 0)) (tgN 2) m__law_rows_of_b2)
  (sRet (mVar 1))))
def F__law_rows_of : List D → Option D := fnP 1 6 m__law_rows_of
theorem ok__law_rows_of (T : Top K mg w) : FnOk P w K mg base CX0 1 T.d__law_rows_of.f T.d__law_rows_of.fd ["sizes"] (spP K T.κ F__law_rows_of) := by
  refine fnP_ok T.d__law_rows_of.F sc__law_rows_of (fun cdv A outer s H Exc hr => ⟨_, (pss_cons (ps_set (i := 1) sc__law_rows_of.nd rfl (Or.inl rfl) (pe_lst (pa_cons (pe_tup pa_nil) pa_nil)))
  (pss_cons (ps_for PassesOwn.never rfl (pi_list (pv 0)) (pg_name (i := 2) sc__law_rows_of.nd rfl (Or.inl rfl))
  (pss_cons (ps_set (i := 3) sc__law_rows_of.nd rfl (Or.inl rfl) (pe_lst pa_nil))
  (pss_cons (ps_for PassesOwn.never rfl (pi_list (pv 1)) (pg_name (i := 4) sc__law_rows_of.nd rfl (Or.inr rfl))
  (pss_one (ps_set (i := 3) sc__law_rows_of.nd rfl (Or.inl rfl) (pe_op op_cat (pv 3) (pe_lc (own := [("value", 5)]) (by rfl) sc__law_rows_of.nd (pi_range1 (by rfl) T.n_range (pa_cons (pv 2) pa_nil)) (blkOk_by (own := [("value", 5)]) (N := ["sizes", "rows", "size", "longer", "row", "value"]) (sc := defScope s__law_rows_of) (by decide +kernel)) (fun _ _ _ _ _ => (pg_name (i := 5) sc__law_rows_of.nd rfl (Or.inl rfl))) (fun _ _ _ _ _ => pts_nil) (fun _ _ _ _ _ => (pe_op (r := rCatA K) op_catA (pv 4) (pe_tup (pa_cons (pv 5) pa_nil)))))))))
  (pss_one (ps_set (i := 1) sc__law_rows_of.nd rfl (Or.inl rfl) (pv 3))))))
  (pss_one (ps_ret (pv 1))))), ?_⟩)
  exact (ss_seq (ss_set (se_lst (sa_cons (se_tup sa_nil) sa_nil)))
  (ss_seq (ss_for (si_list se_var) sg_name
  (ss_seq (ss_set (se_lst sa_nil))
  (ss_seq (ss_for (si_list se_var) sg_name
  (ss_set (se_op r2_cat se_var (se_lc (si_range1 (sa_cons se_var sa_nil)) sg_name (by decide) st_yes (se_op r2_catA se_var (se_tup (sa_cons se_var sa_nil)))))))
  (ss_set se_var))))
  (ss_ret se_var)))
theorem sc__law_needs : FnScope ["many", "q", "found", "power", "turn"] ["many", "q"] (defScope s__law_needs) := ⟨rfl, rfl, rfl, by decide +kernel, rfl, by decide +kernel, by decide +kernel⟩
def m__law_needs_b1 : MS := (sSeq (sIf (mTest (mOp fGe (mVar 3) (mVar 0)))
  sBreak
  sNext)
  (sSeq (sSet 3 (mOp fMul (mVar 3) (mVar 1)))
  (sAug 2 (fun i j => i + j) (mC (.int 1)))))
def m__law_needs : MS := (sSeq (sSet 2 (mC (.int 0)))
  (sSeq (sSet 3 (mC (.int 1)))
  (sSeq (mFor (mIR1 (mCons (mVar 0) mNil)) (tgN 4) m__law_needs_b1)
  (sRet (mVar 2)))))
def F__law_needs : List D → Option D := fnP 2 5 m__law_needs
theorem ok__law_needs (T : Top K mg w) : FnOk P w K mg base CX0 1 T.d__law_needs.f T.d__law_needs.fd ["many", "q"] (spP K T.κ F__law_needs) := by
  refine fnP_ok T.d__law_needs.F sc__law_needs (fun cdv A outer s H Exc hr => ⟨_, (pss_cons (ps_set (i := 2) sc__law_needs.nd rfl (Or.inl rfl) pe_int)
  (pss_cons (ps_set (i := 3) sc__law_needs.nd rfl (Or.inl rfl) pe_int)
  (pss_cons (ps_for PassesOwn.never rfl (pi_range1 (by rfl) T.n_range (pa_cons (pv 0) pa_nil)) (pg_name (i := 4) sc__law_needs.nd rfl (Or.inl rfl))
  (pss_cons (ps_if (pt_cmpR op_ge (pv 3) (pv 0) (nomark _))
  (pss_one ps_break)
  pss_nil)
  (pss_cons (ps_set (i := 3) sc__law_needs.nd rfl (Or.inl rfl) (pe_op op_mul (pv 3) (pv 1)))
  (pss_one (ps_aug (i := 2) sc__law_needs.nd rfl (Or.inl rfl) pe_int ip_add)))))
  (pss_one (ps_ret (pv 2)))))), ?_⟩)
  exact (ss_seq (ss_set se_int)
  (ss_seq (ss_set se_int)
  (ss_seq (ss_for (si_range1 (sa_cons se_var sa_nil)) sg_name
  (ss_seq (ss_if (st_test (se_op r2_ge se_var se_var))
  ss_break
  ss_next)
  (ss_seq (ss_set (se_op r2_mul se_var se_var))
  (ss_aug se_int))))
  (ss_ret se_var))))
theorem sc__law_purse : FnScope ["script", "at", "cell", "size", "one"] ["script", "at"] (defScope s__law_purse) := ⟨rfl, rfl, rfl, by decide +kernel, rfl, by decide +kernel, by decide +kernel⟩
def m__law_purse : MS := (sSeq (sSet 2 (mIf (mTest (mOp fLt (mVar 1) (mCall fLen (mCons (mVar 0) mNil)))) (mCall fInt1 (mCons (mOp fIxL (mVar 0) (mVar 1)) mNil)) (mOp fMul (mC (.int 31)) (mCall fSum (mCons (mLc (mIL (mSl fSlL (mVar 0) mNo (mPart (mC (.int 4))))) (tgN 4) mYes (mCall fInt1 (mCons (mVar 4) mNil)) [4]) mNil)))))
  (sSeq (sSet 3 (mOp fAdd (mOp fMul (mC (.int 2)) (mCall fAbs (mCons (mVar 2) mNil))) (mIf (mTest (mOp fLt (mVar 2) (mC (.int 0)))) (mC (.int 1)) (mC (.int 0)))))
  (sRet (mLstC (mCons (mIf (mTest (mOp fGe (mVar 3) (mOp fPow (mC (.int 10)) (mC (.int 18))))) (mVar 3) (mC (.int 0))) (mCons (mOp fMod (mCall fInt1 (mCons (mOp fAdd (mOp fAdd (mVar 3) (mOp fMul (mVar 1) (mC (.int 104729)))) (mC (.int 12345))) mNil)) (mC (.int 2147483629))) (mCons (mVar 1) mNil)))))))
def F__law_purse : List E → List Cell → Option (E × List Cell) := fnM 2 5 m__law_purse
theorem ok__law_purse (T : Top K mg w) : FnOk P w K mg base CX0 1 T.d__law_purse.f T.d__law_purse.fd ["script", "at"] (spM K T.κ F__law_purse) := by
  refine fnM_ok T.d__law_purse.F sc__law_purse (fun cdv A outer s H Exc hr => ⟨_, (pss_cons (ps_set (i := 2) sc__law_purse.nd rfl (Or.inl rfl) (pe_ifExp (pt_cmpR op_lt (pv 1) (pe_callB (r := (fun xs H Q => ∃ x n, xs = [x] ∧ LenV K x H n ∧ Q (.int n) H)) call_len (by rfl) T.n_len (by decide +kernel) (pa_cons (pv 0) pa_nil)) (nomark _)) (pe_callTy call_int1 (by rfl) T.n_int (by decide +kernel) (pa_cons (pe_ix (r := rIxL K) ix_list (pv 0) (pv 1) (fun _ _ => rfl)) pa_nil)) (pe_op op_mul pe_int (pe_callB (r := (rSum K)) (cr_sum rfl) (by rfl) T.n_sum (by decide +kernel) (pa_cons (pe_lc (own := [("one", 4)]) (by rfl) sc__law_purse.nd (pi_list (pe_slice sl_list (pv 0) po_none (po_some pe_int))) (blkOk_by (own := [("one", 4)]) (N := ["script", "at", "cell", "size", "one"]) (sc := defScope s__law_purse) (by decide +kernel)) (fun _ _ _ _ _ => (pg_name (i := 4) sc__law_purse.nd rfl (Or.inl rfl))) (fun _ _ _ _ _ => pts_nil) (fun _ _ _ _ _ => (pe_callTy call_int1 (by rfl) T.n_int (by decide +kernel) (pa_cons (pv 4) pa_nil)))) pa_nil)))))
  (pss_cons (ps_set (i := 3) sc__law_purse.nd rfl (Or.inl rfl) (pe_op op_add (pe_op op_mul pe_int (pe_callB call_abs (by rfl) T.n_abs (by decide +kernel) (pa_cons (pv 2) pa_nil))) (pe_ifExp (pt_cmpR op_lt (pv 2) pe_int (nomark _)) pe_int pe_int)))
  (pss_one (ps_ret (pe_lst (pa_cons (pe_ifExp (pt_cmpR op_ge (pv 3) (pe_op op_pow pe_int pe_int) (nomark _)) (pv 3) pe_int) (pa_cons (pe_op op_mod (pe_callTy call_int1 (by rfl) T.n_int (by decide +kernel) (pa_cons (pe_op op_add (pe_op op_add (pv 3) (pe_op op_mul (pv 1) pe_int)) pe_int) pa_nil)) pe_int) (pa_cons (pv 1) pa_nil)))))))), ?_⟩)
  exact (ss_seq (ss_set (se_if (st_test (se_op r2_lt se_var (se_cb rc_len (sa_cons se_var sa_nil)))) (se_cb rc_int (sa_cons (se_op r2_ixL se_var se_var) sa_nil)) (se_op r2_mul se_int (se_cb rc_sum (sa_cons (se_lc (si_list (se_slL se_var so_none (so_some se_int))) sg_name (by decide) st_yes (se_cb rc_int (sa_cons se_var sa_nil))) sa_nil)))))
  (ss_seq (ss_set (se_op r2_add (se_op r2_mul se_int (se_cb rc_abs (sa_cons se_var sa_nil))) (se_if (st_test (se_op r2_lt se_var se_int)) se_int se_int)))
  (ss_ret (se_lstC (sa_cons (se_if (st_test (se_op r2_ge se_var (se_op r2_pow se_int se_int))) se_var se_int) (sa_cons (se_op r2_mod (se_cb rc_int (sa_cons (se_op r2_add (se_op r2_add se_var (se_op r2_mul se_var se_int)) se_int) sa_nil)) se_int) (sa_cons se_var sa_nil)))))))
theorem sc__law_draw : FnScope ["purse", "many", "found"] ["purse", "many"] (defScope s__law_draw) := ⟨rfl, rfl, rfl, by decide +kernel, rfl, by decide +kernel, by decide +kernel⟩
def m__law_draw : MS := (sSeq (sIf (tBorT (mTest (mOp fGt (mOp fIxL (mVar 0) (mC (.int 0))) (mC (.int 0)))))
  (sSeq (sSet 2 (mBor (mOp fMod (mCall fInt1 (mCons (mOp fIxL (mVar 0) (mC (.int 0))) mNil)) (mVar 1))))
  (sSeq (sPutL (mBor (mOp fFdiv (mOp fIxL (mVar 0) (mC (.int 0))) (mVar 1))) (mVar 0) (mC (.int 0)))
  (sRet (mVar 2))))
  sNext)
  (sSeq (sAugL (fun i j => i + j) (mVar 0) (mC (.int 2)) (mC (.int 1)))
  (sSeq (sPutL (mBor (mOp fMod (mCall fInt1 (mCons (mOp fAdd (mOp fMul (mOp fIxL (mVar 0) (mC (.int 1))) (mC (.int 48271))) (mOp fMul (mOp fIxL (mVar 0) (mC (.int 2))) (mC (.int 69621)))) mNil)) (mC (.int 2147483647)))) (mVar 0) (mC (.int 1)))
  (sRet (mBor (mOp fMod (mOp fFdiv (mOp fMod (mCall fInt1 (mCons (mOp fAdd (mOp fMul (mOp fIxL (mVar 0) (mC (.int 1))) (mC (.int 16807))) (mOp fMul (mOp fIxL (mVar 0) (mC (.int 2))) (mC (.int 7919)))) mNil)) (mC (.int 2147483629))) (mC (.int 8))) (mVar 1)))))))
def F__law_draw : List E → List Cell → Option (E × List Cell) := fnM 2 3 m__law_draw
theorem ok__law_draw (T : Top K mg w) : FnOk P w K mg base CX0 1 T.d__law_draw.f T.d__law_draw.fd ["purse", "many"] (spM K T.κ F__law_draw) := by
  refine fnM_ok T.d__law_draw.F sc__law_draw (fun cdv A outer s H Exc hr => ⟨_, (pss_cons (ps_if (pt_cmpR op_gt (pe_ix (r := rIxL K) ix_list (pv 0) pe_int (fun _ _ => rfl)) pe_int (nomark _))
  (pss_cons (ps_set (i := 2) sc__law_draw.nd rfl (Or.inl rfl) (pe_op op_mod (pe_callTy call_int1 (by rfl) T.n_int (by decide +kernel) (pa_cons (pe_ix (r := rIxL K) ix_list (pv 0) pe_int (fun _ _ => rfl)) pa_nil)) (pv 1)))
  (pss_cons (ps_asg (pe_op op_fdiv (pe_ix (r := rIxL K) ix_list (pv 0) pe_int (fun _ _ => rfl)) (pv 1)) (pg_sub (pv 0) pe_int set_list))
  (pss_one (ps_ret (pv 2)))))
  pss_nil)
  (pss_cons (ps_augS (pv 0) pe_int get_list pe_int ip_add set_list)
  (pss_cons (ps_asg (pe_op op_mod (pe_callTy call_int1 (by rfl) T.n_int (by decide +kernel) (pa_cons (pe_op op_add (pe_op op_mul (pe_ix (r := rIxL K) ix_list (pv 0) pe_int (fun _ _ => rfl)) pe_int) (pe_op op_mul (pe_ix (r := rIxL K) ix_list (pv 0) pe_int (fun _ _ => rfl)) pe_int)) pa_nil)) pe_int) (pg_sub (pv 0) pe_int set_list))
  (pss_one (ps_ret (pe_op op_mod (pe_op op_fdiv (pe_op op_mod (pe_callTy call_int1 (by rfl) T.n_int (by decide +kernel) (pa_cons (pe_op op_add (pe_op op_mul (pe_ix (r := rIxL K) ix_list (pv 0) pe_int (fun _ _ => rfl)) pe_int) (pe_op op_mul (pe_ix (r := rIxL K) ix_list (pv 0) pe_int (fun _ _ => rfl)) pe_int)) pa_nil)) pe_int) pe_int) (pv 1))))))), ?_⟩)
  exact (ss_seq (ss_if (st_bor (st_test (se_op r2_gt (se_op r2_ixL se_var se_int) se_int)))
  (ss_seq (ss_set (se_bor (se_op r2_mod (se_cb rc_int (sa_cons (se_op r2_ixL se_var se_int) sa_nil)) se_var)))
  (ss_seq (ss_putL (se_bor (se_op r2_fdiv (se_op r2_ixL se_var se_int) se_var)) se_var se_int)
  (ss_ret se_var)))
  ss_next)
  (ss_seq (ss_augL se_var se_int se_int)
  (ss_seq (ss_putL (se_bor (se_op r2_mod (se_cb rc_int (sa_cons (se_op r2_add (se_op r2_mul (se_op r2_ixL se_var se_int) se_int) (se_op r2_mul (se_op r2_ixL se_var se_int) se_int)) sa_nil)) se_int)) se_var se_int)
  (ss_ret (se_bor (se_op r2_mod (se_op r2_fdiv (se_op r2_mod (se_cb rc_int (sa_cons (se_op r2_add (se_op r2_mul (se_op r2_ixL se_var se_int) se_int) (se_op r2_mul (se_op r2_ixL se_var se_int) se_int)) sa_nil)) se_int) se_int) se_var))))))
theorem sc__law_mix : FnScope ["purse", "things", "left", "mixed", "turn"] ["purse", "things"] (defScope s__law_mix) := ⟨rfl, rfl, rfl, by decide +kernel, rfl, by decide +kernel, by decide +kernel⟩
def m__law_mix_b1 : MS := (sDrop (mAppend (mVar 3) (mCons (mPopAt (mVar 2) (mCons (mCallM F__law_draw (mCons (mVar 0) (mCons (mBor (mCall fLen (mCons (mVar 2) mNil))) mNil))) mNil)) mNil)))
def m__law_mix : MS := (sSeq (sSet 2 (toC (mCall fListOf (mCons (mVar 1) mNil))))
  (sSeq (sSet 3 (mLstC mNil))
  (sSeq (mFor (mIR1 (mCons (mCall fLen (mCons (mVar 1) mNil)) mNil)) (tgN 4) m__law_mix_b1)
  (sRet (mFrz (mVar 3))))))
def F__law_mix : List E → List Cell → Option (E × List Cell) := fnM 2 5 m__law_mix
theorem ok__law_mix (T : Top K mg w) : FnOk P w K mg base CX0 2 T.d__law_mix.f T.d__law_mix.fd ["purse", "things"] (spM K T.κ F__law_mix) := by
  have G__law_draw := ok__law_draw (P := P) (w := w) (base := base) T
  refine fnM_ok T.d__law_mix.F sc__law_mix (fun cdv A outer s H Exc hr => ⟨_, (pss_cons (ps_set (i := 2) sc__law_mix.nd rfl (Or.inl rfl) (pe_callTy (r := (fun xs H Q => ∃ p ys, xs = [.ref p] ∧ (SqL K H p ys ∨ SqT K H p ys) ∧ ∀ l, H l = none → Q (.ref l) (upd H l (.lst ys)))) call_list_of (by rfl) T.n_list (by decide +kernel) (pa_cons (pv 1) pa_nil)))
  (pss_cons (ps_set (i := 3) sc__law_mix.nd rfl (Or.inl rfl) (pe_lst pa_nil))
  (pss_cons (ps_for PassesOwn.never rfl (pi_range1 (by rfl) T.n_range (pa_cons (pe_callB (r := (fun xs H Q => ∃ x n, xs = [x] ∧ LenV K x H n ∧ Q (.int n) H)) call_len (by rfl) T.n_len (by decide +kernel) (pa_cons (pv 1) pa_nil)) pa_nil)) (pg_name (i := 4) sc__law_mix.nd rfl (Or.inl rfl))
  (pss_one (ps_expr (pe_bm PySem.F.plainAttrs_list PySem.F.slot_list_append PySem.F.type_list_append mt_append (pv 3) (pa_cons (pe_bm PySem.F.plainAttrs_list PySem.F.slot_list_pop PySem.F.type_list_pop mt_popAt (pv 2) (pa_cons (pe_call G__law_draw (hr.mono (by decide)) (by rfl) T.d__law_draw.g T.d__law_draw.F.kp T.d__law_draw.b .nil pass0 (pa_cons (pv 0) (pa_cons (pe_callB (r := (fun xs H Q => ∃ x n, xs = [x] ∧ LenV K x H n ∧ Q (.int n) H)) call_len (by rfl) T.n_len (by decide +kernel) (pa_cons (pv 2) pa_nil)) pa_nil))) pa_nil)) pa_nil)))))
  (pss_one (ps_ret (pv 3)))))), ?_⟩)
  exact (ss_seq (ss_set (se_listC (sa_cons se_var sa_nil)))
  (ss_seq (ss_set (se_lstC sa_nil))
  (ss_seq (ss_for (si_range1 (sa_cons (se_cb rc_len (sa_cons se_var sa_nil)) sa_nil)) sg_name
  (ss_drop (se_append se_var (sa_cons (se_popAt se_var (sa_cons (se_callM (sa_cons se_var (sa_cons (se_bor (se_cb rc_len (sa_cons se_var sa_nil))) sa_nil))) sa_nil)) sa_nil))))
  (ss_ret (se_frz se_var)))))
theorem sc__law_matches : FnScope ["answer", "due", "at"] ["answer", "due"] (defScope s__law_matches) := ⟨rfl, rfl, rfl, by decide +kernel, rfl, by decide +kernel, by decide +kernel⟩
def m__law_matches_v0_b1 : MS := sNever
def m__law_matches_v0 : MS := (sSeq (sIf (mOr (mTest (mOp (fIsN false) (mVar 1) (mC .non))) (mTest (mOp (fIsN false) (mVar 0) (mC .non))))
  (sRet (mOfT (mAnd (mTest (mOp (fIsN false) (mVar 1) (mC .non))) (mTest (mOp (fIsN false) (mVar 0) (mC .non))))))
  sNext)
  (sSeq (sIf (mOr (mTest (mUn (fIsi "bool") (mVar 1))) (mTest (mUn (fIsi "bool") (mVar 0))))
  (sRet (mOfT (mAnd (mTest (mUn (fIsi "bool") (mVar 1))) (mTest (mOfT (mAnd (mTest (mUn (fIsi "bool") (mVar 0))) (mTest (mOp fEq (mVar 0) (mVar 1)))))))))
  sNext)
  (sSeq (sIf (mTest (mUn (fIsi "int") (mVar 1)))
  (sRet (mOfT (mAnd (mTest (mUn (fIsi "int") (mVar 0))) (mTest (mOp fEq (mVar 0) (mVar 1))))))
  sNext)
  (sSeq (sIf (mTest (mUn (fIsi "str") (mVar 1)))
  (sRet (mOfT (mAnd (mTest (mUn (fIsi "str") (mVar 0))) (mTest (mOp fEq (mVar 0) (mVar 1))))))
  sNext)
  (sSeq (sIf (mAnd (mTest (mUn (fIsi "tuple") (mVar 1))) (mNot (mTest (mUn (fIsi "tuple") (mVar 0)))))
  (sRet (mC (.bl false)))
  sNext)
  (sSeq (sIf (mAnd (mTest (mUn (fIsi "list") (mVar 1))) (mNot (mTest (mUn (fIsi "list") (mVar 0)))))
  (sRet (mC (.bl false)))
  sNext)
  (sSeq (sIf (mTest (mOp fNe (mCall fLen (mCons (mVar 0) mNil)) (mCall fLen (mCons (mVar 1) mNil))))
  (sRet (mC (.bl false)))
  sNext)
  (sSeq (mFor (mIR1 (mCons (mCall fLen (mCons (mVar 1) mNil)) mNil)) (tgN 2) m__law_matches_v0_b1)
  (sRet (mC (.bl true)))))))))))
def F__law_matches_v0 : List D → Option D := fnP 2 3 m__law_matches_v0
theorem ok__law_matches_v0 (T : Top K mg w) : FnOk P w K mg base CX0 1 T.d__law_matches.f T.d__law_matches.fd ["answer", "due"] (spP K T.κ F__law_matches_v0) := by
  refine fnP_ok T.d__law_matches.F sc__law_matches (fun cdv A outer s H Exc hr => ⟨_, (pss_cons (ps_if (PW.pt (pw_or (pt_cmpR op_isN (pv 1) pe_non (nomark _)) (pw_or1 (pt_cmpR op_isN (pv 0) pe_non (nomark _)))))
  (pss_one (ps_ret (pe_and (pe_cmpR op_isN (pv 1) pe_non (nomark _)) (pe_one (pe_cmpR op_isN (pv 0) pe_non (nomark _))))))
  pss_nil)
  (pss_cons (ps_if (PW.pt (pw_or (pt_val (pe_callB (r := (rIsi K)) call_isi (by rfl) T.n_isinstance (by decide +kernel) (pa_cons (pv 1) (pa_cons (pe_bltn (v := .ty "bool") (by rfl) T.n_bool (by decide +kernel) rfl) pa_nil)))) (pw_or1 (pt_val (pe_callB (r := (rIsi K)) call_isi (by rfl) T.n_isinstance (by decide +kernel) (pa_cons (pv 0) (pa_cons (pe_bltn (v := .ty "bool") (by rfl) T.n_bool (by decide +kernel) rfl) pa_nil)))))))
  (pss_one (ps_ret (pe_and (pe_callB (r := (rIsi K)) call_isi (by rfl) T.n_isinstance (by decide +kernel) (pa_cons (pv 1) (pa_cons (pe_bltn (v := .ty "bool") (by rfl) T.n_bool (by decide +kernel) rfl) pa_nil))) (pe_and (pe_callB (r := (rIsi K)) call_isi (by rfl) T.n_isinstance (by decide +kernel) (pa_cons (pv 0) (pa_cons (pe_bltn (v := .ty "bool") (by rfl) T.n_bool (by decide +kernel) rfl) pa_nil))) (pe_one (pe_cmpR op_eq (pv 0) (pv 1) (nomark _)))))))
  pss_nil)
  (pss_cons (ps_if (pt_val (pe_callB (r := (rIsi K)) call_isi (by rfl) T.n_isinstance (by decide +kernel) (pa_cons (pv 1) (pa_cons (pe_bltn (v := .ty "int") (by rfl) T.n_int (by decide +kernel) rfl) pa_nil))))
  (pss_one (ps_ret (pe_and (pe_callB (r := (rIsi K)) call_isi (by rfl) T.n_isinstance (by decide +kernel) (pa_cons (pv 0) (pa_cons (pe_bltn (v := .ty "int") (by rfl) T.n_int (by decide +kernel) rfl) pa_nil))) (pe_one (pe_cmpR op_eq (pv 0) (pv 1) (nomark _))))))
  pss_nil)
  (pss_cons (ps_if (pt_val (pe_callB (r := (rIsi K)) call_isi (by rfl) T.n_isinstance (by decide +kernel) (pa_cons (pv 1) (pa_cons (pe_bltn (v := .ty "str") (by rfl) T.n_str (by decide +kernel) rfl) pa_nil))))
  (pss_one (ps_ret (pe_and (pe_callB (r := (rIsi K)) call_isi (by rfl) T.n_isinstance (by decide +kernel) (pa_cons (pv 0) (pa_cons (pe_bltn (v := .ty "str") (by rfl) T.n_str (by decide +kernel) rfl) pa_nil))) (pe_one (pe_cmpR op_eq (pv 0) (pv 1) (nomark _))))))
  pss_nil)
  (pss_cons (ps_if (PW.pt (pw_and (pt_val (pe_callB (r := (rIsi K)) call_isi (by rfl) T.n_isinstance (by decide +kernel) (pa_cons (pv 1) (pa_cons (pe_bltn (v := .ty "tuple") (by rfl) T.n_tuple (by decide +kernel) rfl) pa_nil)))) (pw_and1 (pt_not (pt_val (pe_callB (r := (rIsi K)) call_isi (by rfl) T.n_isinstance (by decide +kernel) (pa_cons (pv 0) (pa_cons (pe_bltn (v := .ty "tuple") (by rfl) T.n_tuple (by decide +kernel) rfl) pa_nil))))))))
  (pss_one (ps_ret pe_bl))
  pss_nil)
  (pss_cons (ps_if (PW.pt (pw_and (pt_val (pe_callB (r := (rIsi K)) call_isi (by rfl) T.n_isinstance (by decide +kernel) (pa_cons (pv 1) (pa_cons (pe_bltn (v := .ty "list") (by rfl) T.n_list (by decide +kernel) rfl) pa_nil)))) (pw_and1 (pt_not (pt_val (pe_callB (r := (rIsi K)) call_isi (by rfl) T.n_isinstance (by decide +kernel) (pa_cons (pv 0) (pa_cons (pe_bltn (v := .ty "list") (by rfl) T.n_list (by decide +kernel) rfl) pa_nil))))))))
  (pss_one (ps_ret pe_bl))
  pss_nil)
  (pss_cons (ps_if (pt_cmpR op_ne (pe_callB (r := (fun xs H Q => ∃ x n, xs = [x] ∧ LenV K x H n ∧ Q (.int n) H)) call_len (by rfl) T.n_len (by decide +kernel) (pa_cons (pv 0) pa_nil)) (pe_callB (r := (fun xs H Q => ∃ x n, xs = [x] ∧ LenV K x H n ∧ Q (.int n) H)) call_len (by rfl) T.n_len (by decide +kernel) (pa_cons (pv 1) pa_nil)) (nomark _))
  (pss_one (ps_ret pe_bl))
  pss_nil)
  (pss_cons (ps_for PassesOwn.never rfl (pi_range1 (by rfl) T.n_range (pa_cons (pe_callB (r := (fun xs H Q => ∃ x n, xs = [x] ∧ LenV K x H n ∧ Q (.int n) H)) call_len (by rfl) T.n_len (by decide +kernel) (pa_cons (pv 1) pa_nil)) pa_nil)) (pg_name (i := 2) sc__law_matches.nd rfl (Or.inl rfl))
  (pss_one ps_never))
  (pss_one (ps_ret pe_bl)))))))))), ?_⟩)
  exact (ss_seq (ss_if (st_or (st_test (se_op r2_isN se_var se_non)) (st_test (se_op r2_isN se_var se_non)))
  (ss_ret (se_andV (se_op r2_isN se_var se_non) (se_op r2_isN se_var se_non)))
  ss_next)
  (ss_seq (ss_if (st_or (st_b (se_isi se_var)) (st_b (se_isi se_var)))
  (ss_ret (se_andV (se_isi se_var) (se_andV (se_isi se_var) (se_op r2_eq se_var se_var))))
  ss_next)
  (ss_seq (ss_if (st_b (se_isi se_var))
  (ss_ret (se_andV (se_isi se_var) (se_op r2_eq se_var se_var)))
  ss_next)
  (ss_seq (ss_if (st_b (se_isi se_var))
  (ss_ret (se_andV (se_isi se_var) (se_op r2_eq se_var se_var)))
  ss_next)
  (ss_seq (ss_if (st_and (st_b (se_isi se_var)) (st_not (st_b (se_isi se_var))))
  (ss_ret se_bl)
  ss_next)
  (ss_seq (ss_if (st_and (st_b (se_isi se_var)) (st_not (st_b (se_isi se_var))))
  (ss_ret se_bl)
  ss_next)
  (ss_seq (ss_if (st_test (se_op r2_ne (se_cb rc_len (sa_cons se_var sa_nil)) (se_cb rc_len (sa_cons se_var sa_nil))))
  (ss_ret se_bl)
  ss_next)
  (ss_seq (ss_for (si_range1 (sa_cons (se_cb rc_len (sa_cons se_var sa_nil)) sa_nil)) sg_name
  ss_never)
  (ss_ret se_bl)))))))))
def m__law_matches_v1_b1 : MS := (sIf (mNot (mTest (mCall F__law_matches_v0 (mCons (mOp fIxT (mVar 0) (mVar 2)) (mCons (mOp fIxT (mVar 1) (mVar 2)) mNil)))))
  (sRet (mC (.bl false)))
  sNext)
def m__law_matches_v1 : MS := (sSeq (sIf (mOr (mTest (mOp (fIsN false) (mVar 1) (mC .non))) (mTest (mOp (fIsN false) (mVar 0) (mC .non))))
  (sRet (mOfT (mAnd (mTest (mOp (fIsN false) (mVar 1) (mC .non))) (mTest (mOp (fIsN false) (mVar 0) (mC .non))))))
  sNext)
  (sSeq (sIf (mOr (mTest (mUn (fIsi "bool") (mVar 1))) (mTest (mUn (fIsi "bool") (mVar 0))))
  (sRet (mOfT (mAnd (mTest (mUn (fIsi "bool") (mVar 1))) (mTest (mOfT (mAnd (mTest (mUn (fIsi "bool") (mVar 0))) (mTest (mOp fEqD (mVar 0) (mVar 1)))))))))
  sNext)
  (sSeq (sIf (mTest (mUn (fIsi "int") (mVar 1)))
  (sRet (mOfT (mAnd (mTest (mUn (fIsi "int") (mVar 0))) (mTest (mOp fEqD (mVar 0) (mVar 1))))))
  sNext)
  (sSeq (sIf (mTest (mUn (fIsi "str") (mVar 1)))
  (sRet (mOfT (mAnd (mTest (mUn (fIsi "str") (mVar 0))) (mTest (mOp fEqD (mVar 0) (mVar 1))))))
  sNext)
  (sSeq (sIf (mAnd (mTest (mUn (fIsi "tuple") (mVar 1))) (mNot (mTest (mUn (fIsi "tuple") (mVar 0)))))
  (sRet (mC (.bl false)))
  sNext)
  (sSeq (sIf (mAnd (mTest (mUn (fIsi "list") (mVar 1))) (mNot (mTest (mUn (fIsi "list") (mVar 0)))))
  (sRet (mC (.bl false)))
  sNext)
  (sSeq (sIf (mTest (mOp fNe (mCall fLen (mCons (mVar 0) mNil)) (mCall fLen (mCons (mVar 1) mNil))))
  (sRet (mC (.bl false)))
  sNext)
  (sSeq (mFor (mIR1 (mCons (mCall fLen (mCons (mVar 1) mNil)) mNil)) (tgN 2) m__law_matches_v1_b1)
  (sRet (mC (.bl true)))))))))))
def F__law_matches_v1 : List D → Option D := fnP 2 3 m__law_matches_v1
theorem ok__law_matches_v1 (T : Top K mg w) : FnOk P w K mg base CX0 2 T.d__law_matches.f T.d__law_matches.fd ["answer", "due"] (spP K T.κ F__law_matches_v1) := by
  have G__law_matches_v0 := ok__law_matches_v0 (P := P) (w := w) (base := base) T
  refine fnP_ok T.d__law_matches.F sc__law_matches (fun cdv A outer s H Exc hr => ⟨_, (pss_cons (ps_if (PW.pt (pw_or (pt_cmpR op_isN (pv 1) pe_non (nomark _)) (pw_or1 (pt_cmpR op_isN (pv 0) pe_non (nomark _)))))
  (pss_one (ps_ret (pe_and (pe_cmpR op_isN (pv 1) pe_non (nomark _)) (pe_one (pe_cmpR op_isN (pv 0) pe_non (nomark _))))))
  pss_nil)
  (pss_cons (ps_if (PW.pt (pw_or (pt_val (pe_callB (r := (rIsi K)) call_isi (by rfl) T.n_isinstance (by decide +kernel) (pa_cons (pv 1) (pa_cons (pe_bltn (v := .ty "bool") (by rfl) T.n_bool (by decide +kernel) rfl) pa_nil)))) (pw_or1 (pt_val (pe_callB (r := (rIsi K)) call_isi (by rfl) T.n_isinstance (by decide +kernel) (pa_cons (pv 0) (pa_cons (pe_bltn (v := .ty "bool") (by rfl) T.n_bool (by decide +kernel) rfl) pa_nil)))))))
  (pss_one (ps_ret (pe_and (pe_callB (r := (rIsi K)) call_isi (by rfl) T.n_isinstance (by decide +kernel) (pa_cons (pv 1) (pa_cons (pe_bltn (v := .ty "bool") (by rfl) T.n_bool (by decide +kernel) rfl) pa_nil))) (pe_and (pe_callB (r := (rIsi K)) call_isi (by rfl) T.n_isinstance (by decide +kernel) (pa_cons (pv 0) (pa_cons (pe_bltn (v := .ty "bool") (by rfl) T.n_bool (by decide +kernel) rfl) pa_nil))) (pe_one (pe_cmpR (r := rEqD K) (op_eqD hr.units) (pv 0) (pv 1) (nomark _)))))))
  pss_nil)
  (pss_cons (ps_if (pt_val (pe_callB (r := (rIsi K)) call_isi (by rfl) T.n_isinstance (by decide +kernel) (pa_cons (pv 1) (pa_cons (pe_bltn (v := .ty "int") (by rfl) T.n_int (by decide +kernel) rfl) pa_nil))))
  (pss_one (ps_ret (pe_and (pe_callB (r := (rIsi K)) call_isi (by rfl) T.n_isinstance (by decide +kernel) (pa_cons (pv 0) (pa_cons (pe_bltn (v := .ty "int") (by rfl) T.n_int (by decide +kernel) rfl) pa_nil))) (pe_one (pe_cmpR (r := rEqD K) (op_eqD hr.units) (pv 0) (pv 1) (nomark _))))))
  pss_nil)
  (pss_cons (ps_if (pt_val (pe_callB (r := (rIsi K)) call_isi (by rfl) T.n_isinstance (by decide +kernel) (pa_cons (pv 1) (pa_cons (pe_bltn (v := .ty "str") (by rfl) T.n_str (by decide +kernel) rfl) pa_nil))))
  (pss_one (ps_ret (pe_and (pe_callB (r := (rIsi K)) call_isi (by rfl) T.n_isinstance (by decide +kernel) (pa_cons (pv 0) (pa_cons (pe_bltn (v := .ty "str") (by rfl) T.n_str (by decide +kernel) rfl) pa_nil))) (pe_one (pe_cmpR (r := rEqD K) (op_eqD hr.units) (pv 0) (pv 1) (nomark _))))))
  pss_nil)
  (pss_cons (ps_if (PW.pt (pw_and (pt_val (pe_callB (r := (rIsi K)) call_isi (by rfl) T.n_isinstance (by decide +kernel) (pa_cons (pv 1) (pa_cons (pe_bltn (v := .ty "tuple") (by rfl) T.n_tuple (by decide +kernel) rfl) pa_nil)))) (pw_and1 (pt_not (pt_val (pe_callB (r := (rIsi K)) call_isi (by rfl) T.n_isinstance (by decide +kernel) (pa_cons (pv 0) (pa_cons (pe_bltn (v := .ty "tuple") (by rfl) T.n_tuple (by decide +kernel) rfl) pa_nil))))))))
  (pss_one (ps_ret pe_bl))
  pss_nil)
  (pss_cons (ps_if (PW.pt (pw_and (pt_val (pe_callB (r := (rIsi K)) call_isi (by rfl) T.n_isinstance (by decide +kernel) (pa_cons (pv 1) (pa_cons (pe_bltn (v := .ty "list") (by rfl) T.n_list (by decide +kernel) rfl) pa_nil)))) (pw_and1 (pt_not (pt_val (pe_callB (r := (rIsi K)) call_isi (by rfl) T.n_isinstance (by decide +kernel) (pa_cons (pv 0) (pa_cons (pe_bltn (v := .ty "list") (by rfl) T.n_list (by decide +kernel) rfl) pa_nil))))))))
  (pss_one (ps_ret pe_bl))
  pss_nil)
  (pss_cons (ps_if (pt_cmpR op_ne (pe_callB (r := (fun xs H Q => ∃ x n, xs = [x] ∧ LenV K x H n ∧ Q (.int n) H)) call_len (by rfl) T.n_len (by decide +kernel) (pa_cons (pv 0) pa_nil)) (pe_callB (r := (fun xs H Q => ∃ x n, xs = [x] ∧ LenV K x H n ∧ Q (.int n) H)) call_len (by rfl) T.n_len (by decide +kernel) (pa_cons (pv 1) pa_nil)) (nomark _))
  (pss_one (ps_ret pe_bl))
  pss_nil)
  (pss_cons (ps_for PassesOwn.never rfl (pi_range1 (by rfl) T.n_range (pa_cons (pe_callB (r := (fun xs H Q => ∃ x n, xs = [x] ∧ LenV K x H n ∧ Q (.int n) H)) call_len (by rfl) T.n_len (by decide +kernel) (pa_cons (pv 1) pa_nil)) pa_nil)) (pg_name (i := 2) sc__law_matches.nd rfl (Or.inl rfl))
  (pss_one (ps_if (pt_not (pt_val (pe_call G__law_matches_v0 (hr.mono (by decide)) (by rfl) T.d__law_matches.g T.d__law_matches.F.kp T.d__law_matches.b .nil pass0 (pa_cons (pe_ix (r := rIxT K) ix_tup (pv 0) (pv 2) (fun _ _ => rfl)) (pa_cons (pe_ix (r := rIxT K) ix_tup (pv 1) (pv 2) (fun _ _ => rfl)) pa_nil)))))
  (pss_one (ps_ret pe_bl))
  pss_nil)))
  (pss_one (ps_ret pe_bl)))))))))), ?_⟩)
  exact (ss_seq (ss_if (st_or (st_test (se_op r2_isN se_var se_non)) (st_test (se_op r2_isN se_var se_non)))
  (ss_ret (se_andV (se_op r2_isN se_var se_non) (se_op r2_isN se_var se_non)))
  ss_next)
  (ss_seq (ss_if (st_or (st_b (se_isi se_var)) (st_b (se_isi se_var)))
  (ss_ret (se_andV (se_isi se_var) (se_andV (se_isi se_var) (se_op r2_eqD se_var se_var))))
  ss_next)
  (ss_seq (ss_if (st_b (se_isi se_var))
  (ss_ret (se_andV (se_isi se_var) (se_op r2_eqD se_var se_var)))
  ss_next)
  (ss_seq (ss_if (st_b (se_isi se_var))
  (ss_ret (se_andV (se_isi se_var) (se_op r2_eqD se_var se_var)))
  ss_next)
  (ss_seq (ss_if (st_and (st_b (se_isi se_var)) (st_not (st_b (se_isi se_var))))
  (ss_ret se_bl)
  ss_next)
  (ss_seq (ss_if (st_and (st_b (se_isi se_var)) (st_not (st_b (se_isi se_var))))
  (ss_ret se_bl)
  ss_next)
  (ss_seq (ss_if (st_test (se_op r2_ne (se_cb rc_len (sa_cons se_var sa_nil)) (se_cb rc_len (sa_cons se_var sa_nil))))
  (ss_ret se_bl)
  ss_next)
  (ss_seq (ss_for (si_range1 (sa_cons (se_cb rc_len (sa_cons se_var sa_nil)) sa_nil)) sg_name
  (ss_if (st_not (st_b (se_call (sa_cons (se_op r2_ixT se_var se_var) (sa_cons (se_op r2_ixT se_var se_var) sa_nil)))))
  (ss_ret se_bl)
  ss_next))
  (ss_ret se_bl)))))))))
def m__law_matches_v2_b1 : MS := (sIf (mNot (mTest (mCall F__law_matches_v1 (mCons (mOp fIxL (mVar 0) (mVar 2)) (mCons (mOp fIxL (mVar 1) (mVar 2)) mNil)))))
  (sRet (mC (.bl false)))
  sNext)
def m__law_matches_v2 : MS := (sSeq (sIf (mOr (mTest (mOp (fIsN false) (mVar 1) (mC .non))) (mTest (mOp (fIsN false) (mVar 0) (mC .non))))
  (sRet (mOfT (mAnd (mTest (mOp (fIsN false) (mVar 1) (mC .non))) (mTest (mOp (fIsN false) (mVar 0) (mC .non))))))
  sNext)
  (sSeq (sIf (mOr (mTest (mUn (fIsi "bool") (mVar 1))) (mTest (mUn (fIsi "bool") (mVar 0))))
  (sRet (mOfT (mAnd (mTest (mUn (fIsi "bool") (mVar 1))) (mTest (mOfT (mAnd (mTest (mUn (fIsi "bool") (mVar 0))) (mTest (mOp fEqD (mVar 0) (mVar 1)))))))))
  sNext)
  (sSeq (sIf (mTest (mUn (fIsi "int") (mVar 1)))
  (sRet (mOfT (mAnd (mTest (mUn (fIsi "int") (mVar 0))) (mTest (mOp fEqD (mVar 0) (mVar 1))))))
  sNext)
  (sSeq (sIf (mTest (mUn (fIsi "str") (mVar 1)))
  (sRet (mOfT (mAnd (mTest (mUn (fIsi "str") (mVar 0))) (mTest (mOp fEqD (mVar 0) (mVar 1))))))
  sNext)
  (sSeq (sIf (mAnd (mTest (mUn (fIsi "tuple") (mVar 1))) (mNot (mTest (mUn (fIsi "tuple") (mVar 0)))))
  (sRet (mC (.bl false)))
  sNext)
  (sSeq (sIf (mAnd (mTest (mUn (fIsi "list") (mVar 1))) (mNot (mTest (mUn (fIsi "list") (mVar 0)))))
  (sRet (mC (.bl false)))
  sNext)
  (sSeq (sIf (mTest (mOp fNe (mCall fLen (mCons (mVar 0) mNil)) (mCall fLen (mCons (mVar 1) mNil))))
  (sRet (mC (.bl false)))
  sNext)
  (sSeq (mFor (mIR1 (mCons (mCall fLen (mCons (mVar 1) mNil)) mNil)) (tgN 2) m__law_matches_v2_b1)
  (sRet (mC (.bl true)))))))))))
def F__law_matches_v2 : List D → Option D := fnP 2 3 m__law_matches_v2
theorem ok__law_matches_v2 (T : Top K mg w) : FnOk P w K mg base CX0 3 T.d__law_matches.f T.d__law_matches.fd ["answer", "due"] (spP K T.κ F__law_matches_v2) := by
  have G__law_matches_v1 := ok__law_matches_v1 (P := P) (w := w) (base := base) T
  refine fnP_ok T.d__law_matches.F sc__law_matches (fun cdv A outer s H Exc hr => ⟨_, (pss_cons (ps_if (PW.pt (pw_or (pt_cmpR op_isN (pv 1) pe_non (nomark _)) (pw_or1 (pt_cmpR op_isN (pv 0) pe_non (nomark _)))))
  (pss_one (ps_ret (pe_and (pe_cmpR op_isN (pv 1) pe_non (nomark _)) (pe_one (pe_cmpR op_isN (pv 0) pe_non (nomark _))))))
  pss_nil)
  (pss_cons (ps_if (PW.pt (pw_or (pt_val (pe_callB (r := (rIsi K)) call_isi (by rfl) T.n_isinstance (by decide +kernel) (pa_cons (pv 1) (pa_cons (pe_bltn (v := .ty "bool") (by rfl) T.n_bool (by decide +kernel) rfl) pa_nil)))) (pw_or1 (pt_val (pe_callB (r := (rIsi K)) call_isi (by rfl) T.n_isinstance (by decide +kernel) (pa_cons (pv 0) (pa_cons (pe_bltn (v := .ty "bool") (by rfl) T.n_bool (by decide +kernel) rfl) pa_nil)))))))
  (pss_one (ps_ret (pe_and (pe_callB (r := (rIsi K)) call_isi (by rfl) T.n_isinstance (by decide +kernel) (pa_cons (pv 1) (pa_cons (pe_bltn (v := .ty "bool") (by rfl) T.n_bool (by decide +kernel) rfl) pa_nil))) (pe_and (pe_callB (r := (rIsi K)) call_isi (by rfl) T.n_isinstance (by decide +kernel) (pa_cons (pv 0) (pa_cons (pe_bltn (v := .ty "bool") (by rfl) T.n_bool (by decide +kernel) rfl) pa_nil))) (pe_one (pe_cmpR (r := rEqD K) (op_eqD hr.units) (pv 0) (pv 1) (nomark _)))))))
  pss_nil)
  (pss_cons (ps_if (pt_val (pe_callB (r := (rIsi K)) call_isi (by rfl) T.n_isinstance (by decide +kernel) (pa_cons (pv 1) (pa_cons (pe_bltn (v := .ty "int") (by rfl) T.n_int (by decide +kernel) rfl) pa_nil))))
  (pss_one (ps_ret (pe_and (pe_callB (r := (rIsi K)) call_isi (by rfl) T.n_isinstance (by decide +kernel) (pa_cons (pv 0) (pa_cons (pe_bltn (v := .ty "int") (by rfl) T.n_int (by decide +kernel) rfl) pa_nil))) (pe_one (pe_cmpR (r := rEqD K) (op_eqD hr.units) (pv 0) (pv 1) (nomark _))))))
  pss_nil)
  (pss_cons (ps_if (pt_val (pe_callB (r := (rIsi K)) call_isi (by rfl) T.n_isinstance (by decide +kernel) (pa_cons (pv 1) (pa_cons (pe_bltn (v := .ty "str") (by rfl) T.n_str (by decide +kernel) rfl) pa_nil))))
  (pss_one (ps_ret (pe_and (pe_callB (r := (rIsi K)) call_isi (by rfl) T.n_isinstance (by decide +kernel) (pa_cons (pv 0) (pa_cons (pe_bltn (v := .ty "str") (by rfl) T.n_str (by decide +kernel) rfl) pa_nil))) (pe_one (pe_cmpR (r := rEqD K) (op_eqD hr.units) (pv 0) (pv 1) (nomark _))))))
  pss_nil)
  (pss_cons (ps_if (PW.pt (pw_and (pt_val (pe_callB (r := (rIsi K)) call_isi (by rfl) T.n_isinstance (by decide +kernel) (pa_cons (pv 1) (pa_cons (pe_bltn (v := .ty "tuple") (by rfl) T.n_tuple (by decide +kernel) rfl) pa_nil)))) (pw_and1 (pt_not (pt_val (pe_callB (r := (rIsi K)) call_isi (by rfl) T.n_isinstance (by decide +kernel) (pa_cons (pv 0) (pa_cons (pe_bltn (v := .ty "tuple") (by rfl) T.n_tuple (by decide +kernel) rfl) pa_nil))))))))
  (pss_one (ps_ret pe_bl))
  pss_nil)
  (pss_cons (ps_if (PW.pt (pw_and (pt_val (pe_callB (r := (rIsi K)) call_isi (by rfl) T.n_isinstance (by decide +kernel) (pa_cons (pv 1) (pa_cons (pe_bltn (v := .ty "list") (by rfl) T.n_list (by decide +kernel) rfl) pa_nil)))) (pw_and1 (pt_not (pt_val (pe_callB (r := (rIsi K)) call_isi (by rfl) T.n_isinstance (by decide +kernel) (pa_cons (pv 0) (pa_cons (pe_bltn (v := .ty "list") (by rfl) T.n_list (by decide +kernel) rfl) pa_nil))))))))
  (pss_one (ps_ret pe_bl))
  pss_nil)
  (pss_cons (ps_if (pt_cmpR op_ne (pe_callB (r := (fun xs H Q => ∃ x n, xs = [x] ∧ LenV K x H n ∧ Q (.int n) H)) call_len (by rfl) T.n_len (by decide +kernel) (pa_cons (pv 0) pa_nil)) (pe_callB (r := (fun xs H Q => ∃ x n, xs = [x] ∧ LenV K x H n ∧ Q (.int n) H)) call_len (by rfl) T.n_len (by decide +kernel) (pa_cons (pv 1) pa_nil)) (nomark _))
  (pss_one (ps_ret pe_bl))
  pss_nil)
  (pss_cons (ps_for PassesOwn.never rfl (pi_range1 (by rfl) T.n_range (pa_cons (pe_callB (r := (fun xs H Q => ∃ x n, xs = [x] ∧ LenV K x H n ∧ Q (.int n) H)) call_len (by rfl) T.n_len (by decide +kernel) (pa_cons (pv 1) pa_nil)) pa_nil)) (pg_name (i := 2) sc__law_matches.nd rfl (Or.inl rfl))
  (pss_one (ps_if (pt_not (pt_val (pe_call G__law_matches_v1 (hr.mono (by decide)) (by rfl) T.d__law_matches.g T.d__law_matches.F.kp T.d__law_matches.b .nil pass0 (pa_cons (pe_ix (r := rIxL K) ix_list (pv 0) (pv 2) (fun _ _ => rfl)) (pa_cons (pe_ix (r := rIxL K) ix_list (pv 1) (pv 2) (fun _ _ => rfl)) pa_nil)))))
  (pss_one (ps_ret pe_bl))
  pss_nil)))
  (pss_one (ps_ret pe_bl)))))))))), ?_⟩)
  exact (ss_seq (ss_if (st_or (st_test (se_op r2_isN se_var se_non)) (st_test (se_op r2_isN se_var se_non)))
  (ss_ret (se_andV (se_op r2_isN se_var se_non) (se_op r2_isN se_var se_non)))
  ss_next)
  (ss_seq (ss_if (st_or (st_b (se_isi se_var)) (st_b (se_isi se_var)))
  (ss_ret (se_andV (se_isi se_var) (se_andV (se_isi se_var) (se_op r2_eqD se_var se_var))))
  ss_next)
  (ss_seq (ss_if (st_b (se_isi se_var))
  (ss_ret (se_andV (se_isi se_var) (se_op r2_eqD se_var se_var)))
  ss_next)
  (ss_seq (ss_if (st_b (se_isi se_var))
  (ss_ret (se_andV (se_isi se_var) (se_op r2_eqD se_var se_var)))
  ss_next)
  (ss_seq (ss_if (st_and (st_b (se_isi se_var)) (st_not (st_b (se_isi se_var))))
  (ss_ret se_bl)
  ss_next)
  (ss_seq (ss_if (st_and (st_b (se_isi se_var)) (st_not (st_b (se_isi se_var))))
  (ss_ret se_bl)
  ss_next)
  (ss_seq (ss_if (st_test (se_op r2_ne (se_cb rc_len (sa_cons se_var sa_nil)) (se_cb rc_len (sa_cons se_var sa_nil))))
  (ss_ret se_bl)
  ss_next)
  (ss_seq (ss_for (si_range1 (sa_cons (se_cb rc_len (sa_cons se_var sa_nil)) sa_nil)) sg_name
  (ss_if (st_not (st_b (se_call (sa_cons (se_op r2_ixL se_var se_var) (sa_cons (se_op r2_ixL se_var se_var) sa_nil)))))
  (ss_ret se_bl)
  ss_next))
  (ss_ret se_bl)))))))))
theorem sc__law_windows : FnScope ["n", "a", "b"] ["n", "a"] (defScope s__law_windows) := ⟨rfl, rfl, rfl, by decide +kernel, rfl, by decide +kernel, by decide +kernel⟩
def m__law_windows : MS := (sRet (mLc (mIR2 (mCons (mC (.int 1)) (mCons (mOp fAdd (mOp fSub (mVar 0) (mVar 1)) (mC (.int 2))) mNil))) (tgN 2) mYes (mTup (mCons (mVar 2) (mCons (mOp fSub (mOp fAdd (mVar 2) (mVar 1)) (mC (.int 1))) mNil))) [2]))
def F__law_windows : List D → Option D := fnP 2 3 m__law_windows
theorem ok__law_windows (T : Top K mg w) : FnOk P w K mg base CX0 1 T.d__law_windows.f T.d__law_windows.fd ["n", "a"] (spP K T.κ F__law_windows) := by
  refine fnP_ok T.d__law_windows.F sc__law_windows (fun cdv A outer s H Exc hr => ⟨_, (pss_one (ps_ret (pe_lc (own := [("b", 2)]) (by rfl) sc__law_windows.nd (pi_range2 (by rfl) T.n_range (pa_cons pe_int (pa_cons (pe_op op_add (pe_op op_sub (pv 0) (pv 1)) pe_int) pa_nil))) (blkOk_by (own := [("b", 2)]) (N := ["n", "a", "b"]) (sc := defScope s__law_windows) (by decide +kernel)) (fun _ _ _ _ _ => (pg_name (i := 2) sc__law_windows.nd rfl (Or.inl rfl))) (fun _ _ _ _ _ => pts_nil) (fun _ _ _ _ _ => (pe_tup (pa_cons (pv 2) (pa_cons (pe_op op_sub (pe_op op_add (pv 2) (pv 1)) pe_int) pa_nil))))))), ?_⟩)
  exact (ss_ret (se_lc (si_range2 (sa_cons se_int (sa_cons (se_op r2_add (se_op r2_sub se_var se_var) se_int) sa_nil))) sg_name (by decide) st_yes (se_tup (sa_cons se_var (sa_cons (se_op r2_sub (se_op r2_add se_var se_var) se_int) sa_nil)))))
theorem sc__law_drawn_sizes : FnScope ["purse", "many", "sizes", "rows", "v", "size"] ["purse", "many"] (defScope s__law_drawn_sizes) := ⟨rfl, rfl, rfl, by decide +kernel, rfl, by decide +kernel, by decide +kernel⟩
def m__law_drawn_sizes_b1 : MS := (sSeq (sSet 5 (mOp fAdd (mC (.int 1)) (mCallM F__law_draw (mCons (mVar 0) (mCons (mC (.int 4)) mNil)))))
  (sSeq (sIf (mTest (mOp fGt (mOp fMul (mVar 3) (mVar 5)) (mC (.int 200))))
  (sSet 5 (mC (.int 1)))
  sNext)
  (sSeq (sDrop (mAppend (mVar 2) (mCons (mVar 5) mNil)))
  (sSet 3 (mOp fMul (mVar 3) (mVar 5))))))
def m__law_drawn_sizes : MS := (sSeq (sSet 2 (mLstC mNil))
  (sSeq (sSet 3 (mC (.int 1)))
  (sSeq (mFor (mIR1 (mCons (mVar 1) mNil)) (tgN 4) m__law_drawn_sizes_b1)
  (sRet (mFrz (mVar 2))))))
def F__law_drawn_sizes : List E → List Cell → Option (E × List Cell) := fnM 2 6 m__law_drawn_sizes
theorem ok__law_drawn_sizes (T : Top K mg w) : FnOk P w K mg base CX0 2 T.d__law_drawn_sizes.f T.d__law_drawn_sizes.fd ["purse", "many"] (spM K T.κ F__law_drawn_sizes) := by
  have G__law_draw := ok__law_draw (P := P) (w := w) (base := base) T
  refine fnM_ok T.d__law_drawn_sizes.F sc__law_drawn_sizes (fun cdv A outer s H Exc hr => ⟨_, (pss_cons (ps_set (i := 2) sc__law_drawn_sizes.nd rfl (Or.inl rfl) (pe_lst pa_nil))
  (pss_cons (ps_set (i := 3) sc__law_drawn_sizes.nd rfl (Or.inl rfl) pe_int)
  (pss_cons (ps_for PassesOwn.never rfl (pi_range1 (by rfl) T.n_range (pa_cons (pv 1) pa_nil)) (pg_name (i := 4) sc__law_drawn_sizes.nd rfl (Or.inl rfl))
  (pss_cons (ps_set (i := 5) sc__law_drawn_sizes.nd rfl (Or.inl rfl) (pe_op op_add pe_int (pe_call G__law_draw (hr.mono (by decide)) (by rfl) T.d__law_draw.g T.d__law_draw.F.kp T.d__law_draw.b .nil pass0 (pa_cons (pv 0) (pa_cons pe_int pa_nil)))))
  (pss_cons (ps_if (pt_cmpR op_gt (pe_op op_mul (pv 3) (pv 5)) pe_int (nomark _))
  (pss_one (ps_set (i := 5) sc__law_drawn_sizes.nd rfl (Or.inl rfl) pe_int))
  pss_nil)
  (pss_cons (ps_expr (pe_bm PySem.F.plainAttrs_list PySem.F.slot_list_append PySem.F.type_list_append mt_append (pv 2) (pa_cons (pv 5) pa_nil)))
  (pss_one (ps_set (i := 3) sc__law_drawn_sizes.nd rfl (Or.inl rfl) (pe_op op_mul (pv 3) (pv 5))))))))
  (pss_one (ps_ret (pv 2)))))), ?_⟩)
  exact (ss_seq (ss_set (se_lstC sa_nil))
  (ss_seq (ss_set se_int)
  (ss_seq (ss_for (si_range1 (sa_cons se_var sa_nil)) sg_name
  (ss_seq (ss_set (se_op r2_add se_int (se_callM (sa_cons se_var (sa_cons se_int sa_nil)))))
  (ss_seq (ss_if (st_test (se_op r2_gt (se_op r2_mul se_var se_var) se_int))
  (ss_set se_int)
  ss_next)
  (ss_seq (ss_drop (se_append se_var (sa_cons se_var sa_nil)))
  (ss_set (se_op r2_mul se_var se_var))))))
  (ss_ret (se_frz se_var)))))
theorem sc__law_key : FnScope ["kind", "hill", "side", "row"] ["kind", "hill", "side", "row"] (defScope s__law_key) := ⟨rfl, rfl, rfl, by decide +kernel, rfl, by decide +kernel, by decide +kernel⟩
def m__law_key : MS := (sSeq (sIf (mTest (mOp fEq (mVar 0) (mC (.int 0))))
  (sRet (mVar 3))
  sNext)
  (sSeq (sIf (mTest (mOp fEq (mVar 0) (mC (.int 1))))
  (sRet (mC (.int 0)))
  sNext)
  (sSeq (sIf (mTest (mOp fEq (mVar 0) (mC (.int 2))))
  (sRet (mCall fSumT (mCons (mVar 3) mNil)))
  sNext)
  (sSeq (sIf (mTest (mOp fEq (mVar 0) (mC (.int 3))))
  (sRet (mCall fMaxT (mCons (mVar 3) mNil)))
  sNext)
  (sSeq (sIf (mTest (mOp fEq (mVar 0) (mC (.int 4))))
  (sRet (mOp fMod (mCall fInt1 (mCons (mCall fSumT (mCons (mVar 3) mNil)) mNil)) (mC (.int 2))))
  sNext)
  (sRet (mIf (mTest (mOp (fInD false) (mVar 1) (mVar 2))) (mOp fIxT (mVar 3) (mBM fIndex (mVar 2) (mCons (mVar 1) mNil))) (mC (.int 0)))))))))
def F__law_key : List D → Option D := fnP 4 4 m__law_key
theorem ok__law_key (T : Top K mg w) : FnOk P w K mg base CX0 1 T.d__law_key.f T.d__law_key.fd ["kind", "hill", "side", "row"] (spP K T.κ F__law_key) := by
  refine fnP_ok T.d__law_key.F sc__law_key (fun cdv A outer s H Exc hr => ⟨_, (pss_cons (ps_if (pt_cmpR op_eq (pv 0) pe_int (nomark _))
  (pss_one (ps_ret (pv 3)))
  pss_nil)
  (pss_cons (ps_if (pt_cmpR op_eq (pv 0) pe_int (nomark _))
  (pss_one (ps_ret pe_int))
  pss_nil)
  (pss_cons (ps_if (pt_cmpR op_eq (pv 0) pe_int (nomark _))
  (pss_one (ps_ret (pe_callB (r := (rSumT K)) (cr_sumT rfl) (by rfl) T.n_sum (by decide +kernel) (pa_cons (pv 3) pa_nil))))
  pss_nil)
  (pss_cons (ps_if (pt_cmpR op_eq (pv 0) pe_int (nomark _))
  (pss_one (ps_ret (pe_callB (cr_maxT rfl hr.units) (by rfl) T.n_max (by decide +kernel) (pa_cons (pv 3) pa_nil))))
  pss_nil)
  (pss_cons (ps_if (pt_cmpR op_eq (pv 0) pe_int (nomark _))
  (pss_one (ps_ret (pe_op op_mod (pe_callTy call_int1 (by rfl) T.n_int (by decide +kernel) (pa_cons (pe_callB (r := (rSumT K)) (cr_sumT rfl) (by rfl) T.n_sum (by decide +kernel) (pa_cons (pv 3) pa_nil)) pa_nil)) pe_int)))
  pss_nil)
  (pss_one (ps_ret (pe_ifExp (pt_cmpR (r := rInD K) (op_inD (u65 hr)) (pv 1) (pv 2) (by rfl)) (pe_ix (r := rIxT K) ix_tup (pv 3) (pe_bm PySem.F.plainAttrs_list PySem.F.slot_list_index PySem.F.type_list_index (mt_indexD (u65 hr)) (pv 2) (pa_cons (pv 1) pa_nil)) (fun _ _ => rfl)) pe_int)))))))), ?_⟩)
  exact (ss_seq (ss_if (st_test (se_op r2_eq se_var se_int))
  (ss_ret se_var)
  ss_next)
  (ss_seq (ss_if (st_test (se_op r2_eq se_var se_int))
  (ss_ret se_int)
  ss_next)
  (ss_seq (ss_if (st_test (se_op r2_eq se_var se_int))
  (ss_ret (se_cb rc_sumT (sa_cons se_var sa_nil)))
  ss_next)
  (ss_seq (ss_if (st_test (se_op r2_eq se_var se_int))
  (ss_ret (se_cb rc_maxT (sa_cons se_var sa_nil)))
  ss_next)
  (ss_seq (ss_if (st_test (se_op r2_eq se_var se_int))
  (ss_ret (se_op r2_mod (se_cb rc_int (sa_cons (se_cb rc_sumT (sa_cons se_var sa_nil)) sa_nil)) se_int))
  ss_next)
  (ss_ret (se_if (st_test (se_op r2_inD se_var se_var)) (se_op r2_ixT se_var (se_index se_var (sa_cons se_var sa_nil))) se_int)))))))
theorem sc__law_formula : FnScope ["kind", "hill", "side", "sizes", "own", "found", "size", "v"] ["kind", "hill", "side", "sizes"] (defScope s__law_formula) := ⟨rfl, rfl, rfl, by decide +kernel, rfl, by decide +kernel, by decide +kernel⟩
def m__law_formula_b1 : MS := (sSet 5 (mOp fMul (mVar 5) (mVar 6)))
def m__law_formula : MS := (sSeq (sSet 4 (mLc (mIL (mVar 2)) (tgN 7) mYes (mOp fIxL (mVar 3) (mVar 7)) [7]))
  (sSeq (sIf (mTest (mOp fEq (mVar 0) (mC (.int 0))))
  (sSeq (sSet 5 (mC (.int 1)))
  (sSeq (mFor (mIL (mVar 4)) (tgN 6) m__law_formula_b1)
  (sRet (mVar 5))))
  sNext)
  (sSeq (sIf (mTest (mOp fEq (mVar 0) (mC (.int 1))))
  (sRet (mC (.int 1)))
  sNext)
  (sSeq (sIf (mTest (mOp fEq (mVar 0) (mC (.int 2))))
  (sRet (mOp fAdd (mC (.int 1)) (mCall fSum (mCons (mLc (mIL (mVar 4)) (tgN 6) mYes (mOp fSub (mVar 6) (mC (.int 1))) [6]) mNil))))
  sNext)
  (sSeq (sIf (mTest (mOp fEq (mVar 0) (mC (.int 3))))
  (sRet (mCall fMax (mCons (mVar 4) mNil)))
  sNext)
  (sSeq (sIf (mTest (mOp fEq (mVar 0) (mC (.int 4))))
  (sRet (mIf (mTest (mOp fGt (mCall fMax (mCons (mVar 4) mNil)) (mC (.int 1)))) (mC (.int 2)) (mC (.int 1))))
  sNext)
  (sRet (mIf (mTest (mOp (fInD false) (mVar 1) (mVar 2))) (mOp fIxL (mVar 3) (mVar 1)) (mC (.int 1))))))))))
def F__law_formula : List D → Option D := fnP 4 8 m__law_formula
theorem ok__law_formula (T : Top K mg w) : FnOk P w K mg base CX0 1 T.d__law_formula.f T.d__law_formula.fd ["kind", "hill", "side", "sizes"] (spP K T.κ F__law_formula) := by
  refine fnP_ok T.d__law_formula.F sc__law_formula (fun cdv A outer s H Exc hr => ⟨_, (pss_cons (ps_setLc (i := 4) (own := [("v", 7)]) (by rfl) sc__law_formula.nd rfl rfl (sw_true rfl rfl rfl (by decide +kernel)) (pi_list (pv 2)) (blkOk_by (own := [("v", 7)]) (N := ["kind", "hill", "side", "sizes", "own", "found", "size", "v"]) (sc := defScope s__law_formula) (by decide +kernel)) (fun _ _ _ _ _ => (pg_name (i := 7) sc__law_formula.nd rfl (Or.inl rfl))) (fun _ _ _ _ _ => pts_nil) (fun _ _ _ _ _ => (pe_ix (r := rIxL K) ix_list (pv 3) (pv 7) (fun _ _ => rfl))))
  (pss_cons (ps_if (pt_cmpR op_eq (pv 0) pe_int (nomark _))
  (pss_cons (ps_set (i := 5) sc__law_formula.nd rfl (Or.inl rfl) pe_int)
  (pss_cons (ps_for PassesOwn.never rfl (pi_list (pv 4)) (pg_name (i := 6) sc__law_formula.nd rfl (Or.inl rfl))
  (pss_one (ps_set (i := 5) sc__law_formula.nd rfl (Or.inl rfl) (pe_op op_mul (pv 5) (pv 6)))))
  (pss_one (ps_ret (pv 5)))))
  pss_nil)
  (pss_cons (ps_if (pt_cmpR op_eq (pv 0) pe_int (nomark _))
  (pss_one (ps_ret pe_int))
  pss_nil)
  (pss_cons (ps_if (pt_cmpR op_eq (pv 0) pe_int (nomark _))
  (pss_one (ps_ret (pe_op op_add pe_int (pe_callB (r := (rSum K)) (cr_sum rfl) (by rfl) T.n_sum (by decide +kernel) (pa_cons (pe_lc (own := [("size", 6)]) (by rfl) sc__law_formula.nd (pi_list (pv 4)) (blkOk_by (own := [("size", 6)]) (N := ["kind", "hill", "side", "sizes", "own", "found", "size", "v"]) (sc := defScope s__law_formula) (by decide +kernel)) (fun _ _ _ _ _ => (pg_name (i := 6) sc__law_formula.nd rfl (Or.inl rfl))) (fun _ _ _ _ _ => pts_nil) (fun _ _ _ _ _ => (pe_op op_sub (pv 6) pe_int))) pa_nil)))))
  pss_nil)
  (pss_cons (ps_if (pt_cmpR op_eq (pv 0) pe_int (nomark _))
  (pss_one (ps_ret (pe_callB (r := (rMax K)) (cr_max rfl) (by rfl) T.n_max (by decide +kernel) (pa_cons (pv 4) pa_nil))))
  pss_nil)
  (pss_cons (ps_if (pt_cmpR op_eq (pv 0) pe_int (nomark _))
  (pss_one (ps_ret (pe_ifExp (pt_cmpR op_gt (pe_callB (r := (rMax K)) (cr_max rfl) (by rfl) T.n_max (by decide +kernel) (pa_cons (pv 4) pa_nil)) pe_int (nomark _)) pe_int pe_int)))
  pss_nil)
  (pss_one (ps_ret (pe_ifExp (pt_cmpR (r := rInD K) (op_inD (u65 hr)) (pv 1) (pv 2) (by rfl)) (pe_ix (r := rIxL K) ix_list (pv 3) (pv 1) (fun _ _ => rfl)) pe_int))))))))), ?_⟩)
  exact (ss_seq (ss_set (se_lc (si_list se_var) sg_name (by decide) st_yes (se_op r2_ixL se_var se_var)))
  (ss_seq (ss_if (st_test (se_op r2_eq se_var se_int))
  (ss_seq (ss_set se_int)
  (ss_seq (ss_for (si_list se_var) sg_name
  (ss_set (se_op r2_mul se_var se_var)))
  (ss_ret se_var)))
  ss_next)
  (ss_seq (ss_if (st_test (se_op r2_eq se_var se_int))
  (ss_ret se_int)
  ss_next)
  (ss_seq (ss_if (st_test (se_op r2_eq se_var se_int))
  (ss_ret (se_op r2_add se_int (se_cb rc_sum (sa_cons (se_lc (si_list se_var) sg_name (by decide) st_yes (se_op r2_sub se_var se_int)) sa_nil))))
  ss_next)
  (ss_seq (ss_if (st_test (se_op r2_eq se_var se_int))
  (ss_ret (se_cb rc_max (sa_cons se_var sa_nil)))
  ss_next)
  (ss_seq (ss_if (st_test (se_op r2_eq se_var se_int))
  (ss_ret (se_if (st_test (se_op r2_gt (se_cb rc_max (sa_cons se_var sa_nil)) se_int)) se_int se_int))
  ss_next)
  (ss_ret (se_if (st_test (se_op r2_inD se_var se_var)) (se_op r2_ixL se_var se_var) se_int))))))))
theorem sc__law_table : FnScope ["kind", "hill", "sizes", "side", "table", "row"] ["kind", "hill", "sizes"] (defScope s__law_table) := ⟨rfl, rfl, rfl, by decide +kernel, rfl, by decide +kernel, by decide +kernel⟩
def m__law_table_b1 : MS := (sDPutT (mVar 4) (mVar 5) (mCall F__law_key (mCons (mVar 0) (mCons (mVar 1) (mCons (mVar 3) (mCons (mVar 5) mNil))))))
def m__law_table : MS := (sSeq (sSet 3 (mLstRg1 (mCall fLen (mCons (mVar 2) mNil))))
  (sSeq (sSet 4 mDNewT)
  (sSeq (mFor (mIL (mCall F__law_rows_of (mCons (mVar 2) mNil))) (tgN 5) m__law_table_b1)
  (sRet (mFrz (mVar 4))))))
def F__law_table : List D → Option D := fnP 3 6 m__law_table
theorem ok__law_table (T : Top K mg w) : FnOk P w K mg base CX0 2 T.d__law_table.f T.d__law_table.fd ["kind", "hill", "sizes"] (spP K T.κ F__law_table) := by
  have G__law_key := ok__law_key (P := P) (w := w) (base := base) T
  have G__law_rows_of := ok__law_rows_of (P := P) (w := w) (base := base) T
  refine fnP_ok T.d__law_table.F sc__law_table (fun cdv A outer s H Exc hr => ⟨_, (pss_cons (ps_set (i := 3) sc__law_table.nd rfl (Or.inl rfl) (pe_listRg rfl (by rfl) T.n_list (prg_1 (by rfl) T.n_range (pe_callB (r := (fun xs H Q => ∃ x n, xs = [x] ∧ LenV K x H n ∧ Q (.int n) H)) call_len (by rfl) T.n_len (by decide +kernel) (pa_cons (pv 2) pa_nil)))))
  (pss_cons (ps_set (i := 4) sc__law_table.nd rfl (Or.inl rfl) pe_dnewT)
  (pss_cons (ps_for PassesOwn.never rfl (pi_list (pe_call G__law_rows_of (hr.mono (by decide)) (by rfl) T.d__law_rows_of.g T.d__law_rows_of.F.kp T.d__law_rows_of.b .nil pass0 (pa_cons (pv 2) pa_nil))) (pg_name (i := 5) sc__law_table.nd rfl (Or.inl rfl))
  (pss_one (ps_dput (hu_of hr) (pv 4) (pv 5) (pe_call G__law_key (hr.mono (by decide)) (by rfl) T.d__law_key.g T.d__law_key.F.kp T.d__law_key.b .nil pass0 (pa_cons (pv 0) (pa_cons (pv 1) (pa_cons (pv 3) (pa_cons (pv 5) pa_nil))))) rfl)))
  (pss_one (ps_ret (pv 4)))))), ?_⟩)
  exact (ss_seq (ss_set (se_listRg1 (se_cb rc_len (sa_cons se_var sa_nil))))
  (ss_seq (ss_set se_dNewT)
  (ss_seq (ss_for (si_list (se_call (sa_cons se_var sa_nil))) sg_name
  (ss_dputT se_var se_var (se_call (sa_cons se_var (sa_cons se_var (sa_cons se_var (sa_cons se_var sa_nil)))))))
  (ss_ret (se_frz se_var)))))
theorem sc__law_lengths : FnScope ["parents", "lengths", "found", "back", "v", "ends", "first", "parent", "child"] ["parents", "lengths"] (defScope s__law_lengths) := ⟨rfl, rfl, rfl, by decide +kernel, rfl, by decide +kernel, by decide +kernel⟩
def m__law_lengths_b1 : MS := (sSeq (sSet 4 (mOp fSub (mCall fLen (mCons (mVar 0) mNil)) (mVar 3)))
  (sSeq (sSet 5 (mLc (mIL (mCall F__law_children (mCons (mVar 0) (mCons (mVar 4) mNil)))) (tgN 8) mYes (mBor (mOp fIxT (mOp fIxL (mVar 2) (mOp fSub (mVar 8) (mC (.int 1)))) (mC (.int 1)))) [8]))
  (sSeq (sSet 6 (mOp fAdd (mC (.int 1)) (mIf (mTru (mVar 5)) (mCall fMax (mCons (mVar 5) mNil)) (mC (.int 0)))))
  (sPutL (mTup (mCons (mVar 6) (mCons (mOp fSub (mOp fAdd (mVar 6) (mOp fIxL (mVar 1) (mOp fSub (mVar 4) (mC (.int 1))))) (mC (.int 1))) mNil))) (mVar 2) (mOp fSub (mVar 4) (mC (.int 1)))))))
def m__law_lengths : MS := (sSeq (sSet 2 (mLcE (mIL (mVar 0)) (tgN 7) mYes (mTup (mCons (mC (.int 0)) (mCons (mC (.int 0)) mNil))) [7]))
  (sSeq (mFor (mIR1 (mCons (mCall fLen (mCons (mVar 0) mNil)) mNil)) (tgN 3) m__law_lengths_b1)
  (sRet (mFrz (mVar 2)))))
def F__law_lengths : List D → Option D := fnP 2 9 m__law_lengths
theorem ok__law_lengths (T : Top K mg w) : FnOk P w K mg base CX0 2 T.d__law_lengths.f T.d__law_lengths.fd ["parents", "lengths"] (spP K T.κ F__law_lengths) := by
  have G__law_children := ok__law_children (P := P) (w := w) (base := base) T
  refine fnP_ok T.d__law_lengths.F sc__law_lengths (fun cdv A outer s H Exc hr => ⟨_, (pss_cons (ps_set (i := 2) sc__law_lengths.nd rfl (Or.inr rfl) (pe_lc (own := [("parent", 7)]) (by rfl) sc__law_lengths.nd (pi_list (pv 0)) (blkOk_by (own := [("parent", 7)]) (N := ["parents", "lengths", "found", "back", "v", "ends", "first", "parent", "child"]) (sc := defScope s__law_lengths) (by decide +kernel)) (fun _ _ _ _ _ => (pg_name (i := 7) sc__law_lengths.nd rfl (Or.inl rfl))) (fun _ _ _ _ _ => pts_nil) (fun _ _ _ _ _ => (pe_tup (pa_cons pe_int (pa_cons pe_int pa_nil))))))
  (pss_cons (ps_for PassesOwn.never rfl (pi_range1 (by rfl) T.n_range (pa_cons (pe_callB (r := (fun xs H Q => ∃ x n, xs = [x] ∧ LenV K x H n ∧ Q (.int n) H)) call_len (by rfl) T.n_len (by decide +kernel) (pa_cons (pv 0) pa_nil)) pa_nil)) (pg_name (i := 3) sc__law_lengths.nd rfl (Or.inl rfl))
  (pss_cons (ps_set (i := 4) sc__law_lengths.nd rfl (Or.inl rfl) (pe_op op_sub (pe_callB (r := (fun xs H Q => ∃ x n, xs = [x] ∧ LenV K x H n ∧ Q (.int n) H)) call_len (by rfl) T.n_len (by decide +kernel) (pa_cons (pv 0) pa_nil)) (pv 3)))
  (pss_cons (ps_setLc (i := 5) (own := [("child", 8)]) (by rfl) sc__law_lengths.nd rfl rfl (sw_true rfl rfl rfl (by decide +kernel)) (pi_list (pe_call G__law_children (hr.mono (by decide)) (by rfl) T.d__law_children.g T.d__law_children.F.kp T.d__law_children.b .nil pass0 (pa_cons (pv 0) (pa_cons (pv 4) pa_nil)))) (blkOk_by (own := [("child", 8)]) (N := ["parents", "lengths", "found", "back", "v", "ends", "first", "parent", "child"]) (sc := defScope s__law_lengths) (by decide +kernel)) (fun _ _ _ _ _ => (pg_name (i := 8) sc__law_lengths.nd rfl (Or.inl rfl))) (fun _ _ _ _ _ => pts_nil) (fun _ _ _ _ _ => (pe_ix (r := rIxT K) ix_tup (pe_ix (r := rIxL K) ix_list (pv 2) (pe_op op_sub (pv 8) pe_int) (fun _ _ => rfl)) pe_int (fun _ _ => rfl))))
  (pss_cons (ps_set (i := 6) sc__law_lengths.nd rfl (Or.inl rfl) (pe_op op_add pe_int (pe_ifExp (pt_truth (pv 5) (by intro _; rfl)) (pe_callB (r := (rMax K)) (cr_max rfl) (by rfl) T.n_max (by decide +kernel) (pa_cons (pv 5) pa_nil)) pe_int)))
  (pss_one (ps_asg (pe_tup (pa_cons (pv 6) (pa_cons (pe_op op_sub (pe_op op_add (pv 6) (pe_ix (r := rIxL K) ix_list (pv 1) (pe_op op_sub (pv 4) pe_int) (fun _ _ => rfl))) pe_int) pa_nil))) (pg_sub (pv 2) (pe_op op_sub (pv 4) pe_int) set_list)))))))
  (pss_one (ps_ret (pv 2))))), ?_⟩)
  exact (ss_seq (ss_set (se_lcE (si_list se_var) sg_name (by decide) st_yes (se_tup (sa_cons se_int (sa_cons se_int sa_nil)))))
  (ss_seq (ss_for (si_range1 (sa_cons (se_cb rc_len (sa_cons se_var sa_nil)) sa_nil)) sg_name
  (ss_seq (ss_set (se_op r2_sub (se_cb rc_len (sa_cons se_var sa_nil)) se_var))
  (ss_seq (ss_set (se_lc (si_list (se_call (sa_cons se_var (sa_cons se_var sa_nil)))) sg_name (by decide) st_yes (se_bor (se_op r2_ixT (se_op r2_ixL se_var (se_op r2_sub se_var se_int)) se_int))))
  (ss_seq (ss_set (se_op r2_add se_int (se_if (st_tru se_var) (se_cb rc_max (sa_cons se_var sa_nil)) se_int)))
  (ss_putL (se_tup (sa_cons se_var (sa_cons (se_op r2_sub (se_op r2_add se_var (se_op r2_ixL se_var (se_op r2_sub se_var se_int))) se_int) sa_nil))) se_var (se_op r2_sub se_var se_int))))))
  (ss_ret (se_frz se_var))))
theorem sc__law_made : FnScope ["parents", "sizes", "lengths", "table", "sessions", "n", "promise", "session"] ["parents", "sizes", "lengths", "table"] (defScope s__law_made) := ⟨rfl, rfl, rfl, by decide +kernel, rfl, by decide +kernel, by decide +kernel⟩
def m__law_made : MS := (sSeq (sSet 4 (mCall F__law_lengths (mCons (mVar 0) (mCons (mVar 2) mNil))))
  (sSeq (sSet 5 (mCall fMax (mCons (mLc (mIL (mVar 4)) (tgN 7) mYes (mOp fIxT (mVar 7) (mC (.int 1))) [7]) mNil)))
  (sSeq (sSet 6 (mMake 0 F_Promise___init__ (mCons (mVar 5) (mCons (mCall F__law_windows (mCons (mVar 5) (mCons (mC (.int 1)) mNil))) mNil))))
  (sRet (mMake 1 F_Question___init__ (mCons (mCall fListOf (mCons (mVar 0) mNil)) (mCons (mCall fListOf (mCons (mVar 1) mNil)) (mCons (mVar 4) (mCons (mOp fRep (mLst (mCons (mVar 6) mNil)) (mCall fLen (mCons (mVar 0) mNil))) (mCons (mVar 3) mNil))))))))))
def F__law_made : List D → Option D := fnP 4 8 m__law_made
theorem ok__law_made (T : Top K mg w) : FnOk P w K mg base CX0 6 T.d__law_made.f T.d__law_made.fd ["parents", "sizes", "lengths", "table"] (spP K T.κ F__law_made) := by
  have G_Promise___init__ := ok_Promise___init__ (P := P) (w := w) (base := base) T
  have G_Question___init__ := ok_Question___init__ (P := P) (w := w) (base := base) T
  have G__law_lengths := ok__law_lengths (P := P) (w := w) (base := base) T
  have G__law_windows := ok__law_windows (P := P) (w := w) (base := base) T
  refine fnP_ok T.d__law_made.F sc__law_made (fun cdv A outer s H Exc hr => ⟨_, (pss_cons (ps_set (i := 4) sc__law_made.nd rfl (Or.inl rfl) (pe_call G__law_lengths (hr.mono (by decide)) (by rfl) T.d__law_lengths.g T.d__law_lengths.F.kp T.d__law_lengths.b .nil pass0 (pa_cons (pv 0) (pa_cons (pv 2) pa_nil))))
  (pss_cons (ps_set (i := 5) sc__law_made.nd rfl (Or.inl rfl) (pe_callB (r := (rMax K)) (cr_max rfl) (by rfl) T.n_max (by decide +kernel) (pa_cons (pe_lc (own := [("session", 7)]) (by rfl) sc__law_made.nd (pi_list (pv 4)) (blkOk_by (own := [("session", 7)]) (N := ["parents", "sizes", "lengths", "table", "sessions", "n", "promise", "session"]) (sc := defScope s__law_made) (by decide +kernel)) (fun _ _ _ _ _ => (pg_name (i := 7) sc__law_made.nd rfl (Or.inl rfl))) (fun _ _ _ _ _ => pts_nil) (fun _ _ _ _ _ => (pe_ix (r := rIxT K) ix_tup (pv 7) pe_int (fun _ _ => rfl)))) pa_nil)))
  (pss_cons (ps_set (i := 6) sc__law_made.nd rfl (Or.inl rfl) (pe_make T.mk_Promise G_Promise___init__ (hr.mono (by decide)) (by rfl) T.g_Promise T.m_Promise___init__.b .nil pass0 (pa_cons (pv 5) (pa_cons (pe_call G__law_windows (hr.mono (by decide)) (by rfl) T.d__law_windows.g T.d__law_windows.F.kp T.d__law_windows.b .nil pass0 (pa_cons (pv 5) (pa_cons pe_int pa_nil))) pa_nil))))
  (pss_one (ps_ret (pe_make T.mk_Question G_Question___init__ (hr.mono (by decide)) (by rfl) T.g_Question T.m_Question___init__.b .nil pass0 (pa_cons (pe_callTy (r := (fun xs H Q => ∃ p ys, xs = [.ref p] ∧ (SqL K H p ys ∨ SqT K H p ys) ∧ ∀ l, H l = none → Q (.ref l) (upd H l (.lst ys)))) call_list_of (by rfl) T.n_list (by decide +kernel) (pa_cons (pv 0) pa_nil)) (pa_cons (pe_callTy (r := (fun xs H Q => ∃ p ys, xs = [.ref p] ∧ (SqL K H p ys ∨ SqT K H p ys) ∧ ∀ l, H l = none → Q (.ref l) (upd H l (.lst ys)))) call_list_of (by rfl) T.n_list (by decide +kernel) (pa_cons (pv 1) pa_nil)) (pa_cons (pv 4) (pa_cons (pe_op op_rep (pe_lst (pa_cons (pv 6) pa_nil)) (pe_callB (r := (fun xs H Q => ∃ x n, xs = [x] ∧ LenV K x H n ∧ Q (.int n) H)) call_len (by rfl) T.n_len (by decide +kernel) (pa_cons (pv 0) pa_nil))) (pa_cons (pv 3) pa_nil))))))))))), ?_⟩)
  exact (ss_seq (ss_set (se_call (sa_cons se_var (sa_cons se_var sa_nil))))
  (ss_seq (ss_set (se_cb rc_max (sa_cons (se_lc (si_list se_var) sg_name (by decide) st_yes (se_op r2_ixT se_var se_int)) sa_nil)))
  (ss_seq (ss_set (se_make (c := 0) (sa_cons se_var (sa_cons (se_call (sa_cons se_var (sa_cons se_int sa_nil))) sa_nil))))
  (ss_ret (se_make (c := 1) (sa_cons (se_cb rc_list (sa_cons se_var sa_nil)) (sa_cons (se_cb rc_list (sa_cons se_var sa_nil)) (sa_cons se_var (sa_cons (se_op r2_rep (se_lst (sa_cons se_var sa_nil)) (se_cb rc_len (sa_cons se_var sa_nil))) (sa_cons se_var sa_nil))))))))))
theorem sc__law_classes_hold : FnScope ["made", "kind", "hill", "parents", "sizes", "v", "side", "told", "rows", "group", "keys", "row", "key"] ["made", "kind", "hill", "parents", "sizes"] (defScope s__law_classes_hold) := ⟨rfl, rfl, rfl, by decide +kernel, rfl, by decide +kernel, by decide +kernel⟩
def m__law_classes_hold_b1 : MS := (sSeq (sSet 10 (mLc (mIL (mVar 9)) (tgN 11) mYes (mCall F__law_key (mCons (mVar 1) (mCons (mVar 2) (mCons (mVar 6) (mCons (mVar 11) mNil))))) [11]))
  (sSeq (sIf (mOr (mNot (mTest (mUn (fIsi "list") (mVar 9)))) (mOr (mTest (mOp fEqD (mVar 9) (mLst mNil))) (mTest (mOp fGt (mCall fLen (mCons (mLc (mIL (mVar 10)) (tgN 12) (mTest (mOp fNeD (mVar 12) (mOp fIxL (mVar 10) (mC (.int 0))))) (mVar 12) [12]) mNil)) (mC (.int 0))))))
  (sRet (mC (.bl false)))
  sNext)
  (sSet 8 (mOp fCat (mVar 8) (mVar 9)))))
def m__law_classes_hold_b2 : MS := (sSeq (sSet 6 (mCall F__law_side (mCons (mVar 3) (mCons (mVar 5) mNil))))
  (sSeq (sSet 7 (mMeth 1 "classes" F_Question_classes (mVar 0) (mCons (mVar 5) mNil)))
  (sSeq (sIf (mOr (mNot (mTest (mUn (fIsi "list") (mVar 7)))) (mTest (mOp fNe (mCall fLen (mCons (mVar 7) mNil)) (mCall F__law_formula (mCons (mVar 1) (mCons (mVar 2) (mCons (mVar 6) (mCons (mVar 4) mNil))))))))
  (sRet (mC (.bl false)))
  sNext)
  (sSeq (sSet 8 (mLst mNil))
  (sSeq (mFor (mIL (mVar 7)) (tgN 9) m__law_classes_hold_b1)
  (sIf (mNot (mTest (mCall F__law_matches_v2 (mCons (mCall fSortT (mCons (mVar 8) mNil)) (mCons (mCall F__law_rows_of (mCons (mLc (mIL (mVar 6)) (tgN 5) mYes (mOp fIxL (mVar 4) (mVar 5)) [5]) mNil)) mNil)))))
  (sRet (mC (.bl false)))
  sNext))))))
def m__law_classes_hold : MS := (sSeq (mFor (mIR1 (mCons (mCall fLen (mCons (mVar 4) mNil)) mNil)) (tgN 5) m__law_classes_hold_b2)
  (sRet (mC (.bl true))))
def F__law_classes_hold : List D → Option D := fnP 5 13 m__law_classes_hold
theorem ok__law_classes_hold (T : Top K mg w) : FnOk P w K mg base CX0 4 T.d__law_classes_hold.f T.d__law_classes_hold.fd ["made", "kind", "hill", "parents", "sizes"] (spP K T.κ F__law_classes_hold) := by
  have G_Question_classes := ok_Question_classes (P := P) (w := w) (base := base) T
  have G__law_formula := ok__law_formula (P := P) (w := w) (base := base) T
  have G__law_key := ok__law_key (P := P) (w := w) (base := base) T
  have G__law_matches_v2 := ok__law_matches_v2 (P := P) (w := w) (base := base) T
  have G__law_rows_of := ok__law_rows_of (P := P) (w := w) (base := base) T
  have G__law_side := ok__law_side (P := P) (w := w) (base := base) T
  refine fnP_ok T.d__law_classes_hold.F sc__law_classes_hold (fun cdv A outer s H Exc hr => ⟨_, (pss_cons (ps_for PassesOwn.never rfl (pi_range1 (by rfl) T.n_range (pa_cons (pe_callB (r := (fun xs H Q => ∃ x n, xs = [x] ∧ LenV K x H n ∧ Q (.int n) H)) call_len (by rfl) T.n_len (by decide +kernel) (pa_cons (pv 4) pa_nil)) pa_nil)) (pg_name (i := 5) sc__law_classes_hold.nd rfl (Or.inl rfl))
  (pss_cons (ps_set (i := 6) sc__law_classes_hold.nd rfl (Or.inr rfl) (pe_call G__law_side (hr.mono (by decide)) (by rfl) T.d__law_side.g T.d__law_side.F.kp T.d__law_side.b .nil pass0 (pa_cons (pv 3) (pa_cons (pv 5) pa_nil))))
  (pss_cons (ps_set (i := 7) sc__law_classes_hold.nd rfl (Or.inl rfl) (pe_meth (pv 0) T.cls_Question T.m_Question_classes.M G_Question_classes (hr.mono (by decide)) T.m_Question_classes.b .nil pass0 (pa_cons (pv 5) pa_nil)))
  (pss_cons (ps_if (PW.pt (pw_or (pt_not (pt_val (pe_callB (r := (rIsi K)) call_isi (by rfl) T.n_isinstance (by decide +kernel) (pa_cons (pv 7) (pa_cons (pe_bltn (v := .ty "list") (by rfl) T.n_list (by decide +kernel) rfl) pa_nil))))) (pw_or1 (pt_cmpR op_ne (pe_callB (r := (fun xs H Q => ∃ x n, xs = [x] ∧ LenV K x H n ∧ Q (.int n) H)) call_len (by rfl) T.n_len (by decide +kernel) (pa_cons (pv 7) pa_nil)) (pe_call G__law_formula (hr.mono (by decide)) (by rfl) T.d__law_formula.g T.d__law_formula.F.kp T.d__law_formula.b .nil pass0 (pa_cons (pv 1) (pa_cons (pv 2) (pa_cons (pv 6) (pa_cons (pv 4) pa_nil))))) (nomark _)))))
  (pss_one (ps_ret pe_bl))
  pss_nil)
  (pss_cons (ps_set (i := 8) sc__law_classes_hold.nd rfl (Or.inl rfl) (pe_lst pa_nil))
  (pss_cons (ps_for PassesOwn.never rfl (pi_list (pv 7)) (pg_name (i := 9) sc__law_classes_hold.nd rfl (Or.inl rfl))
  (pss_cons (ps_set (i := 10) sc__law_classes_hold.nd rfl (Or.inr rfl) (pe_lc (own := [("row", 11)]) (by rfl) sc__law_classes_hold.nd (pi_list (pv 9)) (blkOk_by (own := [("row", 11)]) (N := ["made", "kind", "hill", "parents", "sizes", "v", "side", "told", "rows", "group", "keys", "row", "key"]) (sc := defScope s__law_classes_hold) (by decide +kernel)) (fun _ _ _ _ _ => (pg_name (i := 11) sc__law_classes_hold.nd rfl (Or.inl rfl))) (fun _ _ _ _ _ => pts_nil) (fun _ _ _ _ _ => (pe_call G__law_key (hr.mono (by decide)) (by rfl) T.d__law_key.g T.d__law_key.F.kp T.d__law_key.b .nil pass0 (pa_cons (pv 1) (pa_cons (pv 2) (pa_cons (pv 6) (pa_cons (pv 11) pa_nil))))))))
  (pss_cons (ps_if (PW.pt (pw_or (pt_not (pt_val (pe_callB (r := (rIsi K)) call_isi (by rfl) T.n_isinstance (by decide +kernel) (pa_cons (pv 9) (pa_cons (pe_bltn (v := .ty "list") (by rfl) T.n_list (by decide +kernel) rfl) pa_nil))))) (pw_or (pt_cmpR (r := rEqD K) (op_eqD hr.units) (pv 9) (pe_lst pa_nil) (nomark _)) (pw_or1 (pt_cmpR op_gt (pe_callB (r := (fun xs H Q => ∃ x n, xs = [x] ∧ LenV K x H n ∧ Q (.int n) H)) call_len (by rfl) T.n_len (by decide +kernel) (pa_cons (pe_lc (own := [("key", 12)]) (by rfl) sc__law_classes_hold.nd (pi_list (pv 10)) (blkOk_by (own := [("key", 12)]) (N := ["made", "kind", "hill", "parents", "sizes", "v", "side", "told", "rows", "group", "keys", "row", "key"]) (sc := defScope s__law_classes_hold) (by decide +kernel)) (fun _ _ _ _ _ => (pg_name (i := 12) sc__law_classes_hold.nd rfl (Or.inl rfl))) (fun _ _ _ _ _ => (pts_one (pt_cmpR (r := rNeD K) (op_neD hr.units) (pv 12) (pe_ix (r := rIxL K) ix_list (pv 10) pe_int (fun _ _ => rfl)) (nomark _)))) (fun _ _ _ _ _ => (pv 12))) pa_nil)) pe_int (nomark _))))))
  (pss_one (ps_ret pe_bl))
  pss_nil)
  (pss_one (ps_set (i := 8) sc__law_classes_hold.nd rfl (Or.inl rfl) (pe_op op_cat (pv 8) (pv 9)))))))
  (pss_one (ps_if (pt_not (pt_val (pe_call G__law_matches_v2 (hr.mono (by decide)) (by rfl) T.d__law_matches.g T.d__law_matches.F.kp T.d__law_matches.b .nil pass0 (pa_cons (pe_callB (cr_sortedTL rfl hr) (by rfl) T.n_sorted (by decide +kernel) (pa_cons (pv 8) pa_nil)) (pa_cons (pe_call G__law_rows_of (hr.mono (by decide)) (by rfl) T.d__law_rows_of.g T.d__law_rows_of.F.kp T.d__law_rows_of.b .nil pass0 (pa_cons (pe_lc (own := [("v", 5)]) (by rfl) sc__law_classes_hold.nd (pi_list (pv 6)) (blkOk_by (own := [("v", 5)]) (N := ["made", "kind", "hill", "parents", "sizes", "v", "side", "told", "rows", "group", "keys", "row", "key"]) (sc := defScope s__law_classes_hold) (by decide +kernel)) (fun _ _ _ _ _ => (pg_name (i := 5) sc__law_classes_hold.nd rfl (Or.inl rfl))) (fun _ _ _ _ _ => pts_nil) (fun _ _ _ _ _ => (pe_ix (r := rIxL K) ix_list (pv 4) (pv 5) (fun _ _ => rfl)))) pa_nil)) pa_nil)))))
  (pss_one (ps_ret pe_bl))
  pss_nil))))))))
  (pss_one (ps_ret pe_bl))), ?_⟩)
  exact (ss_seq (ss_for (si_range1 (sa_cons (se_cb rc_len (sa_cons se_var sa_nil)) sa_nil)) sg_name
  (ss_seq (ss_set (se_call (sa_cons se_var (sa_cons se_var sa_nil))))
  (ss_seq (ss_set (se_meth (c := 1) se_var (sa_cons se_var sa_nil)))
  (ss_seq (ss_if (st_or (st_not (st_b (se_isi se_var))) (st_test (se_op r2_ne (se_cb rc_len (sa_cons se_var sa_nil)) (se_call (sa_cons se_var (sa_cons se_var (sa_cons se_var (sa_cons se_var sa_nil))))))))
  (ss_ret se_bl)
  ss_next)
  (ss_seq (ss_set (se_lst sa_nil))
  (ss_seq (ss_for (si_list se_var) sg_name
  (ss_seq (ss_set (se_lc (si_list se_var) sg_name (by decide) st_yes (se_call (sa_cons se_var (sa_cons se_var (sa_cons se_var (sa_cons se_var sa_nil)))))))
  (ss_seq (ss_if (st_or (st_not (st_b (se_isi se_var))) (st_or (st_test (se_op r2_eqD se_var (se_lst sa_nil))) (st_test (se_op r2_gt (se_cb rc_len (sa_cons (se_lc (si_list se_var) sg_name (by decide) (st_test (se_op r2_neD se_var (se_op r2_ixL se_var se_int))) se_var) sa_nil)) se_int))))
  (ss_ret se_bl)
  ss_next)
  (ss_set (se_op r2_cat se_var se_var)))))
  (ss_if (st_not (st_b (se_call (sa_cons (se_cb rc_sortedTL (sa_cons se_var sa_nil)) (sa_cons (se_call (sa_cons (se_lc (si_list se_var) sg_name (by decide) st_yes (se_op r2_ixL se_var se_var)) sa_nil)) sa_nil)))))
  (ss_ret se_bl)
  ss_next)))))))
  (ss_ret se_bl))
theorem sc__law_exact : FnScope ["purse", "q", "kind", "hill", "parents", "sizes", "table", "needed", "v", "lengths", "made", "long", "shorter", "many", "at"] ["purse", "q", "kind", "hill", "parents", "sizes", "table"] (defScope s__law_exact) := ⟨rfl, rfl, rfl, by decide +kernel, rfl, by decide +kernel, by decide +kernel⟩
def m__law_exact_b1 : MS := (sDrop (mAppend (mVar 7) (mCons (mCall F__law_needs (mCons (mCall F__law_formula (mCons (mVar 2) (mCons (mVar 3) (mCons (mCall F__law_side (mCons (mVar 4) (mCons (mVar 8) mNil))) (mCons (mVar 5) mNil))))) (mCons (mVar 1) mNil))) mNil)))
def m__law_exact_b2 : MS := (sIf (mNot (mTest (mCall F__law_matches_v0 (mCons (mMeth 1 "needs" F_Question_needs (mVar 10) (mCons (mVar 8) (mCons (mVar 1) mNil))) (mCons (mOp fIxL (mVar 7) (mOp fSub (mVar 8) (mC (.int 1)))) mNil)))))
  (sRet (mC (.bl false)))
  sNext)
def m__law_exact : MS := (sSeq (sSet 7 (mLstC mNil))
  (sSeq (mFor (mIR2 (mCons (mC (.int 1)) (mCons (mCall fLen (mCons (mVar 5) mNil)) mNil))) (tgN 8) m__law_exact_b1)
  (sSeq (sPre (gFrz 7) (sSet 9 (mLc (mIL (mVar 7)) (tgN 13) mYes (mCall fMax2 (mCons (mC (.int 1)) (mCons (mVar 13) mNil))) [13])))
  (sSeq (sSet 10 (mCall F__law_made (mCons (mVar 4) (mCons (mVar 5) (mCons (mVar 9) (mCons (mVar 6) mNil))))))
  (sSeq (sIf (mOr (mNot (mTest (mCall F__law_classes_hold (mCons (mVar 10) (mCons (mVar 2) (mCons (mVar 3) (mCons (mVar 4) (mCons (mVar 5) mNil)))))))) (mNot (mTest (mCall F__law_matches_v0 (mCons (mMeth 1 "answered" F_Question_answered (mVar 10) (mCons (mVar 1) mNil)) (mCons (mC .non) mNil))))))
  (sRet (mC (.bl false)))
  sNext)
  (sSeq (mFor (mIR2 (mCons (mC (.int 1)) (mCons (mCall fLen (mCons (mVar 5) mNil)) mNil))) (tgN 8) m__law_exact_b2)
  (sSeq (sSet 11 (mLc (mIR2 (mCons (mC (.int 1)) (mCons (mCall fLen (mCons (mVar 5) mNil)) mNil))) (tgN 8) (mTest (mOp fGt (mOp fIxL (mVar 7) (mOp fSub (mVar 8) (mC (.int 1)))) (mC (.int 1)))) (mVar 8) [8]))
  (sSeq (sIf (mTest (mOp fEqD (mVar 11) (mLst mNil)))
  (sRet (mC (.bl true)))
  sNext)
  (sSeq (sSet 8 (mOp fIxL (mVar 11) (mCallM F__law_draw (mCons (mVar 0) (mCons (mCall fLen (mCons (mVar 11) mNil)) mNil)))))
  (sSeq (sSet 12 (mLc (mIR1 (mCons (mCall fLen (mCons (mVar 9) mNil)) mNil)) (tgN 14) mYes (mIf (mTest (mOp fEq (mVar 14) (mOp fSub (mVar 8) (mC (.int 1))))) (mOp fSub (mOp fIxL (mVar 9) (mVar 14)) (mC (.int 1))) (mOp fIxL (mVar 9) (mVar 14))) [14]))
  (sRet (mCall F__law_matches_v0 (mCons (mMeth 1 "answered" F_Question_answered (mCall F__law_made (mCons (mVar 4) (mCons (mVar 5) (mCons (mVar 12) (mCons (mVar 6) mNil))))) (mCons (mVar 1) mNil)) (mCons (mVar 8) mNil))))))))))))))
def F__law_exact : List E → List Cell → Option (E × List Cell) := fnM 7 15 m__law_exact
theorem ok__law_exact (T : Top K mg w) : FnOk P w K mg base CX0 7 T.d__law_exact.f T.d__law_exact.fd ["purse", "q", "kind", "hill", "parents", "sizes", "table"] (spM K T.κ F__law_exact) := by
  have G_Question_answered := ok_Question_answered (P := P) (w := w) (base := base) T
  have G_Question_needs := ok_Question_needs (P := P) (w := w) (base := base) T
  have G__law_classes_hold := ok__law_classes_hold (P := P) (w := w) (base := base) T
  have G__law_draw := ok__law_draw (P := P) (w := w) (base := base) T
  have G__law_formula := ok__law_formula (P := P) (w := w) (base := base) T
  have G__law_made := ok__law_made (P := P) (w := w) (base := base) T
  have G__law_matches_v0 := ok__law_matches_v0 (P := P) (w := w) (base := base) T
  have G__law_needs := ok__law_needs (P := P) (w := w) (base := base) T
  have G__law_side := ok__law_side (P := P) (w := w) (base := base) T
  refine fnM_ok T.d__law_exact.F sc__law_exact (fun cdv A outer s H Exc hr => ⟨_, (pss_cons (ps_set (i := 7) sc__law_exact.nd rfl (Or.inr rfl) (pe_lst pa_nil))
  (pss_cons (ps_for PassesOwn.never rfl (pi_range2 (by rfl) T.n_range (pa_cons pe_int (pa_cons (pe_callB (r := (fun xs H Q => ∃ x n, xs = [x] ∧ LenV K x H n ∧ Q (.int n) H)) call_len (by rfl) T.n_len (by decide +kernel) (pa_cons (pv 5) pa_nil)) pa_nil))) (pg_name (i := 8) sc__law_exact.nd rfl (Or.inr rfl))
  (pss_one (ps_expr (pe_bm PySem.F.plainAttrs_list PySem.F.slot_list_append PySem.F.type_list_append mt_append (pv 7) (pa_cons (pe_call G__law_needs (hr.mono (by decide)) (by rfl) T.d__law_needs.g T.d__law_needs.F.kp T.d__law_needs.b .nil pass0 (pa_cons (pe_call G__law_formula (hr.mono (by decide)) (by rfl) T.d__law_formula.g T.d__law_formula.F.kp T.d__law_formula.b .nil pass0 (pa_cons (pv 2) (pa_cons (pv 3) (pa_cons (pe_call G__law_side (hr.mono (by decide)) (by rfl) T.d__law_side.g T.d__law_side.F.kp T.d__law_side.b .nil pass0 (pa_cons (pv 4) (pa_cons (pv 8) pa_nil))) (pa_cons (pv 5) pa_nil))))) (pa_cons (pv 1) pa_nil))) pa_nil)))))
  (pss_cons (ps_set (i := 9) sc__law_exact.nd rfl (Or.inr rfl) (pe_lc (own := [("many", 13)]) (by rfl) sc__law_exact.nd (pi_list (pv 7)) (blkOk_by (own := [("many", 13)]) (N := ["purse", "q", "kind", "hill", "parents", "sizes", "table", "needed", "v", "lengths", "made", "long", "shorter", "many", "at"]) (sc := defScope s__law_exact) (by decide +kernel)) (fun _ _ _ _ _ => (pg_name (i := 13) sc__law_exact.nd rfl (Or.inl rfl))) (fun _ _ _ _ _ => pts_nil) (fun _ _ _ _ _ => (pe_callB (call_max2 rfl) (by rfl) T.n_max (by decide +kernel) (pa_cons pe_int (pa_cons (pv 13) pa_nil))))))
  (pss_cons (ps_set (i := 10) sc__law_exact.nd rfl (Or.inl rfl) (pe_call G__law_made (hr.mono (by decide)) (by rfl) T.d__law_made.g T.d__law_made.F.kp T.d__law_made.b .nil pass0 (pa_cons (pv 4) (pa_cons (pv 5) (pa_cons (pv 9) (pa_cons (pv 6) pa_nil))))))
  (pss_cons (ps_if (PW.pt (pw_or (pt_not (pt_val (pe_call G__law_classes_hold (hr.mono (by decide)) (by rfl) T.d__law_classes_hold.g T.d__law_classes_hold.F.kp T.d__law_classes_hold.b .nil pass0 (pa_cons (pv 10) (pa_cons (pv 2) (pa_cons (pv 3) (pa_cons (pv 4) (pa_cons (pv 5) pa_nil)))))))) (pw_or1 (pt_not (pt_val (pe_call G__law_matches_v0 (hr.mono (by decide)) (by rfl) T.d__law_matches.g T.d__law_matches.F.kp T.d__law_matches.b .nil pass0 (pa_cons (pe_meth (pv 10) T.cls_Question T.m_Question_answered.M G_Question_answered (hr.mono (by decide)) T.m_Question_answered.b .nil pass0 (pa_cons (pv 1) pa_nil)) (pa_cons pe_non pa_nil))))))))
  (pss_one (ps_ret pe_bl))
  pss_nil)
  (pss_cons (ps_for PassesOwn.never rfl (pi_range2 (by rfl) T.n_range (pa_cons pe_int (pa_cons (pe_callB (r := (fun xs H Q => ∃ x n, xs = [x] ∧ LenV K x H n ∧ Q (.int n) H)) call_len (by rfl) T.n_len (by decide +kernel) (pa_cons (pv 5) pa_nil)) pa_nil))) (pg_name (i := 8) sc__law_exact.nd rfl (Or.inr rfl))
  (pss_one (ps_if (pt_not (pt_val (pe_call G__law_matches_v0 (hr.mono (by decide)) (by rfl) T.d__law_matches.g T.d__law_matches.F.kp T.d__law_matches.b .nil pass0 (pa_cons (pe_meth (pv 10) T.cls_Question T.m_Question_needs.M G_Question_needs (hr.mono (by decide)) T.m_Question_needs.b .nil pass0 (pa_cons (pv 8) (pa_cons (pv 1) pa_nil))) (pa_cons (pe_ix (r := rIxL K) ix_list (pv 7) (pe_op op_sub (pv 8) pe_int) (fun _ _ => rfl)) pa_nil)))))
  (pss_one (ps_ret pe_bl))
  pss_nil)))
  (pss_cons (ps_setLc (i := 11) (own := [("v", 8)]) (by rfl) sc__law_exact.nd rfl rfl (sw_true rfl rfl rfl (by decide +kernel)) (pi_range2 (by rfl) T.n_range (pa_cons pe_int (pa_cons (pe_callB (r := (fun xs H Q => ∃ x n, xs = [x] ∧ LenV K x H n ∧ Q (.int n) H)) call_len (by rfl) T.n_len (by decide +kernel) (pa_cons (pv 5) pa_nil)) pa_nil))) (blkOk_by (own := [("v", 8)]) (N := ["purse", "q", "kind", "hill", "parents", "sizes", "table", "needed", "v", "lengths", "made", "long", "shorter", "many", "at"]) (sc := defScope s__law_exact) (by decide +kernel)) (fun _ _ _ _ _ => (pg_name (i := 8) sc__law_exact.nd rfl (Or.inl rfl))) (fun _ _ _ _ _ => (pts_one (pt_cmpR op_gt (pe_ix (r := rIxL K) ix_list (pv 7) (pe_op op_sub (pv 8) pe_int) (fun _ _ => rfl)) pe_int (nomark _)))) (fun _ _ _ _ _ => (pv 8)))
  (pss_cons (ps_if (pt_cmpR (r := rEqD K) (op_eqD hr.units) (pv 11) (pe_lst pa_nil) (nomark _))
  (pss_one (ps_ret pe_bl))
  pss_nil)
  (pss_cons (ps_set (i := 8) sc__law_exact.nd rfl (Or.inr rfl) (pe_ix (r := rIxL K) ix_list (pv 11) (pe_call G__law_draw (hr.mono (by decide)) (by rfl) T.d__law_draw.g T.d__law_draw.F.kp T.d__law_draw.b .nil pass0 (pa_cons (pv 0) (pa_cons (pe_callB (r := (fun xs H Q => ∃ x n, xs = [x] ∧ LenV K x H n ∧ Q (.int n) H)) call_len (by rfl) T.n_len (by decide +kernel) (pa_cons (pv 11) pa_nil)) pa_nil))) (fun _ _ => rfl)))
  (pss_cons (ps_setLc (i := 12) (own := [("at", 14)]) (by rfl) sc__law_exact.nd rfl rfl (sw_true rfl rfl rfl (by decide +kernel)) (pi_range1 (by rfl) T.n_range (pa_cons (pe_callB (r := (fun xs H Q => ∃ x n, xs = [x] ∧ LenV K x H n ∧ Q (.int n) H)) call_len (by rfl) T.n_len (by decide +kernel) (pa_cons (pv 9) pa_nil)) pa_nil)) (blkOk_by (own := [("at", 14)]) (N := ["purse", "q", "kind", "hill", "parents", "sizes", "table", "needed", "v", "lengths", "made", "long", "shorter", "many", "at"]) (sc := defScope s__law_exact) (by decide +kernel)) (fun _ _ _ _ _ => (pg_name (i := 14) sc__law_exact.nd rfl (Or.inl rfl))) (fun _ _ _ _ _ => pts_nil) (fun _ _ _ _ _ => (pe_ifExp (pt_cmpR op_eq (pv 14) (pe_op op_sub (pv 8) pe_int) (nomark _)) (pe_op op_sub (pe_ix (r := rIxL K) ix_list (pv 9) (pv 14) (fun _ _ => rfl)) pe_int) (pe_ix (r := rIxL K) ix_list (pv 9) (pv 14) (fun _ _ => rfl)))))
  (pss_one (ps_ret (pe_call G__law_matches_v0 (hr.mono (by decide)) (by rfl) T.d__law_matches.g T.d__law_matches.F.kp T.d__law_matches.b .nil pass0 (pa_cons (pe_meth (pe_call G__law_made (hr.mono (by decide)) (by rfl) T.d__law_made.g T.d__law_made.F.kp T.d__law_made.b .nil pass0 (pa_cons (pv 4) (pa_cons (pv 5) (pa_cons (pv 12) (pa_cons (pv 6) pa_nil))))) T.cls_Question T.m_Question_answered.M G_Question_answered (hr.mono (by decide)) T.m_Question_answered.b .nil pass0 (pa_cons (pv 1) pa_nil)) (pa_cons (pv 8) pa_nil))))))))))))))), ?_⟩)
  exact (ss_seq (ss_set (se_lstC sa_nil))
  (ss_seq (ss_for (si_range2 (sa_cons se_int (sa_cons (se_cb rc_len (sa_cons se_var sa_nil)) sa_nil))) sg_name
  (ss_drop (se_append se_var (sa_cons (se_call (sa_cons (se_call (sa_cons se_var (sa_cons se_var (sa_cons (se_call (sa_cons se_var (sa_cons se_var sa_nil))) (sa_cons se_var sa_nil))))) (sa_cons se_var sa_nil))) sa_nil))))
  (ss_seq (ss_pre (go_frz (i := 7)) (ss_set (se_lc (si_list se_var) sg_name (by decide) st_yes (se_cb rc_max2 (sa_cons se_int (sa_cons se_var sa_nil))))))
  (ss_seq (ss_set (se_call (sa_cons se_var (sa_cons se_var (sa_cons se_var (sa_cons se_var sa_nil))))))
  (ss_seq (ss_if (st_or (st_not (st_b (se_call (sa_cons se_var (sa_cons se_var (sa_cons se_var (sa_cons se_var (sa_cons se_var sa_nil)))))))) (st_not (st_b (se_call (sa_cons (se_meth (c := 1) se_var (sa_cons se_var sa_nil)) (sa_cons se_non sa_nil))))))
  (ss_ret se_bl)
  ss_next)
  (ss_seq (ss_for (si_range2 (sa_cons se_int (sa_cons (se_cb rc_len (sa_cons se_var sa_nil)) sa_nil))) sg_name
  (ss_if (st_not (st_b (se_call (sa_cons (se_meth (c := 1) se_var (sa_cons se_var (sa_cons se_var sa_nil))) (sa_cons (se_op r2_ixL se_var (se_op r2_sub se_var se_int)) sa_nil)))))
  (ss_ret se_bl)
  ss_next))
  (ss_seq (ss_set (se_lc (si_range2 (sa_cons se_int (sa_cons (se_cb rc_len (sa_cons se_var sa_nil)) sa_nil))) sg_name (by decide) (st_test (se_op r2_gt (se_op r2_ixL se_var (se_op r2_sub se_var se_int)) se_int)) se_var))
  (ss_seq (ss_if (st_test (se_op r2_eqD se_var (se_lst sa_nil)))
  (ss_ret se_bl)
  ss_next)
  (ss_seq (ss_set (se_op r2_ixL se_var (se_callM (sa_cons se_var (sa_cons (se_cb rc_len (sa_cons se_var sa_nil)) sa_nil)))))
  (ss_seq (ss_set (se_lc (si_range1 (sa_cons (se_cb rc_len (sa_cons se_var sa_nil)) sa_nil)) sg_name (by decide) st_yes (se_if (st_test (se_op r2_eq se_var (se_op r2_sub se_var se_int))) (se_op r2_sub (se_op r2_ixL se_var se_var) se_int) (se_op r2_ixL se_var se_var))))
  (ss_ret (se_call (sa_cons (se_meth (c := 1) (se_call (sa_cons se_var (sa_cons se_var (sa_cons se_var (sa_cons se_var sa_nil))))) (sa_cons se_var sa_nil)) (sa_cons se_var sa_nil))))))))))))))
theorem sc_law : FnScope ["script", "purse", "many", "parents", "v", "sizes", "q", "hill", "kinds", "kind"] ["script"] (defScope s_law) := ⟨rfl, rfl, rfl, by decide +kernel, rfl, by decide +kernel, by decide +kernel⟩
def m_law_b1 : MS := (sDrop (mAppend (mVar 3) (mCons (mCallM F__law_draw (mCons (mVar 1) (mCons (mVar 4) mNil))) mNil)))
def m_law_b2 : MS := (sIf (mNot (mTest (mCallM F__law_exact (mCons (mVar 1) (mCons (mVar 6) (mCons (mVar 9) (mCons (mVar 7) (mCons (mVar 3) (mCons (mVar 5) (mCons (mCall F__law_table (mCons (mVar 9) (mCons (mVar 7) (mCons (mVar 5) mNil)))) mNil))))))))))
  (sRet (mC (.bl false)))
  sNext)
def m_law : MS := (sSeq (sSet 1 (mCallM F__law_purse (mCons (mVar 0) (mCons (mC (.int 0)) mNil))))
  (sSeq (sSet 2 (mOp fAdd (mC (.int 2)) (mCallM F__law_draw (mCons (mVar 1) (mCons (mC (.int 4)) mNil)))))
  (sSeq (sSet 3 (mLstC mNil))
  (sSeq (mFor (mIR2 (mCons (mC (.int 1)) (mCons (mVar 2) mNil))) (tgN 4) m_law_b1)
  (sSeq (sPre (gFrz 3) (sSet 5 (mCallM F__law_drawn_sizes (mCons (mVar 1) (mCons (mVar 2) mNil)))))
  (sSeq (sSet 6 (mOp fAdd (mC (.int 2)) (mCallM F__law_draw (mCons (mVar 1) (mCons (mC (.int 8)) mNil)))))
  (sSeq (sSet 7 (mCallM F__law_draw (mCons (mVar 1) (mCons (mVar 2) mNil))))
  (sSeq (sSet 8 (mOp fCat (mSl fSlL (mCallM F__law_mix (mCons (mVar 1) (mCons (mLst (mCons (mC (.int 2)) (mCons (mC (.int 3)) (mCons (mC (.int 4)) (mCons (mC (.int 5)) mNil))))) mNil))) mNo (mPart (mC (.int 2)))) (mLst (mCons (mC (.int 1)) (mCons (mC (.int 0)) mNil)))))
  (sSeq (mFor (mIL (mVar 8)) (tgN 9) m_law_b2)
  (sRet (mC (.bl true))))))))))))
def F_law : List E → List Cell → Option (E × List Cell) := fnM 1 10 m_law
theorem ok_law (T : Top K mg w) : FnOk P w K mg base CX0 8 T.d_law.f T.d_law.fd ["script"] (spM K T.κ F_law) := by
  have G__law_draw := ok__law_draw (P := P) (w := w) (base := base) T
  have G__law_drawn_sizes := ok__law_drawn_sizes (P := P) (w := w) (base := base) T
  have G__law_exact := ok__law_exact (P := P) (w := w) (base := base) T
  have G__law_mix := ok__law_mix (P := P) (w := w) (base := base) T
  have G__law_purse := ok__law_purse (P := P) (w := w) (base := base) T
  have G__law_table := ok__law_table (P := P) (w := w) (base := base) T
  refine fnM_ok T.d_law.F sc_law (fun cdv A outer s H Exc hr => ⟨_, (pss_cons (ps_set (i := 1) sc_law.nd rfl (Or.inl rfl) (pe_call G__law_purse (hr.mono (by decide)) (by rfl) T.d__law_purse.g T.d__law_purse.F.kp T.d__law_purse.b .nil pass0 (pa_cons (pv 0) (pa_cons pe_int pa_nil))))
  (pss_cons (ps_set (i := 2) sc_law.nd rfl (Or.inl rfl) (pe_op op_add pe_int (pe_call G__law_draw (hr.mono (by decide)) (by rfl) T.d__law_draw.g T.d__law_draw.F.kp T.d__law_draw.b .nil pass0 (pa_cons (pv 1) (pa_cons pe_int pa_nil)))))
  (pss_cons (ps_set (i := 3) sc_law.nd rfl (Or.inl rfl) (pe_lst pa_nil))
  (pss_cons (ps_for PassesOwn.never rfl (pi_range2 (by rfl) T.n_range (pa_cons pe_int (pa_cons (pv 2) pa_nil))) (pg_name (i := 4) sc_law.nd rfl (Or.inl rfl))
  (pss_one (ps_expr (pe_bm PySem.F.plainAttrs_list PySem.F.slot_list_append PySem.F.type_list_append mt_append (pv 3) (pa_cons (pe_call G__law_draw (hr.mono (by decide)) (by rfl) T.d__law_draw.g T.d__law_draw.F.kp T.d__law_draw.b .nil pass0 (pa_cons (pv 1) (pa_cons (pv 4) pa_nil))) pa_nil)))))
  (pss_cons (ps_set (i := 5) sc_law.nd rfl (Or.inl rfl) (pe_call G__law_drawn_sizes (hr.mono (by decide)) (by rfl) T.d__law_drawn_sizes.g T.d__law_drawn_sizes.F.kp T.d__law_drawn_sizes.b .nil pass0 (pa_cons (pv 1) (pa_cons (pv 2) pa_nil))))
  (pss_cons (ps_set (i := 6) sc_law.nd rfl (Or.inl rfl) (pe_op op_add pe_int (pe_call G__law_draw (hr.mono (by decide)) (by rfl) T.d__law_draw.g T.d__law_draw.F.kp T.d__law_draw.b .nil pass0 (pa_cons (pv 1) (pa_cons pe_int pa_nil)))))
  (pss_cons (ps_set (i := 7) sc_law.nd rfl (Or.inl rfl) (pe_call G__law_draw (hr.mono (by decide)) (by rfl) T.d__law_draw.g T.d__law_draw.F.kp T.d__law_draw.b .nil pass0 (pa_cons (pv 1) (pa_cons (pv 2) pa_nil))))
  (pss_cons (ps_set (i := 8) sc_law.nd rfl (Or.inl rfl) (pe_op op_cat (pe_slice sl_list (pe_call G__law_mix (hr.mono (by decide)) (by rfl) T.d__law_mix.g T.d__law_mix.F.kp T.d__law_mix.b .nil pass0 (pa_cons (pv 1) (pa_cons (pe_lst (pa_cons pe_int (pa_cons pe_int (pa_cons pe_int (pa_cons pe_int pa_nil))))) pa_nil))) po_none (po_some pe_int)) (pe_lst (pa_cons pe_int (pa_cons pe_int pa_nil)))))
  (pss_cons (ps_for PassesOwn.never rfl (pi_list (pv 8)) (pg_name (i := 9) sc_law.nd rfl (Or.inl rfl))
  (pss_one (ps_if (pt_not (pt_val (pe_call G__law_exact (hr.mono (by decide)) (by rfl) T.d__law_exact.g T.d__law_exact.F.kp T.d__law_exact.b .nil pass0 (pa_cons (pv 1) (pa_cons (pv 6) (pa_cons (pv 9) (pa_cons (pv 7) (pa_cons (pv 3) (pa_cons (pv 5) (pa_cons (pe_call G__law_table (hr.mono (by decide)) (by rfl) T.d__law_table.g T.d__law_table.F.kp T.d__law_table.b .nil pass0 (pa_cons (pv 9) (pa_cons (pv 7) (pa_cons (pv 5) pa_nil)))) pa_nil))))))))))
  (pss_one (ps_ret pe_bl))
  pss_nil)))
  (pss_one (ps_ret pe_bl))))))))))), ?_⟩)
  exact (ss_seq (ss_set (se_callM (sa_cons se_var (sa_cons se_int sa_nil))))
  (ss_seq (ss_set (se_op r2_add se_int (se_callM (sa_cons se_var (sa_cons se_int sa_nil)))))
  (ss_seq (ss_set (se_lstC sa_nil))
  (ss_seq (ss_for (si_range2 (sa_cons se_int (sa_cons se_var sa_nil))) sg_name
  (ss_drop (se_append se_var (sa_cons (se_callM (sa_cons se_var (sa_cons se_var sa_nil))) sa_nil))))
  (ss_seq (ss_pre (go_frz (i := 3)) (ss_set (se_callM (sa_cons se_var (sa_cons se_var sa_nil)))))
  (ss_seq (ss_set (se_op r2_add se_int (se_callM (sa_cons se_var (sa_cons se_int sa_nil)))))
  (ss_seq (ss_set (se_callM (sa_cons se_var (sa_cons se_var sa_nil))))
  (ss_seq (ss_set (se_op r2_cat (se_slL (se_callM (sa_cons se_var (sa_cons (se_lst (sa_cons se_int (sa_cons se_int (sa_cons se_int (sa_cons se_int sa_nil))))) sa_nil))) so_none (so_some se_int)) (se_lst (sa_cons se_int (sa_cons se_int sa_nil)))))
  (ss_seq (ss_for (si_list se_var) sg_name
  (ss_if (st_not (st_b (se_callM (sa_cons se_var (sa_cons se_var (sa_cons se_var (sa_cons se_var (sa_cons se_var (sa_cons se_var (sa_cons (se_call (sa_cons se_var (sa_cons se_var (sa_cons se_var sa_nil)))) sa_nil))))))))))
  (ss_ret se_bl)
  ss_next))
  (ss_ret se_bl))))))))))
end
end Fw
/-! rows of a box, in lexicographic order -/
namespace Mx
/-- 0, 1, .., s-1 -/
def rg (s : Int) : List Int := (List.range s.toNat).map fun (i : Nat) => (i : Int)
theorem mem_rg {s x : Int} : x ∈ rg s ↔ 0 ≤ x ∧ x < s := by
  simp only [rg, List.mem_map, List.mem_range]
  constructor
  · rintro ⟨i, h, rfl⟩; omega
  · intro h; exact ⟨x.toNat, by omega, by omega⟩
theorem rg_lt (s : Int) : (rg s).Pairwise (· < ·) := by
  rw [rg, List.pairwise_map]
  exact List.pairwise_lt_range.imp fun h => by omega
def rowsL : List Int → List (List Int)
  | [] => [[]]
  | s :: ss => (rg s).flatMap fun v => (rowsL ss).map (v :: ·)
def Fit : List Int → List Int → Prop
  | [], [] => True
  | r :: rs, s :: ss => 0 ≤ r ∧ r < s ∧ Fit rs ss
  | _, _ => False
theorem mem_rowsL : ∀ {ss r : List Int}, r ∈ rowsL ss ↔ Fit r ss
  | [], [] => by simp [rowsL, Fit]
  | [], _ :: _ => by simp [rowsL, Fit]
  | s :: ss, [] => by simp [rowsL, Fit]
  | s :: ss, v :: r => by
    simp only [rowsL, List.mem_flatMap, List.mem_map, Fit]
    constructor
    · rintro ⟨a, ha, b, hb, e⟩
      cases e
      have := mem_rg.mp ha
      exact ⟨this.1, this.2, mem_rowsL.mp hb⟩
    · rintro ⟨h1, h2, h3⟩
      exact ⟨v, mem_rg.mpr ⟨h1, h2⟩, r, mem_rowsL.mpr h3, rfl⟩
theorem Fit.length : ∀ {r ss : List Int}, Fit r ss → r.length = ss.length
  | [], [], _ => rfl
  | _ :: _, _ :: _, h => by rw [List.length_cons, List.length_cons, Fit.length h.2.2]
  | [], _ :: _, h => h.elim
  | _ :: _, [], h => h.elim
theorem rowsL_lt : ∀ ss : List Int, (rowsL ss).Pairwise (· < ·)
  | [] => by simp [rowsL]
  | s :: ss => by
    rw [rowsL, List.pairwise_flatMap]
    refine ⟨fun v _ => ?_, (rg_lt s).imp fun h x hx y hy => ?_⟩
    · rw [List.pairwise_map]
      exact (rowsL_lt ss).imp fun h => List.cons_lt_cons_iff.mpr (.inr ⟨rfl, h⟩)
    · rw [List.mem_map] at hx hy
      obtain ⟨a, _, rfl⟩ := hx
      obtain ⟨b, _, rfl⟩ := hy
      exact List.cons_lt_cons_iff.mpr (.inl h)
theorem rowsL_nodup (ss : List Int) : (rowsL ss).Nodup := (rowsL_lt ss).imp fun h e => by subst e; exact List.lt_irrefl _ h
theorem rowsL_le (ss : List Int) : (rowsL ss).Pairwise (· ≤ ·) := (rowsL_lt ss).imp fun h => List.le_of_lt h
def prod : List Int → Int
  | [] => 1
  | s :: ss => s * prod ss
theorem rowsL_len : ∀ {ss : List Int}, (∀ s ∈ ss, 0 ≤ s) → ((rowsL ss).length : Int) = prod ss
  | [], _ => by simp [rowsL, prod]
  | s :: ss, h => by
    have ih := rowsL_len (ss := ss) fun x hx => h x (List.mem_cons_of_mem _ hx)
    have h0 := h s (by simp)
    have key : ∀ l : List Int, ((l.flatMap fun v => (rowsL ss).map (v :: ·)).length : Int) = l.length * prod ss := by
      intro l
      induction l with
      | nil => simp
      | cons a l ihl =>
        rw [List.flatMap_cons, List.length_append, List.length_map, List.length_cons]
        rw [Int.natCast_add, ihl, ih, Int.natCast_add, Int.add_mul]
        simp
        omega
    rw [rowsL, key, prod]
    have : ((rg s).length : Int) = s := by rw [rg, List.length_map, List.length_range]; omega
    rw [this]
/-- as the program makes them: one size after the other -/
def rowStep (R : List (List Int)) (s : Int) : List (List Int) := R.flatMap fun r => (rg s).map fun v => r ++ [v]
theorem rowStep_fold : ∀ (ss : List Int) (R : List (List Int)), ss.foldl rowStep R = R.flatMap fun r => (rowsL ss).map (r ++ ·)
  | [], R => by simp [rowsL]
  | s :: ss, R => by
    rw [List.foldl_cons, rowStep_fold ss]
    unfold rowStep
    rw [List.flatMap_assoc]
    congr 1
    funext r
    rw [List.flatMap_map, rowsL, List.map_flatMap]
    congr 1
    funext v
    rw [List.map_map]
    congr 1
    funext t
    simp
theorem rowStep_rows (ss : List Int) : ss.foldl rowStep [[]] = rowsL ss := by
  rw [rowStep_fold]
  simp
/-- sorted: the rows themselves, whatever order they came in -/
theorem sort_rows {l : List (List Int)} {ss : List Int} (h : l.Perm (rowsL ss)) : l.mergeSort (fun a b => decide (a ≤ b)) = rowsL ss := by
  refine List.Perm.eq_of_pairwise (le := (· ≤ ·)) (fun a b _ _ h1 h2 => List.le_antisymm h1 h2) ?_ (rowsL_le ss) ((List.mergeSort_perm _ _).trans h)
  have := List.pairwise_mergeSort (le := fun (a b : List Int) => decide (a ≤ b)) (fun a b c h1 h2 => decide_eq_true (List.le_trans (of_decide_eq_true h1) (of_decide_eq_true h2)))
    (fun a b => by
      rw [Bool.or_eq_true]
      exact (List.le_total a b).imp (fun z => decide_eq_true z) fun z => decide_eq_true z) l
  exact this.imp fun h => of_decide_eq_true h
/-! bounds -/
theorem prod_pos : ∀ {ss : List Int}, (∀ s ∈ ss, 1 ≤ s) → 1 ≤ prod ss
  | [], _ => by simp [prod]
  | s :: ss, h => by
    have := prod_pos (ss := ss) fun x hx => h x (List.mem_cons_of_mem _ hx)
    have h0 := h s (by simp)
    rw [prod]
    exact Int.le_trans this (by
      have := Int.mul_le_mul_of_nonneg_right h0 (by omega : 0 ≤ prod ss)
      omega)
theorem prod_le : ∀ {ss : List Int} {B : Int}, 1 ≤ B → (∀ s ∈ ss, 0 ≤ s ∧ s ≤ B) → 0 ≤ prod ss ∧ prod ss ≤ B ^ ss.length
  | [], _, _, _ => by simp [prod]
  | s :: ss, B, hB, h => by
    have ih := prod_le (ss := ss) hB fun x hx => h x (List.mem_cons_of_mem _ hx)
    have h0 := h s (by simp)
    rw [prod, List.length_cons, Int.pow_succ]
    refine ⟨Int.mul_nonneg h0.1 ih.1, ?_⟩
    have a := Int.mul_le_mul_of_nonneg_right h0.2 ih.1
    have b := Int.mul_le_mul_of_nonneg_left ih.2 (by omega : 0 ≤ B)
    rw [Int.mul_comm (B ^ ss.length)]
    omega
theorem rowsL_small {ss : List Int} (h : ∀ s ∈ ss, 1 ≤ s ∧ s ≤ 4) (hl : ss.length ≤ 5) : (rowsL ss).length ≤ 1024 := by
  have a := rowsL_len fun s hs => by have := h s hs; omega
  have b := (prod_le (ss := ss) (B := 4) (by omega) fun s hs => by have := h s hs; omega).2
  have c : (4 : Int) ^ ss.length ≤ 4 ^ 5 := by
    have : ∀ k, k ≤ 5 → (4 : Int) ^ k ≤ 4 ^ 5 := by decide
    exact this _ hl
  have : (4 : Int) ^ 5 = 1024 := by decide
  omega
theorem rowsL_ne {ss : List Int} (h : ∀ s ∈ ss, 1 ≤ s) : rowsL ss ≠ [] := fun e => by
  have a := rowsL_len fun s hs => by have := h s hs; omega
  have b := prod_pos h
  rw [e] at a
  simp at a
  omega
theorem fit_zero : ∀ {ss : List Int}, (∀ s ∈ ss, 1 ≤ s) → Fit (ss.map fun _ => 0) ss
  | [], _ => trivial
  | s :: ss, h => ⟨Int.le_refl 0, by show (0 : Int) < s; have := h s (by simp); omega, fit_zero fun x hx => h x (List.mem_cons_of_mem _ hx)⟩
end Mx
/-! a row of some places and a row of the others, put together -/
namespace Mx
/-- found[hill] = value for hill, value in zip(..) -/
def put (f : List Int) (hs xs : List Int) : List Int := (hs.zip xs).foldl (fun f p => f.set p.1.toNat p.2) f
theorem put_nil {f xs : List Int} : put f [] xs = f := rfl
theorem put_cons {f hs xs : List Int} {h x : Int} : put f (h :: hs) (x :: xs) = put (f.set h.toNat x) hs xs := rfl
theorem put_len : ∀ {hs xs f : List Int}, (put f hs xs).length = f.length
  | [], _, _ => rfl
  | _ :: _, [], _ => rfl
  | h :: hs, x :: xs, f => by rw [put_cons, put_len, List.length_set]
/-- places: different, inside -/
structure Pl (n : Nat) (hs : List Int) : Prop where
  nd : hs.Nodup
  inn : ∀ h ∈ hs, 0 ≤ h ∧ h < n
theorem Pl.tail {n : Nat} {h : Int} {hs : List Int} (p : Pl n (h :: hs)) : Pl n hs := ⟨(List.nodup_cons.mp p.nd).2, fun x hx => p.inn x (List.mem_cons_of_mem _ hx)⟩
theorem Pl.fst {n : Nat} {h : Int} {hs : List Int} (p : Pl n (h :: hs)) : h ∉ hs ∧ 0 ≤ h ∧ h < n := ⟨(List.nodup_cons.mp p.nd).1, p.inn h (by simp)⟩
/-- elsewhere nothing changes -/
theorem put_other : ∀ {hs xs f : List Int} {k : Nat}, (∀ h ∈ hs, 0 ≤ h) → (k : Int) ∉ hs → (put f hs xs)[k]? = f[k]?
  | [], _, _, _, _, _ => rfl
  | _ :: _, [], _, _, _, _ => rfl
  | h :: hs, x :: xs, f, k, h0, hk => by
    rw [put_cons, put_other (fun y hy => h0 y (List.mem_cons_of_mem _ hy)) fun z => hk (List.mem_cons_of_mem _ z)]
    have := h0 h (by simp)
    have hne : ¬ h.toNat = k := fun e => hk (by rw [← e]; have : ((h.toNat : Nat) : Int) = h := by omega
                                                rw [this]; simp)
    rw [List.getElem?_set_ne hne]
/-- at its own places the row's values -/
theorem put_at : ∀ {hs xs f : List Int} {i : Nat} {h x : Int}, Pl f.length hs → hs[i]? = some h → xs[i]? = some x → (put f hs xs)[h.toNat]? = some x
  | [], _, _, i, _, _, _, e, _ => by simp at e
  | _ :: _, [], _, i, _, _, _, _, e => by simp at e
  | h0 :: hs, x0 :: xs, f, 0, h, x, p, e1, e2 => by
    simp at e1 e2
    subst e1; subst e2
    have q := p.fst
    rw [put_cons, put_other (fun y hy => (p.inn y (List.mem_cons_of_mem _ hy)).1) (by rw [show ((h0.toNat : Nat) : Int) = h0 by omega]; exact q.1), List.getElem?_set_self (by omega)]
  | h0 :: hs, x0 :: xs, f, i + 1, h, x, p, e1, e2 => by
    simp at e1 e2
    rw [put_cons]
    exact put_at (i := i) (by rw [List.length_set]; exact p.tail) e1 e2
theorem sum_set : ∀ {f : List Int} {k : Nat} {x y : Int}, f[k]? = some y → (f.set k x).sum = f.sum - y + x
  | [], _, _, _, e => by simp at e
  | a :: f, 0, x, y, e => by simp at e; subst e; simp; omega
  | a :: f, k + 1, x, y, e => by
    simp at e
    rw [List.set_cons_succ, List.sum_cons, List.sum_cons, sum_set e]
    omega
/-- put over noughts: the sum grows by the row's sum -/
theorem put_sum : ∀ {hs xs f : List Int}, Pl f.length hs → hs.length = xs.length → (∀ h ∈ hs, f[h.toNat]? = some 0) → (put f hs xs).sum = f.sum + xs.sum
  | [], [], f, _, _, _ => by simp [put]
  | [], _ :: _, f, _, l, _ => by simp at l
  | _ :: _, [], f, _, l, _ => by simp at l
  | h :: hs, x :: xs, f, p, l, z => by
    have q := p.fst
    have hz := z h (by simp)
    rw [put_cons, put_sum (by rw [List.length_set]; exact p.tail) (by simpa using l) fun y hy => ?_, sum_set hz, List.sum_cons]
    · omega
    · have hy0 := p.inn y (List.mem_cons_of_mem _ hy)
      have hne : ¬ h.toNat = y.toNat := fun e => q.1 (by have : h = y := by omega
                                                         rw [this]; exact hy)
      rw [List.getElem?_set_ne hne]
      exact z y (List.mem_cons_of_mem _ hy)
/-! the largest, all at least 0 -/
def mx (xs : List Int) : Int := xs.foldl max 0
theorem mx_spec (xs : List Int) : ∀ a : Int, (∀ x ∈ xs, x ≤ xs.foldl max a) ∧ a ≤ xs.foldl max a ∧ (xs.foldl max a = a ∨ xs.foldl max a ∈ xs) := by
  induction xs with
  | nil => intro a; simp
  | cons y ys ih =>
    intro a
    have := ih (max a y)
    rw [List.foldl_cons]
    refine ⟨fun x hx => ?_, by omega, ?_⟩
    · rcases List.mem_cons.mp hx with e | e
      · subst e; omega
      · exact this.1 x e
    · rcases this.2.2 with h | h
      · rcases Int.le_total a y with z | z
        · rw [h, Int.max_eq_right z]; exact .inr (by simp)
        · rw [h, Int.max_eq_left z]; exact .inl rfl
      · exact .inr (List.mem_cons_of_mem _ h)
theorem le_mx {xs : List Int} {x : Int} (h : x ∈ xs) : x ≤ mx xs := (mx_spec xs 0).1 x h
theorem mx_nn (xs : List Int) : 0 ≤ mx xs := (mx_spec xs 0).2.1
theorem mx_mem (xs : List Int) : mx xs = 0 ∨ mx xs ∈ xs := (mx_spec xs 0).2.2
theorem mx_eq {xs : List Int} {m : Int} (h0 : 0 ≤ m) (h1 : ∀ x ∈ xs, x ≤ m) (h2 : m = 0 ∨ m ∈ xs) : mx xs = m := by
  apply Int.le_antisymm
  · rcases mx_mem xs with h | h
    · omega
    · exact h1 _ h
  · rcases h2 with h | h
    · have := mx_nn xs; omega
    · exact le_mx h
/-! the whole row -/
def whole (n : Nat) (S r O t : List Int) : List Int := put (put (List.replicate n 0) S r) O t
/-- S and O share out 0, .., n-1 -/
structure Split (n : Nat) (S O : List Int) : Prop where
  s : Pl n S
  o : Pl n O
  dis : ∀ h ∈ S, h ∉ O
  all : ∀ k : Nat, k < n → (k : Int) ∈ S ∨ (k : Int) ∈ O
section
variable {n : Nat} {S O r t : List Int}
theorem whole_len : (whole n S r O t).length = n := by rw [whole, put_len, put_len, List.length_replicate]
theorem Split.pS (p : Split n S O) : Pl (List.replicate n (0 : Int)).length S := by rw [List.length_replicate]; exact p.s
theorem Split.pO (p : Split n S O) : Pl (put (List.replicate n 0) S r).length O := by rw [put_len, List.length_replicate]; exact p.o
theorem whole_s (p : Split n S O) {i : Nat} {h x : Int} (e1 : S[i]? = some h) (e2 : r[i]? = some x) : (whole n S r O t)[h.toNat]? = some x := by
  have hm : h ∈ S := List.mem_of_getElem? e1
  have h0 := p.s.inn h hm
  rw [whole, put_other (fun y hy => (p.o.inn y hy).1) (by rw [show ((h.toNat : Nat) : Int) = h by omega]; exact p.dis h hm)]
  exact put_at p.pS e1 e2
theorem whole_o (p : Split n S O) {i : Nat} {h x : Int} (e1 : O[i]? = some h) (e2 : t[i]? = some x) : (whole n S r O t)[h.toNat]? = some x := put_at p.pO e1 e2
theorem whole_sum (p : Split n S O) (l1 : S.length = r.length) (l2 : O.length = t.length) : (whole n S r O t).sum = r.sum + t.sum := by
  rw [whole, put_sum p.pO l2 fun h hh => ?_, put_sum p.pS l1 fun h hh => ?_]
  · have : (List.replicate n (0 : Int)).sum = 0 := by simp
    omega
  · have := p.s.inn h hh
    rw [List.getElem?_replicate, if_pos (by omega)]
  · have := p.o.inn h hh
    rw [put_other (fun y hy => (p.s.inn y hy).1) (by rw [show ((h.toNat : Nat) : Int) = h by omega]; exact fun z => p.dis h z hh), List.getElem?_replicate, if_pos (by omega)]
theorem whole_mem (p : Split n S O) (l1 : S.length = r.length) (l2 : O.length = t.length) {x : Int} : x ∈ whole n S r O t ↔ x ∈ r ∨ x ∈ t := by
  constructor
  · intro h
    obtain ⟨k, hk⟩ := List.mem_iff_getElem?.mp h
    have hl : k < n := by have := (List.getElem?_eq_some_iff.mp hk).1; rwa [whole_len] at this
    rcases p.all k hl with z | z
    · obtain ⟨i, hi⟩ := List.mem_iff_getElem?.mp z
      have hi' : i < r.length := by rw [← l1]; exact (List.getElem?_eq_some_iff.mp hi).1
      have e2 : r[i]? = some r[i] := List.getElem?_eq_getElem hi'
      have := whole_s (O := O) (t := t) p hi e2
      rw [Int.toNat_natCast, hk] at this
      cases this
      exact .inl (List.getElem_mem hi')
    · obtain ⟨i, hi⟩ := List.mem_iff_getElem?.mp z
      have hi' : i < t.length := by rw [← l2]; exact (List.getElem?_eq_some_iff.mp hi).1
      have e2 : t[i]? = some t[i] := List.getElem?_eq_getElem hi'
      have := whole_o (r := r) p hi e2
      rw [Int.toNat_natCast, hk] at this
      cases this
      exact .inr (List.getElem_mem hi')
  · rintro (h | h)
    · obtain ⟨i, hi⟩ := List.mem_iff_getElem?.mp h
      have hi' : i < S.length := by rw [l1]; exact (List.getElem?_eq_some_iff.mp hi).1
      exact List.mem_of_getElem? (whole_s (O := O) (t := t) p (List.getElem?_eq_getElem hi') hi)
    · obtain ⟨i, hi⟩ := List.mem_iff_getElem?.mp h
      have hi' : i < O.length := by rw [l2]; exact (List.getElem?_eq_some_iff.mp hi).1
      exact List.mem_of_getElem? (whole_o (r := r) p (List.getElem?_eq_getElem hi') hi)
theorem whole_mx (p : Split n S O) (l1 : S.length = r.length) (l2 : O.length = t.length) : mx (whole n S r O t) = max (mx r) (mx t) := by
  refine mx_eq (by have := mx_nn r; omega) (fun x hx => ?_) ?_
  · rcases (whole_mem p l1 l2).mp hx with h | h
    · have := le_mx h; omega
    · have := le_mx h; omega
  · rcases Int.le_total (mx r) (mx t) with z | z
    · rw [Int.max_eq_right z]
      exact (mx_mem t).imp id fun h => (whole_mem p l1 l2).mpr (.inr h)
    · rw [Int.max_eq_left z]
      exact (mx_mem r).imp id fun h => (whole_mem p l1 l2).mpr (.inl h)
theorem whole_inj (p : Split n S O) {r' : List Int} (l1 : S.length = r.length) (l2 : S.length = r'.length) (e : whole n S r O t = whole n S r' O t) : r = r' := by
  apply List.ext_getElem?
  intro i
  by_cases hi : i < S.length
  · have e1 : S[i]? = some S[i] := List.getElem?_eq_getElem hi
    have a := whole_s (O := O) (t := t) p e1 (List.getElem?_eq_getElem (l1 ▸ hi : i < r.length))
    have b := whole_s (O := O) (t := t) p e1 (List.getElem?_eq_getElem (l2 ▸ hi : i < r'.length))
    rw [e, b] at a
    rw [List.getElem?_eq_getElem (l1 ▸ hi : i < r.length), List.getElem?_eq_getElem (l2 ▸ hi : i < r'.length)]
    exact a.symm
  · rw [List.getElem?_eq_none (by omega), List.getElem?_eq_none (by omega)]
end
theorem fit_get : ∀ {r ss : List Int} {i : Nat} {x s : Int}, Fit r ss → r[i]? = some x → ss[i]? = some s → 0 ≤ x ∧ x < s
  | [], _, _, _, _, _, e, _ => by simp at e
  | _ :: _, [], _, _, _, h, _, _ => h.elim
  | r :: rs, s0 :: ss, 0, x, s, h, e1, e2 => by
    simp at e1 e2; subst e1; subst e2; exact ⟨h.1, h.2.1⟩
  | r :: rs, s0 :: ss, i + 1, x, s, h, e1, e2 => by
    simp at e1 e2
    exact fit_get h.2.2 e1 e2
theorem fit_of : ∀ {r ss : List Int}, r.length = ss.length → (∀ (i : Nat) x s, r[i]? = some x → ss[i]? = some s → 0 ≤ x ∧ x < s) → Fit r ss
  | [], [], _, _ => trivial
  | [], _ :: _, l, _ => by simp at l
  | _ :: _, [], l, _ => by simp at l
  | r :: rs, s :: ss, l, h => by
    have := h 0 r s rfl rfl
    exact ⟨this.1, this.2, fit_of (by simpa using l) fun i x s e1 e2 => h (i + 1) x s (by simpa using e1) (by simpa using e2)⟩
/-- the whole row fits the whole box -/
theorem whole_fit {n : Nat} {S O r t sizes own rest : List Int} (p : Split n S O) (hn : sizes.length = n) (hS : ∀ (i : Nat) h, S[i]? = some h → own[i]? = sizes[h.toNat]?) (hO : ∀ (i : Nat) h, O[i]? = some h → rest[i]? = sizes[h.toNat]?)
    (l1 : own.length = S.length) (l2 : rest.length = O.length) (f1 : Fit r own) (f2 : Fit t rest) : Fit (whole n S r O t) sizes := by
  refine fit_of (by rw [whole_len, hn]) fun k x s e1 e2 => ?_
  have hl : k < n := by have := (List.getElem?_eq_some_iff.mp e1).1; rwa [whole_len] at this
  rcases p.all k hl with z | z
  · obtain ⟨i, hi⟩ := List.mem_iff_getElem?.mp z
    have hi' : i < r.length := by rw [f1.length, l1]; exact (List.getElem?_eq_some_iff.mp hi).1
    have a := whole_s (O := O) (t := t) p hi (List.getElem?_eq_getElem hi')
    rw [Int.toNat_natCast, e1] at a
    cases a
    have b := hS i _ hi
    rw [Int.toNat_natCast, e2] at b
    exact fit_get f1 (List.getElem?_eq_getElem hi') b
  · obtain ⟨i, hi⟩ := List.mem_iff_getElem?.mp z
    have hi' : i < t.length := by rw [f2.length, l2]; exact (List.getElem?_eq_some_iff.mp hi).1
    have a := whole_o (r := r) p hi (List.getElem?_eq_getElem hi')
    rw [Int.toNat_natCast, e1] at a
    cases a
    have b := hO i _ hi
    rw [Int.toNat_natCast, e2] at b
    exact fit_get f2 (List.getElem?_eq_getElem hi') b
end Mx
/-! the key of a row, and how many keys there are -/
namespace Mx
inductive Z where
  | i (n : Int) | t (ns : List Int)
deriving DecidableEq
abbrev Ky := Z
/-- row[side.index(hill)] if hill in side else 0 -/
def atS (S r : List Int) (hill : Int) : Int := match S.findIdx? (fun z => z == hill) with
  | some i => r.getD i 0
  | none => 0
def ky (kind hill : Int) (S r : List Int) : Ky :=
  if kind = 0 then .t r else if kind = 1 then .i 0 else if kind = 2 then .i r.sum else if kind = 3 then .i (mx r) else if kind = 4 then .i (r.sum % 2) else .i (atS S r hill)
def fml (kind hill : Int) (S sizes own : List Int) : Int :=
  if kind = 0 then prod own else if kind = 1 then 1 else if kind = 2 then 1 + (own.map (· - 1)).sum else if kind = 3 then mx own else if kind = 4 then (if 1 < mx own then 2 else 1) else if S.contains hill = true then sizes.getD hill.toNat 0 else 1
theorem atS_in {S r : List Int} {hill x : Int} {i : Nat} (nd : S.Nodup) (e1 : S[i]? = some hill) (e2 : r[i]? = some x) : atS S r hill = x := by
  have : S.findIdx? (fun z => z == hill) = some i := by
    rw [List.findIdx?_eq_some_iff_getElem]
    obtain ⟨hl, he⟩ := List.getElem?_eq_some_iff.mp e1
    refine ⟨hl, by rw [he]; simp, fun j hj => ?_⟩
    simp only [beq_iff_eq]
    intro hc
    have hj' : j < S.length := by omega
    have := (List.getElem_inj (h₀ := hj') (h₁ := hl) nd).mp (hc.trans he.symm)
    omega
  rw [atS, this]
  simp [e2]
theorem atS_out {S r : List Int} {hill : Int} (h : hill ∉ S) : atS S r hill = 0 := by
  have : S.findIdx? (fun z => z == hill) = none := by
    rw [List.findIdx?_eq_none_iff]
    intro x hx
    simp only [beq_eq_false_iff_ne]
    exact fun e => h (e ▸ hx)
  rw [atS, this]
theorem rg_get {n k : Nat} (h : k < n) : (rg (n : Int))[k]? = some (k : Int) := by
  rw [rg, List.getElem?_map, List.getElem?_range (by omega)]; rfl
theorem rg_nodup (s : Int) : (rg s).Nodup := (rg_lt s).imp fun h e => by omega
theorem atS_all {n : Nat} {w : List Int} {hill x : Int} (h0 : 0 ≤ hill) (hn : hill < n) (e : w[hill.toNat]? = some x) : atS (rg (n : Int)) w hill = x := by
  refine atS_in (i := hill.toNat) (rg_nodup _) ?_ e
  rw [rg_get (by omega)]
  congr 1
  omega
/-- equal columns: equal keys -/
structure Box (n : Nat) (S O sizes own rest : List Int) : Prop where
  sp : Split n S O
  hn : sizes.length = n
  hS : ∀ (i : Nat) h, S[i]? = some h → own[i]? = sizes[h.toNat]?
  hO : ∀ (i : Nat) h, O[i]? = some h → rest[i]? = sizes[h.toNat]?
  l1 : own.length = S.length
  l2 : rest.length = O.length
  pos : ∀ s ∈ sizes, 1 ≤ s
theorem mem_of_places {n : Nat} {S own sizes : List Int} (hn : sizes.length = n) (p : Pl n S) (hS : ∀ (i : Nat) h, S[i]? = some h → own[i]? = sizes[h.toNat]?) (l1 : own.length = S.length) {s : Int} (h : s ∈ own) : s ∈ sizes := by
  obtain ⟨i, hi⟩ := List.mem_iff_getElem?.mp h
  have hl : i < S.length := by rw [← l1]; exact (List.getElem?_eq_some_iff.mp hi).1
  have := hS i _ (List.getElem?_eq_getElem hl)
  rw [hi] at this
  exact List.mem_of_getElem? this.symm
theorem Box.own_pos {n : Nat} {S O sizes own rest : List Int} (b : Box n S O sizes own rest) : ∀ s ∈ own, 1 ≤ s := fun s h => b.pos s (mem_of_places b.hn b.sp.s b.hS b.l1 h)
theorem Box.rest_pos {n : Nat} {S O sizes own rest : List Int} (b : Box n S O sizes own rest) : ∀ s ∈ rest, 1 ≤ s := fun s h => b.pos s (mem_of_places b.hn b.sp.o b.hO b.l2 h)
theorem fit_nn : ∀ {r ss : List Int}, Fit r ss → ∀ x ∈ r, 0 ≤ x
  | [], _, _, _, h => by cases h
  | r :: rs, [], f, _, _ => f.elim
  | r :: rs, s :: ss, f, x, h => by
    rcases List.mem_cons.mp h with e | e
    · subst e; exact f.1
    · exact fit_nn f.2.2 x e
theorem sum_zero (ss : List Int) : (ss.map fun _ => (0 : Int)).sum = 0 := by
  induction ss with
  | nil => rfl
  | cons s ss ih => rw [List.map_cons, List.sum_cons, ih]; rfl
theorem mx_zero (ss : List Int) : mx (ss.map fun _ => (0 : Int)) = 0 := mx_eq (Int.le_refl 0) (fun x h => by
  rw [List.mem_map] at h
  obtain ⟨_, _, e⟩ := h
  omega) (.inl rfl)
theorem key_col {n : Nat} {S O sizes own rest r r' : List Int} {kind hill : Int} (b : Box n S O sizes own rest) (h0 : 0 ≤ hill) (hn : hill < n) (f : Fit r own) (f' : Fit r' own) :
    (∀ t ∈ rowsL rest, ky kind hill (rg (n : Int)) (whole n S r O t) = ky kind hill (rg (n : Int)) (whole n S r' O t)) ↔ ky kind hill S r = ky kind hill S r' := by
  have l1 : S.length = r.length := by rw [f.length, b.l1]
  have l1' : S.length = r'.length := by rw [f'.length, b.l1]
  have z0 : (rest.map fun _ => (0 : Int)) ∈ rowsL rest := mem_rowsL.mpr (fit_zero b.rest_pos)
  have lz : O.length = (rest.map fun _ => (0 : Int)).length := by rw [List.length_map, b.l2]
  have lt : ∀ t ∈ rowsL rest, O.length = t.length := fun t ht => by rw [(mem_rowsL.mp ht).length, b.l2]
  by_cases k0 : kind = 0
  · subst k0
    simp only [ky, if_true]
    refine ⟨fun h => ?_, fun h t ht => by cases h; rfl⟩
    have := h _ z0
    injection this with this
    rw [whole_inj b.sp l1 l1' this]
  by_cases k1 : kind = 1
  · subst k1; simp [ky]
  by_cases k2 : kind = 2
  · subst k2
    simp only [ky, k0, k1, if_true, if_false]
    refine ⟨fun h => ?_, fun h t ht => ?_⟩
    · have := h _ z0
      injection this with this
      rw [whole_sum b.sp l1 lz, whole_sum b.sp l1' lz] at this
      congr 1
      omega
    · injection h with h
      rw [whole_sum b.sp l1 (lt t ht), whole_sum b.sp l1' (lt t ht), h]
  by_cases k3 : kind = 3
  · subst k3
    simp only [ky, k0, k1, k2, if_true, if_false]
    refine ⟨fun h => ?_, fun h t ht => ?_⟩
    · have := h _ z0
      injection this with this
      rw [whole_mx b.sp l1 lz, whole_mx b.sp l1' lz, mx_zero] at this
      have a := mx_nn r
      have c := mx_nn r'
      congr 1
      omega
    · injection h with h
      rw [whole_mx b.sp l1 (lt t ht), whole_mx b.sp l1' (lt t ht), h]
  by_cases k4 : kind = 4
  · subst k4
    simp only [ky, k0, k1, k2, k3, if_true, if_false]
    refine ⟨fun h => ?_, fun h t ht => ?_⟩
    · have := h _ z0
      injection this with this
      rw [whole_sum b.sp l1 lz, whole_sum b.sp l1' lz, sum_zero] at this
      congr 1
      omega
    · injection h with h
      rw [whole_sum b.sp l1 (lt t ht), whole_sum b.sp l1' (lt t ht)]
      congr 1
      omega
  simp only [ky, k0, k1, k2, k3, k4, if_false]
  have hk : ((hill.toNat : Nat) : Int) = hill := by omega
  rcases b.sp.all hill.toNat (by omega) with z | z
  · rw [hk] at z
    obtain ⟨i, hi⟩ := List.mem_iff_getElem?.mp z
    have il : i < S.length := (List.getElem?_eq_some_iff.mp hi).1
    have e1 : r[i]? = some r[i] := List.getElem?_eq_getElem (by omega)
    have e2 : r'[i]? = some r'[i] := List.getElem?_eq_getElem (by omega)
    rw [atS_in b.sp.s.nd hi e1, atS_in b.sp.s.nd hi e2]
    refine ⟨fun h => ?_, fun h t ht => ?_⟩
    · have := h _ z0
      rwa [atS_all h0 hn (whole_s b.sp hi e1), atS_all h0 hn (whole_s b.sp hi e2)] at this
    · rw [atS_all h0 hn (whole_s b.sp hi e1), atS_all h0 hn (whole_s b.sp hi e2)]; exact h
  · rw [hk] at z
    obtain ⟨i, hi⟩ := List.mem_iff_getElem?.mp z
    have ns : hill ∉ S := fun q => b.sp.dis _ q z
    rw [atS_out ns, atS_out ns]
    refine ⟨fun _ => rfl, fun _ t ht => ?_⟩
    have il : i < O.length := (List.getElem?_eq_some_iff.mp hi).1
    have il : i < t.length := by rw [← lt t ht]; exact il
    have e1 : t[i]? = some t[i] := List.getElem?_eq_getElem il
    rw [atS_all h0 hn (whole_o b.sp hi e1), atS_all h0 hn (whole_o b.sp hi e1)]
/-! how many -/
theorem count_int {L : List Ky} {N : Int} (nd : L.Nodup) (hN : 0 ≤ N) (h : ∀ k : Ky, k ∈ L ↔ ∃ x : Int, k = .i x ∧ 0 ≤ x ∧ x < N) : (L.length : Int) = N := by
  have p : L.Perm ((rg N).map Z.i) := by
    rw [List.perm_ext_iff_of_nodup nd ?_]
    · intro k
      rw [h k, List.mem_map]
      constructor
      · rintro ⟨x, rfl, h1⟩; exact ⟨x, mem_rg.mpr h1, rfl⟩
      · rintro ⟨x, h1, rfl⟩; exact ⟨x, rfl, mem_rg.mp h1⟩
    · unfold List.Nodup
      rw [List.pairwise_map]
      exact (rg_nodup N).imp fun h e => h (by injection e)
  rw [p.length_eq, List.length_map, rg, List.length_map, List.length_range]
  omega
theorem sum_range : ∀ {own : List Int}, (∀ s ∈ own, 1 ≤ s) → (∀ r, Fit r own → 0 ≤ r.sum ∧ r.sum ≤ (own.map (· - 1)).sum) ∧ 0 ≤ (own.map (· - 1)).sum ∧ ∀ T : Int, 0 ≤ T → T ≤ (own.map (· - 1)).sum → ∃ r, Fit r own ∧ r.sum = T
  | [], _ => ⟨fun r f => by
      cases r with
      | nil => simp
      | cons => exact f.elim, by simp, fun T h1 h2 => ⟨[], trivial, by simp at h2 ⊢; omega⟩⟩
  | s :: ss, h => by
    obtain ⟨i1, i2, i3⟩ := sum_range (own := ss) fun x hx => h x (List.mem_cons_of_mem _ hx)
    have hs := h s (by simp)
    rw [List.map_cons, List.sum_cons]
    refine ⟨fun r f => ?_, by omega, fun T h1 h2 => ?_⟩
    · cases r with
      | nil => exact f.elim
      | cons x xs =>
        have := i1 xs f.2.2
        have a := f.1
        have b := f.2.1
        rw [List.sum_cons]
        omega
    · by_cases c : T ≤ s - 1
      · obtain ⟨r, f, e⟩ := i3 0 (by omega) i2
        exact ⟨T :: r, ⟨h1, by omega, f⟩, by rw [List.sum_cons, e]; omega⟩
      · obtain ⟨r, f, e⟩ := i3 (T - (s - 1)) (by omega) (by omega)
        exact ⟨(s - 1) :: r, ⟨by omega, by omega, f⟩, by rw [List.sum_cons, e]; omega⟩
theorem fit_map : ∀ {own : List Int} {g : Int → Int}, (∀ s ∈ own, 0 ≤ g s ∧ g s < s) → Fit (own.map g) own
  | [], _, _ => trivial
  | s :: ss, g, h => ⟨(h s (by simp)).1, (h s (by simp)).2, fit_map fun x hx => h x (List.mem_cons_of_mem _ hx)⟩
theorem fit_lt_mx : ∀ {r own : List Int}, Fit r own → ∀ x ∈ r, x < mx own := fun {r own} f x hx => by
  obtain ⟨i, hi⟩ := List.mem_iff_getElem?.mp hx
  have hl : i < own.length := by rw [← f.length]; exact (List.getElem?_eq_some_iff.mp hi).1
  have := (fit_get f hi (List.getElem?_eq_getElem hl)).2
  have := le_mx (List.getElem_mem hl)
  omega
theorem sum1_pos {own : List Int} (h : ∀ s ∈ own, 1 ≤ s) : 1 < mx own ↔ 1 ≤ (own.map (· - 1)).sum := by
  induction own with
  | nil => simp [mx]
  | cons s ss ih =>
    have ih := ih fun x hx => h x (List.mem_cons_of_mem _ hx)
    have hs := h s (by simp)
    have nn := (sum_range (own := ss) fun x hx => h x (List.mem_cons_of_mem _ hx)).2.1
    have e : mx (s :: ss) = max s (mx ss) := mx_eq (by omega) (fun x hx => by
      rcases List.mem_cons.mp hx with e | e
      · omega
      · have := le_mx e; omega) (by
        rcases Int.le_total s (mx ss) with z | z
        · rw [Int.max_eq_right z]
          exact (mx_mem ss).imp id fun q => List.mem_cons_of_mem _ q
        · rw [Int.max_eq_left z]; exact .inr (by simp))
    rw [List.map_cons, List.sum_cons, e]
    omega
theorem key_count {n : Nat} {S O sizes own rest : List Int} {kind hill : Int} {L : List Ky} (b : Box n S O sizes own rest) (ne : S ≠ []) (h0 : 0 ≤ hill) (hn : hill < n) (nd : L.Nodup)
    (hL : ∀ k, k ∈ L ↔ ∃ r, Fit r own ∧ ky kind hill S r = k) : (L.length : Int) = fml kind hill S sizes own := by
  have op := b.own_pos
  have z0 := fit_zero op
  by_cases k0 : kind = 0
  · subst k0
    simp only [ky, fml, if_true] at hL ⊢
    rw [← rowsL_len fun s hs => by have := op s hs; omega]
    have p : L.Perm ((rowsL own).map Z.t) := by
      rw [List.perm_ext_iff_of_nodup nd ?_]
      · intro k
        rw [hL k, List.mem_map]
        constructor
        · rintro ⟨r, f, rfl⟩; exact ⟨r, mem_rowsL.mpr f, rfl⟩
        · rintro ⟨r, h1, rfl⟩; exact ⟨r, mem_rowsL.mp h1, rfl⟩
      · unfold List.Nodup
        rw [List.pairwise_map]
        exact (rowsL_nodup own).imp fun h e => h (by injection e)
    rw [p.length_eq, List.length_map]
  by_cases k1 : kind = 1
  · subst k1
    simp only [ky, fml, k0, if_true, if_false] at hL ⊢
    refine count_int nd (by omega) fun k => ?_
    rw [hL k]
    constructor
    · rintro ⟨r, f, rfl⟩; exact ⟨0, rfl, by omega, by omega⟩
    · rintro ⟨x, rfl, h1, h2⟩; exact ⟨_, z0, by congr 1; omega⟩
  by_cases k2 : kind = 2
  · subst k2
    simp only [ky, fml, k0, k1, if_true, if_false] at hL ⊢
    obtain ⟨i1, i2, i3⟩ := sum_range op
    refine count_int nd (by omega) fun k => ?_
    rw [hL k]
    constructor
    · rintro ⟨r, f, rfl⟩
      have := i1 r f
      exact ⟨_, rfl, this.1, by omega⟩
    · rintro ⟨x, rfl, h1, h2⟩
      obtain ⟨r, f, e⟩ := i3 x h1 (by omega)
      exact ⟨r, f, by rw [e]⟩
  have own_ne : own ≠ [] := fun e => ne (List.length_eq_zero_iff.mp (by rw [← b.l1, e]; rfl))
  have mpos : 1 ≤ mx own := by
    cases own with
    | nil => exact absurd rfl own_ne
    | cons s ss =>
      have := op s (by simp)
      have := le_mx (xs := s :: ss) (x := s) (by simp)
      omega
  by_cases k3 : kind = 3
  · subst k3
    simp only [ky, fml, k0, k1, k2, if_true, if_false] at hL ⊢
    refine count_int nd (by omega) fun k => ?_
    rw [hL k]
    constructor
    · rintro ⟨r, f, rfl⟩
      refine ⟨_, rfl, mx_nn r, ?_⟩
      rcases mx_mem r with h | h
      · omega
      · exact fit_lt_mx f _ h
    · rintro ⟨x, rfl, h1, h2⟩
      refine ⟨own.map fun s => min x (s - 1), fit_map fun s hs => ?_, ?_⟩
      · have := op s hs; omega
      · congr 1
        refine mx_eq h1 (fun y hy => ?_) (.inr ?_)
        · rw [List.mem_map] at hy
          obtain ⟨s, _, e⟩ := hy
          omega
        · rw [List.mem_map]
          refine ⟨mx own, ?_, by omega⟩
          rcases mx_mem own with q | q
          · omega
          · exact q
  by_cases k4 : kind = 4
  · subst k4
    simp only [ky, fml, k0, k1, k2, k3, if_true, if_false] at hL ⊢
    obtain ⟨i1, i2, i3⟩ := sum_range op
    refine count_int nd (by split <;> omega) fun k => ?_
    rw [hL k]
    constructor
    · rintro ⟨r, f, rfl⟩
      have := i1 r f
      refine ⟨_, rfl, by omega, ?_⟩
      split
      · omega
      · rename_i hc
        rw [sum1_pos op] at hc
        omega
    · rintro ⟨x, rfl, h1, h2⟩
      have : x ≤ (own.map (· - 1)).sum := by
        split at h2
        · rename_i hc
          rw [sum1_pos op] at hc
          omega
        · omega
      obtain ⟨r, f, e⟩ := i3 x h1 this
      refine ⟨r, f, ?_⟩
      rw [e]
      congr 1
      split at h2 <;> omega
  simp only [ky, fml, k0, k1, k2, k3, k4, if_false] at hL ⊢
  by_cases z : hill ∈ S
  · rw [if_pos (by simpa using z)]
    obtain ⟨i, hi⟩ := List.mem_iff_getElem?.mp z
    have il : i < own.length := by rw [b.l1]; exact (List.getElem?_eq_some_iff.mp hi).1
    have e1 : own[i]? = some own[i] := List.getElem?_eq_getElem il
    have e2 := b.hS i hill hi
    rw [e1] at e2
    have e3 : sizes.getD hill.toNat 0 = own[i] := by simp [← e2]
    rw [e3]
    have hp := op _ (List.getElem_mem il)
    refine count_int nd (by omega) fun k => ?_
    rw [hL k]
    constructor
    · rintro ⟨r, f, rfl⟩
      have hr : r[i]? = some (r[i]'(by rw [f.length]; exact il)) := List.getElem?_eq_getElem _
      have := fit_get f hr e1
      exact ⟨_, rfl, by rw [atS_in b.sp.s.nd hi hr]; exact this.1, by rw [atS_in b.sp.s.nd hi hr]; exact this.2⟩
    · rintro ⟨x, rfl, h1, h2⟩
      refine ⟨(own.map fun _ => (0 : Int)).set i x, ?_, ?_⟩
      · refine fit_of (by simp) fun j y s ey es => ?_
        rw [List.getElem?_set] at ey
        split at ey
        · rename_i hj
          subst hj
          rw [if_pos (by simpa using il)] at ey
          cases ey
          rw [e1] at es
          cases es
          exact ⟨h1, h2⟩
        · rw [List.getElem?_map] at ey
          rw [es] at ey
          cases ey
          have := op s (List.mem_of_getElem? es)
          show (0 : Int) ≤ 0 ∧ (0 : Int) < s
          omega
      · rw [atS_in (x := x) b.sp.s.nd hi (by rw [List.getElem?_set_self (by simpa using il)])]
  · rw [if_neg (by simpa using z)]
    refine count_int nd (by omega) fun k => ?_
    rw [hL k]
    constructor
    · rintro ⟨r, f, rfl⟩; exact ⟨0, by rw [atS_out z], by omega, by omega⟩
    · rintro ⟨x, rfl, h1, h2⟩; exact ⟨_, z0, by rw [atS_out z]; congr 1; omega⟩
end Mx
/-! rows grouped by their columns -/
namespace Mx
section
variable {α γ : Type} [DecidableEq γ]
def gstep (col : α → γ) (st : List (List α) × List γ) (r : α) : List (List α) × List γ := match st.2.findIdx? (fun z => decide (z = col r)) with
  | some i => (st.1.modify i (· ++ [r]), st.2)
  | none => (st.1 ++ [[r]], st.2 ++ [col r])
structure GInv (col : α → γ) (st : List (List α) × List γ) (done : List α) : Prop where
  len : st.1.length = st.2.length
  nd : st.2.Nodup
  grp : ∀ (i : Nat) (g : List α) (c : γ), st.1[i]? = some g → st.2[i]? = some c → g ≠ [] ∧ ∀ r ∈ g, col r = c
  perm : st.1.flatten.Perm done
theorem flatten_modify : ∀ (gs : List (List α)) (i : Nat) (r : α), i < gs.length → (gs.modify i (· ++ [r])).flatten.Perm (gs.flatten ++ [r])
  | [], i, r, h => by simp at h
  | g :: gs, 0, r, h => by
    rw [List.modify_zero_cons, List.flatten_cons, List.flatten_cons, List.append_assoc, List.append_assoc]
    exact List.Perm.append_left g List.perm_append_comm
  | g :: gs, i + 1, r, h => by
    rw [List.modify_succ_cons, List.flatten_cons, List.flatten_cons, List.append_assoc]
    exact List.Perm.append_left g (flatten_modify gs i r (by simpa using h))
theorem GInv.step {col : α → γ} {st : List (List α) × List γ} {done : List α} (v : GInv col st done) (r : α) : GInv col (gstep col st r) (done ++ [r]) := by
  unfold gstep
  split
  · rename_i i hi
    rw [List.findIdx?_eq_some_iff_getElem] at hi
    obtain ⟨hl, he, _⟩ := hi
    have he := of_decide_eq_true he
    refine ⟨by rw [List.length_modify]; exact v.len, v.nd, fun j g c hg hc => ?_, ?_⟩
    · rw [List.getElem?_modify] at hg
      by_cases e : i = j
      · subst e
        have h0 : st.1[i]? = some (st.1[i]'(by rw [v.len]; exact hl)) := List.getElem?_eq_getElem _
        rw [h0] at hg
        simp at hg
        subst hg
        obtain ⟨a, b⟩ := v.grp i _ c h0 hc
        have hcc : st.2[i] = c := by rw [List.getElem?_eq_getElem hl] at hc; exact Option.some.inj hc
        refine ⟨by simp, fun q hq => ?_⟩
        rcases List.mem_append.mp hq with z | z
        · exact b q z
        · rw [List.mem_singleton] at z; subst z; rw [← he]; exact hcc
      · simp only [if_neg e] at hg
        simp at hg
        exact v.grp j g c hg hc
    · refine (flatten_modify _ _ _ (by rw [v.len]; exact hl)).trans ?_
      exact List.Perm.append_right _ v.perm
  · rename_i hi
    rw [List.findIdx?_eq_none_iff] at hi
    refine ⟨by simp [v.len], ?_, fun j g c hg hc => ?_, ?_⟩
    · rw [List.nodup_append]
      refine ⟨v.nd, by simp, fun a ha b hb e => ?_⟩
      rw [List.mem_singleton] at hb
      have := hi a ha
      simp at this
      exact this (e.trans hb)
    · by_cases hj : j < st.1.length
      · rw [List.getElem?_append_left hj] at hg
        rw [List.getElem?_append_left (by rw [← v.len]; exact hj)] at hc
        exact v.grp j g c hg hc
      · have hlt := (List.getElem?_eq_some_iff.mp hg).1
        rw [List.length_append] at hlt
        have e : j = st.1.length := by simp at hlt; omega
        subst e
        rw [List.getElem?_append_right (Nat.le_refl _), Nat.sub_self] at hg
        rw [v.len, List.getElem?_append_right (Nat.le_refl _), Nat.sub_self] at hc
        simp at hg hc
        subst hg; subst hc
        exact ⟨by simp, fun q hq => by rw [List.mem_singleton] at hq; rw [hq]⟩
    · rw [List.flatten_append]
      simpa using List.Perm.append_right [r] v.perm
theorem GInv.fold {col : α → γ} : ∀ (rs : List α) (st : List (List α) × List γ) (done : List α), GInv col st done → GInv col (rs.foldl (gstep col) st) (done ++ rs)
  | [], st, done, v => by rw [List.append_nil]; exact v
  | r :: rs, st, done, v => by
    have := GInv.fold rs _ _ (v.step r)
    rwa [List.append_assoc] at this
theorem ginv_all (col : α → γ) (rs : List α) : GInv col (rs.foldl (gstep col) ([], [])) rs := by
  have := GInv.fold (col := col) rs ([], []) [] ⟨rfl, .nil, fun i g c h => by simp at h, by simp⟩
  simpa using this
end
/-- a row's column -/
def colK (n : Nat) (kind hill : Int) (S O rest r : List Int) : List Ky := (rowsL rest).map fun t => ky kind hill (rg (n : Int)) (whole n S r O t)
def groups (n : Nat) (kind hill : Int) (S O own rest : List Int) : List (List (List Int)) := ((rowsL own).foldl (gstep (colK n kind hill S O rest)) ([], [])).1
theorem colK_iff {n : Nat} {S O sizes own rest r r' : List Int} {kind hill : Int} (b : Box n S O sizes own rest) (h0 : 0 ≤ hill) (hn : hill < n) (f : Fit r own) (f' : Fit r' own) :
    colK n kind hill S O rest r = colK n kind hill S O rest r' ↔ ky kind hill S r = ky kind hill S r' := by
  rw [← key_col b h0 hn f f', colK, colK, List.map_inj_left]
structure GoodGroups (kind hill : Int) (S sizes own : List Int) (gs : List (List (List Int))) : Prop where
  len : (gs.length : Int) = fml kind hill S sizes own
  ne : ∀ g ∈ gs, g ≠ []
  same : ∀ g ∈ gs, ∀ r ∈ g, ∀ r' ∈ g, ky kind hill S r = ky kind hill S r'
  perm : gs.flatten.Perm (rowsL own)
theorem groups_good {n : Nat} {S O sizes own rest : List Int} {kind hill : Int} (b : Box n S O sizes own rest) (ne : S ≠ []) (h0 : 0 ≤ hill) (hn : hill < n) : GoodGroups kind hill S sizes own (groups n kind hill S O own rest) := by
  have v := ginv_all (colK n kind hill S O rest) (rowsL own)
  have fit : ∀ g ∈ groups n kind hill S O own rest, ∀ r ∈ g, Fit r own := fun g hg r hr => mem_rowsL.mp (v.perm.mem_iff.mp (List.mem_flatten.mpr ⟨g, hg, hr⟩))
  have at_ : ∀ g ∈ groups n kind hill S O own rest, ∃ (i : Nat) (c : List Ky), (groups n kind hill S O own rest)[i]? = some g ∧ ((rowsL own).foldl (gstep (colK n kind hill S O rest)) ([], [])).2[i]? = some c := fun g hg => by
    obtain ⟨i, hi⟩ := List.mem_iff_getElem?.mp hg
    have hl := (List.getElem?_eq_some_iff.mp hi).1
    exact ⟨i, _, hi, List.getElem?_eq_getElem (by rw [← v.len]; exact hl)⟩
  have hne : ∀ g ∈ groups n kind hill S O own rest, g ≠ [] := fun g hg => by
    obtain ⟨i, c, h1, h2⟩ := at_ g hg
    exact (v.grp i g c h1 h2).1
  refine ⟨?_, hne, fun g hg r hr r' hr' => ?_, v.perm⟩
  · have e : ((groups n kind hill S O own rest).map fun g => ky kind hill S (g.headD [])).length = (groups n kind hill S O own rest).length := List.length_map ..
    rw [← e]
    have hd : ∀ g ∈ groups n kind hill S O own rest, g.headD [] ∈ g := fun g hg => by
      cases g with
      | nil => exact absurd rfl (hne _ hg)
      | cons r g => simp
    refine key_count b ne h0 hn ?_ fun k => ?_
    · -- different groups, different keys
      rw [List.nodup_iff_pairwise_ne, List.pairwise_map, List.pairwise_iff_getElem]
      intro i j hi hj hij heq
      have gi := List.getElem_mem hi
      have gj := List.getElem_mem hj
      have hi2 : i < ((rowsL own).foldl (gstep (colK n kind hill S O rest)) ([], [])).2.length := by rw [← v.len]; exact hi
      have hj2 : j < ((rowsL own).foldl (gstep (colK n kind hill S O rest)) ([], [])).2.length := by rw [← v.len]; exact hj
      have ci := (v.grp i _ _ (List.getElem?_eq_getElem hi) (List.getElem?_eq_getElem hi2)).2 _ (hd _ gi)
      have cj := (v.grp j _ _ (List.getElem?_eq_getElem hj) (List.getElem?_eq_getElem hj2)).2 _ (hd _ gj)
      have := (colK_iff b h0 hn (fit _ gi _ (hd _ gi)) (fit _ gj _ (hd _ gj))).mpr heq
      rw [ci, cj] at this
      have := (List.getElem_inj (h₀ := hi2) (h₁ := hj2) v.nd).mp this
      omega
    · rw [List.mem_map]
      constructor
      · rintro ⟨g, hg, rfl⟩
        exact ⟨_, fit g hg _ (hd g hg), rfl⟩
      · rintro ⟨r, f, rfl⟩
        obtain ⟨g, hg, hr⟩ := List.mem_flatten.mp (v.perm.mem_iff.mpr (mem_rowsL.mpr f))
        obtain ⟨i, c, h1, h2⟩ := at_ g hg
        obtain ⟨_, hc⟩ := v.grp i g c h1 h2
        refine ⟨g, hg, ?_⟩
        rw [← colK_iff b h0 hn (fit g hg _ (hd g hg)) f, hc _ (hd g hg), hc r hr]
  · obtain ⟨i, c, h1, h2⟩ := at_ g hg
    obtain ⟨_, hc⟩ := v.grp i g c h1 h2
    rw [← colK_iff b h0 hn (fit g hg r hr) (fit g hg r' hr'), hc r hr, hc r' hr']
end Mx
set_option maxRecDepth 100000
set_option maxHeartbeats 4000000
namespace Fw
open PySem PySem.Spec PyProof.Rows L2
/-! ### what the mirrors' words do, for simp -/
section
variable {n : Nat} {ρ ρ1 : Sl} {cs cs1 cs2 cs3 : List Cell} {a b : MS} {e e1 e2 : E} {d d1 d2 : D} {es : List E}
theorem x_seq_nx (h : a n ρ cs = some (.nx ρ1 cs1)) : sSeq a b n ρ cs = b n ρ1 cs1 := by rw [sSeq, h]
theorem x_seq_rt (h : a n ρ cs = some (.rt e cs1)) : sSeq a b n ρ cs = some (.rt e cs1) := by rw [sSeq, h]
theorem x_seq_bk (h : a n ρ cs = some (.bk ρ1 cs1)) : sSeq a b n ρ cs = some (.bk ρ1 cs1) := by rw [sSeq, h]
theorem x_next : sNext n ρ cs = some (.nx ρ cs) := rfl
theorem x_set {i : Nat} {m : ME} (h : m n ρ cs = some (e, cs1)) : sSet i m n ρ cs = some (.nx (ρ.set i (some e)) cs1) := by rw [sSet, h]
theorem x_drop {m : ME} (h : m n ρ cs = some (e, cs1)) : sDrop m n ρ cs = some (.nx ρ cs1) := by rw [sDrop, h]
theorem x_ret {m : ME} (h : m n ρ cs = some (e, cs1)) : sRet m n ρ cs = some (.rt e cs1) := by rw [sRet, h]
theorem x_retN : sRetN n ρ cs = some (.rt (.p .non) cs) := rfl
theorem x_brk : sBreak n ρ cs = some (.bk ρ cs) := rfl
theorem x_if_t {t : MT} (h : t n ρ cs = some (true, cs1)) : sIf t a b n ρ cs = a n ρ cs1 := by rw [sIf, h]
theorem x_if_f {t : MT} (h : t n ρ cs = some (false, cs1)) : sIf t a b n ρ cs = b n ρ cs1 := by rw [sIf, h]
theorem x_if {t : MT} {k : Bool} (h : t n ρ cs = some (k, cs1)) : sIf t a b n ρ cs = if k = true then a n ρ cs1 else b n ρ cs1 := by cases k <;> simp [sIf, h]
theorem x_aug {i : Nat} {f : Int → Int → Int} {m : ME} {x y : Int} (h : ρ[i]? = some (some (.p (.int x)))) (h2 : m n ρ cs = some (.p (.int y), cs1)) : sAug i f m n ρ cs = some (.nx (ρ.set i (some (.p (.int (f x y))))) cs1) := by simp only [sAug, h, h2]
theorem x_var {i : Nat} (h : ρ[i]? = some (some e)) : mVar i n ρ cs = some (e, cs) := by simp only [mVar, h]
theorem x_c : mC d n ρ cs = some (.p d, cs) := rfl
theorem x_op {f : D → D → Option D} {ma mb : ME} (ha : ma n ρ cs = some (.p d1, cs1)) (hb : mb n ρ cs1 = some (.p d2, cs2)) (hf : f d1 d2 = some d) : mOp f ma mb n ρ cs = some (.p d, cs2) := by simp only [mOp, m2, mBind, ha, hb, hf, Option.map_some]
theorem x_un {f : D → Option D} {ma : ME} (ha : ma n ρ cs = some (.p d1, cs1)) (hf : f d1 = some d) : mUn f ma n ρ cs = some (.p d, cs1) := by simp only [mUn, mBind, ha, hf, Option.map_some]
theorem x_nil : mNil n ρ cs = some ([], cs) := rfl
theorem x_cons {ma : ME} {mr : MA} (ha : ma n ρ cs = some (e, cs1)) (hr : mr n ρ cs1 = some (es, cs2)) : mCons ma mr n ρ cs = some (e :: es, cs2) := by simp only [mCons, ha, hr]
@[simp] theorem p_nil : pures [] = some [] := rfl
@[simp] theorem p_cons {ds : List D} (h : pures es = some ds) : pures (.p d :: es) = some (d :: ds) := by rw [pures, h]; rfl
theorem x_call {f : List D → Option D} {ma : MA} {ds : List D} (ha : ma n ρ cs = some (es, cs1)) (hp : pures es = some ds) (hf : f ds = some d) : mCall f ma n ρ cs = some (.p d, cs1) := by simp only [mCall, ha, hp, hf, Option.map_some]
theorem x_callM {f : List E → List Cell → Option (E × List Cell)} {ma : MA} (ha : ma n ρ cs = some (es, cs1)) (hf : f es cs1 = some (e, cs2)) : mCallM f ma n ρ cs = some (e, cs2) := by simp only [mCallM, ha, hf]
theorem x_test {m : ME} {k : Bool} (h : m n ρ cs = some (.p (.bl k), cs1)) : mTest m n ρ cs = some (k, cs1) := by simp only [mTest, mBind, h]
theorem x_and_t {s t : MT} (h : s n ρ cs = some (true, cs1)) : mAnd s t n ρ cs = t n ρ cs1 := by simp only [mAnd, h]
theorem x_and_f {s t : MT} (h : s n ρ cs = some (false, cs1)) : mAnd s t n ρ cs = some (false, cs1) := by simp only [mAnd, h]
theorem x_or_t {s t : MT} (h : s n ρ cs = some (true, cs1)) : mOr s t n ρ cs = some (true, cs1) := by simp only [mOr, h]
theorem x_or_f {s t : MT} (h : s n ρ cs = some (false, cs1)) : mOr s t n ρ cs = t n ρ cs1 := by simp only [mOr, h]
theorem x_and {s t : MT} {j k : Bool} (h : s n ρ cs = some (j, cs)) (h2 : t n ρ cs = some (k, cs)) : mAnd s t n ρ cs = some (j && k, cs) := by cases j <;> simp [mAnd, mOr, h, h2]
theorem x_or {s t : MT} {j k : Bool} (h : s n ρ cs = some (j, cs)) (h2 : t n ρ cs = some (k, cs)) : mOr s t n ρ cs = some (j || k, cs) := by cases j <;> simp [mAnd, mOr, h, h2]
theorem x_not {s : MT} {k : Bool} (h : s n ρ cs = some (k, cs1)) : mNot s n ρ cs = some (!k, cs1) := by simp only [mNot, h]
theorem x_ofT {s : MT} {k : Bool} (h : s n ρ cs = some (k, cs1)) : mOfT s n ρ cs = some (.p (.bl k), cs1) := by simp only [mOfT, h]
theorem x_ifE_t {t : MT} {ma mb : ME} (h : t n ρ cs = some (true, cs1)) : mIf t ma mb n ρ cs = ma n ρ cs1 := by simp only [mIf, h]
theorem x_ifE_f {t : MT} {ma mb : ME} (h : t n ρ cs = some (false, cs1)) : mIf t ma mb n ρ cs = mb n ρ cs1 := by simp only [mIf, h]
theorem x_tru {m : ME} {k : Bool} (h : m n ρ cs = some (.p d, cs1)) (ht : truD d = some k) : mTru m n ρ cs = some (k, cs1) := by simp only [mTru, mBind, h, ht, Option.map_some]
theorem x_tup {ma : MA} {ds : List D} (ha : ma n ρ cs = some (es, cs1)) (hp : pures es = some ds) (hl : ds.length ≤ 100000) : mTup ma n ρ cs = some (.p (.tup ds), cs1) := by simp only [mTup, mCall, ha, hp, if_pos hl, Option.map_some]
theorem x_lst {ma : MA} {ds : List D} (ha : ma n ρ cs = some (es, cs1)) (hp : pures es = some ds) (hl : ds.length ≤ 100000) : mLst ma n ρ cs = some (.p (.lst ds), cs1) := by simp only [mLst, mCall, ha, hp, if_pos hl, Option.map_some]
theorem x_lstC {ma : MA} (ha : ma n ρ cs = some (es, cs1)) (hl : es.length ≤ 100000) : mLstC ma n ρ cs = some (.c cs1.length, cs1 ++ [.lst es]) := by simp only [mLstC, ha, if_pos hl]
theorem x_toC {m : ME} {ds : List D} (h : m n ρ cs = some (.p (.lst ds), cs1)) : toC m n ρ cs = some (.c cs1.length, cs1 ++ [.lst (ds.map E.p)]) := by simp only [toC, h]
@[simp] theorem f_catT {xs ys : List D} (h : xs.length + ys.length ≤ 100000) : fCatT (.tup xs) (.tup ys) = some (.tup (xs ++ ys)) := by simp only [fCatT, if_pos h]
theorem f_cat {xs ys : List D} (h : xs.length + ys.length ≤ 100000) : fCat (.lst xs) (.lst ys) = some (.lst (xs ++ ys)) := by simp only [fCat, if_pos h]
/-! scalars -/
@[simp] theorem f_add {i j : Int} : fAdd (.int i) (.int j) = some (.int (i + j)) := rfl
@[simp] theorem f_sub {i j : Int} : fSub (.int i) (.int j) = some (.int (i - j)) := rfl
theorem f_mul {i j : Int} (h : (-(2 ^ 64) < i ∧ i < 2 ^ 64) ∨ (-(2 ^ 64) < j ∧ j < 2 ^ 64)) : fMul (.int i) (.int j) = some (.int (i * j)) := by
  unfold fMul i2c
  dsimp only
  rw [if_pos]
  rw [Bool.or_eq_true]
  exact h.imp (fun z => decide_eq_true (by omega)) fun z => decide_eq_true (by omega)
@[simp] theorem f_fdiv {i j : Int} (h : 0 < j) (h2 : j < 1073741824) : fFdiv (.int i) (.int j) = some (.int (i / j)) := by
  unfold fFdiv i2c
  dsimp only
  rw [if_pos (decide_eq_true ⟨h, by omega⟩)]
@[simp] theorem f_mod {i j : Int} (h : 0 < j) : fMod (.int i) (.int j) = some (.int (i % j)) := by
  unfold fMod i2c
  dsimp only
  rw [if_pos (decide_eq_true h)]
@[simp] theorem f_lt {i j : Int} : fLt (.int i) (.int j) = some (.bl (decide (i < j))) := rfl
@[simp] theorem f_le {i j : Int} : fLe (.int i) (.int j) = some (.bl (decide (i ≤ j))) := rfl
@[simp] theorem f_gt {i j : Int} : fGt (.int i) (.int j) = some (.bl (decide (j < i))) := rfl
@[simp] theorem f_ge {i j : Int} : fGe (.int i) (.int j) = some (.bl (decide (j ≤ i))) := rfl
@[simp] theorem f_eq {i j : Int} : fEq (.int i) (.int j) = some (.bl (decide (i = j))) := rfl
@[simp] theorem f_ne {i j : Int} : fNe (.int i) (.int j) = some (.bl (!decide (i = j))) := rfl
@[simp] theorem f_lenL {xs : List D} : fLen [.lst xs] = some (.int xs.length) := rfl
@[simp] theorem f_lenT {xs : List D} : fLen [.tup xs] = some (.int xs.length) := rfl
@[simp] theorem f_lenF {xs : List D} : fLen [.fls xs] = some (.int xs.length) := rfl
@[simp] theorem f_lenD {ks : List (List Key)} {xs : List D} : fLenT [.dT ks xs] = some (.int ks.length) := rfl
@[simp] theorem f_listL {xs : List D} : fListOf [.lst xs] = some (.lst xs) := rfl
@[simp] theorem f_tupL {xs : List D} : fTupOf [.lst xs] = some (.tup xs) := rfl
@[simp] theorem f_int {i : Int} : fInt1 [.int i] = some (.int i) := rfl
@[simp] theorem f_abs {i : Int} : fAbs [.int i] = some (.int (if i < 0 then -i else i)) := rfl
@[simp] theorem f_max2 {i j : Int} : fMax2 [.int i, .int j] = some (.int (if j > i then j else i)) := rfl
@[simp] theorem f_min2 {i j : Int} : fMin2 [.int i, .int j] = some (.int (if j < i then j else i)) := rfl
theorem f_sum {ns : List Int} : fSum [.lst (ns.map .int)] = some (.int ns.sum) := by simp [fSum, overInts, intsOf_map]
theorem f_max {ns : List Int} {m : Int} (h : maxOf ns = some m) : fMax [.lst (ns.map .int)] = some (.int m) := by simp [fMax, overInts, intsOf_map, h]
theorem f_sumT {ns : List Int} : fSumT [.tup (ns.map .int)] = some (.int ns.sum) := by simp [fSumT, intsOf_map]
theorem f_maxT {ns : List Int} {m : Int} (h : maxOf ns = some m) : fMaxT [.tup (ns.map .int)] = some (.int m) := by simp [fMaxT, intsOf_map, h]
/-! defs -/
theorem x_fnP_rt {np k : Nat} {m : MS} {ds : List D} (hl : ds.length = np) (h : m 0 (slots0 k (ds.map E.p)) [] = some (.rt (.p d) cs1)) : fnP np k m ds = some d := by rw [fnP, if_pos hl, h]
theorem x_fnP_nx {np k : Nat} {m : MS} {ds : List D} (hl : ds.length = np) (h : m 0 (slots0 k (ds.map E.p)) [] = some (.nx ρ1 cs1)) : fnP np k m ds = some .non := by rw [fnP, if_pos hl, h]
theorem x_fnM_rt {np k : Nat} {m : MS} (hl : es.length = np) (h : m cs.length (slots0 k es) cs = some (.rt e cs1)) : fnM np k m es cs = some (cutM cs.length (e, cs1)) := by rw [fnM, if_pos hl, h]
theorem x_fnM_nx {np k : Nat} {m : MS} (hl : es.length = np) (h : m cs.length (slots0 k es) cs = some (.nx ρ1 cs1)) : fnM np k m es cs = some (cutM cs.length (.p .non, cs1)) := by rw [fnM, if_pos hl, h]
/-! items -/
theorem atI_at {α : Type} {xs : List α} {i : Nat} {x : α} (h : xs[i]? = some x) : atI xs (i : Int) = some x := by
  have hl := (List.getElem?_eq_some_iff.mp h).1
  unfold atI ixN
  rw [if_pos (by omega), if_pos (by omega)]
  exact h
theorem atI_of {α : Type} {xs : List α} {i : Int} {x : α} (h0 : 0 ≤ i) (h : xs[i.toNat]? = some x) : atI xs i = some x := by
  have := atI_at h
  rwa [Int.toNat_of_nonneg h0] at this
@[simp] theorem f_ixL {xs : List D} {i : Int} : fIxL (.lst xs) (.int i) = atI xs i := rfl
@[simp] theorem f_ixF {xs : List D} {i : Int} : fIxL (.fls xs) (.int i) = atI xs i := rfl
@[simp] theorem f_ixT {xs : List D} {i : Int} : fIxT (.tup xs) (.int i) = atI xs i := rfl
@[simp] theorem at0 {α : Type} {x : α} {xs : List α} : atI (x :: xs) 0 = some x := atI_at (i := 0) rfl
@[simp] theorem at1 {α : Type} {x y : α} {xs : List α} : atI (x :: y :: xs) 1 = some y := atI_at (i := 1) rfl
@[simp] theorem at2 {α : Type} {x y z : α} {xs : List α} : atI (x :: y :: z :: xs) 2 = some z := atI_at (i := 2) rfl
@[simp] theorem at3 {α : Type} {x y z u : α} {xs : List α} : atI (x :: y :: z :: u :: xs) 3 = some u := atI_at (i := 3) rfl
theorem atI_map {α β : Type} {f : α → β} {xs : List α} {i : Int} {x : α} (h0 : 0 ≤ i) (h : xs[i.toNat]? = some x) : atI (xs.map f) i = some (f x) := atI_of h0 (by rw [List.getElem?_map, h]; rfl)
/-! sources -/
theorem x_il {m : ME} {ds : List D} (h : m n ρ cs = some (.p (.lst ds), cs1)) : mIL m n ρ cs = some (ds, cs1) := by simp only [mIL, h]
theorem x_ilF {m : ME} {ds : List D} (h : m n ρ cs = some (.p (.fls ds), cs1)) : mIL m n ρ cs = some (ds, cs1) := by simp only [mIL, h]
theorem x_ie {ma : MA} {ds : List D} (h : ma n ρ cs = some ([.p (.lst ds)], cs1)) : mIE ma n ρ cs = some (enumD ds, cs1) := by simp only [mIE, h]
theorem okR_of {j : Int} (h1 : -1000000 ≤ j) (h2 : j ≤ 1000000) : okR j = true := decide_eq_true (by omega)
theorem x_ir1 {ma : MA} {j : Int} (h : ma n ρ cs = some ([.p (.int j)], cs1)) (h1 : -1000000 ≤ j) (h2 : j ≤ 1000000) : mIR1 ma n ρ cs = some (rangeD 0 j.toNat, cs1) := by
  simp only [mIR1, h]
  rw [if_pos (okR_of h1 h2)]
theorem x_ir2 {ma : MA} {i j : Int} (h : ma n ρ cs = some ([.p (.int i), .p (.int j)], cs1)) (h1 : -1000000 ≤ i) (h2 : i ≤ 1000000) (h3 : -1000000 ≤ j) (h4 : j ≤ 1000000) : mIR2 ma n ρ cs = some (rangeD i (j - i).toNat, cs1) := by
  simp only [mIR2, h]
  rw [if_pos (by rw [Bool.and_eq_true]; exact ⟨okR_of h1 h2, okR_of h3 h4⟩)]
theorem x_zip {ma : MA} {xs ys : List D} (h : ma n ρ cs = some ([.p (.lst xs), .p (.tup ys)], cs1)) : mIZLT ma n ρ cs = some (zipD xs ys, cs1) := by simp only [mIZLT, h]
theorem x_tgN {i : Nat} : tgN i d ρ = some (ρ.set i (some (.p d))) := rfl
theorem x_tg2 {i j : Nat} : tg2 i j (.tup [d1, d2]) ρ = some ((ρ.set i (some (.p d1))).set j (some (.p d2))) := rfl
theorem x_asg {tg : MG} {m : ME} (h : m n ρ cs = some (.p d, cs1)) (h2 : tg d ρ = some ρ1) : sAsg tg m n ρ cs = some (.nx ρ1 cs1) := by simp only [sAsg, h, h2, Option.map_some]
theorem x_yes : mYes n ρ cs = some (true, cs) := rfl
/-! cells -/
theorem x_frz {m : ME} {k : Nat} {ds : List D} (h : m n ρ cs = some (.c k, cs1)) (hk : cs1[k]? = some (.lst es)) (hn : n ≤ k) (hp : pures es = some ds) : mFrz m n ρ cs = some (.p (.lst ds), cs1.set k .gone) := by simp only [mFrz, h, hk, if_pos hn, hp, Option.map_some]
theorem x_append {mo : ME} {ma : MA} {k : Nat} {es1 : List E} (h : mo n ρ cs = some (.c k, cs1)) (hk : cs1[k]? = some (.lst es1)) (ha : ma n ρ cs1 = some ([e], cs2)) (hk2 : cs2[k]? = some (.lst es)) (hl : es.length < 100000) :
    mAppend mo ma n ρ cs = some (.p .non, cs2.set k (.lst (es ++ [e]))) := by simp only [mAppend, h, hk, ha, hk2, if_pos hl]
@[simp] theorem p_map {ds : List D} : pures (ds.map E.p) = some ds := pures_map ds
theorem x_putL {mv mo mi : ME} {k : Nat} {i : Int} (hv : mv n ρ cs = some (e, cs1)) (ho : mo n ρ cs1 = some (.c k, cs2)) (hi : mi n ρ cs2 = some (.p (.int i), cs3)) (hk : cs3[k]? = some (.lst es)) (h0 : 0 ≤ i) (hj : i.toNat < es.length) :
    sPutL mv mo mi n ρ cs = some (.nx ρ (cs3.set k (.lst (es.set i.toNat e)))) := by
  have : ixN es.length i = some i.toNat := by unfold ixN; rw [if_pos h0, if_pos (by omega)]
  simp only [sPutL, hv, ho, hi, hk, this]
theorem x_popAt {mo : ME} {ma : MA} {k : Nat} {i : Int} {es0 : List E} (ho : mo n ρ cs = some (.c k, cs1)) (hk : cs1[k]? = some (.lst es0)) (ha : ma n ρ cs1 = some ([.p (.int i)], cs2)) (hk2 : cs2[k]? = some (.lst es)) (h0 : 0 ≤ i) (h1 : i < 1000000) (he : es[i.toNat]? = some e) :
    mPopAt mo ma n ρ cs = some (e, cs2.set k (.lst (es.eraseIdx i.toNat))) := by
  simp only [mPopAt, ho, hk, ha, hk2]
  rw [if_pos ⟨h0, by omega⟩, he]
/-! cells of ints -/
def lI (xs : List Int) : List E := xs.map fun x => .p (.int x)
@[simp] theorem lI_nil : lI [] = [] := rfl
@[simp] theorem lI_snoc {xs : List Int} {x : Int} : lI xs ++ [.p (.int x)] = lI (xs ++ [x]) := by simp [lI]
@[simp] theorem lI_len {xs : List Int} : (lI xs).length = xs.length := List.length_map ..
@[simp] theorem lI_pures {xs : List Int} : pures (lI xs) = some (xs.map D.int) := by
  have : lI xs = (xs.map D.int).map E.p := by rw [List.map_map]; rfl
  rw [this, pures_map]
@[simp] theorem lI_get {xs : List Int} {i : Nat} : (lI xs)[i]? = (xs[i]?).map fun x => .p (.int x) := List.getElem?_map ..
@[simp] theorem lI_set {xs : List Int} {i : Nat} {x : Int} : (lI xs).set i (.p (.int x)) = lI (xs.set i x) := by simp [lI, List.map_set]
theorem erase_map {α β : Type} {f : α → β} : ∀ (xs : List α) (i : Nat), (xs.map f).eraseIdx i = (xs.eraseIdx i).map f
  | [], _ => rfl
  | _ :: _, 0 => rfl
  | x :: xs, i + 1 => by simp [erase_map xs i]
@[simp] theorem lI_erase {xs : List Int} {i : Nat} : (lI xs).eraseIdx i = lI (xs.eraseIdx i) := erase_map xs i
@[simp] theorem lI_deref {f : Nat} {cs : List Cell} : ∀ {xs : List Int}, (lI xs).mapM (deref (f + 1) cs) = some (xs.map D.int)
  | [] => rfl
  | x :: xs => by
    have ih := lI_deref (f := f) (cs := cs) (xs := xs)
    unfold lI at ih ⊢
    simp only [List.map_cons, List.mapM_cons, ih, deref]
    rfl
@[simp] theorem lI_mapE {xs : List Int} : (xs.map D.int).map E.p = lI xs := by rw [List.map_map]; rfl
@[simp] theorem lI_comp {xs : List Int} : xs.map (E.p ∘ D.int) = lI xs := rfl
/-! reading -/
theorem x_bor {m : ME} {ρ' : Sl} (hf : flatSl cs ρ = ρ') (h : m 0 ρ' [] = some (.p d, cs1)) (hs : scalarD d = true) : mBor m n ρ cs = some (.p d, cs) := by simp only [mBor, hf, h, if_pos hs]
theorem x_borT {m : MT} {k : Bool} {ρ' : Sl} (hf : flatSl cs ρ = ρ') (h : m 0 ρ' [] = some (k, cs1)) : tBorT m n ρ cs = some (k, cs) := by simp only [tBorT, hf, h]
/-! loops: a state, and what a turn makes of it -/
theorem for_nx {β σ : Type} {tg : MG} {body : MS} (f : β → D) (R : σ → Sl → List Cell → Prop) (step : σ → β → σ) : ∀ (xs : List β) (s : σ) (ρ : Sl) (cs : List Cell), R s ρ cs →
    (∀ s x ρ cs, x ∈ xs → R s ρ cs → ∃ ρ1, tg (f x) ρ = some ρ1 ∧ ∃ ρ2 cs2, body n ρ1 cs = some (.nx ρ2 cs2) ∧ R (step s x) ρ2 cs2) →
    ∃ ρ' cs', forD tg body n (xs.map f) ρ cs = some (.nx ρ' cs') ∧ R (xs.foldl step s) ρ' cs'
  | [], s, ρ, cs, h, _ => ⟨ρ, cs, rfl, h⟩
  | x :: xs, s, ρ, cs, h, hs => by
    obtain ⟨ρ1, h1, ρ2, cs2, h2, h3⟩ := hs s x ρ cs (by simp) h
    obtain ⟨ρ', cs', h4, h5⟩ := for_nx f R step xs (step s x) ρ2 cs2 h3 fun s x ρ cs hx hr => hs s x ρ cs (List.mem_cons_of_mem _ hx) hr
    refine ⟨ρ', cs', ?_, h5⟩
    rw [List.map_cons, forD, h1]
    simp only [h2, h4]
/-- a loop by what holds ahead of its i-th turn -/
theorem for_inv {tg : MG} {body : MS} (I : Nat → Sl → List Cell → Prop) {ds : List D} (h0 : I 0 ρ cs)
    (hs : ∀ i d ρ cs, ds[i]? = some d → I i ρ cs → ∃ ρ1, tg d ρ = some ρ1 ∧ ∃ ρ2 cs2, body n ρ1 cs = some (.nx ρ2 cs2) ∧ I (i + 1) ρ2 cs2) :
    ∃ ρ' cs', forD tg body n ds ρ cs = some (.nx ρ' cs') ∧ I ds.length ρ' cs' := by
  have key : ∀ (es : List D) (i : Nat) (ρ : Sl) (cs : List Cell), es = ds.drop i → i ≤ ds.length → I i ρ cs → ∃ ρ' cs', forD tg body n es ρ cs = some (.nx ρ' cs') ∧ I ds.length ρ' cs' := by
    intro es
    induction es with
    | nil =>
      intro i ρ cs e hi h
      have : i = ds.length := by
        have := congrArg List.length e
        rw [List.length_drop] at this
        simp at this
        omega
      subst this
      exact ⟨ρ, cs, rfl, h⟩
    | cons d es ih =>
      intro i ρ cs e hi h
      have hlt : i < ds.length := by
        have := congrArg List.length e
        rw [List.length_drop] at this
        simp at this
        omega
      rw [List.drop_eq_getElem_cons hlt] at e
      injection e with e1 e2
      subst e1
      obtain ⟨ρ1, h1, ρ2, cs2, h2, h3⟩ := hs i _ ρ cs (List.getElem?_eq_getElem hlt) h
      obtain ⟨ρ', cs', h4, h5⟩ := ih (i + 1) ρ2 cs2 e2 hlt h3
      refine ⟨ρ', cs', ?_, h5⟩
      rw [forD, h1]
      simp only [h2, h4]
  exact key ds 0 ρ cs (by rw [List.drop_zero]) (Nat.zero_le _) h0
/-- a loop that folds: R i s ρ cs, ahead of the i-th turn the state is s -/
theorem for_fold {β σ : Type} {tg : MG} {body : MS} (f : β → D) (R : Nat → σ → Sl → List Cell → Prop) (step : σ → β → σ) {xs : List β} {s0 : σ} (h0 : R 0 s0 ρ cs)
    (hs : ∀ i x s ρ cs, xs[i]? = some x → R i s ρ cs → ∃ ρ1, tg (f x) ρ = some ρ1 ∧ ∃ ρ2 cs2, body n ρ1 cs = some (.nx ρ2 cs2) ∧ R (i + 1) (step s x) ρ2 cs2) :
    ∃ ρ' cs', forD tg body n (xs.map f) ρ cs = some (.nx ρ' cs') ∧ R xs.length (xs.foldl step s0) ρ' cs' := by
  have := for_inv (n := n) (tg := tg) (body := body) (ρ := ρ) (cs := cs) (ds := xs.map f) (fun i ρ cs => R i ((xs.take i).foldl step s0) ρ cs) (by simpa using h0) fun i d ρ cs hd hr => by
    rw [List.getElem?_map, Option.map_eq_some_iff] at hd
    obtain ⟨x, hx, rfl⟩ := hd
    obtain ⟨ρ1, h1, ρ2, cs2, h2, h3⟩ := hs i x _ ρ cs hx hr
    refine ⟨ρ1, h1, ρ2, cs2, h2, ?_⟩
    have e : xs.take (i + 1) = xs.take i ++ [x] := by
      rw [List.take_add_one, hx]; rfl
    rw [e, List.foldl_append]
    exact h3
  obtain ⟨ρ', cs', h1, h2⟩ := this
  rw [List.length_map, List.take_length] at h2
  exact ⟨ρ', cs', h1, h2⟩
/-- comprehensions -/
theorem lc_filter {β : Type} {tg : MG} {mt : MT} {me : ME} {ρw : Sl} (f : β → D) (p : β → Bool) (g : β → D) : ∀ {xs : List β}, (∀ x ∈ xs, ∃ ρ1, tg (f x) ρw = some ρ1 ∧ mt n ρ1 cs = some (p x, cs) ∧ (p x = true → me n ρ1 cs = some (.p (g x), cs))) →
    lcD tg mt me n ρw (xs.map f) cs = some ((xs.filter p).map g, cs)
  | [], _ => rfl
  | x :: xs, h => by
    obtain ⟨ρ1, h1, h2, h3⟩ := h x (by simp)
    have ih := lc_filter (tg := tg) (mt := mt) (me := me) (ρw := ρw) f p g (xs := xs) fun y hy => h y (List.mem_cons_of_mem _ hy)
    rw [List.map_cons, lcD, h1]
    cases c : p x with
    | true =>
      rw [c] at h2
      simp only [h2, h3 c, ih, List.filter_cons, c, if_true, List.map_cons]
    | false =>
      rw [c] at h2
      simp only [h2, ih, List.filter_cons, c]
      rfl
theorem lc_map {β : Type} {tg : MG} {mt : MT} {me : ME} {ρw : Sl} (f : β → D) (g : β → D) {xs : List β} (h : ∀ x ∈ xs, ∃ ρ1, tg (f x) ρw = some ρ1 ∧ mt n ρ1 cs = some (true, cs) ∧ me n ρ1 cs = some (.p (g x), cs)) :
    lcD tg mt me n ρw (xs.map f) cs = some (xs.map g, cs) := by
  have := lc_filter (tg := tg) (mt := mt) (me := me) (ρw := ρw) f (fun _ => true) g (xs := xs) (n := n) (cs := cs) fun x hx => by
    obtain ⟨ρ1, h1, h2, h3⟩ := h x hx
    exact ⟨ρ1, h1, h2, fun _ => h3⟩
  rwa [List.filter_eq_self.mpr fun _ _ => rfl] at this
theorem x_lc {mi : MI} {tg : MG} {mt : MT} {me : ME} {vs : List Nat} {ds es1 : List D} (h : mi n ρ cs = some (ds, cs1)) (hl : ds.length ≤ 100000) (h2 : lcD tg mt me n (wipeS ρ vs) ds cs1 = some (es1, cs2)) : mLc mi tg mt me vs n ρ cs = some (.p (.lst es1), cs2) := by
  simp only [mLc, h, if_pos hl, h2]
theorem lc2_map {β γ : Type} {tg tg1 : MG} {mt mt1 : MT} {mi1 : MI} {me : ME} {vs1 : List Nat} {ρw : Sl} (f : β → D) (ys : β → List γ) (h : β → γ → D) (g : β → γ → D) : ∀ {xs : List β}, (∀ x ∈ xs, ∃ ρ1, tg (f x) ρw = some ρ1 ∧ mt n ρ1 cs = some (true, cs) ∧ mi1 n ρ1 cs = some ((ys x).map (h x), cs) ∧ (ys x).length ≤ 100000 ∧
      ∀ y ∈ ys x, ∃ ρ2, tg1 (h x y) (wipeS ρ1 vs1) = some ρ2 ∧ mt1 n ρ2 cs = some (true, cs) ∧ me n ρ2 cs = some (.p (g x y), cs)) →
    lc2D tg mt mi1 tg1 mt1 me vs1 n ρw (xs.map f) cs = some (xs.flatMap fun x => (ys x).map (g x), cs)
  | [], _ => rfl
  | x :: xs, hh => by
    obtain ⟨ρ1, h1, h2, h3, h4, h5⟩ := hh x (by simp)
    have ih := lc2_map (tg := tg) (tg1 := tg1) (mt := mt) (mt1 := mt1) (mi1 := mi1) (me := me) (vs1 := vs1) (ρw := ρw) f ys h g (xs := xs) fun y hy => hh y (List.mem_cons_of_mem _ hy)
    have inner := lc_map (n := n) (cs := cs) (tg := tg1) (mt := mt1) (me := me) (ρw := wipeS ρ1 vs1) (h x) (g x) h5
    rw [List.map_cons, lc2D, h1]
    have e : ((ys x).map (h x)).length ≤ 100000 := by rw [List.length_map]; exact h4
    simp only [h2, h3, if_pos e, inner, ih, List.flatMap_cons]
theorem x_lc2 {mi mi1 : MI} {tg tg1 : MG} {mt mt1 : MT} {me : ME} {vs vs1 : List Nat} {ds es1 : List D} (h : mi n ρ cs = some (ds, cs1)) (hl : ds.length ≤ 100000) (h2 : lc2D tg mt mi1 tg1 mt1 me vs1 n (wipeS ρ vs) ds cs1 = some (es1, cs2)) (hl2 : es1.length ≤ 100000) :
    mLc2 mi tg mt mi1 tg1 mt1 me vs vs1 n ρ cs = some (.p (.lst es1), cs2) := by
  simp only [mLc2, h, if_pos hl, h2, if_pos hl2]
theorem x_for {mi : MI} {tg : MG} {body : MS} {ds : List D} (h : mi n ρ cs = some (ds, cs1)) : mFor mi tg body n ρ cs = forD tg body n ds ρ cs1 := by simp only [mFor, h]
end
end Fw
set_option maxRecDepth 100000
set_option maxHeartbeats 4000000
namespace Fw
open PySem PySem.Spec PyProof.Rows L2
/-! ### deep == on data of ints: a small type of its own -/
open Mx
def _root_.Mx.Z.d : Z → D
  | .i n => .int n
  | .t ns => .tup (ns.map .int)
def _root_.Mx.Z.y : Z → PyData
  | .i n => .int n
  | .t ns => .tuple (ns.map .int)
theorem pys_ints : ∀ ns : List Int, D.pys (ns.map .int) = some (ns.map .int)
  | [] => by simp [D.pys]
  | n :: ns => by simp [D.pys, D.py, pys_ints ns]
theorem _root_.Mx.Z.py (z : Z) : z.d.py = some z.y := by
  cases z with
  | i n => rfl
  | t ns => rw [Z.d, D.py, pys_ints]; rfl
theorem pys_Z : ∀ zs : List Z, D.pys (zs.map Z.d) = some (zs.map Z.y)
  | [] => by simp [D.pys]
  | z :: zs => by simp [D.pys, z.py, pys_Z zs]
theorem eqvAll_ints : ∀ xs ys : List Int, PyData.eqvAll (xs.map .int) (ys.map .int) = decide (xs = ys)
  | [], [] => by simp [PyData.eqvAll]
  | [], _ :: _ => by simp [PyData.eqvAll]
  | _ :: _, [] => by simp [PyData.eqvAll]
  | x :: xs, y :: ys => by
    rw [List.map_cons, List.map_cons, PyData.eqvAll, eqvAll_ints xs ys, PyData.eqv]
    by_cases h : x = y <;> simp [h]
theorem _root_.Mx.Z.eqv (a b : Z) : PyData.eqv a.y b.y = decide (a = b) := by
  cases a <;> cases b <;> simp [Z.y, PyData.eqv, eqvAll_ints]
  rename_i x y
  by_cases h : x = y <;> simp [h]
theorem eqvAll_Z : ∀ xs ys : List Z, PyData.eqvAll (xs.map Z.y) (ys.map Z.y) = decide (xs = ys)
  | [], [] => by simp [PyData.eqvAll]
  | [], _ :: _ => by simp [PyData.eqvAll]
  | _ :: _, [] => by simp [PyData.eqvAll]
  | x :: xs, y :: ys => by
    rw [List.map_cons, List.map_cons, PyData.eqvAll, eqvAll_Z xs ys, Z.eqv]
    by_cases h : x = y <;> simp [h]
theorem lay_ints : ∀ ns : List Int, PyData.canLayAll0 (ns.map PyData.int) = true ∧ PyData.depthAll (ns.map PyData.int) = 0
  | [] => by simp [PyData.canLayAll0, PyData.depthAll]
  | n :: ns => by
    have := lay_ints ns
    simp [PyData.canLayAll0, PyData.depthAll, PyData.canLay0, PyData.depth, this]
theorem _root_.Mx.Z.lay (z : Z) : PyData.canLay0 z.y = true ∧ PyData.depth z.y ≤ 1 := by
  cases z with
  | i n => simp [Z.y, PyData.canLay0, PyData.depth]
  | t ns => simp [Z.y, PyData.canLay0, PyData.depth, lay_ints ns]
theorem lay_Z : ∀ zs : List Z, PyData.canLayAll0 (zs.map Z.y) = true ∧ PyData.depthAll (zs.map Z.y) ≤ 1
  | [] => by simp [PyData.canLayAll0, PyData.depthAll]
  | z :: zs => by
    have h := lay_Z zs
    have k := z.lay
    rw [List.map_cons]
    simp only [PyData.canLayAll0, PyData.depthAll, h.1, k.1, Bool.and_self, true_and]
    omega
theorem _root_.Mx.Z.shaped (z : Z) : SeqAt.shaped z.y = true := by
  unfold SeqAt.shaped
  rw [z.lay.1, Bool.true_and]
  exact decide_eq_true (by have := z.lay.2; omega)
theorem shaped_Z (zs : List Z) : SeqAt.shaped (.list (zs.map Z.y)) = true := by
  unfold SeqAt.shaped
  have h := lay_Z zs
  rw [PyData.canLay0, h.1, Bool.true_and]
  exact decide_eq_true (by rw [PyData.depth]; omega)
/-- lists of such, one deeper -/
theorem pys_LZ : ∀ ls : List (List Z), D.pys (ls.map fun l => D.lst (l.map Z.d)) = some (ls.map fun l => PyData.list (l.map Z.y))
  | [] => by simp [D.pys]
  | l :: ls => by simp [D.pys, D.py, pys_Z, pys_LZ ls]
theorem lay_LZ : ∀ ls : List (List Z), PyData.canLayAll0 (ls.map fun l => PyData.list (l.map Z.y)) = true ∧ PyData.depthAll (ls.map fun l => PyData.list (l.map Z.y)) ≤ 2
  | [] => by simp [PyData.canLayAll0, PyData.depthAll]
  | l :: ls => by
    have h := lay_LZ ls
    have k := lay_Z l
    rw [List.map_cons]
    simp only [PyData.canLayAll0, PyData.depthAll, PyData.canLay0, PyData.depth, h.1, k.1, Bool.and_self, true_and]
    omega
theorem shaped_LZ (ls : List (List Z)) : SeqAt.shaped (.list (ls.map fun l => PyData.list (l.map Z.y))) = true := by
  unfold SeqAt.shaped
  have h := lay_LZ ls
  rw [PyData.canLay0, h.1, Bool.true_and]
  exact decide_eq_true (by rw [PyData.depth]; omega)
abbrev dZ (zs : List Z) : D := .lst (zs.map Z.d)
theorem any_Z {x : Z} {xs : List Z} : ((xs.map Z.y).any fun z => PyData.eqv z x.y) = xs.contains x := by
  induction xs with
  | nil => rfl
  | cons a xs ih =>
    rw [List.map_cons, List.any_cons, ih, Z.eqv, List.contains_cons]
    by_cases h : a = x
    · subst h; simp
    · have : ¬ x = a := fun e => h e.symm
      simp [h, this]
theorem f_inZ {neg : Bool} {x : Z} {xs : List Z} : fInD neg x.d (dZ xs) = some (.bl (if neg then !xs.contains x else xs.contains x)) := by
  unfold fInD
  rw [x.py, D.py, pys_Z]
  simp only [Option.map_some]
  rw [if_pos (by rw [x.shaped, shaped_Z]; rfl), any_Z]
theorem ints_Z (xs : List Int) : (xs.map D.int) = (xs.map Z.i).map Z.d := by rw [List.map_map]; rfl
theorem contains_Z {x : Int} {xs : List Int} : (xs.map Z.i).contains (.i x) = xs.contains x := by
  induction xs with
  | nil => rfl
  | cons a xs ih =>
    rw [List.map_cons, List.contains_cons, List.contains_cons, ih]
    congr 1
    rw [Bool.eq_iff_iff]
    simp
theorem f_inI {neg : Bool} {x : Int} {xs : List Int} : fInD neg (.int x) (.lst (xs.map D.int)) = some (.bl (if neg then !xs.contains x else xs.contains x)) := by
  have := f_inZ (neg := neg) (x := .i x) (xs := xs.map Z.i)
  rw [contains_Z] at this
  rw [ints_Z]
  exact this
theorem f_eqZ {xs ys : List Z} : fEqD (dZ xs) (dZ ys) = some (.bl (decide (xs = ys))) := by
  unfold fEqD py2
  rw [D.py, D.py, pys_Z, pys_Z]
  simp only [Option.map_some]
  rw [if_pos (by rw [shaped_Z, shaped_Z]; rfl), PyData.eqv, eqvAll_Z]
theorem f_neZ {x y : Z} : fNeD x.d y.d = some (.bl (!decide (x = y))) := by
  unfold fNeD py2
  simp only [x.py, y.py]
  rw [if_pos (by rw [x.shaped, y.shaped]; rfl), Z.eqv]
theorem any_LZ {x : List Z} {xs : List (List Z)} : ((xs.map fun l => PyData.list (l.map Z.y)).any fun z => PyData.eqv z (.list (x.map Z.y))) = xs.contains x := by
  induction xs with
  | nil => rfl
  | cons a xs ih =>
    rw [List.map_cons, List.any_cons, ih, PyData.eqv, eqvAll_Z, List.contains_cons]
    by_cases h : a = x
    · subst h; simp
    · have : ¬ x = a := fun e => h e.symm
      simp [h, this]
theorem f_inLZ {x : List Z} {xs : List (List Z)} : fInD false (dZ x) (.lst (xs.map dZ)) = some (.bl (xs.contains x)) := by
  unfold fInD
  have e : D.py (.lst (xs.map dZ)) = some (.list (xs.map fun l => PyData.list (l.map Z.y))) := by
    rw [D.py]
    have := pys_LZ xs
    unfold dZ
    rw [this]; rfl
  have e2 : D.py (dZ x) = some (.list (x.map Z.y)) := by rw [D.py, pys_Z]; rfl
  simp only [e, e2]
  rw [if_pos (by rw [shaped_Z, shaped_LZ]; rfl), any_LZ]
  rfl
theorem find_LZ {x : List Z} {xs : List (List Z)} : dataIx (xs.map fun l => PyData.list (l.map Z.y)) (.list (x.map Z.y)) = xs.findIdx? fun z => decide (z = x) := by
  unfold dataIx
  rw [List.findIdx?_map]
  congr 1
  funext z
  show PyData.eqv _ _ = _
  rw [PyData.eqv, eqvAll_Z]
theorem f_indexLZ {x : List Z} {xs : List (List Z)} : fIndex (.lst (xs.map dZ)) [dZ x] = (xs.findIdx? fun z => decide (z = x)).map fun j => .int (j : Nat) := by
  unfold fIndex
  have e : D.pys (xs.map dZ) = some (xs.map fun l => PyData.list (l.map Z.y)) := pys_LZ xs
  have e2 : D.py (dZ x) = some (.list (x.map Z.y)) := by rw [D.py, pys_Z]; rfl
  simp only [e, e2]
  rw [if_pos (by rw [shaped_Z, shaped_LZ]; rfl), find_LZ]
theorem f_indexI {x : Int} {xs : List Int} : fIndex (.lst (xs.map D.int)) [.int x] = (xs.findIdx? fun z => z == x).map fun j => .int (j : Nat) := by
  have e : D.pys (xs.map D.int) = some ((xs.map Z.i).map Z.y) := by rw [ints_Z, pys_Z]
  unfold fIndex
  have e2 : D.py (.int x) = some (Z.i x).y := rfl
  simp only [e, e2]
  rw [if_pos (by rw [(Z.i x).shaped, shaped_Z]; rfl)]
  congr 1
  unfold dataIx
  rw [List.findIdx?_map, List.findIdx?_map]
  congr 1
end Fw
set_option maxRecDepth 100000
set_option maxHeartbeats 4000000
namespace Fw
open PySem PySem.Spec PyProof.Rows L2
abbrev dI (xs : List Int) : D := .lst (xs.map D.int)
abbrev dR (xs : List Int) : D := .tup (xs.map D.int)
abbrev dRs (xs : List (List Int)) : D := .lst (xs.map dR)
/-- the purse, as a cell -/
def purse (a b c : Int) : Cell := .lst [.p (.int a), .p (.int b), .p (.int c)]
def PurseAt (cs : List Cell) (k : Nat) : Prop := ∃ a b c, cs[k]? = some (purse a b c)
theorem PurseAt.lt {cs : List Cell} {k : Nat} (h : PurseAt cs k) : k < cs.length := by
  obtain ⟨_, _, _, h⟩ := h
  exact (List.getElem?_eq_some_iff.mp h).1
theorem put3_0 {a b c x : E} : [a, b, c].set 0 x = [x, b, c] := rfl
theorem take_set_len {cs : List Cell} {k : Nat} {x : Cell} : (cs.set k x).take cs.length = cs.set k x := by rw [← List.length_set (as := cs) (i := k) (a := x), List.take_length]
theorem cutM_id {n : Nat} {e : E} {cs : List Cell} (h : cs.length = n) : cutM n (e, cs) = (e, cs) := by
  unfold cutM
  split
  · rw [← h, List.take_length]
  · rfl
theorem e_draw {cs : List Cell} {k : Nat} {many : Int} (hp : PurseAt cs k) (h0 : 0 < many) (h1 : many < 1073741824) :
    ∃ r p, F__law_draw [.c k, .p (.int many)] cs = some (.p (.int r), cs.set k p) ∧ PurseAt (cs.set k p) k ∧ 0 ≤ r ∧ r < many := by
  have hl := hp.lt
  obtain ⟨a, b, c, hk⟩ := hp
  unfold purse at hk
  have m0 : ∀ x : Int, 0 ≤ x % many := fun x => Int.emod_nonneg _ (by omega)
  have m1 : ∀ x : Int, x % many < many := fun x => Int.emod_lt_of_pos _ h0
  simp only [F__law_draw, fnM]
  by_cases ha : 0 < a
  · refine ⟨a % many, purse (a / many) b c, ?_, ⟨_, _, _, by rw [List.getElem?_set_self hl]⟩, m0 _, m1 _⟩
    have e1 : ixN [E.p (D.int a), E.p (D.int b), E.p (D.int c)].length 0 = some 0 := rfl
    simp [sSeq, sNext, sSet, sDrop, sRet, sRetN, sIf, sAug, sAsg, sBreak, mVar, mC, mOp, m2, mBind, mCall, mCallM, mNil, mCons, mTup, mLst, mLstC, mTest, mAnd, mOr, mNot, mOfT, mIf, mUn, mTru, mIL, mIE, mIZLT, tgN, tg2, tgT, tgs, tgs0, mYes, mFor, mFrz, mAppend, toC, sPre, sPost, mNo, mPart, mSl, mChain, mChain3, mBM, mFld, mMeth, wipeS, flatSl, deref, mBor, tBorT, scalarD, mIxC, mDNewT, mLstRg1, slots0, m__law_draw, hk, ha, h0, h1, sPutL, e1, purse, cutM_id, sAugL, ixN]
  · have hs : ∀ x : Cell, (cs.set k x)[k]? = some x := fun x => List.getElem?_set_self hl
    refine ⟨(((b * 48271 + (c + 1) * 69621) % 2147483647) * 16807 + (c + 1) * 7919) % 2147483629 / 8 % many, purse a ((b * 48271 + (c + 1) * 69621) % 2147483647) (c + 1), ?_, ⟨_, _, _, by rw [List.getElem?_set_self hl]⟩, m0 _, m1 _⟩
    simp [sSeq, sNext, sSet, sDrop, sRet, sRetN, sIf, sAug, sAsg, sBreak, mVar, mC, mOp, m2, mBind, mCall, mCallM, mNil, mCons, mTup, mLst, mLstC, mTest, mAnd, mOr, mNot, mOfT, mIf, mUn, mTru, mIL, mIE, mIZLT, tgN, tg2, tgT, tgs, tgs0, mYes, mFor, mFrz, mAppend, toC, sPre, sPost, mNo, mPart, mSl, mChain, mChain3, mBM, mFld, mMeth, wipeS, flatSl, deref, mBor, tBorT, scalarD, mIxC, mDNewT, mLstRg1, slots0, m__law_draw, hk, ha, h0, h1, sPutL, purse, cutM_id, sAugL, ixN, hs, f_mul]
end Fw
set_option maxRecDepth 100000
set_option maxHeartbeats 4000000
namespace Fw
open PySem PySem.Spec PyProof.Rows L2
def Clo (cs : List Cell) : Prop := cs.all (closedC cs.length) = true
theorem PurseAt.isP {cs : List Cell} {k : Nat} {p : Cell} (hl : k < cs.length) (h : PurseAt (cs.set k p) k) : ∃ a b c, p = purse a b c := by
  obtain ⟨a, b, c, h⟩ := h
  rw [List.getElem?_set_self hl] at h
  exact ⟨a, b, c, Option.some.inj h⟩
theorem Clo.set {cs : List Cell} {k : Nat} {p : Cell} (h : Clo cs) (hp : ∃ a b c, p = purse a b c) : Clo (cs.set k p) := by
  obtain ⟨a, b, c, rfl⟩ := hp
  unfold Clo at h ⊢
  rw [List.length_set]
  rw [List.all_eq_true] at h ⊢
  intro x hx
  rcases List.mem_or_eq_of_mem_set hx with e | e
  · exact h x e
  · subst e; rfl
theorem cutM_clo {n : Nat} {d : D} {cs ds : List Cell} (h : Clo cs) (hn : cs.length = n) : cutM n (.p d, cs ++ ds) = (.p d, cs) := by
  unfold cutM
  subst hn
  rw [List.take_left]
  have h : cs.all (closedC cs.length) = true := h
  rw [if_pos (by simp [closedE, h])]
theorem e_pow18 : fPow (.int 10) (.int 18) = some (.int 1000000000000000000) := by rfl
theorem e_purse {ns : List Int} {cs : List Cell} : ∃ a b c, F__law_purse [.p (.fls (ns.map D.int)), .p (.int 0)] cs = some (.c cs.length, cs ++ [purse a b c]) := by
  have cut : ∀ x, cutM cs.length (.c cs.length, x) = (.c cs.length, x) := fun x => by
    unfold cutM
    rw [if_neg (by simp [closedE])]
  cases ns with
  | nil =>
    refine ⟨0, 12345, 0, ?_⟩
    simp only [F__law_purse, fnM]
    simp [sSeq, sNext, sSet, sDrop, sRet, sRetN, sIf, sAug, sAsg, sBreak, mVar, mC, mOp, m2, mBind, mCall, mCallM, mNil, mCons, mTup, mLst, mLstC, mTest, mAnd, mOr, mNot, mOfT, mIf, mUn, mTru, mIL, mIE, mIZLT, tgN, tg2, tgT, tgs, tgs0, mYes, mFor, mFrz, mAppend, toC, sPre, sPost, mNo, mPart, mSl, mChain, mChain3, mBM, mFld, mMeth, wipeS, flatSl, deref, mBor, tBorT, scalarD, mIxC, mDNewT, mLstRg1, slots0, m__law_purse, mLc, lcD, fSlL, cutD, f_mul, e_pow18, cut, fSum, overInts, intsOf, purse]
  | cons n ns =>
    refine ⟨if 1000000000000000000 ≤ 2 * (if n < 0 then -n else n) + (if n < 0 then 1 else 0) then 2 * (if n < 0 then -n else n) + (if n < 0 then 1 else 0) else 0, (2 * (if n < 0 then -n else n) + (if n < 0 then 1 else 0) + 12345) % 2147483629, 0, ?_⟩
    simp only [F__law_purse, fnM]
    have : (0 : Int) < (ns.length : Int) + 1 := by omega
    by_cases h : n < 0
    · by_cases h2 : 1000000000000000000 ≤ 2 * (-n) + 1
      · simp [sSeq, sNext, sSet, sDrop, sRet, sRetN, sIf, sAug, sAsg, sBreak, mVar, mC, mOp, m2, mBind, mCall, mCallM, mNil, mCons, mTup, mLst, mLstC, mTest, mAnd, mOr, mNot, mOfT, mIf, mUn, mTru, mIL, mIE, mIZLT, tgN, tg2, tgT, tgs, tgs0, mYes, mFor, mFrz, mAppend, toC, sPre, sPost, mNo, mPart, mSl, mChain, mChain3, mBM, mFld, mMeth, wipeS, flatSl, deref, mBor, tBorT, scalarD, mIxC, mDNewT, mLstRg1, slots0, m__law_purse, f_mul, e_pow18, cut, purse, this, h, h2]
      · simp [sSeq, sNext, sSet, sDrop, sRet, sRetN, sIf, sAug, sAsg, sBreak, mVar, mC, mOp, m2, mBind, mCall, mCallM, mNil, mCons, mTup, mLst, mLstC, mTest, mAnd, mOr, mNot, mOfT, mIf, mUn, mTru, mIL, mIE, mIZLT, tgN, tg2, tgT, tgs, tgs0, mYes, mFor, mFrz, mAppend, toC, sPre, sPost, mNo, mPart, mSl, mChain, mChain3, mBM, mFld, mMeth, wipeS, flatSl, deref, mBor, tBorT, scalarD, mIxC, mDNewT, mLstRg1, slots0, m__law_purse, f_mul, e_pow18, cut, purse, this, h, h2]
    · by_cases h2 : 1000000000000000000 ≤ 2 * n
      · simp [sSeq, sNext, sSet, sDrop, sRet, sRetN, sIf, sAug, sAsg, sBreak, mVar, mC, mOp, m2, mBind, mCall, mCallM, mNil, mCons, mTup, mLst, mLstC, mTest, mAnd, mOr, mNot, mOfT, mIf, mUn, mTru, mIL, mIE, mIZLT, tgN, tg2, tgT, tgs, tgs0, mYes, mFor, mFrz, mAppend, toC, sPre, sPost, mNo, mPart, mSl, mChain, mChain3, mBM, mFld, mMeth, wipeS, flatSl, deref, mBor, tBorT, scalarD, mIxC, mDNewT, mLstRg1, slots0, m__law_purse, f_mul, e_pow18, cut, purse, this, h, h2]
      · simp [sSeq, sNext, sSet, sDrop, sRet, sRetN, sIf, sAug, sAsg, sBreak, mVar, mC, mOp, m2, mBind, mCall, mCallM, mNil, mCons, mTup, mLst, mLstC, mTest, mAnd, mOr, mNot, mOfT, mIf, mUn, mTru, mIL, mIE, mIZLT, tgN, tg2, tgT, tgs, tgs0, mYes, mFor, mFrz, mAppend, toC, sPre, sPost, mNo, mPart, mSl, mChain, mChain3, mBM, mFld, mMeth, wipeS, flatSl, deref, mBor, tBorT, scalarD, mIxC, mDNewT, mLstRg1, slots0, m__law_purse, f_mul, e_pow18, cut, purse, this, h, h2]
end Fw
set_option maxRecDepth 100000
set_option maxHeartbeats 4000000
namespace Fw
open PySem PySem.Spec PyProof.Rows L2
theorem set_app {cs ds : List Cell} {k : Nat} {p : Cell} (h : k < cs.length) : (cs ++ ds).set k p = cs.set k p ++ ds := List.set_append_left _ _ h
theorem PurseAt.app {cs ds : List Cell} {k : Nat} (h : PurseAt cs k) : PurseAt (cs ++ ds) k := by
  have hl := h.lt
  obtain ⟨a, b, c, h⟩ := h
  exact ⟨a, b, c, by rw [List.getElem?_append_left hl]; exact h⟩
theorem PurseAt.of_app {cs ds : List Cell} {k : Nat} (hl : k < cs.length) (h : PurseAt (cs ++ ds) k) : PurseAt cs k := by
  obtain ⟨a, b, c, h⟩ := h
  exact ⟨a, b, c, by rwa [List.getElem?_append_left hl] at h⟩
/-- a draw over cells with more behind them -/
theorem e_draw' {cs ds : List Cell} {k : Nat} {many : Int} (hp : PurseAt cs k) (h0 : 0 < many) (h1 : many < 1073741824) :
    ∃ r p, F__law_draw [.c k, .p (.int many)] (cs ++ ds) = some (.p (.int r), cs.set k p ++ ds) ∧ PurseAt (cs.set k p) k ∧ 0 ≤ r ∧ r < many := by
  obtain ⟨r, p, h, hq, h2, h3⟩ := e_draw (hp.app (ds := ds)) h0 h1
  rw [set_app hp.lt] at h hq
  exact ⟨r, p, h, hq.of_app (by rw [List.length_set]; exact hp.lt), h2, h3⟩
theorem set_set_c {cs : List Cell} {k : Nat} {p q : Cell} : (cs.set k p).set k q = cs.set k q := List.set_set ..
theorem app_get {cs : List Cell} {x : Cell} : (cs ++ [x])[cs.length]? = some x := by simp
theorem app_get' {cs : List Cell} {k : Nat} {p x : Cell} : (cs.set k p ++ [x])[cs.length]? = some x := by
  rw [List.getElem?_append_right (by rw [List.length_set]; exact Nat.le_refl _), List.length_set, Nat.sub_self]; rfl
theorem app_set' {cs : List Cell} {k : Nat} {p x y : Cell} : (cs.set k p ++ [x]).set cs.length y = cs.set k p ++ [y] := by
  rw [List.set_append_right _ _ (by rw [List.length_set]; exact Nat.le_refl _), List.length_set, Nat.sub_self]; rfl
theorem e_drawn_sizes {cs : List Cell} {k : Nat} {many : Int} (hp : PurseAt cs k) (hc : Clo cs) (h0 : 0 ≤ many) (h1 : many ≤ 1000) :
    ∃ sizes p, F__law_drawn_sizes [.c k, .p (.int many)] cs = some (.p (dI sizes), cs.set k p) ∧ PurseAt (cs.set k p) k ∧ (sizes.length : Int) = many ∧ ∀ s ∈ sizes, 1 ≤ s ∧ s ≤ 4 := by
  have hl := hp.lt
  have loop : ∃ ρ' cs', forD (tgN 4) m__law_drawn_sizes_b1 cs.length (rangeD 0 many.toNat) [some (.c k), some (.p (.int many)), some (.c cs.length), some (.p (.int 1)), none, none] (cs ++ [.lst []]) = some (.nx ρ' cs') ∧
      ∃ (sizes : List Int) (rows : Int) (p : Cell) (x4 x5 : Option E), ρ' = [some (.c k), some (.p (.int many)), some (.c cs.length), some (.p (.int rows)), x4, x5] ∧ cs' = cs.set k p ++ [.lst (lI sizes)] ∧ PurseAt (cs.set k p) k ∧ sizes.length = (rangeD 0 many.toNat).length ∧ ∀ s ∈ sizes, 1 ≤ s ∧ s ≤ 4 := by
    refine for_inv (fun i ρ' cs' => ∃ (sizes : List Int) (rows : Int) (p : Cell) (x4 x5 : Option E), ρ' = [some (.c k), some (.p (.int many)), some (.c cs.length), some (.p (.int rows)), x4, x5] ∧ cs' = cs.set k p ++ [.lst (lI sizes)] ∧ PurseAt (cs.set k p) k ∧ sizes.length = i ∧ ∀ s ∈ sizes, (1 : Int) ≤ s ∧ s ≤ 4) ?_ ?_
    · obtain ⟨a, b, c, h⟩ := hp
      have e : cs.set k (purse a b c) = cs := by
        rw [List.getElem?_eq_getElem hl] at h
        rw [← Option.some.inj h, List.set_getElem_self]
      exact ⟨[], 1, purse a b c, none, none, rfl, by rw [e]; simp, by rw [e]; exact ⟨a, b, c, h⟩, rfl, by simp⟩
    · rintro i d ρ cs1 hd ⟨sizes, rows, p, x4, x5, rfl, rfl, hq, hlen, hs⟩
      have hi : i < 100000 := by
        have := (List.getElem?_eq_some_iff.mp hd).1
        rw [rangeD, List.length_map, List.length_range] at this
        omega
      obtain ⟨r, p', e1, hq', r0, r1⟩ := e_draw' (ds := [.lst (lI sizes)]) (many := 4) hq (by omega) (by omega)
      rw [set_set_c] at e1 hq'
      refine ⟨_, rfl, ?_⟩
      have m1 : fMul (.int rows) (.int (1 + r)) = some (.int (rows * (1 + r))) := f_mul (.inr ⟨by omega, by omega⟩)
      have hlt : sizes.length < 100000 := by omega
      by_cases c : 200 < rows * (1 + r)
      · refine ⟨[some (.c k), some (.p (.int many)), some (.c cs.length), some (.p (.int rows)), some (.p d), some (.p (.int 1))], cs.set k p' ++ [.lst (lI (sizes ++ [1]))], ?_, sizes ++ [1], rows, p', some (.p d), some (.p (.int 1)), rfl, rfl, hq', by simp [hlen], fun s hs' => ?_⟩
        · simp [sSeq, sNext, sSet, sDrop, sRet, sRetN, sIf, sAug, sAsg, sBreak, mVar, mC, mOp, m2, mBind, mCall, mCallM, mNil, mCons, mTup, mLst, mLstC, mTest, mAnd, mOr, mNot, mOfT, mIf, mUn, mTru, mIL, mIE, mIZLT, tgN, tg2, tgT, tgs, tgs0, mYes, mFor, mFrz, mAppend, toC, sPre, sPost, mNo, mPart, mSl, mChain, mChain3, mBM, mFld, mMeth, wipeS, flatSl, deref, mBor, tBorT, scalarD, mIxC, mDNewT, mLstRg1, m__law_drawn_sizes_b1, e1, m1, c, app_get', app_set', hlt, f_mul]
        · rcases List.mem_append.mp hs' with z | z
          · exact hs s z
          · simp at z; omega
      · refine ⟨[some (.c k), some (.p (.int many)), some (.c cs.length), some (.p (.int (rows * (1 + r)))), some (.p d), some (.p (.int (1 + r)))], cs.set k p' ++ [.lst (lI (sizes ++ [1 + r]))], ?_, sizes ++ [1 + r], rows * (1 + r), p', some (.p d), some (.p (.int (1 + r))), rfl, rfl, hq', by simp [hlen], fun s hs' => ?_⟩
        · simp [sSeq, sNext, sSet, sDrop, sRet, sRetN, sIf, sAug, sAsg, sBreak, mVar, mC, mOp, m2, mBind, mCall, mCallM, mNil, mCons, mTup, mLst, mLstC, mTest, mAnd, mOr, mNot, mOfT, mIf, mUn, mTru, mIL, mIE, mIZLT, tgN, tg2, tgT, tgs, tgs0, mYes, mFor, mFrz, mAppend, toC, sPre, sPost, mNo, mPart, mSl, mChain, mChain3, mBM, mFld, mMeth, wipeS, flatSl, deref, mBor, tBorT, scalarD, mIxC, mDNewT, mLstRg1, m__law_drawn_sizes_b1, e1, m1, c, app_get', app_set', hlt, f_mul]
        · rcases List.mem_append.mp hs' with z | z
          · exact hs s z
          · simp at z; omega
  obtain ⟨ρ', cs', e, sizes, rows, p, x4, x5, rfl, rfl, hq, hlen, hs⟩ := loop
  refine ⟨sizes, p, ?_, hq, by rw [hlen, rangeD, List.length_map, List.length_range]; omega, hs⟩
  have hr : mIR1 (mCons (mVar 1) mNil) cs.length [some (.c k), some (.p (.int many)), some (.c cs.length), some (.p (.int 1)), none, none] (cs ++ [.lst []]) = some (rangeD 0 many.toNat, cs ++ [.lst []]) :=
    x_ir1 (j := many) (by simp [sSeq, sNext, sSet, sDrop, sRet, sRetN, sIf, sAug, sAsg, sBreak, mVar, mC, mOp, m2, mBind, mCall, mCallM, mNil, mCons, mTup, mLst, mLstC, mTest, mAnd, mOr, mNot, mOfT, mIf, mUn, mTru, mIL, mIE, mIZLT, tgN, tg2, tgT, tgs, tgs0, mYes, mFor, mFrz, mAppend, toC, sPre, sPost, mNo, mPart, mSl, mChain, mChain3, mBM, mFld, mMeth, wipeS, flatSl, deref, mBor, tBorT, scalarD, mIxC, mDNewT, mLstRg1, ]) (by omega) (by omega)
  have cut := cutM_clo (d := dI sizes) (cs := cs.set k p) (ds := [.gone]) (hc.set (k := k) (p := p) (hq.isP hl)) List.length_set
  simp only [F__law_drawn_sizes, fnM]
  simp [sSeq, sNext, sSet, sDrop, sRet, sRetN, sIf, sAug, sAsg, sBreak, mVar, mC, mOp, m2, mBind, mCall, mCallM, mNil, mCons, mTup, mLst, mLstC, mTest, mAnd, mOr, mNot, mOfT, mIf, mUn, mTru, mIL, mIE, mIZLT, tgN, tg2, tgT, tgs, tgs0, mYes, mFor, mFrz, mAppend, toC, sPre, sPost, mNo, mPart, mSl, mChain, mChain3, mBM, mFld, mMeth, wipeS, flatSl, deref, mBor, tBorT, scalarD, mIxC, mDNewT, mLstRg1, slots0, m__law_drawn_sizes, hr, e, app_get', app_set', cut]
end Fw
set_option maxRecDepth 100000
set_option maxHeartbeats 4000000
namespace Fw
open PySem PySem.Spec PyProof.Rows L2
theorem PurseAt.self {cs : List Cell} {k : Nat} (hp : PurseAt cs k) : ∃ p, cs.set k p = cs ∧ PurseAt (cs.set k p) k := by
  have hl := hp.lt
  obtain ⟨a, b, c, h⟩ := hp
  have e : cs.set k (purse a b c) = cs := by
    rw [List.getElem?_eq_getElem hl] at h
    rw [← Option.some.inj h, List.set_getElem_self]
  exact ⟨_, e, by rw [e]; exact ⟨a, b, c, h⟩⟩
theorem two_get0 {cs : List Cell} {k : Nat} {p x y : Cell} : (cs.set k p ++ [x, y])[cs.length]? = some x := by
  rw [List.getElem?_append_right (by rw [List.length_set]; exact Nat.le_refl _), List.length_set, Nat.sub_self]; rfl
theorem two_get1 {cs : List Cell} {k : Nat} {p x y : Cell} : (cs.set k p ++ [x, y])[cs.length + 1]? = some y := by
  rw [List.getElem?_append_right (by rw [List.length_set]; omega), List.length_set, Nat.add_sub_cancel_left]; rfl
theorem two_set0 {cs : List Cell} {k : Nat} {p x y z : Cell} : (cs.set k p ++ [x, y]).set cs.length z = cs.set k p ++ [z, y] := by
  rw [List.set_append_right _ _ (by rw [List.length_set]; exact Nat.le_refl _), List.length_set, Nat.sub_self]; rfl
theorem two_set1 {cs : List Cell} {k : Nat} {p x y z : Cell} : (cs.set k p ++ [x, y]).set (cs.length + 1) z = cs.set k p ++ [x, z] := by
  rw [List.set_append_right _ _ (by rw [List.length_set]; omega), List.length_set, Nat.add_sub_cancel_left]; rfl
theorem mem_erase {α : Type} {x : α} {xs : List α} {i : Nat} (h : x ∈ xs.eraseIdx i) : x ∈ xs := (List.eraseIdx_sublist xs i).subset h
theorem e_mix {cs : List Cell} {k : Nat} {xs : List Int} (hp : PurseAt cs k) (hc : Clo cs) (hx : xs.length ≤ 1000) :
    ∃ ys p, F__law_mix [.c k, .p (dI xs)] cs = some (.p (dI ys), cs.set k p) ∧ PurseAt (cs.set k p) k ∧ ys.length = xs.length ∧ ∀ y ∈ ys, y ∈ xs := by
  have hl := hp.lt
  have loop : ∃ ρ' cs', forD (tgN 4) m__law_mix_b1 cs.length (rangeD 0 xs.length) [some (.c k), some (.p (dI xs)), some (.c cs.length), some (.c (cs.length + 1)), none] (cs ++ [.lst (lI xs), .lst []]) = some (.nx ρ' cs') ∧
      ∃ (ls ys : List Int) (p : Cell) (x4 : Option E), ρ' = [some (.c k), some (.p (dI xs)), some (.c cs.length), some (.c (cs.length + 1)), x4] ∧ cs' = cs.set k p ++ [.lst (lI ls), .lst (lI ys)] ∧ PurseAt (cs.set k p) k ∧
        ls.length + (rangeD 0 xs.length).length = xs.length ∧ ys.length = (rangeD 0 xs.length).length ∧ (∀ y ∈ ls, y ∈ xs) ∧ ∀ y ∈ ys, y ∈ xs := by
    refine for_inv (fun i ρ' cs' => ∃ (ls ys : List Int) (p : Cell) (x4 : Option E), ρ' = [some (.c k), some (.p (dI xs)), some (.c cs.length), some (.c (cs.length + 1)), x4] ∧ cs' = cs.set k p ++ [.lst (lI ls), .lst (lI ys)] ∧ PurseAt (cs.set k p) k ∧
        ls.length + i = xs.length ∧ ys.length = i ∧ (∀ y ∈ ls, y ∈ xs) ∧ ∀ y ∈ ys, y ∈ xs) ?_ ?_
    · obtain ⟨p, e, hq⟩ := hp.self
      exact ⟨xs, [], p, none, rfl, by rw [e]; simp, hq, rfl, rfl, fun _ h => h, by simp⟩
    · rintro i d ρ cs1 hd ⟨ls, ys, p, x4, rfl, rfl, hq, h1, h2, h3, h4⟩
      have hi : i < xs.length := by
        have := (List.getElem?_eq_some_iff.mp hd).1
        rwa [rangeD, List.length_map, List.length_range] at this
      obtain ⟨r, p', e1, hq', r0, r1⟩ := e_draw' (ds := [.lst (lI ls), .lst (lI ys)]) (many := (ls.length : Int)) hq (by omega) (by omega)
      rw [set_set_c] at e1 hq'
      have hr : r.toNat < ls.length := by omega
      have g : ls[r.toNat]? = some ls[r.toNat] := List.getElem?_eq_getElem hr
      refine ⟨_, rfl, [some (.c k), some (.p (dI xs)), some (.c cs.length), some (.c (cs.length + 1)), some (.p d)], cs.set k p' ++ [.lst (lI (ls.eraseIdx r.toNat)), .lst (lI (ys ++ [ls[r.toNat]]))], ?_, ls.eraseIdx r.toNat, ys ++ [ls[r.toNat]], p', some (.p d), rfl, rfl, hq', ?_, by simp [h2], fun y hy => h3 y (mem_erase hy), fun y hy => ?_⟩
      · have hy : ys.length < 100000 := by omega
        have pop : mPopAt (mVar 2) (mCons (mCallM F__law_draw (mCons (mVar 0) (mCons (mBor (mCall fLen (mCons (mVar 2) mNil))) mNil))) mNil) cs.length [some (.c k), some (.p (dI xs)), some (.c cs.length), some (.c (cs.length + 1)), some (.p d)] (cs.set k p ++ [.lst (lI ls), .lst (lI ys)]) =
            some (.p (.int ls[r.toNat]), cs.set k p' ++ [.lst (lI (ls.eraseIdx r.toNat)), .lst (lI ys)]) := by
          have := x_popAt (n := cs.length) (ρ := [some (.c k), some (.p (dI xs)), some (.c cs.length), some (.c (cs.length + 1)), some (.p d)]) (cs := cs.set k p ++ [.lst (lI ls), .lst (lI ys)]) (cs1 := cs.set k p ++ [.lst (lI ls), .lst (lI ys)]) (mo := mVar 2) (ma := mCons (mCallM F__law_draw (mCons (mVar 0) (mCons (mBor (mCall fLen (mCons (mVar 2) mNil))) mNil))) mNil)
            (k := cs.length) (es0 := lI ls) (es := lI ls) (i := r) (e := .p (.int ls[r.toNat])) (cs2 := cs.set k p' ++ [.lst (lI ls), .lst (lI ys)]) (x_var rfl) two_get0 (by simp [sSeq, sNext, sSet, sDrop, sRet, sRetN, sIf, sAug, sAsg, sBreak, mVar, mC, mOp, m2, mBind, mCall, mCallM, mNil, mCons, mTup, mLst, mLstC, mTest, mAnd, mOr, mNot, mOfT, mIf, mUn, mTru, mIL, mIE, mIZLT, tgN, tg2, tgT, tgs, tgs0, mYes, mFor, mFrz, mAppend, toC, sPre, sPost, mNo, mPart, mSl, mChain, mChain3, mBM, mFld, mMeth, wipeS, flatSl, deref, mBor, tBorT, scalarD, mIxC, mDNewT, mLstRg1, two_get0, two_get1, e1]) two_get0 r0 (by omega) (by rw [lI_get, g]; rfl)
          rw [two_set0, lI_erase] at this
          exact this
        simp [sSeq, sNext, sSet, sDrop, sRet, sRetN, sIf, sAug, sAsg, sBreak, mVar, mC, mOp, m2, mBind, mCall, mCallM, mNil, mCons, mTup, mLst, mLstC, mTest, mAnd, mOr, mNot, mOfT, mIf, mUn, mTru, mIL, mIE, mIZLT, tgN, tg2, tgT, tgs, tgs0, mYes, mFor, mFrz, mAppend, toC, sPre, sPost, mNo, mPart, mSl, mChain, mChain3, mBM, mFld, mMeth, wipeS, flatSl, deref, mBor, tBorT, scalarD, mIxC, mDNewT, mLstRg1, m__law_mix_b1, pop, two_get0, two_get1, two_set0, two_set1, hy]
      · rw [List.length_eraseIdx_of_lt hr]; omega
      · rcases List.mem_append.mp hy with z | z
        · exact h4 y z
        · simp at z; subst z; exact h3 _ (List.getElem_mem hr)
  obtain ⟨ρ', cs', e, ls, ys, p, x4, rfl, rfl, hq, h1, h2, h3, h4⟩ := loop
  refine ⟨ys, p, ?_, hq, by rw [h2, rangeD, List.length_map, List.length_range], h4⟩
  have cut := cutM_clo (d := dI ys) (cs := cs.set k p) (ds := [.lst (lI ls), .gone]) (hc.set (k := k) (p := p) (hq.isP hl)) List.length_set
  have hr : mIR1 (mCons (mCall fLen (mCons (mVar 1) mNil)) mNil) cs.length [some (.c k), some (.p (dI xs)), some (.c cs.length), some (.c (cs.length + 1)), none] (cs ++ [.lst (lI xs), .lst []]) = some (rangeD 0 xs.length, cs ++ [.lst (lI xs), .lst []]) := by
    have := x_ir1 (ma := mCons (mCall fLen (mCons (mVar 1) mNil)) mNil) (n := cs.length) (ρ := [some (.c k), some (.p (dI xs)), some (.c cs.length), some (.c (cs.length + 1)), none]) (cs := cs ++ [.lst (lI xs), .lst []]) (j := (xs.length : Int)) (cs1 := cs ++ [.lst (lI xs), .lst []]) (by simp [sSeq, sNext, sSet, sDrop, sRet, sRetN, sIf, sAug, sAsg, sBreak, mVar, mC, mOp, m2, mBind, mCall, mCallM, mNil, mCons, mTup, mLst, mLstC, mTest, mAnd, mOr, mNot, mOfT, mIf, mUn, mTru, mIL, mIE, mIZLT, tgN, tg2, tgT, tgs, tgs0, mYes, mFor, mFrz, mAppend, toC, sPre, sPost, mNo, mPart, mSl, mChain, mChain3, mBM, mFld, mMeth, wipeS, flatSl, deref, mBor, tBorT, scalarD, mIxC, mDNewT, mLstRg1, ]) (by omega) (by omega)
    simpa using this
  have b1 : sSet 2 (toC (mCall fListOf (mCons (mVar 1) mNil))) cs.length [some (.c k), some (.p (dI xs)), none, none, none] cs = some (.nx [some (.c k), some (.p (dI xs)), some (.c cs.length), none, none] (cs ++ [.lst (lI xs)])) := by simp [sSeq, sNext, sSet, sDrop, sRet, sRetN, sIf, sAug, sAsg, sBreak, mVar, mC, mOp, m2, mBind, mCall, mCallM, mNil, mCons, mTup, mLst, mLstC, mTest, mAnd, mOr, mNot, mOfT, mIf, mUn, mTru, mIL, mIE, mIZLT, tgN, tg2, tgT, tgs, tgs0, mYes, mFor, mFrz, mAppend, toC, sPre, sPost, mNo, mPart, mSl, mChain, mChain3, mBM, mFld, mMeth, wipeS, flatSl, deref, mBor, tBorT, scalarD, mIxC, mDNewT, mLstRg1, ]
  have b2 : sSet 3 (mLstC mNil) cs.length [some (.c k), some (.p (dI xs)), some (.c cs.length), none, none] (cs ++ [.lst (lI xs)]) = some (.nx [some (.c k), some (.p (dI xs)), some (.c cs.length), some (.c (cs.length + 1)), none] (cs ++ [.lst (lI xs), .lst []])) := by simp [sSeq, sNext, sSet, sDrop, sRet, sRetN, sIf, sAug, sAsg, sBreak, mVar, mC, mOp, m2, mBind, mCall, mCallM, mNil, mCons, mTup, mLst, mLstC, mTest, mAnd, mOr, mNot, mOfT, mIf, mUn, mTru, mIL, mIE, mIZLT, tgN, tg2, tgT, tgs, tgs0, mYes, mFor, mFrz, mAppend, toC, sPre, sPost, mNo, mPart, mSl, mChain, mChain3, mBM, mFld, mMeth, wipeS, flatSl, deref, mBor, tBorT, scalarD, mIxC, mDNewT, mLstRg1, ]
  have b4 : sRet (mFrz (mVar 3)) cs.length [some (E.c k), some (E.p (dI xs)), some (E.c cs.length), some (E.c (cs.length + 1)), x4] (cs.set k p ++ [Cell.lst (lI ls), Cell.lst (lI ys)]) = some (.rt (.p (dI ys)) (cs.set k p ++ [Cell.lst (lI ls), .gone])) := by simp [sSeq, sNext, sSet, sDrop, sRet, sRetN, sIf, sAug, sAsg, sBreak, mVar, mC, mOp, m2, mBind, mCall, mCallM, mNil, mCons, mTup, mLst, mLstC, mTest, mAnd, mOr, mNot, mOfT, mIf, mUn, mTru, mIL, mIE, mIZLT, tgN, tg2, tgT, tgs, tgs0, mYes, mFor, mFrz, mAppend, toC, sPre, sPost, mNo, mPart, mSl, mChain, mChain3, mBM, mFld, mMeth, wipeS, flatSl, deref, mBor, tBorT, scalarD, mIxC, mDNewT, mLstRg1, two_get1, two_set1]
  refine (x_fnM_rt (es := [.c k, .p (dI xs)]) (e := .p (dI ys)) (cs1 := cs.set k p ++ [.lst (lI ls), .gone]) rfl ?_).trans (congrArg some cut)
  show m__law_mix _ [some (.c k), some (.p (dI xs)), none, none, none] _ = _
  rw [m__law_mix, x_seq_nx b1, x_seq_nx b2, x_seq_nx ((x_for hr).trans e)]
  exact b4
end Fw
set_option maxRecDepth 100000
set_option maxHeartbeats 4000000
namespace Fw
open PySem PySem.Spec PyProof.Rows L2 Mx
def rgF (lo : Int) (n : Nat) : List Int := (List.range n).map fun (i : Nat) => lo + (i : Int)
theorem rangeD_rgF {lo : Int} {n : Nat} : rangeD lo n = (rgF lo n).map D.int := by rw [rangeD, rgF, List.map_map]; rfl
theorem mem_rgF {lo x : Int} {n : Nat} : x ∈ rgF lo n ↔ lo ≤ x ∧ x < lo + n := by
  simp only [rgF, List.mem_map, List.mem_range]
  constructor
  · rintro ⟨i, h, rfl⟩; omega
  · intro h; exact ⟨(x - lo).toNat, by omega, by omega⟩
def sideStep (ps acc : List Int) (h : Int) : List Int := if acc.contains (ps.getD (h - 1).toNat 0) = true then acc ++ [h] else acc
def sideOf (ps : List Int) (v : Int) : List Int := (rgF (v + 1) ((ps.length : Int) - v).toNat).foldl (sideStep ps) [v]
theorem side_len (ps : List Int) : ∀ (hs acc : List Int), (hs.foldl (sideStep ps) acc).length ≤ acc.length + hs.length
  | [], acc => by simp
  | h :: hs, acc => by
    rw [List.foldl_cons]
    have := side_len ps hs (sideStep ps acc h)
    have e : (sideStep ps acc h).length ≤ acc.length + 1 := by unfold sideStep; split <;> simp
    rw [List.length_cons]; omega
theorem atI_ints {xs : List Int} {i : Int} (h0 : 0 ≤ i) (h : i < xs.length) : atI (xs.map D.int) i = some (.int (xs.getD i.toNat 0)) := by
  have hl : i.toNat < xs.length := by omega
  rw [atI_map h0 (List.getElem?_eq_getElem hl)]
  simp [hl]
theorem side_core {ps : List Int} {v : Int} (h0 : 0 ≤ v) (h1 : v ≤ ps.length) (hs : ps.length ≤ 1000) {b : MS}
    (hb : b = sIf (tBorT (mTest (mOp (fInD false) (mOp fIxL (mVar 0) (mOp fSub (mVar 3) (mC (.int 1)))) (mVar 2)))) (sDrop (mAppend (mVar 2) (mCons (mVar 3) mNil))) sNext) :
    ∃ x3, forD (tgN 3) b 0 (rangeD (v + 1) ((ps.length : Int) + 1 - (v + 1)).toNat) [some (.p (dI ps)), some (.p (.int v)), some (.c 0), none] [.lst (lI [v])] = some (.nx [some (.p (dI ps)), some (.p (.int v)), some (.c 0), x3] [.lst (lI (sideOf ps v))]) := by
  have e : ((ps.length : Int) + 1 - (v + 1)).toNat = ((ps.length : Int) - v).toNat := by congr 1; omega
  rw [e, rangeD_rgF]
  have := for_fold (n := 0) (tg := tgN 3) (body := b) (ρ := [some (.p (dI ps)), some (.p (.int v)), some (.c 0), none]) (cs := [.lst (lI [v])]) (xs := rgF (v + 1) ((ps.length : Int) - v).toNat) (s0 := [v]) D.int
    (fun i acc ρ cs => acc.length ≤ i + 1 ∧ ∃ x3, ρ = [some (.p (dI ps)), some (.p (.int v)), some (.c 0), x3] ∧ cs = [.lst (lI acc)]) (sideStep ps) ⟨by simp, none, rfl, rfl⟩ ?_
  · obtain ⟨ρ', cs', e1, _, x3, rfl, rfl⟩ := this
    exact ⟨x3, e1⟩
  · rintro i h acc ρ cs hx ⟨hl, x3, rfl, rfl⟩
    have hm := mem_rgF.mp (List.mem_of_getElem? hx)
    have hi : i < 2000 := by
      have := (List.getElem?_eq_some_iff.mp hx).1
      rw [rgF, List.length_map, List.length_range] at this
      omega
    obtain ⟨x, hx'⟩ : ∃ x, ps.getD (h - 1).toNat 0 = x := ⟨_, rfl⟩
    have ix : atI (ps.map D.int) (h - 1) = some (.int x) := by rw [← hx']; exact atI_ints (by omega) (by omega)
    have ha : acc.length < 100000 := by omega
    have q := f_inI (neg := false) (x := x) (xs := acc)
    refine ⟨_, rfl, [some (.p (dI ps)), some (.p (.int v)), some (.c 0), some (.p (.int h))], [.lst (lI (sideStep ps acc h))], ?_, ?_, some (.p (.int h)), rfl, rfl⟩
    · rw [hb]
      unfold sideStep
      rw [hx']
      by_cases c : acc.contains x = true
      · rw [c] at q
        rw [if_pos c]
        simp [sSeq, sNext, sSet, sDrop, sRet, sRetN, sIf, sAug, sAsg, sBreak, mVar, mC, mOp, m2, mBind, mCall, mCallM, mNil, mCons, mTup, mLst, mLstC, mTest, mAnd, mOr, mNot, mOfT, mIf, mUn, mTru, mIL, mIE, mIZLT, tgN, tg2, tgT, tgs, tgs0, mYes, mFor, mFrz, mAppend, toC, sPre, sPost, mNo, mPart, mSl, mChain, mChain3, mBM, mFld, mMeth, wipeS, flatSl, deref, mBor, tBorT, scalarD, mIxC, mDNewT, mLstRg1, ix, q, ha]
      · rw [Bool.eq_false_iff.mpr c] at q
        rw [if_neg c]
        simp [sSeq, sNext, sSet, sDrop, sRet, sRetN, sIf, sAug, sAsg, sBreak, mVar, mC, mOp, m2, mBind, mCall, mCallM, mNil, mCons, mTup, mLst, mLstC, mTest, mAnd, mOr, mNot, mOfT, mIf, mUn, mTru, mIL, mIE, mIZLT, tgN, tg2, tgT, tgs, tgs0, mYes, mFor, mFrz, mAppend, toC, sPre, sPost, mNo, mPart, mSl, mChain, mChain3, mBM, mFld, mMeth, wipeS, flatSl, deref, mBor, tBorT, scalarD, mIxC, mDNewT, mLstRg1, ix, q, ha]
    · unfold sideStep
      split <;> (try simp) <;> omega
theorem x_ir2_nat {ma : MA} {i j : Int} {n : Nat} {ρ : Sl} {cs cs1 : List Cell} (h : ma n ρ cs = some ([.p (.int i), .p (.int j)], cs1)) (h1 : -1000000 ≤ i ∧ i ≤ 1000000) (h2 : -1000000 ≤ j ∧ j ≤ 1000000) : mIR2 ma n ρ cs = some (rangeD i (j - i).toNat, cs1) := x_ir2 h h1.1 h1.2 h2.1 h2.2
theorem e_side {ps : List Int} {v : Int} (h0 : 0 ≤ v) (h1 : v ≤ ps.length) (hs : ps.length ≤ 1000) : F_side_of [dI ps, .int v] = some (dI (sideOf ps v)) := by
  obtain ⟨x3, e⟩ := side_core h0 h1 hs (b := m_side_of_b1) rfl
  have r := x_ir2_nat (n := 0) (ρ := [some (.p (dI ps)), some (.p (.int v)), some (.c 0), none]) (cs := [.lst (lI [v])]) (cs1 := [.lst (lI [v])]) (ma := mCons (mOp fAdd (mVar 1) (mC (.int 1))) (mCons (mOp fAdd (mCall fLen (mCons (mVar 0) mNil)) (mC (.int 1))) mNil)) (i := v + 1) (j := (ps.length : Int) + 1) (by simp [sSeq, sNext, sSet, sDrop, sRet, sRetN, sIf, sAug, sAsg, sBreak, mVar, mC, mOp, m2, mBind, mCall, mCallM, mNil, mCons, mTup, mLst, mLstC, mTest, mAnd, mOr, mNot, mOfT, mIf, mUn, mTru, mIL, mIE, mIZLT, tgN, tg2, tgT, tgs, tgs0, mYes, mFor, mFrz, mAppend, toC, sPre, sPost, mNo, mPart, mSl, mChain, mChain3, mBM, mFld, mMeth, wipeS, flatSl, deref, mBor, tBorT, scalarD, mIxC, mDNewT, mLstRg1, ]) (by omega) (by omega)
  have b1 : sSet 2 (mLstC (mCons (mVar 1) mNil)) 0 [some (.p (dI ps)), some (.p (.int v)), none, none] [] = some (.nx [some (.p (dI ps)), some (.p (.int v)), some (.c 0), none] [.lst (lI [v])]) := by simp [sSeq, sNext, sSet, sDrop, sRet, sRetN, sIf, sAug, sAsg, sBreak, mVar, mC, mOp, m2, mBind, mCall, mCallM, mNil, mCons, mTup, mLst, mLstC, mTest, mAnd, mOr, mNot, mOfT, mIf, mUn, mTru, mIL, mIE, mIZLT, tgN, tg2, tgT, tgs, tgs0, mYes, mFor, mFrz, mAppend, toC, sPre, sPost, mNo, mPart, mSl, mChain, mChain3, mBM, mFld, mMeth, wipeS, flatSl, deref, mBor, tBorT, scalarD, mIxC, mDNewT, mLstRg1, lI]
  refine x_fnP_rt rfl (cs1 := [.gone]) ?_
  show m_side_of 0 [some (.p (dI ps)), some (.p (.int v)), none, none] [] = _
  rw [m_side_of, x_seq_nx b1, x_seq_nx ((x_for r).trans e)]
  simp [sSeq, sNext, sSet, sDrop, sRet, sRetN, sIf, sAug, sAsg, sBreak, mVar, mC, mOp, m2, mBind, mCall, mCallM, mNil, mCons, mTup, mLst, mLstC, mTest, mAnd, mOr, mNot, mOfT, mIf, mUn, mTru, mIL, mIE, mIZLT, tgN, tg2, tgT, tgs, tgs0, mYes, mFor, mFrz, mAppend, toC, sPre, sPost, mNo, mPart, mSl, mChain, mChain3, mBM, mFld, mMeth, wipeS, flatSl, deref, mBor, tBorT, scalarD, mIxC, mDNewT, mLstRg1, ]
theorem e_lside {ps : List Int} {v : Int} (h0 : 0 ≤ v) (h1 : v ≤ ps.length) (hs : ps.length ≤ 1000) : F__law_side [dI ps, .int v] = some (dI (sideOf ps v)) := by
  have e : F__law_side = F_side_of := rfl
  rw [e]; exact e_side h0 h1 hs
end Fw
set_option maxRecDepth 100000
set_option maxHeartbeats 4000000
namespace Fw
open PySem PySem.Spec PyProof.Rows L2 Mx
structure Sizes (ss : List Int) : Prop where
  rng : ∀ s ∈ ss, 1 ≤ s ∧ s ≤ 4
  len : ss.length ≤ 5
theorem rg_len {s : Int} : (rg s).length = s.toNat := by rw [rg, List.length_map, List.length_range]
theorem rg_rangeD {s : Int} : rangeD 0 s.toNat = (rg s).map D.int := by
  rw [rangeD, rg, List.map_map]
  congr 1
  funext i
  simp
theorem step_len {R : List (List Int)} {s : Int} : (rowStep R s).length = R.length * s.toNat := by
  unfold rowStep
  induction R with
  | nil => simp
  | cons r R ih => rw [List.flatMap_cons, List.length_append, ih, List.length_map, rg_len, List.length_cons]; rw [Nat.add_mul]; omega
theorem step_row {R : List (List Int)} {s : Int} {k : Nat} (h : ∀ r ∈ R, r.length = k) : ∀ r ∈ rowStep R s, r.length = k + 1 := fun r hr => by
  unfold rowStep at hr
  rw [List.mem_flatMap] at hr
  obtain ⟨a, ha, hb⟩ := hr
  rw [List.mem_map] at hb
  obtain ⟨v, _, rfl⟩ := hb
  rw [List.length_append, h a ha]; rfl
theorem pow4 : ∀ i, i ≤ 5 → 4 ^ i ≤ 1024 := by decide
theorem dRs_step {R : List (List Int)} {s : Int} : (rowStep R s).map dR = R.flatMap fun r => (rg s).map fun v => dR (r ++ [v]) := by
  unfold rowStep
  rw [List.map_flatMap]
  congr 1
  funext r
  rw [List.map_map]; rfl
theorem e_rows {ss : List Int} (h : Sizes ss) : F_rows_of [dI ss] = some (dRs (rowsL ss)) := by
  have b1 : sSet 1 (mLst (mCons (mTup mNil) mNil)) 0 [some (.p (dI ss)), none, none, none, none] [] = some (.nx [some (.p (dI ss)), some (.p (dRs [[]])), none, none, none] []) := by simp [sSeq, sNext, sSet, sDrop, sRet, sRetN, sIf, sAug, sAsg, sBreak, mVar, mC, mOp, m2, mBind, mCall, mCallM, mNil, mCons, mTup, mLst, mLstC, mTest, mAnd, mOr, mNot, mOfT, mIf, mUn, mTru, mIL, mIE, mIZLT, tgN, tg2, tgT, tgs, tgs0, mYes, mFor, mFrz, mAppend, toC, sPre, sPost, mNo, mPart, mSl, mChain, mChain3, mBM, mFld, mMeth, wipeS, flatSl, deref, mBor, tBorT, scalarD, mIxC, mDNewT, mLstRg1, dRs]
  have lp := for_fold (n := 0) (tg := tgN 2) (body := m_rows_of_b1) (ρ := [some (.p (dI ss)), some (.p (dRs [[]])), none, none, none]) (cs := []) (xs := ss) (s0 := [[]]) D.int
    (fun i R ρ cs => (∀ r ∈ R, r.length = i) ∧ R.length ≤ 4 ^ i ∧ ∃ x2 x3 x4, ρ = [some (.p (dI ss)), some (.p (dRs R)), x2, x3, x4] ∧ cs = []) rowStep ⟨by simp, by simp, none, none, none, rfl, rfl⟩ ?_
  · obtain ⟨ρ', cs', e, _, _, x2, x3, x4, rfl, rfl⟩ := lp
    rw [rowStep_rows] at e
    refine x_fnP_rt rfl (cs1 := []) ?_
    show m_rows_of 0 [some (.p (dI ss)), none, none, none, none] [] = _
    rw [m_rows_of, x_seq_nx b1, x_seq_nx ((x_for (x_il (x_var rfl))).trans e)]
    simp [sSeq, sNext, sSet, sDrop, sRet, sRetN, sIf, sAug, sAsg, sBreak, mVar, mC, mOp, m2, mBind, mCall, mCallM, mNil, mCons, mTup, mLst, mLstC, mTest, mAnd, mOr, mNot, mOfT, mIf, mUn, mTru, mIL, mIE, mIZLT, tgN, tg2, tgT, tgs, tgs0, mYes, mFor, mFrz, mAppend, toC, sPre, sPost, mNo, mPart, mSl, mChain, mChain3, mBM, mFld, mMeth, wipeS, flatSl, deref, mBor, tBorT, scalarD, mIxC, mDNewT, mLstRg1, ]
  · rintro i s R ρ cs hx ⟨hr, hl, x2, x3, x4, rfl, rfl⟩
    have hs := h.rng s (List.mem_of_getElem? hx)
    have hi := (List.getElem?_eq_some_iff.mp hx).1
    have h5 := h.len
    have b4 := pow4 (i + 1) (by omega)
    have b5 := pow4 i (by omega)
    have hl2 : (rowStep R s).length ≤ 4 ^ (i + 1) := by
      rw [step_len, Nat.pow_succ]
      exact Nat.mul_le_mul hl (by omega)
    refine ⟨_, rfl, [some (.p (dI ss)), some (.p (dRs (rowStep R s))), some (.p (.int s)), x3, x4], [], ?_, step_row hr, hl2, some (.p (.int s)), x3, x4, rfl, rfl⟩
    refine x_set (x_lc2 (ds := R.map dR) (cs1 := []) (es1 := (rowStep R s).map dR) (cs2 := []) (x_il (x_var rfl)) (by rw [List.length_map]; omega) ?_ (by rw [List.length_map]; omega))
    rw [dRs_step]
    refine lc2_map dR (fun _ => rg s) (fun _ => D.int) (fun r v => dR (r ++ [v])) fun r hr' => ⟨_, rfl, rfl, ?_, by rw [rg_len]; omega, fun v hv => ⟨_, rfl, rfl, ?_⟩⟩
    · rw [← rg_rangeD]
      exact x_ir1 (j := s) (by simp [sSeq, sNext, sSet, sDrop, sRet, sRetN, sIf, sAug, sAsg, sBreak, mVar, mC, mOp, m2, mBind, mCall, mCallM, mNil, mCons, mTup, mLst, mLstC, mTest, mAnd, mOr, mNot, mOfT, mIf, mUn, mTru, mIL, mIE, mIZLT, tgN, tg2, tgT, tgs, tgs0, mYes, mFor, mFrz, mAppend, toC, sPre, sPost, mNo, mPart, mSl, mChain, mChain3, mBM, mFld, mMeth, wipeS, flatSl, deref, mBor, tBorT, scalarD, mIxC, mDNewT, mLstRg1, ]) (by omega) (by omega)
    · have hrl := hr r hr'
      have : r.length + 1 ≤ 100000 := by omega
      simp [sSeq, sNext, sSet, sDrop, sRet, sRetN, sIf, sAug, sAsg, sBreak, mVar, mC, mOp, m2, mBind, mCall, mCallM, mNil, mCons, mTup, mLst, mLstC, mTest, mAnd, mOr, mNot, mOfT, mIf, mUn, mTru, mIL, mIE, mIZLT, tgN, tg2, tgT, tgs, tgs0, mYes, mFor, mFrz, mAppend, toC, sPre, sPost, mNo, mPart, mSl, mChain, mChain3, mBM, mFld, mMeth, wipeS, flatSl, deref, mBor, tBorT, scalarD, mIxC, mDNewT, mLstRg1, dR, this]
theorem e_lrows {ss : List Int} (h : Sizes ss) : F__law_rows_of [dI ss] = some (dRs (rowsL ss)) := by
  have b1 : sSet 1 (mLst (mCons (mTup mNil) mNil)) 0 [some (.p (dI ss)), none, none, none, none, none] [] = some (.nx [some (.p (dI ss)), some (.p (dRs [[]])), none, none, none, none] []) := by simp [sSeq, sNext, sSet, sDrop, sRet, sRetN, sIf, sAug, sAsg, sBreak, mVar, mC, mOp, m2, mBind, mCall, mCallM, mNil, mCons, mTup, mLst, mLstC, mTest, mAnd, mOr, mNot, mOfT, mIf, mUn, mTru, mIL, mIE, mIZLT, tgN, tg2, tgT, tgs, tgs0, mYes, mFor, mFrz, mAppend, toC, sPre, sPost, mNo, mPart, mSl, mChain, mChain3, mBM, mFld, mMeth, wipeS, flatSl, deref, mBor, tBorT, scalarD, mIxC, mDNewT, mLstRg1, dRs]
  have lp := for_fold (n := 0) (tg := tgN 2) (body := m__law_rows_of_b2) (ρ := [some (.p (dI ss)), some (.p (dRs [[]])), none, none, none, none]) (cs := []) (xs := ss) (s0 := [[]]) D.int
    (fun i R ρ cs => (∀ r ∈ R, r.length = i) ∧ R.length ≤ 4 ^ i ∧ ∃ x2 x3 x4 x5, ρ = [some (.p (dI ss)), some (.p (dRs R)), x2, x3, x4, x5] ∧ cs = []) rowStep ⟨by simp, by simp, none, none, none, none, rfl, rfl⟩ ?_
  · obtain ⟨ρ', cs', e, _, _, x2, x3, x4, x5, rfl, rfl⟩ := lp
    rw [rowStep_rows] at e
    refine x_fnP_rt rfl (cs1 := []) ?_
    show m__law_rows_of 0 [some (.p (dI ss)), none, none, none, none, none] [] = _
    rw [m__law_rows_of, x_seq_nx b1, x_seq_nx ((x_for (x_il (x_var rfl))).trans e)]
    simp [sSeq, sNext, sSet, sDrop, sRet, sRetN, sIf, sAug, sAsg, sBreak, mVar, mC, mOp, m2, mBind, mCall, mCallM, mNil, mCons, mTup, mLst, mLstC, mTest, mAnd, mOr, mNot, mOfT, mIf, mUn, mTru, mIL, mIE, mIZLT, tgN, tg2, tgT, tgs, tgs0, mYes, mFor, mFrz, mAppend, toC, sPre, sPost, mNo, mPart, mSl, mChain, mChain3, mBM, mFld, mMeth, wipeS, flatSl, deref, mBor, tBorT, scalarD, mIxC, mDNewT, mLstRg1, ]
  · rintro i s R ρ cs hx ⟨hr, hl, x2, x3, x4, x5, rfl, rfl⟩
    have hs := h.rng s (List.mem_of_getElem? hx)
    have hi := (List.getElem?_eq_some_iff.mp hx).1
    have h5 := h.len
    have b4 := pow4 (i + 1) (by omega)
    have b5 := pow4 i (by omega)
    have hl2 : (rowStep R s).length ≤ 4 ^ (i + 1) := by
      rw [step_len, Nat.pow_succ]
      exact Nat.mul_le_mul hl (by omega)
    -- the inner loop
    have inn := for_fold (n := 0) (tg := tgN 4) (body := m__law_rows_of_b1) (ρ := [some (.p (dI ss)), some (.p (dRs R)), some (.p (.int s)), some (.p (.lst [])), x4, x5]) (cs := []) (xs := R) (s0 := []) dR
      (fun j A ρ cs => A.length ≤ 4 * j ∧ ∃ x4 x5, ρ = [some (.p (dI ss)), some (.p (dRs R)), some (.p (.int s)), some (.p (dRs A)), x4, x5] ∧ cs = []) (fun A r => A ++ (rg s).map fun v => r ++ [v]) ⟨by simp, x4, x5, rfl, rfl⟩ ?_
    · obtain ⟨ρ', cs', e, _, y4, y5, rfl, rfl⟩ := inn
      have ef : R.foldl (fun A r => A ++ (rg s).map fun v => r ++ [v]) [] = rowStep R s := by
        have : ∀ (R A : List (List Int)), R.foldl (fun A r => A ++ (rg s).map fun v => r ++ [v]) A = A ++ rowStep R s := by
          intro R
          induction R with
          | nil => intro A; simp [rowStep]
          | cons r R ih => intro A; rw [List.foldl_cons, ih, List.append_assoc]; rfl
        rw [this, List.nil_append]
      rw [ef] at e
      refine ⟨_, rfl, [some (.p (dI ss)), some (.p (dRs (rowStep R s))), some (.p (.int s)), some (.p (dRs (rowStep R s))), y4, y5], [], ?_, step_row hr, hl2, some (.p (.int s)), some (.p (dRs (rowStep R s))), y4, y5, rfl, rfl⟩
      exact (x_seq_nx (x_set (x_lst x_nil p_nil (by simp)))).trans ((x_seq_nx ((x_for (x_il (x_var (i := 1) rfl))).trans e)).trans (x_set (x_var rfl)))
    · rintro j r A ρ cs hx2 ⟨hA, x4, x5, rfl, rfl⟩
      have hj := (List.getElem?_eq_some_iff.mp hx2).1
      have hrl := hr r (List.mem_of_getElem? hx2)
      have lc := lc_map (n := 0) (cs := []) (tg := tgN 5) (mt := mYes) (me := mOp fCatT (mVar 4) (mTup (mCons (mVar 5) mNil))) (ρw := [some (.p (dI ss)), some (.p (dRs R)), some (.p (.int s)), some (.p (dRs A)), some (.p (dR r)), none]) D.int (fun v => dR (r ++ [v])) (xs := rg s) fun v hv => ⟨_, rfl, rfl, by
        have : r.length + 1 ≤ 100000 := by omega
        simp [sSeq, sNext, sSet, sDrop, sRet, sRetN, sIf, sAug, sAsg, sBreak, mVar, mC, mOp, m2, mBind, mCall, mCallM, mNil, mCons, mTup, mLst, mLstC, mTest, mAnd, mOr, mNot, mOfT, mIf, mUn, mTru, mIL, mIE, mIZLT, tgN, tg2, tgT, tgs, tgs0, mYes, mFor, mFrz, mAppend, toC, sPre, sPost, mNo, mPart, mSl, mChain, mChain3, mBM, mFld, mMeth, wipeS, flatSl, deref, mBor, tBorT, scalarD, mIxC, mDNewT, mLstRg1, dR, this]⟩
      refine ⟨_, rfl, [some (.p (dI ss)), some (.p (dRs R)), some (.p (.int s)), some (.p (dRs (A ++ (rg s).map fun v => r ++ [v]))), some (.p (dR r)), x5], [], ?_, ?_, some (.p (dR r)), x5, rfl, rfl⟩
      · refine x_set (x_op (d1 := dRs A) (d2 := .lst ((rg s).map fun v => dR (r ++ [v]))) (cs1 := []) (cs2 := []) (x_var rfl) (x_lc (ds := (rg s).map D.int) (cs1 := []) ?_ (by rw [List.length_map, rg_len]; omega) lc) ?_)
        · rw [← rg_rangeD]
          exact x_ir1 (j := s) (by simp [sSeq, sNext, sSet, sDrop, sRet, sRetN, sIf, sAug, sAsg, sBreak, mVar, mC, mOp, m2, mBind, mCall, mCallM, mNil, mCons, mTup, mLst, mLstC, mTest, mAnd, mOr, mNot, mOfT, mIf, mUn, mTru, mIL, mIE, mIZLT, tgN, tg2, tgT, tgs, tgs0, mYes, mFor, mFrz, mAppend, toC, sPre, sPost, mNo, mPart, mSl, mChain, mChain3, mBM, mFld, mMeth, wipeS, flatSl, deref, mBor, tBorT, scalarD, mIxC, mDNewT, mLstRg1, ]) (by omega) (by omega)
        · rw [dRs, f_cat (by rw [List.length_map, List.length_map, rg_len]; omega), dRs, List.map_append, List.map_map]
          rfl
      · rw [List.length_append, List.length_map, rg_len]; omega
end Fw
set_option maxRecDepth 100000
set_option maxHeartbeats 4000000
namespace Fw
open PySem PySem.Spec PyProof.Rows L2 Mx
theorem zip_ints {S r : List Int} : zipD (S.map D.int) (r.map D.int) = (S.zip r).map fun p => D.tup [.int p.1, .int p.2] := by
  rw [zipD, List.zip_map, List.map_map]; rfl
theorem flat_rep {α : Type} {x : α} : ∀ n : Nat, (List.replicate n [x]).flatten = List.replicate n x
  | 0 => rfl
  | n + 1 => by rw [List.replicate_succ, List.flatten_cons, flat_rep n]; rfl
theorem f_rep1 {d : D} {n : Nat} (h : n ≤ 1000) : fRep (.lst [d]) (.int (n : Int)) = some (.lst (List.replicate n d)) := by
  unfold fRep
  dsimp only
  rw [if_pos ⟨by omega, by omega, by simp; omega⟩, Int.toNat_natCast, flat_rep]
theorem put_loop {n : Nat} {b : MS} (hb : b = sPutL (mVar 7) (mVar 5) (mVar 6)) {S r f : List Int} {x0 x1 x2 x3 x4 x6 x7 : Option E} (hS : ∀ h ∈ S, 0 ≤ h ∧ h < n) (hf : f.length = n) :
    ∃ x6' x7', forD (tg2 6 7) b 0 ((S.zip r).map fun p => D.tup [.int p.1, .int p.2]) [x0, x1, x2, x3, x4, some (.c 0), x6, x7] [.lst (lI f)] = some (.nx [x0, x1, x2, x3, x4, some (.c 0), x6', x7'] [.lst (lI (put f S r))]) := by
  have := for_fold (n := 0) (tg := tg2 6 7) (body := b) (ρ := [x0, x1, x2, x3, x4, some (.c 0), x6, x7]) (cs := [.lst (lI f)]) (xs := S.zip r) (s0 := f) (fun p => D.tup [.int p.1, .int p.2])
    (fun _ f ρ cs => f.length = n ∧ ∃ x6 x7, ρ = [x0, x1, x2, x3, x4, some (.c 0), x6, x7] ∧ cs = [.lst (lI f)]) (fun f p => f.set p.1.toNat p.2) ⟨hf, x6, x7, rfl, rfl⟩ ?_
  · obtain ⟨ρ', cs', e, _, x6', x7', rfl, rfl⟩ := this
    exact ⟨x6', x7', e⟩
  · rintro i p f ρ cs hp ⟨hf, x6, x7, rfl, rfl⟩
    have hm := hS p.1 (List.of_mem_zip (List.mem_of_getElem? hp)).1
    refine ⟨_, rfl, [x0, x1, x2, x3, x4, some (.c 0), some (.p (.int p.1)), some (.p (.int p.2))], [.lst (lI (f.set p.1.toNat p.2))], ?_, by rw [List.length_set]; exact hf, _, _, rfl, rfl⟩
    rw [hb]
    refine (x_putL (cs1 := [.lst (lI f)]) (cs2 := [.lst (lI f)]) (cs3 := [.lst (lI f)]) (k := 0) (i := p.1) (es := lI f) (e := .p (.int p.2)) (x_var rfl) (x_var rfl) (x_var rfl) rfl hm.1 (by rw [lI_len]; omega)).trans ?_
    rw [lI_set]; rfl
theorem e_whole {n : Nat} {S r O t : List Int} (hn : n ≤ 1000) (hS : ∀ h ∈ S, 0 ≤ h ∧ h < n) (hO : ∀ h ∈ O, 0 ≤ h ∧ h < n) : F_whole_row [.int n, dI S, dR r, dI O, dR t] = some (dR (whole n S r O t)) := by
  obtain ⟨x6, x7, e1⟩ := put_loop (n := n) (b := m_whole_row_b1) rfl (S := S) (r := r) (f := List.replicate n 0) (x0 := some (.p (.int n))) (x1 := some (.p (dI S))) (x2 := some (.p (dR r))) (x3 := some (.p (dI O))) (x4 := some (.p (dR t))) (x6 := none) (x7 := none) hS (by simp)
  obtain ⟨y6, y7, e2⟩ := put_loop (n := n) (b := m_whole_row_b2) rfl (S := O) (r := t) (f := put (List.replicate n 0) S r) (x0 := some (.p (.int n))) (x1 := some (.p (dI S))) (x2 := some (.p (dR r))) (x3 := some (.p (dI O))) (x4 := some (.p (dR t))) (x6 := x6) (x7 := x7) hO (by rw [put_len]; simp)
  have b1 : sSet 5 (toC (mOp fRep (mLst (mCons (mC (.int 0)) mNil)) (mVar 0))) 0 [some (.p (.int n)), some (.p (dI S)), some (.p (dR r)), some (.p (dI O)), some (.p (dR t)), none, none, none] [] = some (.nx [some (.p (.int n)), some (.p (dI S)), some (.p (dR r)), some (.p (dI O)), some (.p (dR t)), some (.c 0), none, none] [.lst (lI (List.replicate n 0))]) := by
    refine (x_set (x_toC (x_op (cs1 := []) (cs2 := []) (d1 := .lst [.int 0]) (d2 := .int n) (d := .lst ((List.replicate n (0 : Int)).map D.int)) (x_lst (x_cons x_c x_nil) (p_cons p_nil) (by simp)) (x_var rfl) ?_))).trans ?_
    · rw [f_rep1 hn, List.map_replicate]
    · rw [lI_mapE]; rfl
  refine x_fnP_rt rfl (cs1 := [.gone]) ?_
  refine (x_seq_nx b1).trans ((x_seq_nx ((x_for (x_zip (x_cons (x_var (i := 1) rfl) (x_cons (x_var (i := 2) rfl) x_nil)))).trans (by rw [zip_ints]; exact e1))).trans ((x_seq_nx ((x_for (x_zip (x_cons (x_var (i := 3) rfl) (x_cons (x_var (i := 4) rfl) x_nil)))).trans (by rw [zip_ints]; exact e2))).trans ?_))
  refine x_ret (x_call (x_cons (x_frz (x_var (i := 5) rfl) rfl (Nat.zero_le _) lI_pures) x_nil) (p_cons p_nil) f_tupL)
/-- the others -/
def others (n : Nat) (S : List Int) : List Int := (rg (n : Int)).filter fun h => !S.contains h
theorem e_split {ps : List Int} {v : Int} (h0 : 0 ≤ v) (h1 : v ≤ ps.length) (hs : ps.length ≤ 1000) : F_split_hills [dI ps, .int v] = some (.tup [dI (sideOf ps v), dI (others (ps.length + 1) (sideOf ps v))]) := by
  have b1 : sSet 2 (mCall F_side_of (mCons (mVar 0) (mCons (mVar 1) mNil))) 0 [some (.p (dI ps)), some (.p (.int v)), none, none] [] = some (.nx [some (.p (dI ps)), some (.p (.int v)), some (.p (dI (sideOf ps v))), none] []) :=
    x_set (x_call (x_cons (x_var rfl) (x_cons (x_var rfl) x_nil)) (p_cons (p_cons p_nil)) (e_side h0 h1 hs))
  refine x_fnP_rt rfl (cs1 := []) ?_
  refine (x_seq_nx b1).trans (x_ret (x_tup (x_cons (x_var rfl) (x_cons (x_lc (ds := (rg ((ps.length + 1 : Nat) : Int)).map D.int) (cs1 := []) ?_ ?_ (lc_filter D.int (fun h => !(sideOf ps v).contains h) D.int fun h hh => ⟨_, rfl, ?_, fun _ => ?_⟩)) x_nil)) (p_cons (p_cons p_nil)) (by simp)))
  · have := x_ir1 (n := 0) (ma := mCons (mOp fAdd (mCall fLen (mCons (mVar 0) mNil)) (mC (.int 1))) mNil) (ρ := [some (.p (dI ps)), some (.p (.int v)), some (.p (dI (sideOf ps v))), none]) (cs := []) (cs1 := []) (j := ((ps.length + 1 : Nat) : Int)) (by simp [sSeq, sNext, sSet, sDrop, sRet, sRetN, sIf, sAug, sAsg, sBreak, mVar, mC, mOp, m2, mBind, mCall, mCallM, mNil, mCons, mTup, mLst, mLstC, mTest, mAnd, mOr, mNot, mOfT, mIf, mUn, mTru, mIL, mIE, mIZLT, tgN, tg2, tgT, tgs, tgs0, mYes, mFor, mFrz, mAppend, toC, sPre, sPost, mNo, mPart, mSl, mChain, mChain3, mBM, mFld, mMeth, wipeS, flatSl, deref, mBor, tBorT, scalarD, mIxC, mDNewT, mLstRg1, ]) (by omega) (by omega)
    rwa [rg_rangeD] at this
  · rw [List.length_map, rg_len]; omega
  · exact x_test (x_op (x_var rfl) (x_var rfl) (f_inI (neg := true)))
  · exact x_var rfl
end Fw
set_option maxRecDepth 100000
set_option maxHeartbeats 4000000
namespace Fw
open PySem PySem.Spec PyProof.Rows L2 Mx
/-! ### sides -/
theorem side_fold {ps : List Int} : ∀ (hs acc : List Int), acc.Pairwise (· < ·) → hs.Pairwise (· < ·) → (∀ a ∈ acc, ∀ h ∈ hs, a < h) →
    (hs.foldl (sideStep ps) acc).Pairwise (· < ·) ∧ (∀ x ∈ hs.foldl (sideStep ps) acc, x ∈ acc ∨ x ∈ hs) ∧ ∀ x ∈ acc, x ∈ hs.foldl (sideStep ps) acc
  | [], acc, h1, _, _ => ⟨h1, fun x h => .inl h, fun x h => h⟩
  | h :: hs, acc, h1, h2, h3 => by
    have h2' := List.pairwise_cons.mp h2
    have step : (sideStep ps acc h).Pairwise (· < ·) ∧ (∀ x ∈ sideStep ps acc h, x ∈ acc ∨ x = h) ∧ ∀ x ∈ acc, x ∈ sideStep ps acc h := by
      unfold sideStep
      split
      · refine ⟨?_, fun x hx => ?_, fun x hx => List.mem_append_left _ hx⟩
        · rw [List.pairwise_append]
          exact ⟨h1, by simp, fun a ha b hb => by rw [List.mem_singleton] at hb; subst hb; exact h3 a ha _ (by simp)⟩
        · rcases List.mem_append.mp hx with z | z
          · exact .inl z
          · exact .inr (List.mem_singleton.mp z)
      · exact ⟨h1, fun x hx => .inl hx, fun x hx => hx⟩
    obtain ⟨a, b, c⟩ := side_fold hs (sideStep ps acc h) step.1 h2'.2 fun x hx y hy => by
      rcases step.2.1 x hx with z | z
      · exact h3 x z y (List.mem_cons_of_mem _ hy)
      · subst z; exact h2'.1 y hy
    rw [List.foldl_cons]
    refine ⟨a, fun x hx => ?_, fun x hx => c x (step.2.2 x hx)⟩
    rcases b x hx with z | z
    · rcases step.2.1 x z with z | z
      · exact .inl z
      · subst z; exact .inr (by simp)
    · exact .inr (List.mem_cons_of_mem _ z)
theorem rgF_lt (lo : Int) (n : Nat) : (rgF lo n).Pairwise (· < ·) := by
  rw [rgF, List.pairwise_map]
  exact List.pairwise_lt_range.imp fun h => by omega
theorem side_facts {ps : List Int} {v : Int} (h0 : 0 ≤ v) (h1 : v ≤ ps.length) : (sideOf ps v).Pairwise (· < ·) ∧ (∀ x ∈ sideOf ps v, 0 ≤ x ∧ x < ((ps.length + 1 : Nat) : Int)) ∧ v ∈ sideOf ps v := by
  obtain ⟨a, b, c⟩ := side_fold (ps := ps) (rgF (v + 1) ((ps.length : Int) - v).toNat) [v] (by simp) (rgF_lt _ _) fun a ha h hh => by
    rw [List.mem_singleton] at ha
    have := mem_rgF.mp hh
    omega
  refine ⟨a, fun x hx => ?_, c v (by simp)⟩
  rcases b x hx with z | z
  · rw [List.mem_singleton] at z; omega
  · have := mem_rgF.mp z; omega
theorem split_of {n : Nat} {S : List Int} (nd : S.Pairwise (· < ·)) (hin : ∀ x ∈ S, 0 ≤ x ∧ x < (n : Int)) : Split n S (others n S) where
  s := ⟨nd.imp fun h => by omega, hin⟩
  o := ⟨(rg_nodup _).filter _, fun x hx => by
    have := mem_rg.mp (List.mem_filter.mp hx).1
    exact this⟩
  dis := fun h hh ho => by
    have := (List.mem_filter.mp ho).2
    simp at this
    exact this hh
  all := fun k hk => by
    by_cases c : (k : Int) ∈ S
    · exact .inl c
    · exact .inr (List.mem_filter.mpr ⟨mem_rg.mpr ⟨by omega, by omega⟩, by simpa using c⟩)
def ownOf (sizes S : List Int) : List Int := S.map fun h => sizes.getD h.toNat 0
theorem box_of {n : Nat} {S sizes : List Int} (hn : sizes.length = n) (nd : S.Pairwise (· < ·)) (hin : ∀ x ∈ S, 0 ≤ x ∧ x < (n : Int)) (pos : ∀ s ∈ sizes, 1 ≤ s) : Box n S (others n S) sizes (ownOf sizes S) (ownOf sizes (others n S)) := by
  have sp := split_of nd hin
  have key : ∀ (T : List Int), (∀ x ∈ T, 0 ≤ x ∧ x < (n : Int)) → ∀ (i : Nat) h, T[i]? = some h → (ownOf sizes T)[i]? = sizes[h.toNat]? := fun T hT i h e => by
    have := hT h (List.mem_of_getElem? e)
    have hl : h.toNat < sizes.length := by omega
    rw [ownOf, List.getElem?_map, e, Option.map_some, List.getElem?_eq_getElem hl]
    simp [hl]
  exact ⟨sp, hn, key S hin, key _ sp.o.inn, List.length_map .., List.length_map .., pos⟩
theorem own_sizes {n : Nat} {S sizes : List Int} (hs : Sizes sizes) (hn : sizes.length = n) (hin : ∀ x ∈ S, 0 ≤ x ∧ x < (n : Int)) (hl : S.length ≤ 5) : Sizes (ownOf sizes S) where
  rng := fun s h => by
    rw [ownOf, List.mem_map] at h
    obtain ⟨x, hx, rfl⟩ := h
    have := hin x hx
    have hl : x.toNat < sizes.length := by omega
    refine hs.rng _ ?_
    simp only [List.getD_eq_getElem?_getD, List.getElem?_eq_getElem hl, Option.getD_some]
    exact List.getElem_mem hl
  len := by rw [ownOf, List.length_map]; exact hl
theorem nodup_len {n : Nat} {S : List Int} (nd : S.Nodup) (hin : ∀ x ∈ S, 0 ≤ x ∧ x < (n : Int)) : S.length ≤ n := by
  have := nd.length_le_of_subset (l₂ := rg (n : Int)) fun x hx => mem_rg.mpr (hin x hx)
  rwa [rg_len, Int.toNat_natCast] at this
/-! ### readings of cells -/
theorem mapM_p {α : Type} {f : α → D} {k : Nat} {cs : List Cell} : ∀ xs : List α, (xs.map fun x => E.p (f x)).mapM (deref k cs) = some (xs.map f)
  | [] => rfl
  | x :: xs => by
    have e : deref k cs (.p (f x)) = some (f x) := by cases k <;> rfl
    rw [List.map_cons, List.mapM_cons, e, mapM_p xs]; rfl
theorem deref_lst {α : Type} {f : α → D} {k j : Nat} {cs : List Cell} {xs : List α} (h : cs[k]? = some (.lst (xs.map fun x => E.p (f x)))) : deref (j + 1) cs (.c k) = some (.lst (xs.map f)) := by
  rw [deref, h]
  simp only [mapM_p]
  rfl
theorem flat_get {cs : List Cell} {ρ : Sl} {i : Nat} {e : E} {d : D} (h : ρ[i]? = some (some e)) (hd : deref 3 cs e = some d) : (flatSl cs ρ)[i]? = some (some (.p d)) := by
  rw [flatSl, List.getElem?_map, h]
  show some ((deref 3 cs e).map E.p) = _
  rw [hd]; rfl
theorem frzAll_cells {n : Nat} : ∀ (ks : List Nat) (ds : List D) (cs : List Cell), ks.Nodup → (∀ k ∈ ks, n ≤ k) → ks.length = ds.length → (∀ (i : Nat) k d, ks[i]? = some k → ds[i]? = some d → ∃ es xs, cs[k]? = some (.lst es) ∧ pures es = some xs ∧ d = .lst xs) →
    ∃ cs', frzAll n (ks.map E.c) cs = some (ds, cs')
  | [], [], cs, _, _, _, _ => ⟨cs, rfl⟩
  | [], _ :: _, _, _, _, l, _ => by simp at l
  | _ :: _, [], _, _, _, l, _ => by simp at l
  | k :: ks, d :: ds, cs, nd, hn, l, h => by
    obtain ⟨es, xs, e1, e2, rfl⟩ := h 0 k d rfl rfl
    have nd' := List.nodup_cons.mp nd
    obtain ⟨cs', e3⟩ := frzAll_cells ks ds (cs.set k .gone) nd'.2 (fun z hz => hn z (List.mem_cons_of_mem _ hz)) (by simpa using l) fun i k' d' h1 h2 => by
      obtain ⟨es, xs, e1, e2, e3⟩ := h (i + 1) k' d' (by simpa using h1) (by simpa using h2)
      have hne : ¬ k = k' := fun z => nd'.1 (z ▸ List.mem_of_getElem? h1)
      exact ⟨es, xs, by rw [List.getElem?_set_ne hne]; exact e1, e2, e3⟩
    refine ⟨cs', ?_⟩
    have hf : frzC n k cs = some (.lst xs, cs.set k .gone) := by rw [frzC, if_pos (hn k (by simp)), e1]; simp only [e2, Option.map_some]
    rw [List.map_cons, frzAll, hf]
    simp only [e3, Option.map_some]
end Fw
set_option maxRecDepth 100000
set_option maxHeartbeats 4000000
namespace Fw
open PySem PySem.Spec PyProof.Rows L2 Mx
/-! ### class_list -/
def rowE (r : List Int) : E := .p (dR r)
def grpC (g : List (List Int)) : Cell := .lst (g.map rowE)
def idsE (m : Nat) : List E := (List.range m).map fun i => E.c (2 + i)
def clC (st : List (List (List Int)) × List (List Z)) : List Cell := .lst (idsE st.1.length) :: .lst (st.2.map fun c => E.p (dZ c)) :: st.1.map grpC
theorem idsE_succ {m : Nat} : idsE (m + 1) = idsE m ++ [.c (2 + m)] := by rw [idsE, List.range_succ, List.map_append]; rfl
theorem clC_get {gs : List (List (List Int))} {c0 c1 : Cell} {j : Nat} : (c0 :: c1 :: gs.map grpC)[2 + j]? = (gs[j]?).map grpC := by
  rw [Nat.add_comm]
  show (gs.map grpC)[j]? = _
  rw [List.getElem?_map]
theorem set_modify {gs : List (List (List Int))} {j : Nat} {g : List (List Int)} {r : List Int} (h : gs[j]? = some g) : (gs.map grpC).set j (grpC (g ++ [r])) = (gs.modify j (· ++ [r])).map grpC := by
  apply List.ext_getElem?
  intro k
  rw [List.getElem?_set, List.getElem?_map, List.getElem?_map, List.getElem?_modify, List.length_map]
  have hl := (List.getElem?_eq_some_iff.mp h).1
  by_cases e : j = k
  · subst e
    rw [if_pos rfl, if_pos hl, h]
    simp
  · rw [if_neg e]
    simp only [if_neg e]
    simp
section
variable {n : Nat} {S O sizes own rest : List Int} {kz : List Int → Z} {T : D} {ps : List Int} {v : Int}
def colZ (n : Nat) (S O rest : List Int) (kz : List Int → Z) (r : List Int) : List Z := (rowsL rest).map fun t => kz (whole n S r O t)
/-- the slots while the rows are walked -/
def clS (ps sizes : List Int) (T : D) (v : Int) (S O rest : List Int) (x9 x10 x11 x12 x13 : Option E) : Sl :=
  [some (.p (dI ps)), some (.p (dI sizes)), some (.p T), some (.p (.int v)), some (.p (dI S)), some (.p (dI O)), some (.p (dRs (rowsL rest))), some (.c 0), some (.c 1), x9, x10, x11, x12, x13]
theorem cl_turn {st : List (List (List Int)) × List (List Z)} {r : List Int} {x10 x11 x12 x13 : Option E} (hn : sizes.length = n) (h1000 : n ≤ 1000) (hS : ∀ h ∈ S, 0 ≤ h ∧ h < n) (hO : ∀ h ∈ O, 0 ≤ h ∧ h < n) (hrl : (rowsL rest).length ≤ 1024)
    (hT : ∀ t ∈ rowsL rest, fDGet T (dR (whole n S r O t)) = some (kz (whole n S r O t)).d) (hlen : st.1.length = st.2.length) (hb : st.1.length ≤ 2000) (hg : ∀ g ∈ st.1, g.length ≤ 2000) :
    ∃ y11, m_class_list_b1 0 (clS ps sizes T v S O rest (some (.p (dR r))) x10 x11 x12 x13) (clC st) = some (.nx (clS ps sizes T v S O rest (some (.p (dR r))) (some (.p (dZ (colZ n S O rest kz r)))) y11 x12 x13) (clC (gstep (colZ n S O rest kz) st r))) := by
  have b1 : sSet 10 (mLc (mIL (mVar 6)) (tgN 13) mYes (mOp fDGet (mVar 2) (mCall F_whole_row (mCons (mCall fLen (mCons (mVar 1) mNil)) (mCons (mVar 4) (mCons (mVar 9) (mCons (mVar 5) (mCons (mVar 13) mNil))))))) [13]) 0 (clS ps sizes T v S O rest (some (.p (dR r))) x10 x11 x12 x13) (clC st) =
      some (.nx (clS ps sizes T v S O rest (some (.p (dR r))) (some (.p (dZ (colZ n S O rest kz r)))) x11 x12 x13) (clC st)) := by
    refine x_set (x_lc (ds := (rowsL rest).map dR) (cs1 := clC st) (x_il (x_var rfl)) (by rw [List.length_map]; omega) ?_)
    have e : (colZ n S O rest kz r).map Z.d = (rowsL rest).map fun t => (kz (whole n S r O t)).d := by rw [colZ, List.map_map]; rfl
    rw [e]
    refine lc_map dR _ fun t ht => ⟨_, rfl, rfl, ?_⟩
    refine x_op (d1 := T) (d2 := dR (whole n S r O t)) (cs1 := clC st) (x_var rfl) (x_call (x_cons (x_call (x_cons (x_var (e := .p (dI sizes)) rfl) x_nil) (p_cons p_nil) f_lenL) (x_cons (x_var (e := .p (dI S)) rfl) (x_cons (x_var (e := .p (dR r)) rfl) (x_cons (x_var (e := .p (dI O)) rfl) (x_cons (x_var (e := .p (dR t)) rfl) x_nil)))))
      (p_cons (p_cons (p_cons (p_cons (p_cons p_nil))))) ?_) (hT t ht)
    rw [List.length_map, hn]
    exact e_whole h1000 hS hO
  generalize hc : colZ n S O rest kz r = c at b1
  have g8 : (flatSl (clC st) (clS ps sizes T v S O rest (some (.p (dR r))) (some (.p (dZ c))) x11 x12 x13))[8]? = some (some (.p (.lst (st.2.map dZ)))) := flat_get rfl (deref_lst (f := dZ) rfl)
  have g10 : (flatSl (clC st) (clS ps sizes T v S O rest (some (.p (dR r))) (some (.p (dZ c))) x11 x12 x13))[10]? = some (some (.p (dZ c))) := flat_get rfl rfl
  have tst : tBorT (mTest (mOp (fInD false) (mVar 10) (mVar 8))) 0 (clS ps sizes T v S O rest (some (.p (dR r))) (some (.p (dZ c))) x11 x12 x13) (clC st) = some (st.2.contains c, clC st) :=
    x_borT rfl (x_test (x_op (x_var g10) (x_var g8) f_inLZ))
  unfold gstep
  rw [hc]
  cases hf : st.2.findIdx? (fun z => decide (z = c)) with
  | some j =>
    have hcon : st.2.contains c = true := by
      rw [List.findIdx?_eq_some_iff_getElem] at hf
      obtain ⟨hl, he, _⟩ := hf
      rw [List.contains_iff_mem]
      exact (of_decide_eq_true he) ▸ List.getElem_mem hl
    have hj : j < st.1.length := by
      rw [List.findIdx?_eq_some_iff_getElem] at hf
      rw [hlen]; exact hf.1
    have hgj : st.1[j]? = some st.1[j] := List.getElem?_eq_getElem hj
    have hgl := hg _ (List.getElem_mem hj)
    rw [hcon] at tst
    refine ⟨some (.c (2 + j)), ?_⟩
    have ix : mBor (mBM fIndex (mVar 8) (mCons (mVar 10) mNil)) 0 (clS ps sizes T v S O rest (some (.p (dR r))) (some (.p (dZ c))) x11 x12 x13) (clC st) = some (.p (.int (j : Nat)), clC st) := by
      refine x_bor (cs1 := []) rfl ?_ rfl
      simp only [mBM, mVar, g8, g10, mCons, mNil, pures, Option.map_some, f_indexLZ, hf]
    have b2 : sSet 11 (mIxC (mVar 7) (mBor (mBM fIndex (mVar 8) (mCons (mVar 10) mNil)))) 0 (clS ps sizes T v S O rest (some (.p (dR r))) (some (.p (dZ c))) x11 x12 x13) (clC st) =
        some (.nx (clS ps sizes T v S O rest (some (.p (dR r))) (some (.p (dZ c))) (some (.c (2 + j))) x12 x13) (clC st)) := by
      refine x_set ?_
      have h0 : (clC st)[0]? = some (.lst (idsE st.1.length)) := rfl
      have ha : atI (idsE st.1.length) (j : Int) = some (.c (2 + j)) := atI_at (by rw [idsE, List.getElem?_map, List.getElem?_range hj]; rfl)
      have hv : mVar 7 0 (clS ps sizes T v S O rest (some (.p (dR r))) (some (.p (dZ c))) x11 x12 x13) (clC st) = some (.c 0, clC st) := rfl
      simp only [mIxC, hv, ix, h0, ha, Option.map_some]
    have b3 : sDrop (mAppend (mVar 11) (mCons (mVar 9) mNil)) 0 (clS ps sizes T v S O rest (some (.p (dR r))) (some (.p (dZ c))) (some (.c (2 + j))) x12 x13) (clC st) =
        some (.nx (clS ps sizes T v S O rest (some (.p (dR r))) (some (.p (dZ c))) (some (.c (2 + j))) x12 x13) (clC (st.1.modify j (· ++ [r]), st.2))) := by
      have hk : (clC st)[2 + j]? = some (.lst (st.1[j].map rowE)) := by rw [clC, clC_get, hgj]; rfl
      refine (x_drop (x_append (k := 2 + j) (es := st.1[j].map rowE) (e := rowE r) (cs2 := clC st) (x_var rfl) hk (x_cons (x_var rfl) x_nil) hk (by rw [List.length_map]; omega))).trans ?_
      congr 2
      have e0 : (.lst (st.1[j].map rowE ++ [rowE r]) : Cell) = grpC (st.1[j] ++ [r]) := by rw [grpC, List.map_append]; rfl
      rw [e0, clC, clC]
      show _ = _ :: _ :: (st.1.modify j (· ++ [r])).map grpC
      rw [List.length_modify, ← set_modify hgj, Nat.add_comm]
      rfl
    exact (x_seq_nx b1).trans ((x_if_t tst).trans ((x_seq_nx b2).trans b3))
  | none =>
    have hcon : st.2.contains c = false := by
      rw [List.findIdx?_eq_none_iff] at hf
      rw [Bool.eq_false_iff]
      intro z
      rw [List.contains_iff_mem] at z
      have := hf c z
      simp at this
    rw [hcon] at tst
    refine ⟨x11, ?_⟩
    have b2 : sDrop (mAppend (mVar 8) (mCons (mVar 10) mNil)) 0 (clS ps sizes T v S O rest (some (.p (dR r))) (some (.p (dZ c))) x11 x12 x13) (clC st) =
        some (.nx (clS ps sizes T v S O rest (some (.p (dR r))) (some (.p (dZ c))) x11 x12 x13) (.lst (idsE st.1.length) :: .lst ((st.2 ++ [c]).map fun c => E.p (dZ c)) :: st.1.map grpC)) := by
      refine (x_drop (x_append (k := 1) (es := st.2.map fun c => E.p (dZ c)) (e := .p (dZ c)) (cs2 := clC st) (x_var rfl) rfl (x_cons (x_var rfl) x_nil) rfl (by rw [List.length_map]; omega))).trans ?_
      rw [List.map_append]; rfl
    have b3 : sDrop (mAppend (mVar 7) (mCons (mLstC (mCons (mVar 9) mNil)) mNil)) 0 (clS ps sizes T v S O rest (some (.p (dR r))) (some (.p (dZ c))) x11 x12 x13) (.lst (idsE st.1.length) :: .lst ((st.2 ++ [c]).map fun c => E.p (dZ c)) :: st.1.map grpC) =
        some (.nx (clS ps sizes T v S O rest (some (.p (dR r))) (some (.p (dZ c))) x11 x12 x13) (clC (st.1 ++ [[r]], st.2 ++ [c]))) := by
      refine (x_drop (x_append (k := 0) (es1 := idsE st.1.length) (es := idsE st.1.length) (e := .c (2 + st.1.length)) (cs2 := .lst (idsE st.1.length) :: .lst ((st.2 ++ [c]).map fun c => E.p (dZ c)) :: (st.1 ++ [[r]]).map grpC) (x_var rfl) rfl ?_ rfl (by rw [idsE, List.length_map, List.length_range]; omega))).trans ?_
      · refine (x_cons (es := []) (x_lstC (es := [rowE r]) (x_cons (x_var rfl) x_nil) (by simp)) x_nil).trans ?_
        rw [List.map_append]
        simp [grpC]
        omega
      · show some (Out.nx _ (.lst (idsE st.1.length ++ [.c (2 + st.1.length)]) :: _)) = _
        rw [← idsE_succ, clC]
        simp
    exact (x_seq_nx b1).trans ((x_if_f tst).trans ((x_seq_nx b2).trans b3))
end
end Fw
set_option maxRecDepth 100000
set_option maxHeartbeats 4000000
namespace Fw
open PySem PySem.Spec PyProof.Rows L2 Mx
theorem gstep_len {α γ : Type} [DecidableEq γ] {col : α → γ} {st : List (List α) × List γ} {r : α} {i : Nat} (h1 : st.1.length = st.2.length) (h2 : st.1.length ≤ i) (h3 : ∀ g ∈ st.1, g.length ≤ i) :
    (gstep col st r).1.length = (gstep col st r).2.length ∧ (gstep col st r).1.length ≤ i + 1 ∧ ∀ g ∈ (gstep col st r).1, g.length ≤ i + 1 := by
  unfold gstep
  split
  · refine ⟨by rw [List.length_modify]; exact h1, by rw [List.length_modify]; omega, fun g hg => ?_⟩
    obtain ⟨k, hk⟩ := List.mem_iff_getElem?.mp hg
    rw [List.getElem?_modify] at hk
    cases e : st.1[k]? with
    | none => rw [e] at hk; cases hk
    | some g0 =>
      rw [e] at hk
      have := h3 g0 (List.mem_of_getElem? e)
      simp at hk
      split at hk
      · rw [← hk, List.length_append]; simp; omega
      · rw [← hk]; omega
  · refine ⟨by simp [h1], by simp; omega, fun g hg => ?_⟩
    rcases List.mem_append.mp hg with z | z
    · have := h3 g z; omega
    · rw [List.mem_singleton] at z; subst z; simp
def groupsZ (sizes ps : List Int) (v : Int) (kz : List Int → Z) : List (List (List Int)) :=
  ((rowsL (ownOf sizes (sideOf ps v))).foldl (gstep (colZ sizes.length (sideOf ps v) (others sizes.length (sideOf ps v)) (ownOf sizes (others sizes.length (sideOf ps v))) kz)) ([], [])).1
theorem own_eval {sizes S : List Int} {n0 : Nat} {ρ : Sl} {cs : List Cell} {i j k : Nat} {vs : List Nat} (hS : ∀ h ∈ S, 0 ≤ h ∧ h < (sizes.length : Int)) (hl : S.length ≤ 100000)
    (h1 : ρ[i]? = some (some (.p (dI S)))) (hw : ∀ d, ∃ ρ1, tgN k d (wipeS ρ vs) = some ρ1 ∧ ρ1[j]? = some (some (.p (dI sizes))) ∧ ρ1[k]? = some (some (.p d))) :
    mLc (mIL (mVar i)) (tgN k) mYes (mOp fIxL (mVar j) (mVar k)) vs n0 ρ cs = some (.p (dI (ownOf sizes S)), cs) := by
  refine x_lc (x_il (x_var h1)) (by rw [List.length_map]; exact hl) ?_
  have e : (ownOf sizes S).map D.int = S.map fun h => D.int (sizes.getD h.toNat 0) := by rw [ownOf, List.map_map]; rfl
  rw [e]
  refine lc_map D.int _ fun h hh => ?_
  obtain ⟨ρ1, e1, e2, e3⟩ := hw (.int h)
  have := hS h hh
  exact ⟨ρ1, e1, rfl, x_op (x_var e2) (x_var e3) (atI_ints this.1 this.2)⟩
theorem e_class {ps sizes : List Int} {v : Int} {T : D} {kz : List Int → Z} (hs : Sizes sizes) (hl : ps.length + 1 = sizes.length) (h0 : 0 ≤ v) (h1 : v ≤ ps.length) (hT : ∀ w, Fit w sizes → fDGet T (dR w) = some (kz w).d) :
    F_class_list [dI ps, dI sizes, T, .int v] = some (.lst ((groupsZ sizes ps v kz).map dRs)) := by
  have h5 := hs.len
  obtain ⟨sf1, sf2, sf3⟩ := side_facts h0 h1
  rw [hl] at sf2
  have bx := box_of (n := sizes.length) rfl sf1 sf2 fun s h => (hs.rng s h).1
  have sl := nodup_len bx.sp.s.nd sf2
  have ol := nodup_len bx.sp.o.nd bx.sp.o.inn
  have own := own_sizes hs rfl sf2 (by omega)
  have res := own_sizes hs rfl bx.sp.o.inn (by omega)
  have rl := rowsL_small res.rng res.len
  have ol2 := rowsL_small own.rng own.len
  have esp := e_split h0 h1 (by omega)
  rw [hl] at esp
  unfold groupsZ
  generalize hS : sideOf ps v = S at *
  generalize hO : others sizes.length S = O at *
  generalize hw : ownOf sizes S = ow at *
  generalize hr : ownOf sizes O = rs at *
  have lp := for_fold (n := 0) (tg := tgN 9) (body := m_class_list_b1) (ρ := clS ps sizes T v S O rs none none none none none) (cs := clC ([], [])) (xs := rowsL ow) (s0 := ([], [])) dR
    (fun i st ρ cs => st.1.length = st.2.length ∧ st.1.length ≤ i ∧ (∀ g ∈ st.1, g.length ≤ i) ∧ ∃ x9 x10 x11 x12 x13, ρ = clS ps sizes T v S O rs x9 x10 x11 x12 x13 ∧ cs = clC st) (gstep (colZ sizes.length S O rs kz)) ⟨rfl, by simp, by simp, none, none, none, none, none, rfl, rfl⟩ ?_
  · obtain ⟨ρ', cs', e, e1, e2, e3, x9, x10, x11, x12, x13, rfl, rfl⟩ := lp
    generalize (rowsL ow).foldl (gstep (colZ sizes.length S O rs kz)) ([], []) = st at *
    have b1 : sAsg (tg2 4 5) (mCall F_split_hills (mCons (mVar 0) (mCons (mVar 3) mNil))) 0 [some (.p (dI ps)), some (.p (dI sizes)), some (.p T), some (.p (.int v)), none, none, none, none, none, none, none, none, none, none] [] =
        some (.nx [some (.p (dI ps)), some (.p (dI sizes)), some (.p T), some (.p (.int v)), some (.p (dI S)), some (.p (dI O)), none, none, none, none, none, none, none, none] []) :=
      x_asg (x_call (x_cons (x_var rfl) (x_cons (x_var rfl) x_nil)) (p_cons (p_cons p_nil)) esp) rfl
    have b2 : sSet 6 (mCall F_rows_of (mCons (mLc (mIL (mVar 5)) (tgN 12) mYes (mOp fIxL (mVar 1) (mVar 12)) [12]) mNil)) 0 [some (.p (dI ps)), some (.p (dI sizes)), some (.p T), some (.p (.int v)), some (.p (dI S)), some (.p (dI O)), none, none, none, none, none, none, none, none] [] =
        some (.nx [some (.p (dI ps)), some (.p (dI sizes)), some (.p T), some (.p (.int v)), some (.p (dI S)), some (.p (dI O)), some (.p (dRs (rowsL rs))), none, none, none, none, none, none, none] []) := by
      refine x_set (x_call (x_cons (own_eval (S := O) (sizes := sizes) bx.sp.o.inn (by omega) rfl fun d => ⟨_, rfl, rfl, rfl⟩) x_nil) (p_cons p_nil) ?_)
      rw [hr]; exact e_rows res
    have b3 : sSet 7 (mLstC mNil) 0 [some (.p (dI ps)), some (.p (dI sizes)), some (.p T), some (.p (.int v)), some (.p (dI S)), some (.p (dI O)), some (.p (dRs (rowsL rs))), none, none, none, none, none, none, none] [] =
        some (.nx [some (.p (dI ps)), some (.p (dI sizes)), some (.p T), some (.p (.int v)), some (.p (dI S)), some (.p (dI O)), some (.p (dRs (rowsL rs))), some (.c 0), none, none, none, none, none, none] [.lst []]) := x_set (x_lstC x_nil (by simp))
    have b4 : sSet 8 (mLstC mNil) 0 [some (.p (dI ps)), some (.p (dI sizes)), some (.p T), some (.p (.int v)), some (.p (dI S)), some (.p (dI O)), some (.p (dRs (rowsL rs))), some (.c 0), none, none, none, none, none, none] [.lst []] =
        some (.nx (clS ps sizes T v S O rs none none none none none) (clC ([], []))) := x_set (x_lstC x_nil (by simp))
    have src : mIL (mCall F_rows_of (mCons (mLc (mIL (mVar 4)) (tgN 12) mYes (mOp fIxL (mVar 1) (mVar 12)) [12]) mNil)) 0 (clS ps sizes T v S O rs none none none none none) (clC ([], [])) = some ((rowsL ow).map dR, clC ([], [])) := by
      refine x_il (x_call (x_cons (own_eval (S := S) (sizes := sizes) sf2 (by omega) rfl fun d => ⟨_, rfl, rfl, rfl⟩) x_nil) (p_cons p_nil) ?_)
      rw [hw]; exact e_rows own
    have hg : ∀ g ∈ st.1, g.length ≤ 1024 := fun g h => Nat.le_trans (e3 g h) ol2
    -- the groups' cells, frozen
    obtain ⟨cs', fz⟩ := frzAll_cells (n := 0) ((List.range st.1.length).map fun i => 2 + i) (st.1.map dRs) (clC st) (by
        unfold List.Nodup
        rw [List.pairwise_map]
        exact List.nodup_range.imp fun h e => h (by omega)) (fun _ _ => Nat.zero_le _) (by simp) fun i k d h1 h2 => by
      rw [List.getElem?_map] at h1 h2
      cases hg : st.1[i]? with
      | none => rw [hg] at h2; cases h2
      | some g =>
        rw [hg] at h2
        have hi := (List.getElem?_eq_some_iff.mp hg).1
        rw [List.getElem?_range hi] at h1
        cases h1; cases h2
        exact ⟨g.map rowE, g.map dR, by rw [clC, clC_get, hg]; rfl, by rw [show g.map rowE = (g.map dR).map E.p by rw [List.map_map]; rfl, pures_map], rfl⟩
    have ids : idsE st.1.length = ((List.range st.1.length).map fun i => 2 + i).map E.c := by rw [idsE, List.map_map]; rfl
    have fz2 : frz2 0 0 (clC st) = some (.lst (st.1.map dRs), cs'.set 0 .gone) := by
      have h0 : (clC st)[0]? = some (.lst (idsE st.1.length)) := rfl
      have hany : (idsE st.1.length).any (isC 0) = false := by
        rw [List.any_eq_false]
        intro x hx
        rw [idsE, List.mem_map] at hx
        obtain ⟨i, _, rfl⟩ := hx
        simp [isC]
      rw [frz2, if_pos (Nat.le_refl 0), h0]
      dsimp only
      rw [if_pos hany, ids, fz]
      rfl
    refine x_fnP_rt rfl (cs1 := cs'.set 0 .gone) ?_
    refine (x_seq_nx b1).trans ((x_seq_nx b2).trans ((x_seq_nx b3).trans ((x_seq_nx b4).trans ((x_seq_nx ((x_for src).trans e)).trans ?_))))
    have g7 : (clS ps sizes T v S O rs x9 x10 x11 x12 x13)[7]? = some (some (.c 0)) := rfl
    simp only [sPre, gFrz2, g7, fz2, Option.map_some]
    exact x_ret (x_var rfl)
  · rintro i r st ρ cs hr ⟨e1, e2, e3, x9, x10, x11, x12, x13, rfl, rfl⟩
    have hi := (List.getElem?_eq_some_iff.mp hr).1
    obtain ⟨y11, e⟩ := cl_turn (ps := ps) (v := v) (T := T) (kz := kz) (st := st) (r := r) (x10 := x10) (x11 := x11) (x12 := x12) (x13 := x13) (n := sizes.length) (S := S) (O := O) (sizes := sizes) (rest := rs) rfl (by omega) sf2 bx.sp.o.inn rl
      (fun t ht => hT _ (whole_fit bx.sp rfl bx.hS bx.hO bx.l1 bx.l2 (mem_rowsL.mp (List.mem_of_getElem? hr)) (mem_rowsL.mp ht))) e1 (by omega) (fun g hg => by have := e3 g hg; omega)
    obtain ⟨q1, q2, q3⟩ := gstep_len (col := colZ sizes.length S O rs kz) (r := r) e1 e2 e3
    exact ⟨_, rfl, _, _, e, q1, q2, q3, _, _, _, _, _, rfl, rfl⟩
end Fw
set_option maxRecDepth 100000
set_option maxHeartbeats 4000000
namespace Fw
open PySem PySem.Spec PyProof.Rows L2 Mx
theorem maxOf_mx {xs : List Int} (hne : xs ≠ []) (h : ∀ x ∈ xs, 0 ≤ x) : maxOf xs = some (mx xs) := by
  cases xs with
  | nil => exact absurd rfl hne
  | cons x xs =>
    have := h x (by simp)
    rw [maxOf, mx, List.foldl_cons, Int.max_eq_right this]
theorem e_lkey {kind hill : Int} {S r : List Int} (hk : 0 ≤ kind ∧ kind ≤ 5) (hl : S.length = r.length) (hne : r ≠ []) (hr : ∀ x ∈ r, 0 ≤ x) : F__law_key [.int kind, .int hill, dI S, dR r] = some (ky kind hill S r).d := by
  have mxr := f_maxT (maxOf_mx hne hr)
  have smr := f_sumT (ns := r)
  by_cases k0 : kind = 0
  · subst k0
    simp only [F__law_key, fnP]
    simp [sSeq, sNext, sSet, sDrop, sRet, sRetN, sIf, sAug, sAsg, sBreak, mVar, mC, mOp, m2, mBind, mCall, mCallM, mNil, mCons, mTup, mLst, mLstC, mTest, mAnd, mOr, mNot, mOfT, mIf, mUn, mTru, mIL, mIE, mIZLT, tgN, tg2, tgT, tgs, tgs0, mYes, mFor, mFrz, mAppend, toC, sPre, sPost, mNo, mPart, mSl, mChain, mChain3, mBM, mFld, mMeth, wipeS, flatSl, deref, mBor, tBorT, scalarD, mIxC, mDNewT, mLstRg1, slots0, m__law_key, ky, Z.d]
  by_cases k1 : kind = 1
  · subst k1
    simp only [F__law_key, fnP]
    simp [sSeq, sNext, sSet, sDrop, sRet, sRetN, sIf, sAug, sAsg, sBreak, mVar, mC, mOp, m2, mBind, mCall, mCallM, mNil, mCons, mTup, mLst, mLstC, mTest, mAnd, mOr, mNot, mOfT, mIf, mUn, mTru, mIL, mIE, mIZLT, tgN, tg2, tgT, tgs, tgs0, mYes, mFor, mFrz, mAppend, toC, sPre, sPost, mNo, mPart, mSl, mChain, mChain3, mBM, mFld, mMeth, wipeS, flatSl, deref, mBor, tBorT, scalarD, mIxC, mDNewT, mLstRg1, slots0, m__law_key, ky, Z.d]
  by_cases k2 : kind = 2
  · subst k2
    simp only [F__law_key, fnP]
    simp [sSeq, sNext, sSet, sDrop, sRet, sRetN, sIf, sAug, sAsg, sBreak, mVar, mC, mOp, m2, mBind, mCall, mCallM, mNil, mCons, mTup, mLst, mLstC, mTest, mAnd, mOr, mNot, mOfT, mIf, mUn, mTru, mIL, mIE, mIZLT, tgN, tg2, tgT, tgs, tgs0, mYes, mFor, mFrz, mAppend, toC, sPre, sPost, mNo, mPart, mSl, mChain, mChain3, mBM, mFld, mMeth, wipeS, flatSl, deref, mBor, tBorT, scalarD, mIxC, mDNewT, mLstRg1, slots0, m__law_key, ky, Z.d, smr]
  by_cases k3 : kind = 3
  · subst k3
    simp only [F__law_key, fnP]
    simp [sSeq, sNext, sSet, sDrop, sRet, sRetN, sIf, sAug, sAsg, sBreak, mVar, mC, mOp, m2, mBind, mCall, mCallM, mNil, mCons, mTup, mLst, mLstC, mTest, mAnd, mOr, mNot, mOfT, mIf, mUn, mTru, mIL, mIE, mIZLT, tgN, tg2, tgT, tgs, tgs0, mYes, mFor, mFrz, mAppend, toC, sPre, sPost, mNo, mPart, mSl, mChain, mChain3, mBM, mFld, mMeth, wipeS, flatSl, deref, mBor, tBorT, scalarD, mIxC, mDNewT, mLstRg1, slots0, m__law_key, ky, Z.d, mxr]
  by_cases k4 : kind = 4
  · subst k4
    simp only [F__law_key, fnP]
    simp [sSeq, sNext, sSet, sDrop, sRet, sRetN, sIf, sAug, sAsg, sBreak, mVar, mC, mOp, m2, mBind, mCall, mCallM, mNil, mCons, mTup, mLst, mLstC, mTest, mAnd, mOr, mNot, mOfT, mIf, mUn, mTru, mIL, mIE, mIZLT, tgN, tg2, tgT, tgs, tgs0, mYes, mFor, mFrz, mAppend, toC, sPre, sPost, mNo, mPart, mSl, mChain, mChain3, mBM, mFld, mMeth, wipeS, flatSl, deref, mBor, tBorT, scalarD, mIxC, mDNewT, mLstRg1, slots0, m__law_key, ky, Z.d, smr]
  have q := f_inI (neg := false) (x := hill) (xs := S)
  by_cases c : S.contains hill = true
  · rw [c] at q
    have hm : hill ∈ S := by simpa using c
    cases hf : S.findIdx? (fun z => z == hill) with
    | none =>
      rw [List.findIdx?_eq_none_iff] at hf
      have := hf hill hm
      simp at this
    | some i =>
      have hi : i < r.length := by
        rw [List.findIdx?_eq_some_iff_getElem] at hf
        rw [← hl]; exact hf.1
      have ix : fIndex (dI S) [.int hill] = some (.int (i : Nat)) := by rw [f_indexI, hf]; rfl
      have ga : atI (r.map D.int) (i : Int) = some (.int (r[i])) := atI_at (by rw [List.getElem?_map, List.getElem?_eq_getElem hi]; rfl)
      have e : (ky kind hill S r).d = .int r[i] := by
        simp only [ky, k0, k1, k2, k3, k4, if_false, Mx.atS, hf, Z.d]
        simp [hi]
      rw [e]
      simp only [F__law_key, fnP]
      simp [sSeq, sNext, sSet, sDrop, sRet, sRetN, sIf, sAug, sAsg, sBreak, mVar, mC, mOp, m2, mBind, mCall, mCallM, mNil, mCons, mTup, mLst, mLstC, mTest, mAnd, mOr, mNot, mOfT, mIf, mUn, mTru, mIL, mIE, mIZLT, tgN, tg2, tgT, tgs, tgs0, mYes, mFor, mFrz, mAppend, toC, sPre, sPost, mNo, mPart, mSl, mChain, mChain3, mBM, mFld, mMeth, wipeS, flatSl, deref, mBor, tBorT, scalarD, mIxC, mDNewT, mLstRg1, slots0, m__law_key, k0, k1, k2, k3, k4, q, ix, ga]
  · rw [Bool.eq_false_iff.mpr c] at q
    have e : (ky kind hill S r).d = .int 0 := by
      simp only [ky, k0, k1, k2, k3, k4, if_false]
      rw [Mx.atS_out (by simpa using c)]; rfl
    rw [e]
    simp only [F__law_key, fnP]
    simp [sSeq, sNext, sSet, sDrop, sRet, sRetN, sIf, sAug, sAsg, sBreak, mVar, mC, mOp, m2, mBind, mCall, mCallM, mNil, mCons, mTup, mLst, mLstC, mTest, mAnd, mOr, mNot, mOfT, mIf, mUn, mTru, mIL, mIE, mIZLT, tgN, tg2, tgT, tgs, tgs0, mYes, mFor, mFrz, mAppend, toC, sPre, sPost, mNo, mPart, mSl, mChain, mChain3, mBM, mFld, mMeth, wipeS, flatSl, deref, mBor, tBorT, scalarD, mIxC, mDNewT, mLstRg1, slots0, m__law_key, k0, k1, k2, k3, k4, q]
theorem foldl_mul (xs : List Int) : ∀ a : Int, xs.foldl (fun a x => a * x) a = a * prod xs := by
  induction xs with
  | nil => intro a; simp [prod]
  | cons x xs ih => intro a; rw [List.foldl_cons, ih, prod, Int.mul_assoc]
theorem e_lformula {kind hill : Int} {S sizes : List Int} (hk : 0 ≤ kind ∧ kind ≤ 5) (hS : ∀ h ∈ S, 0 ≤ h ∧ h < (sizes.length : Int)) (hne : S ≠ []) (hl : S.length ≤ 5) (hs : Sizes sizes) (hh : 0 ≤ hill ∧ hill < (sizes.length : Int)) :
    F__law_formula [.int kind, .int hill, dI S, dI sizes] = some (.int (fml kind hill S sizes (ownOf sizes S))) := by
  have own := own_sizes hs rfl hS hl
  have b1 : sSet 4 (mLc (mIL (mVar 2)) (tgN 7) mYes (mOp fIxL (mVar 3) (mVar 7)) [7]) 0 [some (.p (.int kind)), some (.p (.int hill)), some (.p (dI S)), some (.p (dI sizes)), none, none, none, none] [] =
      some (.nx [some (.p (.int kind)), some (.p (.int hill)), some (.p (dI S)), some (.p (dI sizes)), some (.p (dI (ownOf sizes S))), none, none, none] []) :=
    x_set (own_eval hS (by omega) rfl fun d => ⟨_, rfl, rfl, rfl⟩)
  have one : ownOf sizes S ≠ [] := fun e => hne (by rw [ownOf] at e; simpa using e)
  have wl : (ownOf sizes S).length ≤ 5 := own.len
  generalize ownOf sizes S = w at *
  have mxw := f_max (maxOf_mx one fun x hx => by have := own.rng x hx; omega)
  refine x_fnP_rt rfl (cs1 := []) ((x_seq_nx b1).trans ?_)
  by_cases k0 : kind = 0
  · subst k0
    have lp := for_fold (n := 0) (tg := tgN 6) (body := m__law_formula_b1) (ρ := [some (.p (.int 0)), some (.p (.int hill)), some (.p (dI S)), some (.p (dI sizes)), some (.p (dI w)), some (.p (.int 1)), none, none]) (cs := []) (xs := w) (s0 := (1 : Int)) D.int
      (fun i a ρ cs => ∃ x6, ρ = [some (.p (.int 0)), some (.p (.int hill)), some (.p (dI S)), some (.p (dI sizes)), some (.p (dI w)), some (.p (.int a)), x6, none] ∧ cs = []) (fun a x => a * x) ⟨none, rfl, rfl⟩ ?_
    · obtain ⟨ρ', cs', e, x6, rfl, rfl⟩ := lp
      rw [foldl_mul, Int.one_mul] at e
      have e2 : fml 0 hill S sizes w = prod w := by simp [fml]
      rw [e2]
      have t : mTest (mOp fEq (mVar 0) (mC (.int 0))) 0 [some (.p (.int 0)), some (.p (.int hill)), some (.p (dI S)), some (.p (dI sizes)), some (.p (dI w)), none, none, none] [] = some (true, []) := by simp [sSeq, sNext, sSet, sDrop, sRet, sRetN, sIf, sAug, sAsg, sBreak, mVar, mC, mOp, m2, mBind, mCall, mCallM, mNil, mCons, mTup, mLst, mLstC, mTest, mAnd, mOr, mNot, mOfT, mIf, mUn, mTru, mIL, mIE, mIZLT, tgN, tg2, tgT, tgs, tgs0, mYes, mFor, mFrz, mAppend, toC, sPre, sPost, mNo, mPart, mSl, mChain, mChain3, mBM, mFld, mMeth, wipeS, flatSl, deref, mBor, tBorT, scalarD, mIxC, mDNewT, mLstRg1, ]
      refine x_seq_rt ((x_if_t t).trans ?_)
      exact (x_seq_nx (x_set x_c)).trans ((x_seq_nx ((x_for (x_il (x_var (i := 4) rfl))).trans e)).trans (x_ret (x_var rfl)))
    · rintro i s a ρ cs hx ⟨x6, rfl, rfl⟩
      have := own.rng s (List.mem_of_getElem? hx)
      exact ⟨_, rfl, _, _, x_set (x_op (x_var rfl) (x_var rfl) (f_mul (.inr ⟨by omega, by omega⟩))), _, rfl, rfl⟩
  by_cases k1 : kind = 1
  · subst k1
    simp [sSeq, sNext, sSet, sDrop, sRet, sRetN, sIf, sAug, sAsg, sBreak, mVar, mC, mOp, m2, mBind, mCall, mCallM, mNil, mCons, mTup, mLst, mLstC, mTest, mAnd, mOr, mNot, mOfT, mIf, mUn, mTru, mIL, mIE, mIZLT, tgN, tg2, tgT, tgs, tgs0, mYes, mFor, mFrz, mAppend, toC, sPre, sPost, mNo, mPart, mSl, mChain, mChain3, mBM, mFld, mMeth, wipeS, flatSl, deref, mBor, tBorT, scalarD, mIxC, mDNewT, mLstRg1, fml]
  by_cases k2 : kind = 2
  · subst k2
    have lc := lc_map (n := 0) (cs := []) (tg := tgN 6) (mt := mYes) (me := mOp fSub (mVar 6) (mC (.int 1))) (ρw := [some (.p (.int 2)), some (.p (.int hill)), some (.p (dI S)), some (.p (dI sizes)), some (.p (dI w)), none, none, none]) D.int (fun s => D.int (s - 1)) (xs := w) fun s hs => ⟨_, rfl, rfl, x_op (x_var rfl) x_c rfl⟩
    have sm := f_sum (ns := w.map (· - 1))
    have e : (w.map fun s => D.int (s - 1)) = (w.map (· - 1)).map D.int := by rw [List.map_map]; rfl
    rw [← e] at sm
    have q : mLc (mIL (mVar 4)) (tgN 6) mYes (mOp fSub (mVar 6) (mC (.int 1))) [6] 0 [some (.p (.int 2)), some (.p (.int hill)), some (.p (dI S)), some (.p (dI sizes)), some (.p (dI w)), none, none, none] [] = some (.p (.lst (w.map fun s => D.int (s - 1))), []) :=
      x_lc (x_il (x_var rfl)) (by rw [List.length_map]; omega) lc
    have e2 : fml 2 hill S sizes w = 1 + (w.map (· - 1)).sum := by simp [fml]
    rw [e2]
    refine (x_seq_nx ((x_if_f (cs1 := []) ?_).trans x_next)).trans ((x_seq_nx ((x_if_f (cs1 := []) ?_).trans x_next)).trans (x_seq_rt ((x_if_t (cs1 := []) ?_).trans (x_ret (x_op x_c (x_call (x_cons q x_nil) (p_cons p_nil) sm) rfl)))))
    all_goals simp [sSeq, sNext, sSet, sDrop, sRet, sRetN, sIf, sAug, sAsg, sBreak, mVar, mC, mOp, m2, mBind, mCall, mCallM, mNil, mCons, mTup, mLst, mLstC, mTest, mAnd, mOr, mNot, mOfT, mIf, mUn, mTru, mIL, mIE, mIZLT, tgN, tg2, tgT, tgs, tgs0, mYes, mFor, mFrz, mAppend, toC, sPre, sPost, mNo, mPart, mSl, mChain, mChain3, mBM, mFld, mMeth, wipeS, flatSl, deref, mBor, tBorT, scalarD, mIxC, mDNewT, mLstRg1, ]
  by_cases k3 : kind = 3
  · subst k3
    simp [sSeq, sNext, sSet, sDrop, sRet, sRetN, sIf, sAug, sAsg, sBreak, mVar, mC, mOp, m2, mBind, mCall, mCallM, mNil, mCons, mTup, mLst, mLstC, mTest, mAnd, mOr, mNot, mOfT, mIf, mUn, mTru, mIL, mIE, mIZLT, tgN, tg2, tgT, tgs, tgs0, mYes, mFor, mFrz, mAppend, toC, sPre, sPost, mNo, mPart, mSl, mChain, mChain3, mBM, mFld, mMeth, wipeS, flatSl, deref, mBor, tBorT, scalarD, mIxC, mDNewT, mLstRg1, fml, mxw]
  by_cases k4 : kind = 4
  · subst k4
    by_cases c : 1 < mx w
    · simp [sSeq, sNext, sSet, sDrop, sRet, sRetN, sIf, sAug, sAsg, sBreak, mVar, mC, mOp, m2, mBind, mCall, mCallM, mNil, mCons, mTup, mLst, mLstC, mTest, mAnd, mOr, mNot, mOfT, mIf, mUn, mTru, mIL, mIE, mIZLT, tgN, tg2, tgT, tgs, tgs0, mYes, mFor, mFrz, mAppend, toC, sPre, sPost, mNo, mPart, mSl, mChain, mChain3, mBM, mFld, mMeth, wipeS, flatSl, deref, mBor, tBorT, scalarD, mIxC, mDNewT, mLstRg1, fml, mxw, c]
    · simp [sSeq, sNext, sSet, sDrop, sRet, sRetN, sIf, sAug, sAsg, sBreak, mVar, mC, mOp, m2, mBind, mCall, mCallM, mNil, mCons, mTup, mLst, mLstC, mTest, mAnd, mOr, mNot, mOfT, mIf, mUn, mTru, mIL, mIE, mIZLT, tgN, tg2, tgT, tgs, tgs0, mYes, mFor, mFrz, mAppend, toC, sPre, sPost, mNo, mPart, mSl, mChain, mChain3, mBM, mFld, mMeth, wipeS, flatSl, deref, mBor, tBorT, scalarD, mIxC, mDNewT, mLstRg1, fml, mxw, c]
  have q := f_inI (neg := false) (x := hill) (xs := S)
  by_cases c : S.contains hill = true
  · rw [c] at q
    obtain ⟨x, hx⟩ : ∃ x, sizes.getD hill.toNat 0 = x := ⟨_, rfl⟩
    have ga : atI (sizes.map D.int) hill = some (.int x) := by rw [← hx]; exact atI_ints hh.1 hh.2
    have e : fml kind hill S sizes w = x := by simp only [fml, k0, k1, k2, k3, k4, if_false, c, if_true]; exact hx
    rw [e]
    simp [sSeq, sNext, sSet, sDrop, sRet, sRetN, sIf, sAug, sAsg, sBreak, mVar, mC, mOp, m2, mBind, mCall, mCallM, mNil, mCons, mTup, mLst, mLstC, mTest, mAnd, mOr, mNot, mOfT, mIf, mUn, mTru, mIL, mIE, mIZLT, tgN, tg2, tgT, tgs, tgs0, mYes, mFor, mFrz, mAppend, toC, sPre, sPost, mNo, mPart, mSl, mChain, mChain3, mBM, mFld, mMeth, wipeS, flatSl, deref, mBor, tBorT, scalarD, mIxC, mDNewT, mLstRg1, k0, k1, k2, k3, k4, q, ga]
  · rw [Bool.eq_false_iff.mpr c] at q
    have e : fml kind hill S sizes w = 1 := by simp only [fml, k0, k1, k2, k3, k4, if_false, c]; rfl
    rw [e]
    simp [sSeq, sNext, sSet, sDrop, sRet, sRetN, sIf, sAug, sAsg, sBreak, mVar, mC, mOp, m2, mBind, mCall, mCallM, mNil, mCons, mTup, mLst, mLstC, mTest, mAnd, mOr, mNot, mOfT, mIf, mUn, mTru, mIL, mIE, mIZLT, tgN, tg2, tgT, tgs, tgs0, mYes, mFor, mFrz, mAppend, toC, sPre, sPost, mNo, mPart, mSl, mChain, mChain3, mBM, mFld, mMeth, wipeS, flatSl, deref, mBor, tBorT, scalarD, mIxC, mDNewT, mLstRg1, k0, k1, k2, k3, k4, q]
end Fw
set_option maxRecDepth 100000
set_option maxHeartbeats 4000000
namespace Fw
open PySem PySem.Spec PyProof.Rows L2 Mx
def kI (r : List Int) : List Key := r.map Sum.inl
theorem kI_inj {a b : List Int} (h : kI a = kI b) : a = b := by
  unfold kI at h
  induction a generalizing b with
  | nil => cases b with
    | nil => rfl
    | cons => simp at h
  | cons x a ih => cases b with
    | nil => simp at h
    | cons y b =>
      rw [List.map_cons, List.map_cons] at h
      injection h with h1 h2
      injection h1 with h1
      rw [h1, ih h2]
theorem keysOf_ints : ∀ r : List Int, keysOf (r.map D.int) = some (kI r)
  | [] => rfl
  | x :: r => by rw [List.map_cons, keysOf, keysOf_ints r]; rfl
theorem look_rows {α : Type} {g : List Int → α} {w : List Int} : ∀ {R : List (List Int)}, w ∈ R → lookT (R.map kI) (R.map g) (kI w) = some (g w)
  | [], h => by cases h
  | r :: R, h => by
    by_cases e : r = w
    · subst e; simp [lookT]
    · have hm : w ∈ R := (List.mem_cons.mp h).resolve_left fun z => e z.symm
      have ne : ¬ kI r = kI w := fun z => e (kI_inj z)
      have ih := look_rows (g := g) hm
      unfold lookT at ih ⊢
      simp only [List.map_cons, List.zip_cons_cons, List.find?_cons]
      rw [show decide (kI r = kI w) = false from decide_eq_false ne]
      exact ih
/-- the table over a box -/
def tabD (sizes : List Int) (g : List Int → D) : D := .dT ((rowsL sizes).map kI) ((rowsL sizes).map g)
theorem tab_get {sizes : List Int} {g : List Int → D} {w : List Int} (h : Fit w sizes) : fDGet (tabD sizes g) (dR w) = some (g w) := by
  unfold fDGet tabD
  simp only [keysOf_ints, Option.bind_some]
  exact look_rows (mem_rowsL.mpr h)
theorem tab_notin {sizes : List Int} {g : List Int → D} {w : List Int} (h : Fit w sizes) : fNotIn (dR w) (tabD sizes g) = some (.bl false) := by
  unfold fNotIn fDHas tabD
  simp only [keysOf_ints, Option.map_some]
  rw [look_rows (mem_rowsL.mpr h)]
  rfl
theorem any_new {R : List (List Int)} {w : List Int} (h : w ∉ R) : ((R.map kI).any fun z => decide (z = kI w)) = false := by
  rw [List.any_eq_false]
  intro z hz
  rw [List.mem_map] at hz
  obtain ⟨r, hr, rfl⟩ := hz
  simp only [decide_eq_true_eq]
  exact fun e => h (kI_inj e ▸ hr)
theorem nodup_take {α : Type} {R : List α} {i : Nat} {r : α} (nd : R.Nodup) (h : R[i]? = some r) : r ∉ R.take i := by
  intro hm
  obtain ⟨j, hj⟩ := List.mem_iff_getElem?.mp hm
  have hjl := (List.getElem?_eq_some_iff.mp hj).1
  rw [List.length_take] at hjl
  rw [List.getElem?_take_of_lt (by omega)] at hj
  have a := List.getElem?_eq_some_iff.mp h
  have b := List.getElem?_eq_some_iff.mp hj
  have := (List.getElem_inj (h₀ := a.1) (h₁ := b.1) nd).mp (a.2.trans b.2.symm)
  omega
theorem take_snoc {α : Type} {R : List α} {i : Nat} {r : α} (h : R[i]? = some r) : R.take (i + 1) = R.take i ++ [r] := by rw [List.take_add_one, h]; rfl
def keyD (kind hill : Int) (n : Nat) (w : List Int) : D := (ky kind hill (rg (n : Int)) w).d
theorem e_ltable {kind hill : Int} {sizes : List Int} (hk : 0 ≤ kind ∧ kind ≤ 5) (hs : Sizes sizes) (hne : sizes ≠ []) : F__law_table [.int kind, .int hill, dI sizes] = some (tabD sizes (keyD kind hill sizes.length)) := by
  have h5 := hs.len
  have rl := rowsL_small hs.rng hs.len
  have b1 : sSet 3 (mLstRg1 (mCall fLen (mCons (mVar 2) mNil))) 0 [some (.p (.int kind)), some (.p (.int hill)), some (.p (dI sizes)), none, none, none] [] = some (.nx [some (.p (.int kind)), some (.p (.int hill)), some (.p (dI sizes)), some (.p (dI (rg (sizes.length : Int)))), none, none] []) := by
    refine x_set ?_
    have e : mCall fLen (mCons (mVar 2) mNil) 0 [some (.p (.int kind)), some (.p (.int hill)), some (.p (dI sizes)), none, none, none] [] = some (.p (.int (sizes.length : Int)), []) := by simp [sSeq, sNext, sSet, sDrop, sRet, sRetN, sIf, sAug, sAsg, sBreak, mVar, mC, mOp, m2, mBind, mCall, mCallM, mNil, mCons, mTup, mLst, mLstC, mTest, mAnd, mOr, mNot, mOfT, mIf, mUn, mTru, mIL, mIE, mIZLT, tgN, tg2, tgT, tgs, tgs0, mYes, mFor, mFrz, mAppend, toC, sPre, sPost, mNo, mPart, mSl, mChain, mChain3, mBM, mFld, mMeth, wipeS, flatSl, deref, mBor, tBorT, scalarD, mIxC, mDNewT, mLstRg1, ]
    simp only [mLstRg1, e]
    rw [if_pos ⟨by omega, by omega⟩, rg_rangeD]
  have b2 : sSet 4 mDNewT 0 [some (.p (.int kind)), some (.p (.int hill)), some (.p (dI sizes)), some (.p (dI (rg (sizes.length : Int)))), none, none] [] = some (.nx [some (.p (.int kind)), some (.p (.int hill)), some (.p (dI sizes)), some (.p (dI (rg (sizes.length : Int)))), some (.c 0), none] [.dT [] []]) := rfl
  have lp := for_inv (n := 0) (tg := tgN 5) (body := m__law_table_b1) (ρ := [some (.p (.int kind)), some (.p (.int hill)), some (.p (dI sizes)), some (.p (dI (rg (sizes.length : Int)))), some (.c 0), none]) (cs := [.dT [] []]) (ds := (rowsL sizes).map dR)
    (fun i ρ cs => ∃ x5, ρ = [some (.p (.int kind)), some (.p (.int hill)), some (.p (dI sizes)), some (.p (dI (rg (sizes.length : Int)))), some (.c 0), x5] ∧ cs = [.dT (((rowsL sizes).take i).map kI) (((rowsL sizes).take i).map fun w => E.p (keyD kind hill sizes.length w))]) ⟨none, rfl, rfl⟩ ?_
  · obtain ⟨ρ', cs', e, x5, rfl, rfl⟩ := lp
    rw [List.length_map, List.take_length] at e
    refine x_fnP_rt rfl (cs1 := [.gone]) ((x_seq_nx b1).trans ((x_seq_nx b2).trans ((x_seq_nx ((x_for (x_il (x_call (x_cons (x_var (i := 2) rfl) x_nil) (p_cons p_nil) (e_lrows hs)))).trans e)).trans ?_)))
    refine x_ret ?_
    have hp : pures ((rowsL sizes).map fun w => E.p (keyD kind hill sizes.length w)) = some ((rowsL sizes).map (keyD kind hill sizes.length)) := by
      rw [show ((rowsL sizes).map fun w => E.p (keyD kind hill sizes.length w)) = ((rowsL sizes).map (keyD kind hill sizes.length)).map E.p by rw [List.map_map]; rfl, pures_map]
    have hv : mVar 4 0 [some (.p (.int kind)), some (.p (.int hill)), some (.p (dI sizes)), some (.p (dI (rg (sizes.length : Int)))), some (.c 0), x5] [.dT ((rowsL sizes).map kI) ((rowsL sizes).map fun w => E.p (keyD kind hill sizes.length w))] = some (.c 0, [.dT ((rowsL sizes).map kI) ((rowsL sizes).map fun w => E.p (keyD kind hill sizes.length w))]) := rfl
    simp only [mFrz, hv, List.getElem?_cons_zero, Nat.le_refl, if_true, hp, Option.map_some]
    rfl
  · rintro i d ρ cs hd ⟨x5, rfl, rfl⟩
    rw [List.getElem?_map, Option.map_eq_some_iff] at hd
    obtain ⟨w, hw, rfl⟩ := hd
    have hm := mem_rowsL.mp (List.mem_of_getElem? hw)
    have wl := hm.length
    have hi := (List.getElem?_eq_some_iff.mp hw).1
    have kx := e_lkey (kind := kind) (hill := hill) (S := rg (sizes.length : Int)) (r := w) hk (by rw [rg_len, wl]; omega) (fun e => hne (List.length_eq_zero_iff.mp (by rw [← wl, e]; rfl))) (fit_nn hm)
    refine ⟨_, rfl, _, _, ?_, some (.p (dR w)), rfl, rfl⟩
    rw [take_snoc hw, List.map_append, List.map_append]
    have hv : mCall F__law_key (mCons (mVar 0) (mCons (mVar 1) (mCons (mVar 3) (mCons (mVar 5) mNil)))) 0 [some (.p (.int kind)), some (.p (.int hill)), some (.p (dI sizes)), some (.p (dI (rg (sizes.length : Int)))), some (.c 0), some (.p (dR w))] [.dT (((rowsL sizes).take i).map kI) (((rowsL sizes).take i).map fun w => E.p (keyD kind hill sizes.length w))] =
        some (.p (keyD kind hill sizes.length w), [.dT (((rowsL sizes).take i).map kI) (((rowsL sizes).take i).map fun w => E.p (keyD kind hill sizes.length w))]) :=
      x_call (x_cons (x_var rfl) (x_cons (x_var rfl) (x_cons (x_var rfl) (x_cons (x_var rfl) x_nil)))) (p_cons (p_cons (p_cons (p_cons p_nil)))) kx
    show sDPutT (mVar 4) (mVar 5) _ 0 _ _ = _
    have hany := any_new (nodup_take (rowsL_nodup sizes) hw)
    have hd4 : mVar 4 0 [some (.p (.int kind)), some (.p (.int hill)), some (.p (dI sizes)), some (.p (dI (rg (sizes.length : Int)))), some (.c 0), some (.p (dR w))] [.dT (((rowsL sizes).take i).map kI) (((rowsL sizes).take i).map fun w => E.p (keyD kind hill sizes.length w))] = some (.c 0, [.dT (((rowsL sizes).take i).map kI) (((rowsL sizes).take i).map fun w => E.p (keyD kind hill sizes.length w))]) := rfl
    have hd5 : mVar 5 0 [some (.p (.int kind)), some (.p (.int hill)), some (.p (dI sizes)), some (.p (dI (rg (sizes.length : Int)))), some (.c 0), some (.p (dR w))] [.dT (((rowsL sizes).take i).map kI) (((rowsL sizes).take i).map fun w => E.p (keyD kind hill sizes.length w))] = some (.p (dR w), [.dT (((rowsL sizes).take i).map kI) (((rowsL sizes).take i).map fun w => E.p (keyD kind hill sizes.length w))]) := rfl
    have hlen : (((rowsL sizes).take i).map kI).length = (((rowsL sizes).take i).map fun w => E.p (keyD kind hill sizes.length w)).length := by rw [List.length_map, List.length_map]
    have hsm : (((rowsL sizes).take i).map kI).length < 100000 := by rw [List.length_map, List.length_take]; omega
    dsimp only [List.set_cons_succ, List.set_cons_zero]
    simp only [sDPutT, hv, hd4, hd5, keysOf_ints, List.getElem?_cons_zero]
    rw [if_pos ⟨hany, hlen, hsm⟩]
    rfl
theorem e_answers {sizes : List Int} {g : List Int → D} (hs : Sizes sizes) : F_are_answers [dI sizes, tabD sizes g] = some (.bl true) := by
  have rl := rowsL_small hs.rng hs.len
  have b1 : sSet 2 (mCall F_rows_of (mCons (mVar 0) mNil)) 0 [some (.p (dI sizes)), some (.p (tabD sizes g)), none, none] [] = some (.nx [some (.p (dI sizes)), some (.p (tabD sizes g)), some (.p (dRs (rowsL sizes))), none] []) :=
    x_set (x_call (x_cons (x_var rfl) x_nil) (p_cons p_nil) (e_rows hs))
  refine x_fnP_rt rfl (cs1 := []) ((x_seq_nx b1).trans (x_ret (x_ofT ((x_and_t (cs1 := []) ?_).trans ?_))))
  · have : fEq (.int (((rowsL sizes).map kI).length : Int)) (.int (((rowsL sizes).map dR).length : Int)) = some (.bl true) := by rw [List.length_map, List.length_map]; simp
    exact x_test (x_op (x_call (x_cons (x_var rfl) x_nil) (p_cons p_nil) f_lenD) (x_call (x_cons (x_var rfl) x_nil) (p_cons p_nil) f_lenL) this)
  · refine x_test (x_op (d1 := .int 0) (x_call (x_cons (x_lc (ds := (rowsL sizes).map dR) (cs1 := []) (es1 := []) (x_il (x_var rfl)) (by rw [List.length_map]; omega) ?_) x_nil) (p_cons p_nil) f_lenL) x_c rfl)
    have := lc_filter (n := 0) (cs := []) (tg := tgN 3) (mt := mTest (mOp fNotIn (mVar 3) (mVar 1))) (me := mVar 3) (ρw := [some (.p (dI sizes)), some (.p (tabD sizes g)), some (.p (dRs (rowsL sizes))), none]) dR (fun _ => false) dR (xs := rowsL sizes) fun w hw => ⟨_, rfl, x_test (x_op (x_var rfl) (x_var rfl) (tab_notin (mem_rowsL.mp hw))), fun _ => x_var rfl⟩
    rwa [List.filter_eq_nil_iff.mpr (by simp)] at this
end Fw
set_option maxRecDepth 100000
set_option maxHeartbeats 4000000
namespace Fw
open PySem PySem.Spec PyProof.Rows L2 Mx
/-! ### the promise of windows of one beat -/
def W (n : Nat) : List D := (rgF 1 n).map fun b => pairD (b, b)
theorem rgF_len {lo : Int} {n : Nat} : (rgF lo n).length = n := by rw [rgF, List.length_map, List.length_range]
theorem rgF_get {lo : Int} {n i : Nat} (h : i < n) : (rgF lo n)[i]? = some (lo + (i : Int)) := by rw [rgF, List.getElem?_map, List.getElem?_range h]; rfl
theorem rgF_succ {lo : Int} {n : Nat} : rgF lo (n + 1) = rgF lo n ++ [lo + (n : Int)] := by rw [rgF, List.range_succ, List.map_append]; rfl
theorem e_windows {n : Nat} (hn : n ≤ 1000) : F__law_windows [.int n, .int 1] = some (.lst (W n)) := by
  have lc := lc_map (n := 0) (cs := []) (tg := tgN 2) (mt := mYes) (me := mTup (mCons (mVar 2) (mCons (mOp fSub (mOp fAdd (mVar 2) (mVar 1)) (mC (.int 1))) mNil))) (ρw := [some (.p (.int n)), some (.p (.int 1)), none]) D.int (fun b => pairD (b, b)) (xs := rgF 1 n) fun b hb => ⟨_, rfl, rfl, by
    have : b + 1 - 1 = b := by omega
    simp [sSeq, sNext, sSet, sDrop, sRet, sRetN, sIf, sAug, sAsg, sBreak, mVar, mC, mOp, m2, mBind, mCall, mCallM, mNil, mCons, mTup, mLst, mLstC, mTest, mAnd, mOr, mNot, mOfT, mIf, mUn, mTru, mIL, mIE, mIZLT, tgN, tg2, tgT, tgs, tgs0, mYes, mFor, mFrz, mAppend, toC, sPre, sPost, mNo, mPart, mSl, mChain, mChain3, mBM, mFld, mMeth, wipeS, flatSl, deref, mBor, tBorT, scalarD, mIxC, mDNewT, mLstRg1, pairD, this]⟩
  have r := x_ir2_nat (n := 0) (ρ := [some (.p (.int n)), some (.p (.int 1)), none]) (cs := []) (cs1 := []) (ma := mCons (mC (.int 1)) (mCons (mOp fAdd (mOp fSub (mVar 0) (mVar 1)) (mC (.int 2))) mNil)) (i := 1) (j := (n : Int) - 1 + 2) (by simp [sSeq, sNext, sSet, sDrop, sRet, sRetN, sIf, sAug, sAsg, sBreak, mVar, mC, mOp, m2, mBind, mCall, mCallM, mNil, mCons, mTup, mLst, mLstC, mTest, mAnd, mOr, mNot, mOfT, mIf, mUn, mTru, mIL, mIE, mIZLT, tgN, tg2, tgT, tgs, tgs0, mYes, mFor, mFrz, mAppend, toC, sPre, sPost, mNo, mPart, mSl, mChain, mChain3, mBM, mFld, mMeth, wipeS, flatSl, deref, mBor, tBorT, scalarD, mIxC, mDNewT, mLstRg1, ]) (by omega) (by omega)
  have e : ((n : Int) - 1 + 2 - 1).toNat = n := by omega
  rw [e, rangeD_rgF] at r
  exact x_fnP_rt rfl (cs1 := []) (x_ret (x_lc r (by rw [List.length_map, rgF_len]; omega) lc))
theorem insP_lt {p q : Int × Int} {r : List (Int × Int)} (h : p.1 < q.1) : insP p (q :: r) = p :: q :: r := by
  have h1 : ¬ p = q := fun e => by rw [e] at h; omega
  have h2 : pairLt p q = true := by unfold pairLt; rw [decide_eq_true h]; rfl
  rw [insP, if_neg h1, if_pos h2]
theorem sortP_id : ∀ {ps : List (Int × Int)}, ps.Pairwise (fun p q => p.1 < q.1) → sortP ps = ps
  | [], _ => rfl
  | [p], _ => rfl
  | p :: q :: r, h => by
    have h' := List.pairwise_cons.mp h
    have ih := sortP_id h'.2
    unfold sortP at ih ⊢
    rw [List.foldr_cons, ih]
    exact insP_lt (h'.1 q (by simp))
theorem pairsOf_W : ∀ (bs : List Int), (∀ b ∈ bs, 0 ≤ b ∧ b < 64) → pairsOf (bs.map fun b => pairD (b, b)) = some (bs.map fun b => (b, b))
  | [], _ => rfl
  | b :: bs, h => by
    have hb := h b (by simp)
    have ih := pairsOf_W bs fun x hx => h x (List.mem_cons_of_mem _ hx)
    rw [List.map_cons, pairsOf, ih]
    have : pairOf (pairD (b, b)) = some (b, b) := by simp [pairD, pairOf, hb]
    rw [this]; rfl
theorem e_sorted {n : Nat} (hn : n ≤ 63) : F_sorted_spans [.lst (W n)] = some (.lst (W n)) := by
  have lc := lc_map (n := 0) (cs := []) (tg := tgN 1) (mt := mYes) (me := mTup (mCons (mOp fIxT (mVar 1) (mC (.int 0))) (mCons (mOp fIxT (mVar 1) (mC (.int 1))) mNil))) (ρw := [some (.p (.lst (W n))), none]) (fun b => pairD (b, b)) (fun b => pairD (b, b)) (xs := rgF 1 n) fun b hb => ⟨_, rfl, rfl, by simp [sSeq, sNext, sSet, sDrop, sRet, sRetN, sIf, sAug, sAsg, sBreak, mVar, mC, mOp, m2, mBind, mCall, mCallM, mNil, mCons, mTup, mLst, mLstC, mTest, mAnd, mOr, mNot, mOfT, mIf, mUn, mTru, mIL, mIE, mIZLT, tgN, tg2, tgT, tgs, tgs0, mYes, mFor, mFrz, mAppend, toC, sPre, sPost, mNo, mPart, mSl, mChain, mChain3, mBM, mFld, mMeth, wipeS, flatSl, deref, mBor, tBorT, scalarD, mIxC, mDNewT, mLstRg1, pairD]⟩
  refine x_fnP_rt rfl (cs1 := []) (x_ret (x_call (x_cons (x_lc (x_il (x_var rfl)) (by rw [W, List.length_map, rgF_len]; omega) lc) x_nil) (p_cons p_nil) ?_))
  have hb : ∀ b ∈ rgF 1 n, 0 ≤ b ∧ b < 64 := fun b hb => by have := mem_rgF.mp hb; omega
  unfold fSortSet
  simp only [pairsOf_W _ hb]
  rw [if_pos (by rw [List.length_map, rgF_len]; omega), sortP_id, W, List.map_map]
  · rfl
  · rw [List.pairwise_map]
    exact (rgF_lt 1 n).imp fun h => h
def ends1 (n i : Nat) : List Int := (List.range (n + 2)).map fun (k : Nat) => if 1 ≤ k ∧ k ≤ i then (k : Int) else (n : Int) + 1
def endsN (n : Nat) : List Int := ends1 n n
theorem ends_len {n i : Nat} : (ends1 n i).length = n + 2 := by rw [ends1, List.length_map, List.length_range]
theorem ends_get {n i k : Nat} (h : k < n + 2) : (ends1 n i)[k]? = some (if 1 ≤ k ∧ k ≤ i then (k : Int) else (n : Int) + 1) := by rw [ends1, List.getElem?_map, List.getElem?_range h]; rfl
theorem ends_set {n i : Nat} (h : i < n) : (ends1 n i).set (i + 1) ((i : Int) + 1) = ends1 n (i + 1) := by
  apply List.ext_getElem?
  intro k
  rw [List.getElem?_set, ends_len]
  by_cases hk : k < n + 2
  · rw [ends_get hk, ends_get hk]
    by_cases e : i + 1 = k
    · subst e
      rw [if_pos rfl, if_pos hk, if_pos (by omega)]
      congr 1
    · rw [if_neg e]
      congr 1
      by_cases c : 1 ≤ k ∧ k ≤ i
      · rw [if_pos c, if_pos (by omega)]
      · rw [if_neg c, if_neg (by omega)]
  · rw [List.getElem?_eq_none (by rw [ends_len]; omega), List.getElem?_eq_none (by rw [ends_len]; omega)]
    split
    · rw [if_neg (by omega)]
    · rfl
theorem ends_same {n k : Nat} (h1 : 1 ≤ k) (h2 : k ≤ n) : (endsN n).set k (k : Int) = endsN n := by
  unfold endsN
  apply List.ext_getElem?
  intro j
  rw [List.getElem?_set, ends_len]
  split
  · rename_i e
    subst e
    rw [if_pos (by omega), ends_get (by omega), if_pos ⟨h1, h2⟩]
  · rfl
theorem ends_zero {n : Nat} : ends1 n 0 = List.replicate (n + 2) ((n : Int) + 1) := by
  apply List.ext_getElem?
  intro k
  by_cases hk : k < n + 2
  · rw [ends_get hk, if_neg (by omega), List.getElem?_replicate, if_pos hk]
  · rw [List.getElem?_eq_none (by rw [ends_len]; omega), List.getElem?_eq_none (by simp; omega)]
theorem lI_ixL {xs : List Int} {k : Nat} {x : Int} (h : xs[k]? = some x) : fIxL (dI xs) (.int (k : Int)) = some (.int x) := atI_at (by rw [List.getElem?_map, h]; rfl)
theorem lI_ixL' {xs : List Int} {i : Int} {x : Int} (h0 : 0 ≤ i) (h : xs[i.toNat]? = some x) : fIxL (dI xs) (.int i) = some (.int x) := by
  have := lI_ixL h
  rwa [Int.toNat_of_nonneg h0] at this
theorem e_least {n : Nat} (hn : n ≤ 900) : F_least_ends [.int n, .lst (W n)] = some (dI (endsN n)) := by
  have b1 : sSet 2 (toC (mOp fRep (mLst (mCons (mOp fAdd (mVar 0) (mC (.int 1))) mNil)) (mOp fAdd (mVar 0) (mC (.int 2))))) 0 [some (.p (.int n)), some (.p (.lst (W n))), none, none, none, none] [] =
      some (.nx [some (.p (.int n)), some (.p (.lst (W n))), some (.c 0), none, none, none] [.lst (lI (ends1 n 0))]) := by
    refine (x_set (x_toC (ds := (ends1 n 0).map D.int) (x_op (d1 := .lst [.int ((n : Int) + 1)]) (d2 := .int ((n : Int) + 2)) (x_lst (x_cons (x_op (x_var rfl) x_c rfl) x_nil) (p_cons p_nil) (by simp)) (x_op (x_var rfl) x_c rfl) ?_))).trans (by rw [lI_mapE]; rfl)
    have := f_rep1 (d := .int ((n : Int) + 1)) (n := n + 2) (by omega)
    rw [ends_zero, List.map_replicate]
    exact this
  have l1 := for_inv (n := 0) (tg := tgN 3) (body := m_least_ends_b1) (ρ := [some (.p (.int n)), some (.p (.lst (W n))), some (.c 0), none, none, none]) (cs := [.lst (lI (ends1 n 0))]) (ds := W n)
    (fun i ρ cs => ∃ x3, ρ = [some (.p (.int n)), some (.p (.lst (W n))), some (.c 0), x3, none, none] ∧ cs = [.lst (lI (ends1 n i))]) ⟨none, rfl, rfl⟩ ?_
  · obtain ⟨ρ', cs', e1, x3, rfl, rfl⟩ := l1
    have hW : (W n).length = n := by rw [W, List.length_map, rgF_len]
    rw [hW] at e1
    have l2 := for_inv (n := 0) (tg := tgN 4) (body := m_least_ends_b2) (ρ := [some (.p (.int n)), some (.p (.lst (W n))), some (.c 0), x3, none, none]) (cs := [.lst (lI (endsN n))]) (ds := rangeD 0 n)
      (fun i ρ cs => ∃ x4 x5, ρ = [some (.p (.int n)), some (.p (.lst (W n))), some (.c 0), x3, x4, x5] ∧ cs = [.lst (lI (endsN n))]) ⟨none, none, rfl, rfl⟩ ?_
    · obtain ⟨ρ', cs', e2, x4, x5, rfl, rfl⟩ := l2
      have r := x_ir1 (n := 0) (ma := mCons (mVar 0) mNil) (ρ := [some (.p (.int n)), some (.p (.lst (W n))), some (.c 0), x3, none, none]) (cs := [.lst (lI (endsN n))]) (cs1 := [.lst (lI (endsN n))]) (j := (n : Int)) (by simp [sSeq, sNext, sSet, sDrop, sRet, sRetN, sIf, sAug, sAsg, sBreak, mVar, mC, mOp, m2, mBind, mCall, mCallM, mNil, mCons, mTup, mLst, mLstC, mTest, mAnd, mOr, mNot, mOfT, mIf, mUn, mTru, mIL, mIE, mIZLT, tgN, tg2, tgT, tgs, tgs0, mYes, mFor, mFrz, mAppend, toC, sPre, sPost, mNo, mPart, mSl, mChain, mChain3, mBM, mFld, mMeth, wipeS, flatSl, deref, mBor, tBorT, scalarD, mIxC, mDNewT, mLstRg1, ]) (by omega) (by omega)
      rw [Int.toNat_natCast] at r
      refine x_fnP_rt rfl (cs1 := [.gone]) ((x_seq_nx b1).trans ((x_seq_nx ((x_for (x_il (x_var rfl))).trans e1)).trans ((x_seq_nx ((x_for r).trans e2)).trans ?_)))
      exact x_ret (x_frz (k := 0) (x_var (i := 2) rfl) rfl (Nat.zero_le _) lI_pures)
    · rintro i d ρ cs hd ⟨x4, x5, rfl, rfl⟩
      rw [rangeD_rgF, List.getElem?_map, Option.map_eq_some_iff] at hd
      obtain ⟨b, hb, rfl⟩ := hd
      have hi : i < n := by have := (List.getElem?_eq_some_iff.mp hb).1; rwa [rgF_len] at this
      rw [rgF_get hi] at hb
      cases hb
      -- start = n - i
      obtain ⟨k, hk, hk1, hk2⟩ : ∃ k : Nat, (n : Int) - (0 + (i : Int)) = k ∧ 1 ≤ k ∧ k ≤ n := ⟨n - i, by omega, by omega, by omega⟩
      refine ⟨_, rfl, [some (.p (.int n)), some (.p (.lst (W n))), some (.c 0), x3, some (.p (.int (0 + (i : Int)))), some (.p (.int k))], [.lst (lI (endsN n))], ?_, _, _, rfl, rfl⟩
      refine (x_seq_nx (x_set (x_op (x_var rfl) (x_var rfl) (by rw [f_sub, hk])))).trans ?_
      have q1 : fIxL (dI (endsN n)) (.int (k : Int)) = some (.int k) := lI_ixL (by rw [endsN, ends_get (by omega), if_pos ⟨hk1, hk2⟩])
      have q2 : ∃ y, fIxL (dI (endsN n)) (.int ((k : Int) + 1)) = some (.int y) ∧ (k : Int) ≤ y := by
        have g : (endsN n)[k + 1]? = some (if 1 ≤ k + 1 ∧ k + 1 ≤ n then ((k + 1 : Nat) : Int) else (n : Int) + 1) := ends_get (by omega)
        exact ⟨_, lI_ixL (k := k + 1) g, by split <;> omega⟩
      obtain ⟨y, q2, hy⟩ := q2
      have fl : (flatSl [.lst (lI (endsN n))] [some (.p (.int n)), some (.p (.lst (W n))), some (.c 0), x3, some (.p (.int (0 + (i : Int)))), some (.p (.int k))])[2]? = some (some (.p (dI (endsN n)))) := flat_get rfl (deref_lst (f := D.int) rfl)
      have fl5 : (flatSl [.lst (lI (endsN n))] [some (.p (.int n)), some (.p (.lst (W n))), some (.c 0), x3, some (.p (.int (0 + (i : Int)))), some (.p (.int k))])[5]? = some (some (.p (.int k))) := flat_get rfl rfl
      have mn : fMin2 [.int (k : Int), .int y] = some (.int k) := by rw [f_min2, if_neg (by omega)]
      refine (x_putL (k := 0) (i := (k : Int)) (es := lI (endsN n)) (e := .p (.int k)) (cs1 := [.lst (lI (endsN n))]) (cs2 := [.lst (lI (endsN n))]) (cs3 := [.lst (lI (endsN n))]) (x_bor rfl (x_call (x_cons (x_op (x_var fl) (x_var fl5) q1) (x_cons (x_op (x_var fl) (x_op (x_var fl5) x_c rfl) q2) x_nil)) (p_cons (p_cons p_nil)) mn) rfl) (x_var rfl) (x_var rfl) rfl (by omega) (by rw [lI_len, endsN, ends_len]; omega)).trans ?_
      rw [lI_set, Int.toNat_natCast, ends_same hk1 hk2]
      rfl
  · rintro i d ρ cs hd ⟨x3, rfl, rfl⟩
    rw [W, List.getElem?_map, Option.map_eq_some_iff] at hd
    obtain ⟨b, hb, rfl⟩ := hd
    have hi : i < n := by have := (List.getElem?_eq_some_iff.mp hb).1; rwa [rgF_len] at this
    rw [rgF_get hi] at hb
    cases hb
    obtain ⟨k, hk⟩ : ∃ k : Nat, k = i + 1 := ⟨_, rfl⟩
    have hk' : (1 : Int) + (i : Int) = (k : Int) := by omega
    rw [hk']
    refine ⟨_, rfl, [some (.p (.int n)), some (.p (.lst (W n))), some (.c 0), some (.p (pairD ((k : Int), (k : Int)))), none, none], [.lst (lI (ends1 n (i + 1)))], ?_, _, rfl, rfl⟩
    have q1 : fIxL (dI (ends1 n i)) (.int (k : Int)) = some (.int ((n : Int) + 1)) := lI_ixL (by rw [ends_get (by omega), if_neg (by omega)])
    have fl : (flatSl [.lst (lI (ends1 n i))] [some (.p (.int n)), some (.p (.lst (W n))), some (.c 0), some (.p (pairD ((k : Int), (k : Int)))), none, none])[2]? = some (some (.p (dI (ends1 n i)))) := flat_get rfl (deref_lst (f := D.int) rfl)
    have fl3 : (flatSl [.lst (lI (ends1 n i))] [some (.p (.int n)), some (.p (.lst (W n))), some (.c 0), some (.p (pairD ((k : Int), (k : Int)))), none, none])[3]? = some (some (.p (pairD ((k : Int), (k : Int))))) := flat_get rfl rfl
    have mn : fMin2 [.int ((n : Int) + 1), .int (k : Int)] = some (.int k) := by rw [f_min2, if_pos (by omega)]
    refine (x_putL (k := 0) (i := (k : Int)) (es := lI (ends1 n i)) (e := .p (.int k)) (cs1 := [.lst (lI (ends1 n i))]) (cs2 := [.lst (lI (ends1 n i))]) (cs3 := [.lst (lI (ends1 n i))])
      (x_bor rfl (x_call (x_cons (x_op (d1 := dI (ends1 n i)) (d2 := .int k) (x_var fl) (x_op (x_var fl3) x_c at0) q1) (x_cons (x_op (x_var fl3) x_c at1) x_nil)) (p_cons (p_cons p_nil)) mn) rfl) (x_var rfl) (x_op (x_var (i := 3) rfl) x_c at0) rfl (by omega) (by rw [lI_len, ends_len]; omega)).trans ?_
    rw [lI_set, Int.toNat_natCast, hk]
    have := ends_set (n := n) hi
    rw [show ((i + 1 : Nat) : Int) = (i : Int) + 1 by omega, this]
    rfl
end Fw
set_option maxRecDepth 100000
set_option maxHeartbeats 4000000
namespace Fw
open PySem PySem.Spec PyProof.Rows L2 Mx
theorem e_end_from {ends : List Int} {s x : Int} (h0 : 0 ≤ s) (h : ends[s.toNat]? = some x) : F_end_from [dI ends, .int s] = some (.int x) := by
  have hl := (List.getElem?_eq_some_iff.mp h).1
  have : ¬ ((ends.length : Int) ≤ s) := by omega
  simp only [F_end_from, fnP]
  simp [sSeq, sNext, sSet, sDrop, sRet, sRetN, sIf, sAug, sAsg, sBreak, mVar, mC, mOp, m2, mBind, mCall, mCallM, mNil, mCons, mTup, mLst, mLstC, mTest, mAnd, mOr, mNot, mOfT, mIf, mUn, mTru, mIL, mIE, mIZLT, tgN, tg2, tgT, tgs, tgs0, mYes, mFor, mFrz, mAppend, toC, sPre, sPost, mNo, mPart, mSl, mChain, mChain3, mBM, mFld, mMeth, wipeS, flatSl, deref, mBor, tBorT, scalarD, mIxC, mDNewT, mLstRg1, slots0, m_end_from, this, atI_map h0 h]
theorem end_at {n : Nat} {s : Int} (h0 : 1 ≤ s) (h1 : s ≤ (n : Int) + 1) : F_end_from [dI (endsN n), .int s] = some (.int s) := by
  refine e_end_from (by omega) ?_
  rw [endsN, ends_get (by omega)]
  congr 1
  split <;> omega
/-- a while loop by what holds ahead of each test -/
theorem while_inv {t : MT} {b : MS} {n : Nat} (I : Nat → Sl → List Cell → Prop) {k : Nat} (hs : ∀ i ρ cs, i < k → I i ρ cs → ∃ cs1, t n ρ cs = some (true, cs1) ∧ ∃ ρ2 cs2, b n ρ cs1 = some (.nx ρ2 cs2) ∧ I (i + 1) ρ2 cs2)
    (he : ∀ ρ cs, I k ρ cs → ∃ cs1, t n ρ cs = some (false, cs1) ∧ I k ρ cs1) : ∀ (j i f : Nat) (ρ : Sl) (cs : List Cell), i + j = k → j < f → I i ρ cs → ∃ ρ' cs', whileD t b n f ρ cs = some (.nx ρ' cs') ∧ I k ρ' cs'
  | 0, i, f + 1, ρ, cs, e, _, h => by
    have : i = k := by omega
    subst this
    obtain ⟨cs1, h1, h2⟩ := he ρ cs h
    refine ⟨ρ, cs1, ?_, h2⟩
    rw [whileD, h1]
  | j + 1, i, f + 1, ρ, cs, e, hf, h => by
    obtain ⟨cs1, h1, ρ2, cs2, h2, h3⟩ := hs i ρ cs (by omega) h
    obtain ⟨ρ', cs', h4, h5⟩ := while_inv I hs he j (i + 1) f ρ2 cs2 (by omega) (by omega) h3
    refine ⟨ρ', cs', ?_, h5⟩
    rw [whileD, h1]
    simp only [h2, h4]
  | _, _, 0, _, _, _, hf, _ => by omega
theorem e_pick_ends {n : Nat} {s : Int} {k : Nat} (h0 : 0 ≤ s) (hk : s + (k : Int) ≤ (n : Int)) (hn : n ≤ 500) : F_pick_ends [dI (endsN n), .int s, .int (s + (k : Int))] = some (dI (rgF (s + 1) k)) := by
  have b1 : sSet 3 (mLstC mNil) 0 [some (.p (dI (endsN n))), some (.p (.int s)), some (.p (.int (s + (k : Int)))), none, none] [] = some (.nx [some (.p (dI (endsN n))), some (.p (.int s)), some (.p (.int (s + (k : Int)))), some (.c 0), none] [.lst (lI [])]) := x_set (x_lstC x_nil (by simp))
  have b2 : sSet 4 (mCall F_end_from (mCons (mVar 0) (mCons (mOp fAdd (mVar 1) (mC (.int 1))) mNil))) 0 [some (.p (dI (endsN n))), some (.p (.int s)), some (.p (.int (s + (k : Int)))), some (.c 0), none] [.lst (lI [])] =
      some (.nx [some (.p (dI (endsN n))), some (.p (.int s)), some (.p (.int (s + (k : Int)))), some (.c 0), some (.p (.int (s + 1)))] [.lst (lI [])]) :=
    x_set (x_call (x_cons (x_var rfl) (x_cons (x_op (x_var rfl) x_c rfl) x_nil)) (p_cons (p_cons p_nil)) (end_at (by omega) (by omega)))
  obtain ⟨ρ', cs', e, rfl, rfl⟩ := while_inv (n := 0) (t := mTest (mOp fLe (mVar 4) (mVar 2))) (b := m_pick_ends_b1) (k := k)
    (fun i ρ cs => ρ = [some (.p (dI (endsN n))), some (.p (.int s)), some (.p (.int (s + (k : Int)))), some (.c 0), some (.p (.int (s + 1 + (i : Int))))] ∧ cs = [.lst (lI (rgF (s + 1) i))])
    (fun i ρ cs hi h => by
      obtain ⟨rfl, rfl⟩ := h
      refine ⟨_, x_test (x_op (x_var rfl) (x_var rfl) (by rw [f_le, decide_eq_true (by omega)])), [some (.p (dI (endsN n))), some (.p (.int s)), some (.p (.int (s + (k : Int)))), some (.c 0), some (.p (.int (s + 1 + ((i + 1 : Nat) : Int))))], [.lst (lI (rgF (s + 1) (i + 1)))], ?_, rfl, rfl⟩
      have e1 : sDrop (mAppend (mVar 3) (mCons (mVar 4) mNil)) 0 [some (.p (dI (endsN n))), some (.p (.int s)), some (.p (.int (s + (k : Int)))), some (.c 0), some (.p (.int (s + 1 + (i : Int))))] [.lst (lI (rgF (s + 1) i))] =
          some (.nx [some (.p (dI (endsN n))), some (.p (.int s)), some (.p (.int (s + (k : Int)))), some (.c 0), some (.p (.int (s + 1 + (i : Int))))] [.lst (lI (rgF (s + 1) (i + 1)))]) := by
        refine (x_drop (x_append (k := 0) (es := lI (rgF (s + 1) i)) (e := .p (.int (s + 1 + (i : Int)))) (cs2 := [.lst (lI (rgF (s + 1) i))]) (x_var rfl) rfl (x_cons (x_var rfl) x_nil) rfl (by rw [lI_len, rgF_len]; omega))).trans ?_
        rw [lI_snoc, rgF_succ]; rfl
      refine (x_seq_nx e1).trans (x_set (x_call (x_cons (x_var rfl) (x_cons (x_op (x_var rfl) x_c rfl) x_nil)) (p_cons (p_cons p_nil)) ?_))
      have : s + 1 + (i : Int) + 1 = s + 1 + ((i + 1 : Nat) : Int) := by omega
      show F_end_from [dI (endsN n), .int (s + 1 + (i : Int) + 1)] = _
      rw [this]
      exact end_at (by omega) (by omega))
    (fun ρ cs h => by
      obtain ⟨rfl, rfl⟩ := h
      exact ⟨_, x_test (x_op (x_var rfl) (x_var rfl) (by rw [f_le, decide_eq_false (by omega)])), rfl, rfl⟩) k 0 1000 [some (.p (dI (endsN n))), some (.p (.int s)), some (.p (.int (s + (k : Int)))), some (.c 0), some (.p (.int (s + 1)))] [.lst (lI [])] (by omega) (by omega) ⟨by simp, rfl⟩
  refine x_fnP_rt rfl (cs1 := [.gone]) ((x_seq_nx b1).trans ((x_seq_nx b2).trans ((x_seq_nx (show sWhile 1000 _ _ 0 _ _ = _ from e)).trans ?_)))
  exact x_ret (x_frz (k := 0) (x_var (i := 3) rfl) rfl (Nat.zero_le _) lI_pures)
theorem maxOf_same {xs : List Int} {e : Int} (hne : xs ≠ []) (h : ∀ x ∈ xs, x = e) : maxOf xs = some e := by
  cases xs with
  | nil => exact absurd rfl hne
  | cons x xs =>
    have hx := h x (by simp)
    subst hx
    have : ∀ ys : List Int, (∀ y ∈ ys, y = x) → ys.foldl max x = x := by
      intro ys
      induction ys with
      | nil => intro _; rfl
      | cons y ys ih =>
        intro h
        have := h y (by simp)
        subst this
        rw [List.foldl_cons, Int.max_self]
        exact ih fun z hz => h z (List.mem_cons_of_mem _ hz)
    rw [maxOf, this xs fun y hy => h y (List.mem_cons_of_mem _ hy)]
theorem e_latest {n : Nat} {e : Int} (h1 : 1 ≤ e) (h2 : e ≤ n) (hn : n ≤ 500) : F_latest_beginning [.lst (W n), .int e, .int e] = some (.int e) := by
  have lc := lc_filter (n := 0) (cs := []) (tg := tgN 3) (mt := mAnd (mTest (mOp fEq (mOp fIxT (mVar 3) (mC (.int 1))) (mVar 2))) (mTest (mOp fGe (mOp fIxT (mVar 3) (mC (.int 0))) (mVar 1)))) (me := mOp fIxT (mVar 3) (mC (.int 0))) (ρw := [some (.p (.lst (W n))), some (.p (.int e)), some (.p (.int e)), none]) (fun b => pairD (b, b)) (fun b => decide (b = e) && decide (e ≤ b)) D.int (xs := rgF 1 n)
    fun b hb => ⟨_, rfl, x_and (x_test (x_op (x_op (x_var (e := .p (pairD (b, b))) rfl) x_c at1) (x_var rfl) rfl)) (x_test (x_op (x_op (x_var (e := .p (pairD (b, b))) rfl) x_c at0) (x_var rfl) rfl)), fun _ => x_op (x_var (e := .p (pairD (b, b))) rfl) x_c at0⟩
  refine x_fnP_rt rfl (cs1 := []) (x_ret (x_call (x_cons (x_lc (x_il (x_var rfl)) (by rw [W, List.length_map, rgF_len]; omega) lc) x_nil) (p_cons p_nil) (f_max (maxOf_same ?_ fun x hx => ?_))))
  · intro z
    have : e ∈ (rgF 1 n).filter fun b => decide (b = e) && decide (e ≤ b) := List.mem_filter.mpr ⟨mem_rgF.mpr ⟨h1, by omega⟩, by simp⟩
    rw [z] at this
    cases this
  · have := (List.mem_filter.mp hx).2
    simp at this
    exact this.1
theorem e_pick_spans {n : Nat} {s : Int} {k : Nat} (h0 : 0 ≤ s) (hk : s + (k : Int) ≤ (n : Int)) (hn : n ≤ 500) : F_pick_spans [.lst (W n), dI (endsN n), .int s, .int (s + (k : Int))] = some (.lst ((rgF (s + 1) k).map fun b => pairD (b, b))) := by
  have b1 : sSet 4 (mLstC mNil) 0 [some (.p (.lst (W n))), some (.p (dI (endsN n))), some (.p (.int s)), some (.p (.int (s + (k : Int)))), none, none, none] [] = some (.nx [some (.p (.lst (W n))), some (.p (dI (endsN n))), some (.p (.int s)), some (.p (.int (s + (k : Int)))), some (.c 0), none, none] [.lst []]) := x_set (x_lstC x_nil (by simp))
  have b2 : sSet 5 (mOp fAdd (mVar 2) (mC (.int 1))) 0 [some (.p (.lst (W n))), some (.p (dI (endsN n))), some (.p (.int s)), some (.p (.int (s + (k : Int)))), some (.c 0), none, none] [.lst []] =
      some (.nx [some (.p (.lst (W n))), some (.p (dI (endsN n))), some (.p (.int s)), some (.p (.int (s + (k : Int)))), some (.c 0), some (.p (.int (s + 1))), none] [.lst []]) := x_set (x_op (x_var rfl) x_c rfl)
  have lp := for_inv (n := 0) (tg := tgN 6) (body := m_pick_spans_b1) (ρ := [some (.p (.lst (W n))), some (.p (dI (endsN n))), some (.p (.int s)), some (.p (.int (s + (k : Int)))), some (.c 0), some (.p (.int (s + 1))), none]) (cs := [.lst []]) (ds := (rgF (s + 1) k).map D.int)
    (fun i ρ cs => ∃ x6, ρ = [some (.p (.lst (W n))), some (.p (dI (endsN n))), some (.p (.int s)), some (.p (.int (s + (k : Int)))), some (.c 0), some (.p (.int (s + 1 + (i : Int)))), x6] ∧ cs = [.lst ((rgF (s + 1) i).map fun b => E.p (pairD (b, b)))]) ⟨none, by simp, rfl⟩ ?_
  · obtain ⟨ρ', cs', e, x6, rfl, rfl⟩ := lp
    rw [List.length_map, rgF_len] at e
    refine x_fnP_rt rfl (cs1 := [.gone]) ((x_seq_nx b1).trans ((x_seq_nx b2).trans ((x_seq_nx ((x_for (x_il (x_call (x_cons (x_var (i := 1) rfl) (x_cons (x_var (i := 2) rfl) (x_cons (x_var (i := 3) rfl) x_nil))) (p_cons (p_cons (p_cons p_nil))) (e_pick_ends h0 hk hn)))).trans e)).trans ?_)))
    refine x_ret (x_frz (k := 0) (x_var (i := 4) rfl) rfl (Nat.zero_le _) ?_)
    rw [show ((rgF (s + 1) k).map fun b => E.p (pairD (b, b))) = ((rgF (s + 1) k).map fun b => pairD (b, b)).map E.p by rw [List.map_map]; rfl, pures_map]
  · rintro i d ρ cs hd ⟨x6, rfl, rfl⟩
    rw [List.getElem?_map, Option.map_eq_some_iff] at hd
    obtain ⟨b, hb, rfl⟩ := hd
    have hi : i < k := by have := (List.getElem?_eq_some_iff.mp hb).1; rwa [rgF_len] at this
    rw [rgF_get hi] at hb
    cases hb
    refine ⟨_, rfl, [some (.p (.lst (W n))), some (.p (dI (endsN n))), some (.p (.int s)), some (.p (.int (s + (k : Int)))), some (.c 0), some (.p (.int (s + 1 + ((i + 1 : Nat) : Int)))), some (.p (.int (s + 1 + (i : Int))))], [.lst ((rgF (s + 1) (i + 1)).map fun b => E.p (pairD (b, b)))], ?_, _, rfl, rfl⟩
    have e1 : sDrop (mAppend (mVar 4) (mCons (mTup (mCons (mCall F_latest_beginning (mCons (mVar 0) (mCons (mVar 5) (mCons (mVar 6) mNil)))) (mCons (mVar 6) mNil))) mNil)) 0 [some (.p (.lst (W n))), some (.p (dI (endsN n))), some (.p (.int s)), some (.p (.int (s + (k : Int)))), some (.c 0), some (.p (.int (s + 1 + (i : Int)))), some (.p (.int (s + 1 + (i : Int))))] [.lst ((rgF (s + 1) i).map fun b => E.p (pairD (b, b)))] =
        some (.nx [some (.p (.lst (W n))), some (.p (dI (endsN n))), some (.p (.int s)), some (.p (.int (s + (k : Int)))), some (.c 0), some (.p (.int (s + 1 + (i : Int)))), some (.p (.int (s + 1 + (i : Int))))] [.lst ((rgF (s + 1) (i + 1)).map fun b => E.p (pairD (b, b)))]) := by
      refine (x_drop (x_append (k := 0) (es := (rgF (s + 1) i).map fun b => E.p (pairD (b, b))) (e := .p (pairD (s + 1 + (i : Int), s + 1 + (i : Int)))) (cs2 := [.lst ((rgF (s + 1) i).map fun b => E.p (pairD (b, b)))]) (x_var rfl) rfl
        (x_cons (x_tup (x_cons (x_call (x_cons (x_var rfl) (x_cons (x_var rfl) (x_cons (x_var rfl) x_nil))) (p_cons (p_cons (p_cons p_nil))) (e_latest (by omega) (by omega) hn)) (x_cons (x_var rfl) x_nil)) (p_cons (p_cons p_nil)) (by simp)) x_nil) rfl (by rw [List.length_map, rgF_len]; omega))).trans ?_
      rw [rgF_succ, List.map_append]; rfl
    refine (x_seq_nx e1).trans (x_set (x_op (x_var rfl) x_c ?_))
    rw [f_add]
    congr 2
    omega
/-! the object -/
def promD (n : Nat) : D := .obj 0 ["day_number", "span_list", "end_table"] [.int n, .lst (W n), dI (endsN n)]
theorem lim_beats : tab_LIMITS "beats" = some 60 := by decide +kernel
theorem lim_spans : tab_LIMITS "spans" = some 80 := by decide +kernel
theorem lim_hall : tab_LIMITS "hall" = some 5 := by decide +kernel
theorem lim_values : tab_LIMITS "values" = some 4 := by decide +kernel
theorem x_tab {f : Str → Option Int} {m : ME} {x : Str} {i : Int} {n : Nat} {ρ : Sl} {cs cs1 : List Cell} (h : m n ρ cs = some (.p (.str x), cs1)) (hf : f x = some i) : mTab f m n ρ cs = some (.p (.int i), cs1) := by
  simp only [mTab, mUn, mBind, h, hf, Option.map_some]
theorem e_check {x : Str} {i l : Int} (hf : tab_LIMITS x = some l) (h : i ≤ l) : F_check [.str x, .int i] = some .non := by
  refine x_fnP_nx rfl (ρ1 := [some (.p (.str x)), some (.p (.int i))]) (cs1 := []) ((x_if_f (cs1 := []) ?_).trans x_next)
  exact x_test (x_op (x_var rfl) (x_tab (x_var rfl) hf) (by rw [f_gt, decide_eq_false (by omega)]))
theorem e_check_each {x : Str} {is : List Int} {l : Int} (hf : tab_LIMITS x = some l) (h : ∀ i ∈ is, i ≤ l) : F_check_each [.str x, dI is] = some .non := by
  have lp := for_fold (n := 0) (tg := tgN 2) (body := m_check_each_b1) (ρ := [some (.p (.str x)), some (.p (dI is)), none]) (cs := []) (xs := is) (s0 := ()) D.int
    (fun _ _ ρ cs => ∃ x2, ρ = [some (.p (.str x)), some (.p (dI is)), x2] ∧ cs = []) (fun _ _ => ()) ⟨none, rfl, rfl⟩ ?_
  · obtain ⟨ρ', cs', e, x2, rfl, rfl⟩ := lp
    exact x_fnP_nx rfl (ρ1 := _) (cs1 := []) ((x_for (x_il (x_var (i := 1) rfl))).trans e)
  · rintro i y _ ρ cs hy ⟨x2, rfl, rfl⟩
    have := h y (List.mem_of_getElem? hy)
    exact ⟨_, rfl, _, _, (x_if_f (cs1 := []) (x_test (x_op (x_var rfl) (x_tab (x_var rfl) hf) (by rw [f_gt, decide_eq_false (by omega)])))).trans x_next, _, rfl, rfl⟩
end Fw
set_option maxRecDepth 100000
set_option maxHeartbeats 4000000
namespace Fw
open PySem PySem.Spec PyProof.Rows L2 Mx
section
variable {n : Nat} {ρ : Sl} {cs cs1 cs2 : List Cell} {e : E} {es : List E}
theorem x_fldN {c k : Nat} {f : Str} {fs : List Str} {mo mv : ME} (hv : mv n ρ cs = some (e, cs1)) (ho : mo n ρ cs1 = some (.c k, cs2)) (hk : cs2[k]? = some (.obj c fs es)) (hf : fs.contains f = false) (hl : fs.length < 1000) :
    sFldN c f mo mv n ρ cs = some (.nx ρ (cs2.set k (.obj c (fs ++ [f]) (es ++ [e])))) := by
  simp only [sFldN, hv, ho, hk]
  rw [if_pos ⟨trivial, hf, hl⟩]
theorem x_fldC {c k : Nat} {f : Str} {fs : List Str} {mo : ME} (ho : mo n ρ cs = some (.c k, cs1)) (hk : cs1[k]? = some (.obj c fs es)) (hl : (fs.zip es).lookup f = some e) : mFld c f mo n ρ cs = some (e, cs1) := by
  simp only [mFld, ho, hk, if_true, hl, Option.map_some]
theorem x_fldO {c : Nat} {f : Str} {fs : List Str} {mo : ME} {ds : List D} {d : D} (ho : mo n ρ cs = some (.p (.obj c fs ds), cs1)) (hl : (fs.zip ds).lookup f = some d) : mFld c f mo n ρ cs = some (.p d, cs1) := by
  simp only [mFld, ho, if_true, hl, Option.map_some]
theorem x_meth {c : Nat} {m : Str} {f : List D → Option D} {mo : ME} {ma : MA} {fs : List Str} {ds0 ds : List D} {d : D} (ho : mo n ρ cs = some (.p (.obj c fs ds0), cs1)) (hm : fs.contains m = false) (ha : ma n ρ cs1 = some (es, cs2)) (hp : pures es = some ds) (hf : f (.obj c fs ds0 :: ds) = some d) :
    mMeth c m f mo ma n ρ cs = some (.p d, cs2) := by
  simp only [mMeth, ho, ha, hp, hf, Option.map_some]
  rw [if_pos ⟨trivial, hm⟩]
end
theorem enum_get {ds : List D} {i : Nat} {d : D} (h : (enumD ds)[i]? = some d) : ∃ x, ds[i]? = some x ∧ d = .tup [.int (i : Nat), x] := by
  rw [enumD, List.getElem?_map, List.getElem?_zipIdx, Option.map_map, Option.map_eq_some_iff] at h
  obtain ⟨x, hx, e⟩ := h
  exact ⟨x, hx, by rw [← e]; simp⟩
theorem W_get {n i : Nat} {d : D} (h : (W n)[i]? = some d) : d = pairD ((i : Int) + 1, (i : Int) + 1) ∧ i < n := by
  rw [W, List.getElem?_map, Option.map_eq_some_iff] at h
  obtain ⟨b, hb, rfl⟩ := h
  have hi : i < n := by have := (List.getElem?_eq_some_iff.mp hb).1; rwa [rgF_len] at this
  rw [rgF_get hi] at hb
  cases hb
  exact ⟨by rw [Int.add_comm], hi⟩
theorem e_promise {n : Nat} (h1 : 1 ≤ n) (h2 : n ≤ 60) : F_Promise___init__ [.c 0, .p (.int n), .p (.lst (W n))] [.obj 0 [] []] = some (.p .non, [.obj 0 ["day_number", "span_list", "end_table"] [.p (.int n), .p (.lst (W n)), .p (dI (endsN n))]]) := by
  have hW : (W n).length = n := by rw [W, List.length_map, rgF_len]
  have lp := for_inv (n := 1) (tg := tg2 3 4) (body := m_Promise___init___b1) (ρ := [some (.c 0), some (.p (.int n)), some (.p (.lst (W n))), none, none]) (cs := [.obj 0 [] []]) (ds := enumD (W n))
    (fun i ρ cs => ∃ x3 x4, ρ = [some (.c 0), some (.p (.int n)), some (.p (.lst (W n))), x3, x4] ∧ cs = [.obj 0 [] []]) ⟨none, none, rfl, rfl⟩ ?_
  · obtain ⟨ρ', cs', e, x3, x4, rfl, rfl⟩ := lp
    have cut : cutM 1 (.p .non, [.obj 0 ["day_number", "span_list", "end_table"] [.p (.int n), .p (.lst (W n)), .p (dI (endsN n))]]) = (.p .non, [.obj 0 ["day_number", "span_list", "end_table"] [.p (.int n), .p (.lst (W n)), .p (dI (endsN n))]]) := cutM_id rfl
    refine (x_fnM_nx (ρ1 := [some (.c 0), some (.p (.int n)), some (.p (.lst (W n))), x3, x4]) (cs1 := [.obj 0 ["day_number", "span_list", "end_table"] [.p (.int n), .p (.lst (W n)), .p (dI (endsN n))]]) rfl ?_).trans (congrArg some cut)
    have c2 : F_check [.str "spans", .int ((W n).length : Int)] = some .non := e_check lim_spans (by rw [hW]; omega)
    refine (x_seq_nx (x_drop (x_call (x_cons x_c (x_cons (x_var (i := 1) rfl) x_nil)) (p_cons (p_cons p_nil)) (e_check lim_beats (by omega))))).trans ?_
    refine (x_seq_nx (x_drop (x_call (x_cons x_c (x_cons (x_call (x_cons (x_var (i := 2) rfl) x_nil) (p_cons p_nil) f_lenL) x_nil)) (p_cons (p_cons p_nil)) c2))).trans ?_
    refine (x_seq_nx ((x_if_f (x_test (x_op (x_var (i := 1) rfl) x_c (by rw [f_lt, decide_eq_false (by omega)])))).trans x_next)).trans ?_
    refine (x_seq_nx ((x_for (x_ie (x_cons (x_var (i := 2) rfl) x_nil))).trans e)).trans ?_
    refine (x_seq_nx (x_fldN (k := 0) (x_var (i := 1) rfl) (x_var (i := 0) rfl) rfl (by decide +kernel) (by decide))).trans ?_
    refine (x_seq_nx (x_fldN (k := 0) (x_call (x_cons (x_var (i := 2) rfl) x_nil) (p_cons p_nil) (e_sorted (by omega))) (x_var (i := 0) rfl) rfl (by decide +kernel) (by decide))).trans ?_
    refine (x_fldN (k := 0) (x_call (x_cons (x_var (i := 1) rfl) (x_cons (x_fldC (k := 0) (e := .p (.lst (W n))) (x_var (i := 0) rfl) rfl rfl) x_nil)) (p_cons (p_cons p_nil)) (e_least (by omega))) (x_var (i := 0) rfl) rfl (by decide +kernel) (by decide)).trans rfl
  · rintro i d ρ cs hd ⟨x3, x4, rfl, rfl⟩
    obtain ⟨x, hx, rfl⟩ := enum_get hd
    obtain ⟨rfl, hi⟩ := W_get hx
    refine ⟨_, rfl, _, _, (x_if_f (cs1 := [.obj 0 [] []]) ?_).trans x_next, _, _, rfl, rfl⟩
    refine (x_or_f (cs1 := [.obj 0 [] []]) (x_test (x_op (x_op (x_var (i := 4) (e := .p (pairD ((i : Int) + 1, (i : Int) + 1))) rfl) x_c at0) x_c (by rw [f_lt, decide_eq_false (by omega)])))).trans ?_
    refine (x_or_f (cs1 := [.obj 0 [] []]) (x_test (x_op (x_op (x_var (i := 4) (e := .p (pairD ((i : Int) + 1, (i : Int) + 1))) rfl) x_c at1) (x_op (x_var (i := 4) (e := .p (pairD ((i : Int) + 1, (i : Int) + 1))) rfl) x_c at0) (by rw [f_lt, decide_eq_false (by omega)])))).trans ?_
    exact x_test (x_op (x_op (x_var (i := 4) (e := .p (pairD ((i : Int) + 1, (i : Int) + 1))) rfl) x_c at1) (x_var (i := 1) rfl) (by rw [f_gt, decide_eq_false (by omega)]))
theorem e_last {n : Nat} : F_Promise_last [promD n] = some (.int n) := x_fnP_rt rfl (cs1 := []) (x_ret (x_fldO (x_var (i := 0) rfl) rfl))
theorem e_picks {n : Nat} {s : Int} {k : Nat} (h0 : 0 ≤ s) (hk : s + (k : Int) ≤ (n : Int)) (hn : n ≤ 500) : F_Promise_picks [promD n, .int s, .int (s + (k : Int))] = some (.lst ((rgF (s + 1) k).map fun b => pairD (b, b))) :=
  x_fnP_rt rfl (cs1 := []) (x_ret (x_call (x_cons (x_fldO (d := .lst (W n)) (x_var (i := 0) rfl) rfl) (x_cons (x_fldO (d := dI (endsN n)) (x_var (i := 0) rfl) rfl) (x_cons (x_var (i := 1) rfl) (x_cons (x_var (i := 2) rfl) x_nil)))) (p_cons (p_cons (p_cons (p_cons p_nil)))) (e_pick_spans h0 hk hn)))
end Fw
set_option maxRecDepth 100000
set_option maxHeartbeats 4000000
namespace Fw
open PySem PySem.Spec PyProof.Rows L2 Mx
/-! ### the tree: children, sessions -/
structure PsOk (ps : List Int) : Prop where
  ne : ps ≠ []
  len : ps.length ≤ 4
  par : ∀ (a : Nat) p, ps[a]? = some p → 0 ≤ p ∧ p ≤ (a : Int)
def kids (ps : List Int) (v : Int) : List Int := (rg (ps.length : Int)).filter fun a => decide (ps.getD a.toNat 0 = v)
theorem e_lchildren {ps : List Int} {v : Int} (hl : ps.length ≤ 1000) : F__law_children [dI ps, .int v] = some (.lst ((kids ps v).map fun a => .int (a + 1))) := by
  have lc := lc_filter (n := 0) (cs := []) (tg := tgN 2) (mt := mTest (mOp fEq (mOp fIxL (mVar 0) (mVar 2)) (mVar 1))) (me := mOp fAdd (mVar 2) (mC (.int 1))) (ρw := [some (.p (dI ps)), some (.p (.int v)), none]) D.int (fun a => decide (ps.getD a.toNat 0 = v)) (fun a => .int (a + 1)) (xs := rg (ps.length : Int))
    fun a ha => ⟨_, rfl, x_test (x_op (x_op (d1 := dI ps) (x_var rfl) (x_var rfl) (atI_ints (mem_rg.mp ha).1 (mem_rg.mp ha).2)) (x_var rfl) rfl), fun _ => x_op (x_var rfl) x_c rfl⟩
  have r := x_ir1 (n := 0) (ma := mCons (mCall fLen (mCons (mVar 0) mNil)) mNil) (ρ := [some (.p (dI ps)), some (.p (.int v)), none]) (cs := []) (cs1 := []) (j := (ps.length : Int)) (by simp [sSeq, sNext, sSet, sDrop, sRet, sRetN, sIf, sAug, sAsg, sBreak, mVar, mC, mOp, m2, mBind, mCall, mCallM, mNil, mCons, mTup, mLst, mLstC, mTest, mAnd, mOr, mNot, mOfT, mIf, mUn, mTru, mIL, mIE, mIZLT, tgN, tg2, tgT, tgs, tgs0, mYes, mFor, mFrz, mAppend, toC, sPre, sPost, mNo, mPart, mSl, mChain, mChain3, mBM, mFld, mMeth, wipeS, flatSl, deref, mBor, tBorT, scalarD, mIxC, mDNewT, mLstRg1, ]) (by omega) (by omega)
  rw [rg_rangeD] at r
  exact x_fnP_rt rfl (cs1 := []) (x_ret (x_lc r (by rw [List.length_map, rg_len]; omega) lc))
theorem mem_kids {ps : List Int} {v a : Int} : a ∈ kids ps v ↔ 0 ≤ a ∧ a < ps.length ∧ ps.getD a.toNat 0 = v := by
  rw [kids, List.mem_filter, mem_rg]
  simp [and_assoc]
abbrev dP (ps : List (Int × Int)) : D := .lst (ps.map pairD)
def pE (ps : List (Int × Int)) : List E := ps.map fun p => E.p (pairD p)
theorem pE_set {ps : List (Int × Int)} {i : Nat} {p : Int × Int} : (pE ps).set i (.p (pairD p)) = pE (ps.set i p) := by simp [pE, List.map_set]
/-- sessions one behind the other -/
structure Sess (ps lens : List Int) (found : List (Int × Int)) : Prop where
  len : found.length = ps.length
  at_ : ∀ (a : Nat) p, found[a]? = some p → 1 ≤ p.1 ∧ p.2 = p.1 + lens.getD a 0 - 1 ∧ p.2 ≤ 10 * (ps.length : Int)
  kid : ∀ (c a : Nat) p q, found[c]? = some p → found[a]? = some q → ps[c]? = some ((a : Int) + 1) → p.2 < q.1
/-- while they are made: the last i are done -/
structure Part (ps lens : List Int) (i : Nat) (found : List (Int × Int)) : Prop where
  len : found.length = ps.length
  nn : ∀ p ∈ found, 0 ≤ p.2
  at_ : ∀ (a : Nat) p, ps.length ≤ a + i → found[a]? = some p → 1 ≤ p.1 ∧ p.2 = p.1 + lens.getD a 0 - 1 ∧ p.2 ≤ 10 * (i : Int)
  kid : ∀ (c a : Nat) p q, ps.length ≤ a + i → found[c]? = some p → found[a]? = some q → ps[c]? = some ((a : Int) + 1) → p.2 < q.1
theorem Part.sess {ps lens : List Int} {found : List (Int × Int)} (h : Part ps lens ps.length found) : Sess ps lens found :=
  ⟨h.len, fun a p e => h.at_ a p (by omega) e, fun c a p q e1 e2 e3 => h.kid c a p q (by omega) e1 e2 e3⟩
def kidEnds (ps : List Int) (found : List (Int × Int)) (v : Int) : List Int := (kids ps v).map fun a => (found.getD a.toNat (0, 0)).2
theorem part_step {ps lens : List Int} {i : Nat} {found : List (Int × Int)} (ok : PsOk ps) (hl : lens.length = ps.length) (hr : ∀ x ∈ lens, 1 ≤ x ∧ x ≤ 10) (hi : i < ps.length) (h : Part ps lens i found) :
    Part ps lens (i + 1) (found.set (ps.length - i - 1) (1 + mx (kidEnds ps found ((ps.length : Int) - (i : Int))), 1 + mx (kidEnds ps found ((ps.length : Int) - (i : Int))) + lens.getD (ps.length - i - 1) 0 - 1)) := by
  -- the place that is written
  obtain ⟨k, hk⟩ : ∃ k, ps.length - i - 1 = k := ⟨_, rfl⟩
  rw [hk]
  have hv : (ps.length : Int) - (i : Int) = (k : Int) + 1 := by omega
  rw [hv]
  have hkl : k < lens.length := by omega
  have hlk := hr _ (List.getElem_mem hkl)
  have hld : lens.getD k 0 = lens[k] := by simp [hkl]
  generalize hM : mx (kidEnds ps found ((k : Int) + 1)) = M
  have hM0 : 0 ≤ M := by rw [← hM]; exact mx_nn _
  -- kids stand behind it
  have kid_lt : ∀ (c : Nat), ps[c]? = some ((k : Int) + 1) → k < c := fun c hc => by have := (ok.par c _ hc).2; omega
  have kid_le : ∀ (c : Nat) p, ps[c]? = some ((k : Int) + 1) → found[c]? = some p → p.2 ≤ M := fun c p hc hp => by
    rw [← hM]
    refine le_mx ?_
    rw [kidEnds, List.mem_map]
    have hcl := (List.getElem?_eq_some_iff.mp hc).1
    exact ⟨(c : Int), mem_kids.mpr ⟨by omega, by omega, by simp [hc]⟩, by simp [hp]⟩
  have hMb : M ≤ 10 * (i : Int) := by
    rw [← hM]
    rcases mx_mem (kidEnds ps found ((k : Int) + 1)) with z | z
    · omega
    · obtain ⟨a, ha, e⟩ := List.mem_map.mp (show mx (kidEnds ps found ((k : Int) + 1)) ∈ (kids ps ((k : Int) + 1)).map fun a => (found.getD a.toNat (0, 0)).2 from z)
      obtain ⟨a0, a1, a2⟩ := mem_kids.mp ha
      have hal : a.toNat < ps.length := by omega
      have hpa : ps[a.toNat]? = some ((k : Int) + 1) := by rw [← a2, List.getElem?_eq_getElem hal]; simp [hal]
      have hlt := kid_lt _ hpa
      have hfl : a.toNat < found.length := by rw [h.len]; exact hal
      have := (h.at_ a.toNat _ (by omega) (List.getElem?_eq_getElem hfl)).2.2
      have e2 : (found.getD a.toNat (0, 0)).2 = found[a.toNat].2 := by simp [hfl]
      rw [← e, e2]
      exact this
  have hkf : k < found.length := by rw [h.len]; omega
  refine ⟨by rw [List.length_set]; exact h.len, fun p hp => ?_, fun a p ha e => ?_, fun c a p q ha e1 e2 e3 => ?_⟩
  · rcases List.mem_or_eq_of_mem_set hp with z | z
    · exact h.nn p z
    · subst z
      show 0 ≤ 1 + M + lens.getD k 0 - 1
      omega
  · rw [List.getElem?_set] at e
    split at e
    · rename_i hak
      subst hak
      cases e
      dsimp only
      refine ⟨by omega, rfl, by omega⟩
    · rename_i hak
      have := h.at_ a p (by omega) e
      refine ⟨this.1, this.2.1, by omega⟩
  · rw [List.getElem?_set] at e2
    split at e2
    · rename_i hak
      subst hak
      cases e2
      have hlt := kid_lt c e3
      rw [List.getElem?_set_ne (by omega)] at e1
      have := kid_le c p e3 e1
      dsimp only
      omega
    · rename_i hak
      have hca : (a : Int) < c := by have := (ok.par c _ e3).2; omega
      rw [List.getElem?_set_ne (by omega)] at e1
      exact h.kid c a p q (by omega) e1 e2 e3
theorem pE_get {ps : List (Int × Int)} {i : Nat} : (pE ps)[i]? = (ps[i]?).map fun p => .p (pairD p) := List.getElem?_map ..
theorem truD_ints {xs : List Int} : truD (dI xs) = some (!xs.isEmpty) := by
  cases xs <;> rfl
theorem e_llengths {ps lens : List Int} (ok : PsOk ps) (hl : lens.length = ps.length) (hr : ∀ x ∈ lens, 1 ≤ x ∧ x ≤ 10) : ∃ found, F__law_lengths [dI ps, dI lens] = some (dP found) ∧ Sess ps lens found := by
  have h4 := ok.len
  have b1 : sSet 2 (mLcE (mIL (mVar 0)) (tgN 7) mYes (mTup (mCons (mC (.int 0)) (mCons (mC (.int 0)) mNil))) [7]) 0 [some (.p (dI ps)), some (.p (dI lens)), none, none, none, none, none, none, none] [] =
      some (.nx [some (.p (dI ps)), some (.p (dI lens)), some (.c 0), none, none, none, none, none, none] [.lst (pE (List.replicate ps.length (0, 0)))]) := by
    have lc : ∀ xs : List Int, lcE (tgN 7) mYes (mTup (mCons (mC (.int 0)) (mCons (mC (.int 0)) mNil))) 0 [some (.p (dI ps)), some (.p (dI lens)), none, none, none, none, none, none, none] (xs.map D.int) [] = some (pE (List.replicate xs.length (0, 0)), []) := by
      intro xs
      induction xs with
      | nil => rfl
      | cons x xs ih =>
        have t : mTup (mCons (mC (.int 0)) (mCons (mC (.int 0)) mNil)) 0 [some (.p (dI ps)), some (.p (dI lens)), none, none, none, none, none, some (.p (.int x)), none] [] = some (.p (pairD (0, 0)), []) := rfl
        rw [List.map_cons, lcE, x_tgN]
        simp only [mYes, List.set_cons_succ, List.set_cons_zero, t, ih]
        rfl
    refine x_set ?_
    have v : mIL (mVar 0) 0 [some (.p (dI ps)), some (.p (dI lens)), none, none, none, none, none, none, none] [] = some (ps.map D.int, []) := rfl
    simp only [mLcE, v]
    rw [if_pos (by rw [List.length_map]; omega)]
    have := lc ps
    show (match lcE (tgN 7) mYes _ 0 [some (.p (dI ps)), some (.p (dI lens)), none, none, none, none, none, none, none] (ps.map D.int) [] with
      | some (es, cs2) => some (E.c cs2.length, cs2 ++ [Cell.lst es])
      | none => none) = _
    rw [this]; rfl
  have lp := for_inv (n := 0) (tg := tgN 3) (body := m__law_lengths_b1) (ρ := [some (.p (dI ps)), some (.p (dI lens)), some (.c 0), none, none, none, none, none, none]) (cs := [.lst (pE (List.replicate ps.length (0, 0)))]) (ds := rangeD 0 ps.length)
    (fun i ρ cs => ∃ found x3 x4 x5 x6 x7 x8, Part ps lens i found ∧ ρ = [some (.p (dI ps)), some (.p (dI lens)), some (.c 0), x3, x4, x5, x6, x7, x8] ∧ cs = [.lst (pE found)]) ?_ ?_
  · obtain ⟨ρ', cs', e, found, x3, x4, x5, x6, x7, x8, hp, rfl, rfl⟩ := lp
    rw [rangeD, List.length_map, List.length_range] at hp
    refine ⟨found, ?_, hp.sess⟩
    have r := x_ir1 (n := 0) (ma := mCons (mCall fLen (mCons (mVar 0) mNil)) mNil) (ρ := [some (.p (dI ps)), some (.p (dI lens)), some (.c 0), none, none, none, none, none, none]) (cs := [.lst (pE (List.replicate ps.length (0, 0)))]) (cs1 := [.lst (pE (List.replicate ps.length (0, 0)))]) (j := (ps.length : Int)) (by simp [sSeq, sNext, sSet, sDrop, sRet, sRetN, sIf, sAug, sAsg, sBreak, mVar, mC, mOp, m2, mBind, mCall, mCallM, mNil, mCons, mTup, mLst, mLstC, mTest, mAnd, mOr, mNot, mOfT, mIf, mUn, mTru, mIL, mIE, mIZLT, tgN, tg2, tgT, tgs, tgs0, mYes, mFor, mFrz, mAppend, toC, sPre, sPost, mNo, mPart, mSl, mChain, mChain3, mBM, mFld, mMeth, wipeS, flatSl, deref, mBor, tBorT, scalarD, mIxC, mDNewT, mLstRg1, ]) (by omega) (by omega)
    rw [Int.toNat_natCast] at r
    refine x_fnP_rt rfl (cs1 := [.gone]) ((x_seq_nx b1).trans ((x_seq_nx ((x_for r).trans e)).trans ?_))
    refine x_ret (x_frz (k := 0) (x_var (i := 2) rfl) rfl (Nat.zero_le _) ?_)
    rw [show pE found = (found.map pairD).map E.p by rw [List.map_map]; rfl, pures_map]
  · refine ⟨List.replicate ps.length (0, 0), none, none, none, none, none, none, ⟨by simp, fun p hp => ?_, fun a p ha e => ?_, fun c a p q ha e1 e2 e3 => ?_⟩, rfl, rfl⟩
    · rw [List.mem_replicate] at hp; rw [hp.2]; exact Int.le_refl 0
    · have := (List.getElem?_eq_some_iff.mp e).1
      rw [List.length_replicate] at this
      omega
    · have := (List.getElem?_eq_some_iff.mp e2).1
      rw [List.length_replicate] at this
      omega
  · rintro i d ρ cs hd ⟨found, x3, x4, x5, x6, x7, x8, hp, rfl, rfl⟩
    rw [rangeD_rgF, List.getElem?_map, Option.map_eq_some_iff] at hd
    obtain ⟨b, hb, rfl⟩ := hd
    have hi : i < ps.length := by have := (List.getElem?_eq_some_iff.mp hb).1; rwa [rgF_len] at this
    rw [rgF_get hi] at hb
    cases hb
    have st := part_step ok hl hr hi hp
    obtain ⟨k, hk⟩ : ∃ k, ps.length - i - 1 = k := ⟨_, rfl⟩
    have hv : (ps.length : Int) - (i : Int) = (k : Int) + 1 := by omega
    rw [hk, hv] at st
    have hkl : k < lens.length := by omega
    generalize hE : kidEnds ps found ((k : Int) + 1) = en at st
    generalize hfi : (1 + mx en, 1 + mx en + lens.getD k 0 - 1) = fi at st
    have hz : (0 : Int) + (i : Int) = (i : Int) := by omega
    rw [hz]
    have s1 : sSet 4 (mOp fSub (mCall fLen (mCons (mVar 0) mNil)) (mVar 3)) 0 [some (.p (dI ps)), some (.p (dI lens)), some (.c 0), some (.p (.int (i : Int))), x4, x5, x6, x7, x8] [.lst (pE found)] =
        some (.nx [some (.p (dI ps)), some (.p (dI lens)), some (.c 0), some (.p (.int (i : Int))), some (.p (.int ((k : Int) + 1))), x5, x6, x7, x8] [.lst (pE found)]) := by
      refine x_set (x_op (x_call (x_cons (x_var (i := 0) rfl) x_nil) (p_cons p_nil) f_lenL) (x_var rfl) ?_)
      rw [List.length_map, f_sub, hv]
    have s2 : sSet 5 (mLc (mIL (mCall F__law_children (mCons (mVar 0) (mCons (mVar 4) mNil)))) (tgN 8) mYes (mBor (mOp fIxT (mOp fIxL (mVar 2) (mOp fSub (mVar 8) (mC (.int 1)))) (mC (.int 1)))) [8]) 0 [some (.p (dI ps)), some (.p (dI lens)), some (.c 0), some (.p (.int (i : Int))), some (.p (.int ((k : Int) + 1))), x5, x6, x7, x8] [.lst (pE found)] =
        some (.nx [some (.p (dI ps)), some (.p (dI lens)), some (.c 0), some (.p (.int (i : Int))), some (.p (.int ((k : Int) + 1))), some (.p (dI en)), x6, x7, x8] [.lst (pE found)]) := by
      refine x_set (x_lc (ds := (kids ps ((k : Int) + 1)).map fun a => .int (a + 1)) (cs1 := [.lst (pE found)]) (x_il (x_call (x_cons (x_var rfl) (x_cons (x_var rfl) x_nil)) (p_cons (p_cons p_nil)) (e_lchildren (by omega)))) ?_ ?_)
      · rw [List.length_map]
        have : (kids ps ((k : Int) + 1)).length ≤ (rg (ps.length : Int)).length := List.length_filter_le _ _
        rw [rg_len] at this
        omega
      · have ee : en.map D.int = (kids ps ((k : Int) + 1)).map fun a => D.int (found.getD a.toNat (0, 0)).2 := by rw [← hE, kidEnds, List.map_map]; rfl
        rw [ee]
        refine lc_map (fun a => .int (a + 1)) _ fun a ha => ⟨_, rfl, rfl, ?_⟩
        obtain ⟨a0, a1, _⟩ := mem_kids.mp ha
        have hal : a.toNat < found.length := by rw [hp.len]; omega
        have fl2 : (flatSl [.lst (pE found)] [some (.p (dI ps)), some (.p (dI lens)), some (.c 0), some (.p (.int (i : Int))), some (.p (.int ((k : Int) + 1))), x5, x6, x7, some (.p (.int (a + 1)))])[2]? = some (some (.p (dP found))) := flat_get rfl (deref_lst (f := pairD) rfl)
        have fl8 : (flatSl [.lst (pE found)] [some (.p (dI ps)), some (.p (dI lens)), some (.c 0), some (.p (.int (i : Int))), some (.p (.int ((k : Int) + 1))), x5, x6, x7, some (.p (.int (a + 1)))])[8]? = some (some (.p (.int (a + 1)))) := flat_get rfl rfl
        have ix : fIxL (dP found) (.int (a + 1 - 1)) = some (pairD found[a.toNat]) := by
          rw [show a + 1 - 1 = a by omega]
          exact atI_map a0 (List.getElem?_eq_getElem hal)
        refine (x_bor rfl (x_op (d1 := pairD found[a.toNat]) (x_op (x_var fl2) (x_op (x_var fl8) x_c rfl) ix) x_c at1) rfl).trans ?_
        simp [hal]
    have s3 : sSet 6 (mOp fAdd (mC (.int 1)) (mIf (mTru (mVar 5)) (mCall fMax (mCons (mVar 5) mNil)) (mC (.int 0)))) 0 [some (.p (dI ps)), some (.p (dI lens)), some (.c 0), some (.p (.int (i : Int))), some (.p (.int ((k : Int) + 1))), some (.p (dI en)), x6, x7, x8] [.lst (pE found)] =
        some (.nx [some (.p (dI ps)), some (.p (dI lens)), some (.c 0), some (.p (.int (i : Int))), some (.p (.int ((k : Int) + 1))), some (.p (dI en)), some (.p (.int (1 + mx en))), x7, x8] [.lst (pE found)]) := by
      refine x_set (x_op (d2 := .int (mx en)) (cs2 := [.lst (pE found)]) x_c ?_ rfl)
      by_cases c : en = []
      · have t : mTru (mVar 5) 0 [some (.p (dI ps)), some (.p (dI lens)), some (.c 0), some (.p (.int (i : Int))), some (.p (.int ((k : Int) + 1))), some (.p (dI en)), x6, x7, x8] [.lst (pE found)] = some (false, [.lst (pE found)]) := x_tru (x_var rfl) (by rw [truD_ints, c]; rfl)
        rw [x_ifE_f t, c]; rfl
      · have t : mTru (mVar 5) 0 [some (.p (dI ps)), some (.p (dI lens)), some (.c 0), some (.p (.int (i : Int))), some (.p (.int ((k : Int) + 1))), some (.p (dI en)), x6, x7, x8] [.lst (pE found)] = some (true, [.lst (pE found)]) := x_tru (x_var rfl) (by
          rw [truD_ints]
          cases en with
          | nil => exact absurd rfl c
          | cons => rfl)
        rw [x_ifE_t t]
        refine x_call (x_cons (x_var rfl) x_nil) (p_cons p_nil) (f_max (maxOf_mx c fun x hx => ?_))
        rw [← hE, kidEnds, List.mem_map] at hx
        obtain ⟨a, ha, rfl⟩ := hx
        obtain ⟨a0, a1, _⟩ := mem_kids.mp ha
        have hal : a.toNat < found.length := by rw [hp.len]; omega
        have := hp.nn _ (List.getElem_mem hal)
        simpa [hal] using this
    have hlk : fIxL (dI lens) (.int ((k : Int) + 1 - 1)) = some (.int (lens.getD k 0)) := by
      rw [show (k : Int) + 1 - 1 = (k : Int) by omega]
      exact lI_ixL (by simp [hkl])
    refine ⟨_, rfl, [some (.p (dI ps)), some (.p (dI lens)), some (.c 0), some (.p (.int (i : Int))), some (.p (.int ((k : Int) + 1))), some (.p (dI en)), some (.p (.int (1 + mx en))), x7, x8], [.lst (pE (found.set k fi))], (x_seq_nx s1).trans ((x_seq_nx s2).trans ((x_seq_nx s3).trans ?_)), found.set k fi, _, _, _, _, _, _, st, rfl, rfl⟩
    refine (x_putL (k := 0) (i := (k : Int) + 1 - 1) (es := pE found) (e := .p (pairD fi)) (cs1 := [.lst (pE found)]) (cs2 := [.lst (pE found)]) (cs3 := [.lst (pE found)]) ?_ (x_var rfl) (x_op (x_var rfl) x_c rfl) rfl (by omega) (by rw [pE, List.length_map, hp.len]; omega)).trans ?_
    · rw [← hfi]
      exact x_tup (x_cons (x_var rfl) (x_cons (x_op (x_op (x_var rfl) (x_op (x_var rfl) (x_op (x_var rfl) x_c rfl) hlk) rfl) x_c rfl) x_nil)) (p_cons (p_cons p_nil)) (by simp)
    · rw [show ((k : Int) + 1 - 1).toNat = k by omega, pE_set]
      rfl
end Fw
set_option maxRecDepth 100000
set_option maxHeartbeats 4000000
namespace Fw
open PySem PySem.Spec PyProof.Rows L2 Mx
theorem lcE_cells : ∀ (xs : List Int) (cs : List Cell) {ρw : Sl}, lcE (tgN 5) mYes (mLstC mNil) 0 ρw (xs.map D.int) cs = some ((List.range' cs.length xs.length).map E.c, cs ++ List.replicate xs.length (.lst []))
  | [], cs, ρw => by simp [lcE]
  | x :: xs, cs, ρw => by
    have ih := lcE_cells xs (cs ++ [.lst []]) (ρw := ρw)
    have t : ∀ ρ, mLstC mNil 0 ρ cs = some (.c cs.length, cs ++ [.lst []]) := fun ρ => x_lstC x_nil (by simp)
    rw [List.map_cons, lcE, x_tgN]
    simp only [mYes, t, ih]
    rw [List.length_cons, List.range'_succ, List.map_cons, List.replicate_succ, List.append_assoc, List.length_append]
    rfl
def gC (g : List Int) : Cell := .lst (lI g)
def kidsE (m : Nat) : List E := (List.range m).map E.c
theorem e_children_of {ps : List Int} (ok : PsOk ps) : ∃ d, F_children_of [dI ps] = some d := by
  have h4 := ok.len
  have r := x_ir1 (n := 0) (ma := mCons (mOp fAdd (mCall fLen (mCons (mVar 0) mNil)) (mC (.int 1))) mNil) (ρ := [some (.p (dI ps)), none, none, none, none, none]) (cs := []) (cs1 := []) (j := (ps.length : Int) + 1) (by simp [sSeq, sNext, sSet, sDrop, sRet, sRetN, sIf, sAug, sAsg, sBreak, mVar, mC, mOp, m2, mBind, mCall, mCallM, mNil, mCons, mTup, mLst, mLstC, mTest, mAnd, mOr, mNot, mOfT, mIf, mUn, mTru, mIL, mIE, mIZLT, tgN, tg2, tgT, tgs, tgs0, mYes, mFor, mFrz, mAppend, toC, sPre, sPost, mNo, mPart, mSl, mChain, mChain3, mBM, mFld, mMeth, wipeS, flatSl, deref, mBor, tBorT, scalarD, mIxC, mDNewT, mLstRg1, ]) (by omega) (by omega)
  have e0 : ((ps.length : Int) + 1).toNat = ps.length + 1 := by omega
  rw [e0, rangeD_rgF] at r
  have b1 : sSet 1 (mLcE (mIR1 (mCons (mOp fAdd (mCall fLen (mCons (mVar 0) mNil)) (mC (.int 1))) mNil)) (tgN 5) mYes (mLstC mNil) [5]) 0 [some (.p (dI ps)), none, none, none, none, none] [] =
      some (.nx [some (.p (dI ps)), some (.c (ps.length + 1)), none, none, none, none] ((List.replicate (ps.length + 1) []).map gC ++ [.lst (kidsE (ps.length + 1))])) := by
    refine x_set ?_
    simp only [mLcE, r]
    rw [if_pos (by rw [List.length_map, rgF_len]; omega), lcE_cells]
    dsimp only
    rw [rgF_len, List.nil_append, List.length_replicate, List.map_replicate]
    simp only [kidsE, List.length_nil, List.range_eq_range']
    rfl
  have lp := for_inv (n := 0) (tg := tg2 2 3) (body := m_children_of_b1) (ρ := [some (.p (dI ps)), some (.c (ps.length + 1)), none, none, none, none]) (cs := (List.replicate (ps.length + 1) []).map gC ++ [.lst (kidsE (ps.length + 1))]) (ds := enumD (ps.map D.int))
    (fun i ρ cs => ∃ (gs : List (List Int)) (x2 x3 x4 : Option E), gs.length = ps.length + 1 ∧ (∀ g ∈ gs, g.length ≤ i) ∧ ρ = [some (.p (dI ps)), some (.c (ps.length + 1)), x2, x3, x4, none] ∧ cs = gs.map gC ++ [.lst (kidsE (ps.length + 1))]) ⟨_, none, none, none, by simp, by simp, rfl, rfl⟩ ?_
  · obtain ⟨ρ', cs', e, gs, x2, x3, x4, hl, hg, rfl, rfl⟩ := lp
    obtain ⟨cs', fz⟩ := frzAll_cells (n := 0) (List.range (ps.length + 1)) (gs.map dI) (gs.map gC ++ [.lst (kidsE (ps.length + 1))]) List.nodup_range (fun _ _ => Nat.zero_le _) (by simp [hl]) fun i k d h1 h2 => by
      rw [List.getElem?_map, Option.map_eq_some_iff] at h2
      obtain ⟨g, hg, rfl⟩ := h2
      have hi := (List.getElem?_eq_some_iff.mp hg).1
      rw [List.getElem?_range (by omega)] at h1
      cases h1
      exact ⟨lI g, g.map D.int, by rw [List.getElem?_append_left (by rw [List.length_map]; exact hi), List.getElem?_map, hg]; rfl, lI_pures, rfl⟩
    have hk : (gs.map gC ++ [.lst (kidsE (ps.length + 1))])[ps.length + 1]? = some (.lst (kidsE (ps.length + 1))) := by
      rw [List.getElem?_append_right (by rw [List.length_map, hl]; exact Nat.le_refl _), List.length_map, hl, Nat.sub_self]; rfl
    have hany : (kidsE (ps.length + 1)).any (isC (ps.length + 1)) = false := by
      rw [List.any_eq_false]
      intro x hx
      rw [kidsE, List.mem_map] at hx
      obtain ⟨i, hi, rfl⟩ := hx
      rw [List.mem_range] at hi
      simp [isC]
      omega
    have fz2 : frz2 0 (ps.length + 1) (gs.map gC ++ [.lst (kidsE (ps.length + 1))]) = some (.lst (gs.map dI), cs'.set (ps.length + 1) .gone) := by
      rw [frz2, if_pos (Nat.zero_le _), hk]
      dsimp only
      rw [if_pos hany]
      have fz' : frzAll 0 (kidsE (ps.length + 1)) (gs.map gC ++ [.lst (kidsE (ps.length + 1))]) = some (gs.map dI, cs') := fz
      rw [fz']
      rfl
    refine ⟨.lst (gs.map dI), x_fnP_rt rfl (cs1 := cs'.set (ps.length + 1) .gone) ((x_seq_nx b1).trans ((x_seq_nx ((x_for (x_ie (x_cons (x_var (i := 0) rfl) x_nil))).trans e)).trans ?_))⟩
    have g1 : [some (.p (dI ps)), some (.c (ps.length + 1)), x2, x3, x4, none][1]? = some (some (.c (ps.length + 1))) := rfl
    simp only [sPre, gFrz2, g1, fz2, Option.map_some]
    exact x_ret (x_var rfl)
  · rintro i d ρ cs hd ⟨gs, x2, x3, x4, hl, hg, rfl, rfl⟩
    obtain ⟨x, hx, rfl⟩ := enum_get hd
    rw [List.getElem?_map, Option.map_eq_some_iff] at hx
    obtain ⟨p, hp, rfl⟩ := hx
    have hi := (List.getElem?_eq_some_iff.mp hp).1
    have hpr := ok.par i p hp
    obtain ⟨k, hk⟩ : ∃ k : Nat, p = (k : Int) := ⟨p.toNat, by omega⟩
    subst hk
    have hkl : k < gs.length := by omega
    have hgk : gs[k]? = some gs[k] := List.getElem?_eq_getElem hkl
    have hgl := hg _ (List.getElem_mem hkl)
    have hids : (gs.map gC ++ [.lst (kidsE (ps.length + 1))])[ps.length + 1]? = some (.lst (kidsE (ps.length + 1))) := by
      rw [List.getElem?_append_right (by rw [List.length_map, hl]; exact Nat.le_refl _), List.length_map, hl, Nat.sub_self]; rfl
    have hck : (gs.map gC ++ [.lst (kidsE (ps.length + 1))])[k]? = some (.lst (lI gs[k])) := by
      rw [List.getElem?_append_left (by rw [List.length_map]; exact hkl), List.getElem?_map, hgk]; rfl
    have s1 : sSet 4 (mIxC (mVar 1) (mVar 3)) 0 [some (.p (dI ps)), some (.c (ps.length + 1)), some (.p (.int (i : Int))), some (.p (.int (k : Int))), x4, none] (gs.map gC ++ [.lst (kidsE (ps.length + 1))]) =
        some (.nx [some (.p (dI ps)), some (.c (ps.length + 1)), some (.p (.int (i : Int))), some (.p (.int (k : Int))), some (.c k), none] (gs.map gC ++ [.lst (kidsE (ps.length + 1))])) := by
      refine x_set ?_
      have ha : atI (kidsE (ps.length + 1)) (k : Int) = some (.c k) := atI_at (by rw [kidsE, List.getElem?_map, List.getElem?_range (by omega)]; rfl)
      have v1 : mVar 1 0 [some (.p (dI ps)), some (.c (ps.length + 1)), some (.p (.int (i : Int))), some (.p (.int (k : Int))), x4, none] (gs.map gC ++ [.lst (kidsE (ps.length + 1))]) = some (.c (ps.length + 1), gs.map gC ++ [.lst (kidsE (ps.length + 1))]) := rfl
      have v3 : mVar 3 0 [some (.p (dI ps)), some (.c (ps.length + 1)), some (.p (.int (i : Int))), some (.p (.int (k : Int))), x4, none] (gs.map gC ++ [.lst (kidsE (ps.length + 1))]) = some (.p (.int (k : Int)), gs.map gC ++ [.lst (kidsE (ps.length + 1))]) := rfl
      simp only [mIxC, v1, v3, hids, ha, Option.map_some]
    refine ⟨_, rfl, [some (.p (dI ps)), some (.c (ps.length + 1)), some (.p (.int (i : Int))), some (.p (.int (k : Int))), some (.c k), none], (gs.set k (gs[k] ++ [(i : Int) + 1])).map gC ++ [.lst (kidsE (ps.length + 1))], (x_seq_nx s1).trans ?_, gs.set k (gs[k] ++ [(i : Int) + 1]), _, _, _, by rw [List.length_set]; exact hl, fun g hg' => ?_, rfl, rfl⟩
    · refine (x_drop (x_append (k := k) (es := lI gs[k]) (e := .p (.int ((i : Int) + 1))) (cs2 := gs.map gC ++ [.lst (kidsE (ps.length + 1))]) (x_var rfl) hck (x_cons (x_op (x_var rfl) x_c rfl) x_nil) hck (by rw [lI_len]; omega))).trans ?_
      rw [lI_snoc, List.set_append_left _ _ (by rw [List.length_map]; exact hkl), List.map_set]
      rfl
    · rcases List.mem_or_eq_of_mem_set hg' with z | z
      · have := hg g z; omega
      · subst z; rw [List.length_append]; simp; omega
theorem rep_get {d : D} {m k : Nat} (h : k < m) : fIxL (.lst (List.replicate m d)) (.int (k : Int)) = some d := atI_at (by rw [List.getElem?_replicate, if_pos h])
theorem e_are_hills {ps sizes : List Int} {found : List (Int × Int)} {n : Nat} (ok : PsOk ps) (hl : ps.length + 1 = sizes.length) (hf : found.length = ps.length) : F_are_hills [dI ps, dI sizes, dP found, .lst (List.replicate ps.length (promD n))] = some (.bl true) := by
  have hne : 1 ≤ ps.length := by
    have := ok.ne
    cases h : ps with
    | nil => exact absurd h this
    | cons a b => simp
  have b1 : sSet 4 (mCall fLen (mCons (mVar 1) mNil)) 0 [some (.p (dI ps)), some (.p (dI sizes)), some (.p (dP found)), some (.p (.lst (List.replicate ps.length (promD n)))), none, none, none] [] =
      some (.nx [some (.p (dI ps)), some (.p (dI sizes)), some (.p (dP found)), some (.p (.lst (List.replicate ps.length (promD n)))), some (.p (.int ((ps.length : Int) + 1))), none, none] []) := by
    refine x_set ((x_call (x_cons (x_var rfl) x_nil) (p_cons p_nil) f_lenL).trans ?_)
    rw [List.length_map, ← hl]; rfl
  have b2 : sIf (mOr (mTest (mOp fLt (mVar 4) (mC (.int 2)))) (mOr (mTest (mOp fNe (mCall fLen (mCons (mVar 0) mNil)) (mOp fSub (mVar 4) (mC (.int 1))))) (mOr (mTest (mOp fNe (mCall fLen (mCons (mVar 2) mNil)) (mOp fSub (mVar 4) (mC (.int 1))))) (mTest (mOp fNe (mCall fLen (mCons (mVar 3) mNil)) (mOp fSub (mVar 4) (mC (.int 1)))))))) (sRet (mC (.bl false))) sNext 0
      [some (.p (dI ps)), some (.p (dI sizes)), some (.p (dP found)), some (.p (.lst (List.replicate ps.length (promD n)))), some (.p (.int ((ps.length : Int) + 1))), none, none] [] =
      some (.nx [some (.p (dI ps)), some (.p (dI sizes)), some (.p (dP found)), some (.p (.lst (List.replicate ps.length (promD n)))), some (.p (.int ((ps.length : Int) + 1))), none, none] []) := by
    have q : (ps.length : Int) + 1 - 1 = ps.length := by omega
    refine (x_if_f (cs1 := []) ((x_or_f (cs1 := []) (x_test (x_op (x_var rfl) x_c (by rw [f_lt, decide_eq_false (by omega)])))).trans ?_)).trans x_next
    refine (x_or_f (cs1 := []) (x_test (x_op (x_call (x_cons (x_var (i := 0) rfl) x_nil) (p_cons p_nil) f_lenL) (x_op (x_var rfl) x_c rfl) (by rw [List.length_map]; simp [q])))).trans ?_
    refine (x_or_f (cs1 := []) (x_test (x_op (x_call (x_cons (x_var (i := 2) rfl) x_nil) (p_cons p_nil) f_lenL) (x_op (x_var rfl) x_c rfl) (by rw [List.length_map, hf]; simp [q])))).trans ?_
    exact x_test (x_op (x_call (x_cons (x_var (i := 3) rfl) x_nil) (p_cons p_nil) f_lenL) (x_op (x_var rfl) x_c rfl) (by rw [List.length_replicate]; simp [q]))
  have lp := for_inv (n := 0) (tg := tg2 5 6) (body := m_are_hills_b1) (ρ := [some (.p (dI ps)), some (.p (dI sizes)), some (.p (dP found)), some (.p (.lst (List.replicate ps.length (promD n)))), some (.p (.int ((ps.length : Int) + 1))), none, none]) (cs := []) (ds := enumD (ps.map D.int))
    (fun i ρ cs => ∃ x5 x6, ρ = [some (.p (dI ps)), some (.p (dI sizes)), some (.p (dP found)), some (.p (.lst (List.replicate ps.length (promD n)))), some (.p (.int ((ps.length : Int) + 1))), x5, x6] ∧ cs = []) ⟨none, none, rfl, rfl⟩ ?_
  · obtain ⟨ρ', cs', e, x5, x6, rfl, rfl⟩ := lp
    exact x_fnP_rt rfl (cs1 := []) ((x_seq_nx b1).trans ((x_seq_nx b2).trans ((x_seq_nx ((x_for (x_ie (x_cons (x_var (i := 0) rfl) x_nil))).trans e)).trans (x_ret x_c))))
  · rintro i d ρ cs hd ⟨x5, x6, rfl, rfl⟩
    obtain ⟨x, hx, rfl⟩ := enum_get hd
    rw [List.getElem?_map, Option.map_eq_some_iff] at hx
    obtain ⟨p, hp, rfl⟩ := hx
    have hi := (List.getElem?_eq_some_iff.mp hp).1
    have hpr := ok.par i p hp
    refine ⟨_, rfl, _, _, (x_if_f (cs1 := []) ((x_or_f (cs1 := []) (x_not (k := true) (x_test ?_))).trans ?_)).trans x_next, _, _, rfl, rfl⟩
    · have v5 : mVar 5 0 (([some (.p (dI ps)), some (.p (dI sizes)), some (.p (dP found)), some (.p (.lst (List.replicate ps.length (promD n)))), some (.p (.int ((ps.length : Int) + 1))), x5, x6].set 5 (some (.p (.int (i : Nat))))).set 6 (some (.p (.int p)))) [] = some (.p (.int (i : Nat)), []) := rfl
      have v6 : mVar 6 0 (([some (.p (dI ps)), some (.p (dI sizes)), some (.p (dP found)), some (.p (.lst (List.replicate ps.length (promD n)))), some (.p (.int ((ps.length : Int) + 1))), x5, x6].set 5 (some (.p (.int (i : Nat))))).set 6 (some (.p (.int p)))) [] = some (.p (.int p), []) := rfl
      simp only [mChain, mC, v5, v6, f_le, decide_eq_true hpr.1, decide_eq_true hpr.2, Option.map_some]
    · refine x_test (x_op (d1 := .int n) (d2 := .int n) (cs1 := []) ?_ ?_ (by simp))
      · exact x_meth (ds0 := [.int n, .lst (W n), dI (endsN n)]) (x_op (x_var (i := 3) rfl) (x_var (i := 5) rfl) (rep_get hi)) (by decide +kernel) x_nil p_nil e_last
      · exact x_meth (ds0 := [.int n, .lst (W n), dI (endsN n)]) (x_op (x_var (i := 3) rfl) x_c (rep_get (k := 0) (by omega))) (by decide +kernel) x_nil p_nil e_last
theorem e_are_sessions {ps lens : List Int} {found : List (Int × Int)} {n : Nat} (ok : PsOk ps) (hr : ∀ x ∈ lens, 1 ≤ x ∧ x ≤ 10) (hl : lens.length = ps.length) (sess : Sess ps lens found) (hn : ∀ p ∈ found, p.2 ≤ (n : Int)) : F_are_sessions [dI ps, dP found, .int n] = some (.bl true) := by
  have lp := for_inv (n := 0) (tg := tg2 3 4) (body := m_are_sessions_b1) (ρ := [some (.p (dI ps)), some (.p (dP found)), some (.p (.int n)), none, none]) (cs := []) (ds := enumD (found.map pairD))
    (fun i ρ cs => ∃ x3 x4, ρ = [some (.p (dI ps)), some (.p (dP found)), some (.p (.int n)), x3, x4] ∧ cs = []) ⟨none, none, rfl, rfl⟩ ?_
  · obtain ⟨ρ', cs', e, x3, x4, rfl, rfl⟩ := lp
    exact x_fnP_rt rfl (cs1 := []) ((x_seq_nx ((x_for (x_ie (x_cons (x_var (i := 1) rfl) x_nil))).trans e)).trans (x_ret x_c))
  · rintro i d ρ cs hd ⟨x3, x4, rfl, rfl⟩
    obtain ⟨x, hx, rfl⟩ := enum_get hd
    rw [List.getElem?_map, Option.map_eq_some_iff] at hx
    obtain ⟨s, hs, rfl⟩ := hx
    have hi : i < ps.length := by have := (List.getElem?_eq_some_iff.mp hs).1; rw [sess.len] at this; exact this
    have h1 := sess.at_ i s hs
    have h2 := hn s (List.mem_of_getElem? hs)
    have hil : i < lens.length := by omega
    have h3 := hr _ (List.getElem_mem hil)
    have h4 : lens.getD i 0 = lens[i] := by simp [hil]
    have hp : ps[i]? = some ps[i] := List.getElem?_eq_getElem hi
    have hpr := ok.par i _ hp
    generalize ps[i] = p at *
    have c1 : sIf (mNot (mTest (mChain3 fLe fLe fLe (mC (.int 1)) (mOp fIxT (mVar 4) (mC (.int 0))) (mOp fIxT (mVar 4) (mC (.int 1))) (mVar 2)))) (sRet (mC (.bl false))) sNext 0 [some (.p (dI ps)), some (.p (dP found)), some (.p (.int n)), some (.p (.int (i : Nat))), some (.p (pairD s))] [] =
        some (.nx [some (.p (dI ps)), some (.p (dP found)), some (.p (.int n)), some (.p (.int (i : Nat))), some (.p (pairD s))] []) := by
      refine (x_if_f (cs1 := []) (x_not (k := true) (x_test ?_))).trans x_next
      have v0 : mOp fIxT (mVar 4) (mC (.int 0)) 0 [some (.p (dI ps)), some (.p (dP found)), some (.p (.int n)), some (.p (.int (i : Nat))), some (.p (pairD s))] [] = some (.p (.int s.1), []) := x_op (x_var (e := .p (pairD s)) rfl) x_c at0
      have v1 : mOp fIxT (mVar 4) (mC (.int 1)) 0 [some (.p (dI ps)), some (.p (dP found)), some (.p (.int n)), some (.p (.int (i : Nat))), some (.p (pairD s))] [] = some (.p (.int s.2), []) := x_op (x_var (e := .p (pairD s)) rfl) x_c at1
      have v2 : mVar 2 0 [some (.p (dI ps)), some (.p (dP found)), some (.p (.int n)), some (.p (.int (i : Nat))), some (.p (pairD s))] [] = some (.p (.int n), []) := rfl
      simp only [mChain3, mC, v0, v1, v2, f_le, decide_eq_true h1.1, decide_eq_true (show s.1 ≤ s.2 by omega), decide_eq_true h2, Option.map_some]
    refine ⟨_, rfl, _, _, (x_seq_nx c1).trans ((x_if_f (cs1 := []) ?_).trans x_next), _, _, rfl, rfl⟩
    have gp : mOp fIxL (mVar 0) (mVar 3) 0 [some (.p (dI ps)), some (.p (dP found)), some (.p (.int n)), some (.p (.int (i : Nat))), some (.p (pairD s))] [] = some (.p (.int p), []) := x_op (x_var rfl) (x_var rfl) (lI_ixL hp)
    by_cases c : 0 < p
    · obtain ⟨a, ha⟩ : ∃ a : Nat, p = (a : Int) + 1 := ⟨(p - 1).toNat, by omega⟩
      have hal : a < found.length := by rw [sess.len]; omega
      have hlt := sess.kid i a s _ hs (List.getElem?_eq_getElem hal) (by rw [hp, ha])
      refine (x_and_t (cs1 := []) (x_test (x_op gp x_c (by rw [f_gt, decide_eq_true c])))).trans ?_
      have ix : fIxL (dP found) (.int (p - 1)) = some (pairD found[a]) := by
        rw [show p - 1 = (a : Int) by omega]
        exact atI_at (by rw [List.getElem?_map, List.getElem?_eq_getElem hal]; rfl)
      exact x_test (x_op (d2 := .int found[a].1) (x_op (x_var (i := 4) (e := .p (pairD s)) rfl) x_c at1) (x_op (d1 := pairD found[a]) (x_op (x_var (i := 1) rfl) (x_op gp x_c rfl) ix) x_c at0) (by rw [f_ge, decide_eq_false (by omega)]))
    · exact x_and_f (x_test (x_op gp x_c (by rw [f_gt, decide_eq_false c])))
end Fw
set_option maxRecDepth 100000
set_option maxHeartbeats 4000000
namespace Fw
open PySem PySem.Spec PyProof.Rows L2 Mx
/-! ### the question's object -/
def qN : List Str := ["parent_list", "size_list", "session_list", "promise_list", "child_table", "answer_table", "group_table"]
def qV (ps sizes : List Int) (found : List (Int × Int)) (n : Nat) (ct T : D) : List D := [dI ps, dI sizes, dP found, .lst (List.replicate ps.length (promD n)), ct, T]
def questD (ps sizes : List Int) (found : List (Int × Int)) (n : Nat) (ct T : D) (gs : List D) : D := .obj 1 qN (qV ps sizes found n ct T ++ [.lst gs])
theorem dc_rows {g : List Int → D} {ρw : Sl} {cs : List Cell} {m0 : Nat} {md : ME} (hd : ∀ w, md m0 (ρw.set 8 (some (.p (dR w)))) cs = some (.p (g w), cs) ∨ True) (hm : ∀ w, (mVar 8) m0 (ρw.set 8 (some (.p (dR w)))) cs = some (.p (dR w), cs)) :
    ∀ (R pre : List (List Int)), (pre ++ R).Nodup → (∀ w ∈ R, md m0 (ρw.set 8 (some (.p (dR w)))) cs = some (.p (g w), cs)) →
    dcD (tgN 8) mYes (mVar 8) md m0 ρw (R.map dR) (pre.map kI) (pre.map g) cs = some ((pre ++ R).map kI, (pre ++ R).map g, cs)
  | [], pre, _, _ => by simp [dcD]
  | w :: R, pre, nd, h => by
    have ih := dc_rows (g := g) (ρw := ρw) (cs := cs) (m0 := m0) (md := md) hd hm R (pre ++ [w]) (by rw [List.append_assoc]; exact nd) fun x hx => h x (List.mem_cons_of_mem _ hx)
    have hn : w ∉ pre := fun z => by
      rw [List.nodup_append] at nd
      exact nd.2.2 w z w (by simp) rfl
    rw [List.map_append, List.map_append, List.append_assoc] at ih
    rw [List.map_cons, dcD, x_tgN]
    have hw := h w (by simp)
    have hm' := hm w
    simp only [mYes, hm', hw, keysOf_ints]
    rw [if_pos (any_new hn)]
    exact ih
theorem max4 {a : Int} : maxOf [a, a, a, a] = some a := maxOf_same (by simp) (by simp)
structure Case (ps sizes : List Int) : Prop where
  pk : PsOk ps
  ss : Sizes sizes
  hl : ps.length + 1 = sizes.length
theorem Case.ne {ps sizes : List Int} (c : Case ps sizes) : sizes ≠ [] := fun e => by have := c.hl; rw [e] at this; simp at this
def groupsD (sizes ps : List Int) (kz : List Int → Z) : List D := (rg (sizes.length : Int)).map fun v => .lst ((groupsZ sizes ps v kz).map dRs)
theorem e_question {ps sizes lens : List Int} {found : List (Int × Int)} {n : Nat} {kz : List Int → Z} (c : Case ps sizes) (hr : ∀ x ∈ lens, 1 ≤ x ∧ x ≤ 10) (hll : lens.length = ps.length) (sess : Sess ps lens found) (hn : ∀ p ∈ found, p.2 ≤ (n : Int)) :
    ∃ ct, F_Question___init__ [.c 0, .p (dI ps), .p (dI sizes), .p (dP found), .p (.lst (List.replicate ps.length (promD n))), .p (tabD sizes fun w => (kz w).d)] [.obj 1 [] []] =
      some (.p .non, [.obj 1 qN ((qV ps sizes found n ct (tabD sizes fun w => (kz w).d) ++ [D.lst (groupsD sizes ps kz)]).map E.p)]) := by
  have h4 := c.pk.len
  have h5 := c.ss.len
  have hl := c.hl
  obtain ⟨ct, hct⟩ := e_children_of c.pk
  have hne : 1 ≤ ps.length := by
    have := c.pk.ne
    cases h : ps with
    | nil => exact absurd h this
    | cons a b => simp
  have rl := rowsL_small c.ss.rng c.ss.len
  refine ⟨ct, ?_⟩
  generalize hT : (tabD sizes fun w => (kz w).d) = T
  have tg : ∀ w, Fit w sizes → fDGet T (dR w) = some (kz w).d := fun w h => by rw [← hT]; exact tab_get h
  have ans : F_are_answers [dI sizes, T] = some (.bl true) := by rw [← hT]; exact e_answers c.ss
  generalize hP : D.lst (List.replicate ps.length (promD n)) = P
  have hills : F_are_hills [dI ps, dI sizes, dP found, P] = some (.bl true) := by rw [← hP]; exact e_are_hills c.pk hl sess.len
  have sessn : F_are_sessions [dI ps, dP found, .int n] = some (.bl true) := e_are_sessions c.pk hr hll sess hn
  have hlst : fListOf [P] = some P := by rw [← hP]; rfl
  have hlenP : fLen [P] = some (.int (ps.length : Int)) := by rw [← hP, f_lenL, List.length_replicate]
  have hP0 : fIxL P (.int 0) = some (promD n) := by rw [← hP]; exact rep_get (k := 0) (by omega)
  -- the checks
  have c1 : F_check [.str "hall", .int ((ps.length : Int) + 1)] = some .non := e_check lim_hall (by omega)
  have c2 : F_check_each [.str "values", dI sizes] = some .non := e_check_each lim_values fun s h => (c.ss.rng s h).2
  have q0 : ((sizes.map D.int).length : Int) = (ps.length : Int) + 1 := by rw [List.length_map, ← hl]; omega
  have q1 : ((ps.map D.int).length : Int) = (ps.length : Int) := by rw [List.length_map]
  have q3 : ((found.map pairD).length : Int) = (ps.length : Int) := by rw [List.length_map, sess.len]
  let ρ0 : Sl := [some (.c 0), some (.p (dI ps)), some (.p (dI sizes)), some (.p (dP found)), some (.p P), some (.p T), none, none, none, none]
  have s1 : sDrop (mCall F_check (mCons (mC (.str "hall")) (mCons (mCall fMax (mCons (mLst (mCons (mCall fLen (mCons (mVar 2) mNil)) (mCons (mOp fAdd (mCall fLen (mCons (mVar 1) mNil)) (mC (.int 1))) (mCons (mOp fAdd (mCall fLen (mCons (mVar 3) mNil)) (mC (.int 1))) (mCons (mOp fAdd (mCall fLen (mCons (mVar 4) mNil)) (mC (.int 1))) mNil))))) mNil)) mNil))) 1 ρ0 [.obj 1 [] []] = some (.nx ρ0 [.obj 1 [] []]) := by
    have l2 : mCall fLen (mCons (mVar 2) mNil) 1 ρ0 [.obj 1 [] []] = some (.p (.int ((ps.length : Int) + 1)), [.obj 1 [] []]) := x_call (x_cons (x_var (i := 2) rfl) x_nil) (p_cons p_nil) (by rw [f_lenL, q0])
    have l1 : mCall fLen (mCons (mVar 1) mNil) 1 ρ0 [.obj 1 [] []] = some (.p (.int (ps.length : Int)), [.obj 1 [] []]) := x_call (x_cons (x_var (i := 1) rfl) x_nil) (p_cons p_nil) (by rw [f_lenL, q1])
    have l3 : mCall fLen (mCons (mVar 3) mNil) 1 ρ0 [.obj 1 [] []] = some (.p (.int (ps.length : Int)), [.obj 1 [] []]) := x_call (x_cons (x_var (i := 3) rfl) x_nil) (p_cons p_nil) (by rw [f_lenL, q3])
    have l4 : mCall fLen (mCons (mVar 4) mNil) 1 ρ0 [.obj 1 [] []] = some (.p (.int (ps.length : Int)), [.obj 1 [] []]) := x_call (x_cons (x_var (i := 4) rfl) x_nil) (p_cons p_nil) hlenP
    have mxx : fMax [.lst ([(ps.length : Int) + 1, (ps.length : Int) + 1, (ps.length : Int) + 1, (ps.length : Int) + 1].map D.int)] = some (.int ((ps.length : Int) + 1)) := f_max max4
    exact x_drop (x_call (x_cons x_c (x_cons (x_call (x_cons (x_lst (x_cons l2 (x_cons (x_op l1 x_c rfl) (x_cons (x_op l3 x_c rfl) (x_cons (x_op l4 x_c rfl) x_nil)))) (p_cons (p_cons (p_cons (p_cons p_nil)))) (by simp)) x_nil) (p_cons p_nil) mxx) x_nil)) (p_cons (p_cons p_nil)) c1)
  have s2 : sDrop (mCall F_check_each (mCons (mC (.str "values")) (mCons (mVar 2) mNil))) 1 ρ0 [.obj 1 [] []] = some (.nx ρ0 [.obj 1 [] []]) := x_drop (x_call (x_cons x_c (x_cons (x_var (i := 2) rfl) x_nil)) (p_cons (p_cons p_nil)) c2)
  have s3 : sIf (mNot (mTest (mCall F_are_hills (mCons (mVar 1) (mCons (mVar 2) (mCons (mVar 3) (mCons (mVar 4) mNil))))))) sNever sNext 1 ρ0 [.obj 1 [] []] = some (.nx ρ0 [.obj 1 [] []]) :=
    (x_if_f (cs1 := [.obj 1 [] []]) (x_not (k := true) (x_test (x_call (x_cons (x_var (i := 1) rfl) (x_cons (x_var (i := 2) rfl) (x_cons (x_var (i := 3) rfl) (x_cons (x_var (i := 4) rfl) x_nil)))) (p_cons (p_cons (p_cons (p_cons p_nil)))) hills)))).trans x_next
  have s4 : sIf (mTest (mOp fGt (mCall fLen (mCons (mLc (mIL (mVar 2)) (tgN 9) (mTest (mOp fLt (mVar 9) (mC (.int 1)))) (mVar 9) [9]) mNil)) (mC (.int 0)))) sNever sNext 1 ρ0 [.obj 1 [] []] = some (.nx ρ0 [.obj 1 [] []]) := by
    refine (x_if_f (cs1 := [.obj 1 [] []]) (x_test (x_op (d1 := .int 0) (x_call (x_cons (x_lc (ds := sizes.map D.int) (cs1 := [.obj 1 [] []]) (es1 := []) (x_il (x_var (i := 2) rfl)) (by rw [List.length_map]; omega) ?_) x_nil) (p_cons p_nil) f_lenL) x_c rfl))).trans x_next
    have := lc_filter (n := 1) (cs := [.obj 1 [] []]) (tg := tgN 9) (mt := mTest (mOp fLt (mVar 9) (mC (.int 1)))) (me := mVar 9) (ρw := ρ0) D.int (fun _ => false) D.int (xs := sizes) fun s hs => ⟨_, rfl, x_test (x_op (x_var rfl) x_c (by
      have := (c.ss.rng s hs).1
      rw [f_lt, decide_eq_false (by omega)])), fun _ => x_var rfl⟩
    rwa [List.filter_eq_nil_iff.mpr (by simp)] at this
  have s5 : sIf (mNot (mTest (mCall F_are_sessions (mCons (mVar 1) (mCons (mVar 3) (mCons (mMeth 0 "last" F_Promise_last (mOp fIxL (mVar 4) (mC (.int 0))) mNil) mNil)))))) sNever sNext 1 ρ0 [.obj 1 [] []] = some (.nx ρ0 [.obj 1 [] []]) :=
    (x_if_f (cs1 := [.obj 1 [] []]) (x_not (k := true) (x_test (x_call (x_cons (x_var (i := 1) rfl) (x_cons (x_var (i := 3) rfl) (x_cons (x_meth (ds0 := [.int n, .lst (W n), dI (endsN n)]) (x_op (x_var (i := 4) rfl) x_c hP0) (by decide +kernel) x_nil p_nil e_last) x_nil))) (p_cons (p_cons (p_cons p_nil))) sessn)))).trans x_next
  have s6 : sIf (mNot (mTest (mCall F_are_answers (mCons (mVar 2) (mCons (mVar 5) mNil))))) sNever sNext 1 ρ0 [.obj 1 [] []] = some (.nx ρ0 [.obj 1 [] []]) :=
    (x_if_f (cs1 := [.obj 1 [] []]) (x_not (k := true) (x_test (x_call (x_cons (x_var (i := 2) rfl) (x_cons (x_var (i := 5) rfl) x_nil)) (p_cons (p_cons p_nil)) ans)))).trans x_next
  -- the fields
  have v0 : ∀ cs, mVar 0 1 ρ0 cs = some (.c 0, cs) := fun _ => rfl
  have s7 : sFldN 1 "parent_list" (mVar 0) (mCall fListOf (mCons (mVar 1) mNil)) 1 ρ0 [.obj 1 [] []] = some (.nx ρ0 [.obj 1 ["parent_list"] [.p (dI ps)]]) :=
    (x_fldN (k := 0) (fs := []) (es := []) (cs2 := [.obj 1 [] []]) (x_call (x_cons (x_var (i := 1) rfl) x_nil) (p_cons p_nil) f_listL) (v0 _) rfl (by decide +kernel) (by decide)).trans rfl
  have s8 : sFldN 1 "size_list" (mVar 0) (mCall fListOf (mCons (mVar 2) mNil)) 1 ρ0 [.obj 1 ["parent_list"] [.p (dI ps)]] = some (.nx ρ0 [.obj 1 ["parent_list", "size_list"] [.p (dI ps), .p (dI sizes)]]) :=
    (x_fldN (k := 0) (x_call (x_cons (x_var (i := 2) rfl) x_nil) (p_cons p_nil) f_listL) (v0 _) rfl (by decide +kernel) (by decide)).trans rfl
  have s9 : sFldN 1 "session_list" (mVar 0) (mLc (mIL (mVar 3)) (tgN 7) mYes (mTup (mCons (mOp fIxT (mVar 7) (mC (.int 0))) (mCons (mOp fIxT (mVar 7) (mC (.int 1))) mNil))) [7]) 1 ρ0 [.obj 1 ["parent_list", "size_list"] [.p (dI ps), .p (dI sizes)]] =
      some (.nx ρ0 [.obj 1 ["parent_list", "size_list", "session_list"] [.p (dI ps), .p (dI sizes), .p (dP found)]]) := by
    refine (x_fldN (k := 0) (cs1 := [.obj 1 ["parent_list", "size_list"] [.p (dI ps), .p (dI sizes)]]) (x_lc (ds := found.map pairD) (es1 := found.map pairD) (x_il (x_var (i := 3) rfl)) (by rw [List.length_map, sess.len]; omega) ?_) (v0 _) rfl (by decide +kernel) (by decide)).trans rfl
    exact lc_map pairD pairD fun p hp => ⟨_, rfl, rfl, x_tup (x_cons (x_op (x_var (e := .p (pairD p)) rfl) x_c at0) (x_cons (x_op (x_var (e := .p (pairD p)) rfl) x_c at1) x_nil)) (p_cons (p_cons p_nil)) (by simp)⟩
  have s10 : sFldN 1 "promise_list" (mVar 0) (mCall fListOf (mCons (mVar 4) mNil)) 1 ρ0 [.obj 1 ["parent_list", "size_list", "session_list"] [.p (dI ps), .p (dI sizes), .p (dP found)]] = some (.nx ρ0 [.obj 1 ["parent_list", "size_list", "session_list", "promise_list"] [.p (dI ps), .p (dI sizes), .p (dP found), .p P]]) :=
    (x_fldN (k := 0) (x_call (x_cons (x_var (i := 4) rfl) x_nil) (p_cons p_nil) hlst) (v0 _) rfl (by decide +kernel) (by decide)).trans rfl
  have s11 : sFldN 1 "child_table" (mVar 0) (mCall F_children_of (mCons (mFld 1 "parent_list" (mVar 0)) mNil)) 1 ρ0 [.obj 1 ["parent_list", "size_list", "session_list", "promise_list"] [.p (dI ps), .p (dI sizes), .p (dP found), .p P]] =
      some (.nx ρ0 [.obj 1 ["parent_list", "size_list", "session_list", "promise_list", "child_table"] [.p (dI ps), .p (dI sizes), .p (dP found), .p P, .p ct]]) :=
    (x_fldN (k := 0) (x_call (x_cons (x_fldC (k := 0) (e := .p (dI ps)) (v0 _) rfl rfl) x_nil) (p_cons p_nil) hct) (v0 _) rfl (by decide +kernel) (by decide)).trans rfl
  have s12 : sFldN 1 "answer_table" (mVar 0) (mDcT (mIL (mCall F_rows_of (mCons (mVar 2) mNil))) (tgN 8) mYes (mVar 8) (mOp fDGet (mVar 5) (mVar 8)) [8]) 1 ρ0 [.obj 1 ["parent_list", "size_list", "session_list", "promise_list", "child_table"] [.p (dI ps), .p (dI sizes), .p (dP found), .p P, .p ct]] =
      some (.nx ρ0 [.obj 1 ["parent_list", "size_list", "session_list", "promise_list", "child_table", "answer_table"] [.p (dI ps), .p (dI sizes), .p (dP found), .p P, .p ct, .p T]]) := by
    refine (x_fldN (k := 0) (cs1 := [.obj 1 ["parent_list", "size_list", "session_list", "promise_list", "child_table"] [.p (dI ps), .p (dI sizes), .p (dP found), .p P, .p ct]]) ?_ (v0 _) rfl (by decide +kernel) (by decide)).trans rfl
    have src : mIL (mCall F_rows_of (mCons (mVar 2) mNil)) 1 ρ0 [.obj 1 ["parent_list", "size_list", "session_list", "promise_list", "child_table"] [.p (dI ps), .p (dI sizes), .p (dP found), .p P, .p ct]] = some ((rowsL sizes).map dR, [.obj 1 ["parent_list", "size_list", "session_list", "promise_list", "child_table"] [.p (dI ps), .p (dI sizes), .p (dP found), .p P, .p ct]]) :=
      x_il (x_call (x_cons (x_var (i := 2) rfl) x_nil) (p_cons p_nil) (e_rows c.ss))
    have dc := dc_rows (g := fun w => (kz w).d) (ρw := wipeS ρ0 [8]) (cs := [.obj 1 ["parent_list", "size_list", "session_list", "promise_list", "child_table"] [.p (dI ps), .p (dI sizes), .p (dP found), .p P, .p ct]]) (m0 := 1) (md := mOp fDGet (mVar 5) (mVar 8)) (fun _ => .inr trivial) (fun _ => rfl) (rowsL sizes) [] (by rw [List.nil_append]; exact rowsL_nodup _) fun w hw => x_op (x_var rfl) (x_var rfl) (tg w (mem_rowsL.mp hw))
    rw [List.nil_append] at dc
    have hTT : T = .dT ((rowsL sizes).map kI) ((rowsL sizes).map fun w => (kz w).d) := hT.symm
    have dc' : dcD (tgN 8) mYes (mVar 8) (mOp fDGet (mVar 5) (mVar 8)) 1 (wipeS ρ0 [8]) ((rowsL sizes).map dR) [] [] [.obj 1 ["parent_list", "size_list", "session_list", "promise_list", "child_table"] [.p (dI ps), .p (dI sizes), .p (dP found), .p P, .p ct]] = some ((rowsL sizes).map kI, (rowsL sizes).map (fun w => (kz w).d), [.obj 1 ["parent_list", "size_list", "session_list", "promise_list", "child_table"] [.p (dI ps), .p (dI sizes), .p (dP found), .p P, .p ct]]) := dc
    have hlen : ((rowsL sizes).map dR).length ≤ 100000 := by rw [List.length_map]; omega
    simp only [mDcT, src, if_pos hlen, dc']
    rw [hTT]
  have s13 : sFldN 1 "group_table" (mVar 0) (mLstC mNil) 1 ρ0 [.obj 1 ["parent_list", "size_list", "session_list", "promise_list", "child_table", "answer_table"] [.p (dI ps), .p (dI sizes), .p (dP found), .p P, .p ct, .p T]] =
      some (.nx ρ0 [.obj 1 qN [.p (dI ps), .p (dI sizes), .p (dP found), .p P, .p ct, .p T, .c 1], .lst []]) :=
    (x_fldN (k := 0) (x_lstC x_nil (by simp)) (v0 _) rfl (by decide +kernel) (by decide)).trans rfl
  -- the groups
  have lp := for_inv (n := 1) (tg := tgN 6) (body := m_Question___init___b1) (ρ := ρ0) (cs := [.obj 1 qN [.p (dI ps), .p (dI sizes), .p (dP found), .p P, .p ct, .p T, .c 1], .lst []]) (ds := (rg (sizes.length : Int)).map D.int)
    (fun i ρ cs => ∃ x6, ρ = [some (.c 0), some (.p (dI ps)), some (.p (dI sizes)), some (.p (dP found)), some (.p P), some (.p T), x6, none, none, none] ∧ cs = [.obj 1 qN [.p (dI ps), .p (dI sizes), .p (dP found), .p P, .p ct, .p T, .c 1], .lst ((groupsD sizes ps kz).take i |>.map E.p)]) ⟨none, rfl, rfl⟩ ?_
  · obtain ⟨ρ', cs', e, x6, rfl, rfl⟩ := lp
    have hgl : ((rg (sizes.length : Int)).map D.int).length = (groupsD sizes ps kz).length := by rw [List.length_map, groupsD, List.length_map]
    rw [hgl, List.take_length] at e
    have r := x_ir1 (n := 1) (ma := mCons (mCall fLen (mCons (mVar 2) mNil)) mNil) (ρ := ρ0) (cs := [.obj 1 qN [.p (dI ps), .p (dI sizes), .p (dP found), .p P, .p ct, .p T, .c 1], .lst []]) (cs1 := [.obj 1 qN [.p (dI ps), .p (dI sizes), .p (dP found), .p P, .p ct, .p T, .c 1], .lst []]) (j := (sizes.length : Int))
      (x_cons (x_call (x_cons (x_var (i := 2) rfl) x_nil) (p_cons p_nil) (by rw [f_lenL, List.length_map])) x_nil) (by omega) (by omega)
    rw [rg_rangeD] at r
    have fin : sPost (gFrzO 0) (mFor (mIR1 (mCons (mCall fLen (mCons (mVar 2) mNil)) mNil)) (tgN 6) m_Question___init___b1) 1 ρ0 [.obj 1 qN [.p (dI ps), .p (dI sizes), .p (dP found), .p P, .p ct, .p T, .c 1], .lst []] =
        some (.nx [some (.c 0), some (.p (dI ps)), some (.p (dI sizes)), some (.p (dP found)), some (.p P), some (.p T), x6, none, none, none] [.obj 1 qN [.p (dI ps), .p (dI sizes), .p (dP found), .p P, .p ct, .p T, .p (.lst (groupsD sizes ps kz))], .gone]) := by
      have lpe := (x_for (n := 1) (ρ := ρ0) (body := m_Question___init___b1) (tg := tgN 6) r).trans e
      have fz : frzC 1 1 [.obj 1 qN [.p (dI ps), .p (dI sizes), .p (dP found), .p P, .p ct, .p T, .c 1], .lst ((groupsD sizes ps kz).map E.p)] = some (.lst (groupsD sizes ps kz), [.obj 1 qN [.p (dI ps), .p (dI sizes), .p (dP found), .p P, .p ct, .p T, .c 1], .gone]) := by
        rw [frzC, if_pos (Nat.le_refl 1)]
        show (pures ((groupsD sizes ps kz).map E.p)).map _ = _
        rw [pures_map]; rfl
      have go : gFrzO 0 1 [some (.c 0), some (.p (dI ps)), some (.p (dI sizes)), some (.p (dP found)), some (.p P), some (.p T), x6, none, none, none] [.obj 1 qN [.p (dI ps), .p (dI sizes), .p (dP found), .p P, .p ct, .p T, .c 1], .lst ((groupsD sizes ps kz).map E.p)] =
          some ([some (.c 0), some (.p (dI ps)), some (.p (dI sizes)), some (.p (dP found)), some (.p P), some (.p T), x6, none, none, none], [.obj 1 qN [.p (dI ps), .p (dI sizes), .p (dP found), .p P, .p ct, .p T, .p (.lst (groupsD sizes ps kz))], .gone]) := by
        have fa : frzAll 1 [.p (dI ps), .p (dI sizes), .p (dP found), .p P, .p ct, .p T, .c 1] [.obj 1 qN [.p (dI ps), .p (dI sizes), .p (dP found), .p P, .p ct, .p T, .c 1], .lst ((groupsD sizes ps kz).map E.p)] = some ([dI ps, dI sizes, dP found, P, ct, T, .lst (groupsD sizes ps kz)], [.obj 1 qN [.p (dI ps), .p (dI sizes), .p (dP found), .p P, .p ct, .p T, .c 1], .gone]) := by
          simp only [frzAll, fz, Option.map_some]
        have hany : [E.p (dI ps), .p (dI sizes), .p (dP found), .p P, .p ct, .p T, .c 1].any (isC 0) = false := rfl
        have g0 : [some (E.c 0), some (.p (dI ps)), some (.p (dI sizes)), some (.p (dP found)), some (.p P), some (.p T), x6, none, none, none][0]? = some (some (.c 0)) := rfl
        have g1 : [Cell.obj 1 qN [.p (dI ps), .p (dI sizes), .p (dP found), .p P, .p ct, .p T, .c 1], .lst ((groupsD sizes ps kz).map E.p)][0]? = some (.obj 1 qN [.p (dI ps), .p (dI sizes), .p (dP found), .p P, .p ct, .p T, .c 1]) := rfl
        simp only [gFrzO, g0, g1]
        rw [if_pos hany, fa]
        rfl
      simp only [sPost, lpe, go, Option.map_some]
    have cut : cutM 1 (.p .non, [.obj 1 qN [.p (dI ps), .p (dI sizes), .p (dP found), .p P, .p ct, .p T, .p (.lst (groupsD sizes ps kz))], .gone]) = (.p .non, [.obj 1 qN [.p (dI ps), .p (dI sizes), .p (dP found), .p P, .p ct, .p T, .p (.lst (groupsD sizes ps kz))]]) := rfl
    have e8 : (qV ps sizes found n ct T ++ [D.lst (groupsD sizes ps kz)]).map E.p = [.p (dI ps), .p (dI sizes), .p (dP found), .p P, .p ct, .p T, .p (.lst (groupsD sizes ps kz))] := by rw [← hP]; rfl
    rw [e8]
    refine (x_fnM_nx (ρ1 := [some (.c 0), some (.p (dI ps)), some (.p (dI sizes)), some (.p (dP found)), some (.p P), some (.p T), x6, none, none, none]) (cs1 := [.obj 1 qN [.p (dI ps), .p (dI sizes), .p (dP found), .p P, .p ct, .p T, .p (.lst (groupsD sizes ps kz))], .gone]) rfl ?_).trans (congrArg some cut)
    exact (x_seq_nx s1).trans ((x_seq_nx s2).trans ((x_seq_nx s3).trans ((x_seq_nx s4).trans ((x_seq_nx s5).trans ((x_seq_nx s6).trans ((x_seq_nx s7).trans ((x_seq_nx s8).trans ((x_seq_nx s9).trans ((x_seq_nx s10).trans ((x_seq_nx s11).trans ((x_seq_nx s12).trans ((x_seq_nx s13).trans fin))))))))))))
  · rintro i d ρ cs hd ⟨x6, rfl, rfl⟩
    rw [List.getElem?_map, Option.map_eq_some_iff] at hd
    obtain ⟨v, hv, rfl⟩ := hd
    have hm := mem_rg.mp (List.mem_of_getElem? hv)
    have hi := (List.getElem?_eq_some_iff.mp hv).1
    rw [rg_len] at hi
    have cl := e_class (ps := ps) (sizes := sizes) (v := v) (T := T) (kz := kz) c.ss hl hm.1 (by omega) tg
    have hg : (groupsD sizes ps kz)[i]? = some (.lst ((groupsZ sizes ps v kz).map dRs)) := by rw [groupsD, List.getElem?_map, hv]; rfl
    refine ⟨_, rfl, _, _, ?_, some (.p (.int v)), rfl, rfl⟩
    rw [take_snoc hg, List.map_append]
    refine (x_drop (x_append (k := 1) (es := (groupsD sizes ps kz).take i |>.map E.p) (e := .p (.lst ((groupsZ sizes ps v kz).map dRs))) (cs2 := [.obj 1 qN [.p (dI ps), .p (dI sizes), .p (dP found), .p P, .p ct, .p T, .c 1], .lst ((groupsD sizes ps kz).take i |>.map E.p)])
      (x_fldC (k := 0) (e := .c 1) (x_var (i := 0) rfl) rfl rfl) rfl (x_cons (x_call (x_cons (x_fldC (k := 0) (e := .p (dI ps)) (x_var (i := 0) rfl) rfl rfl) (x_cons (x_fldC (k := 0) (e := .p (dI sizes)) (x_var (i := 0) rfl) rfl rfl) (x_cons (x_fldC (k := 0) (e := .p T) (x_var (i := 0) rfl) rfl rfl) (x_cons (x_var (i := 6) rfl) x_nil)))) (p_cons (p_cons (p_cons (p_cons p_nil)))) cl) x_nil) rfl
      (by rw [List.length_map, List.length_take]; omega))).trans rfl
end Fw
set_option maxRecDepth 100000
set_option maxHeartbeats 4000000
namespace Fw
open PySem PySem.Spec PyProof.Rows L2 Mx
structure Least (q many : Int) (k : Nat) : Prop where
  top : many ≤ q ^ k
  low : ∀ j, j < k → q ^ j < many
theorem pow_ge {q : Int} (hq : 2 ≤ q) : ∀ j : Nat, (j : Int) + 1 ≤ q ^ j
  | 0 => by simp
  | j + 1 => by
    have := pow_ge hq j
    rw [Int.pow_succ]
    have h2 : q ^ j * 2 ≤ q ^ j * q := Int.mul_le_mul_of_nonneg_left hq (by omega)
    omega
theorem pow_two {q : Int} (hq : 2 ≤ q) : ∀ j : Nat, (2 : Int) ^ j ≤ q ^ j
  | 0 => by simp
  | j + 1 => by
    have := pow_two hq j
    have := pow_ge hq j
    rw [Int.pow_succ, Int.pow_succ]
    have h2 : q ^ j * 2 ≤ q ^ j * q := Int.mul_le_mul_of_nonneg_left hq (by omega)
    omega
theorem least_ex {q many : Int} : ∀ N : Nat, many ≤ q ^ N → ∃ k, k ≤ N ∧ Least q many k
  | 0, h => ⟨0, Nat.le_refl _, h, fun j hj => by omega⟩
  | N + 1, h => by
    by_cases c : ∃ j, j ≤ N ∧ many ≤ q ^ j
    · obtain ⟨j, hj, hm⟩ := c
      -- descend to the least below N
      have : many ≤ q ^ N ∨ ¬ many ≤ q ^ N := Decidable.em _
      rcases this with z | z
      · obtain ⟨k, hk, l⟩ := least_ex N z
        exact ⟨k, by omega, l⟩
      · have key : ∀ j, j ≤ N → many ≤ q ^ j → ∃ k, k ≤ j ∧ Least q many k := fun j _ h => least_ex' j h
        obtain ⟨k, hk, l⟩ := key j hj hm
        exact ⟨k, by omega, l⟩
    · exact ⟨N + 1, Nat.le_refl _, h, fun j hj => by
        have : ¬ many ≤ q ^ j := fun z => c ⟨j, by omega, z⟩
        omega⟩
where
  least_ex' : ∀ j : Nat, many ≤ q ^ j → ∃ k, k ≤ j ∧ Least q many k := fun j => Nat.strongRecOn j fun j ih h => by
    by_cases c : ∃ i, i < j ∧ many ≤ q ^ i
    · obtain ⟨i, hi, hm⟩ := c
      obtain ⟨k, hk, l⟩ := ih i hi hm
      exact ⟨k, by omega, l⟩
    · exact ⟨j, Nat.le_refl _, h, fun i hi => by
        have : ¬ many ≤ q ^ i := fun z => c ⟨i, hi, z⟩
        omega⟩
theorem for_part {tg : MG} {body : MS} {n : Nat} {ρ : Sl} {cs : List Cell} (I : Nat → Sl → List Cell → Prop) {ds : List D} {k : Nat} (hk : k ≤ ds.length) (h0 : I 0 ρ cs)
    (hs : ∀ i d ρ cs, i < k → ds[i]? = some d → I i ρ cs → ∃ ρ1, tg d ρ = some ρ1 ∧ ∃ ρ2 cs2, body n ρ1 cs = some (.nx ρ2 cs2) ∧ I (i + 1) ρ2 cs2) :
    ∃ ρ' cs', forD tg body n ds ρ cs = forD tg body n (ds.drop k) ρ' cs' ∧ I k ρ' cs' := by
  have key : ∀ j i ρ cs, i + j = k → I i ρ cs → ∃ ρ' cs', forD tg body n (ds.drop i) ρ cs = forD tg body n (ds.drop k) ρ' cs' ∧ I k ρ' cs' := by
    intro j
    induction j with
    | zero =>
      intro i ρ cs e h
      have : i = k := by omega
      subst this
      exact ⟨ρ, cs, rfl, h⟩
    | succ j ih =>
      intro i ρ cs e h
      have hlt : i < ds.length := by omega
      obtain ⟨ρ1, h1, ρ2, cs2, h2, h3⟩ := hs i _ ρ cs (by omega) (List.getElem?_eq_getElem hlt) h
      obtain ⟨ρ', cs', h4, h5⟩ := ih (i + 1) ρ2 cs2 (by omega) h3
      refine ⟨ρ', cs', ?_, h5⟩
      rw [List.drop_eq_getElem_cons hlt, forD, h1]
      simp only [h2, h4]
  have := key k 0 ρ cs (by omega) h0
  rwa [List.drop_zero] at this
theorem forD_rt {tg : MG} {body : MS} {n : Nat} {ρ ρ1 : Sl} {cs cs2 : List Cell} {d : D} {ds : List D} {e : E} (h1 : tg d ρ = some ρ1) (h2 : body n ρ1 cs = some (.rt e cs2)) : forD tg body n (d :: ds) ρ cs = some (.rt e cs2) := by
  rw [forD, h1]; simp only [h2]
theorem forD_bk {tg : MG} {body : MS} {n : Nat} {ρ ρ1 ρ2 : Sl} {cs cs2 : List Cell} {d : D} {ds : List D} (h1 : tg d ρ = some ρ1) (h2 : body n ρ1 cs = some (.bk ρ2 cs2)) : forD tg body n (d :: ds) ρ cs = some (.nx ρ2 cs2) := by
  rw [forD, h1]; simp only [h2]
theorem e_lneeds {q many : Int} {k : Nat} (hq : 2 ≤ q ∧ q ≤ 1000) (hm : 0 ≤ many ∧ many ≤ 100000) (l : Least q many k) : F__law_needs [.int many, .int q] = some (.int (k : Nat)) := by
  have hkm : (k : Int) ≤ many := by
    have g := pow_ge hq.1 many.toNat
    rcases Nat.lt_or_ge many.toNat k with h | h
    · have := l.low _ h
      omega
    · omega
  have r := x_ir1 (n := 0) (ma := mCons (mVar 0) mNil) (ρ := [some (.p (.int many)), some (.p (.int q)), some (.p (.int 0)), some (.p (.int 1)), none]) (cs := []) (cs1 := []) (j := many) (x_cons (x_var (i := 0) rfl) x_nil) (by omega) (by omega)
  have hlen : (rangeD 0 many.toNat).length = many.toNat := by rw [rangeD, List.length_map, List.length_range]
  obtain ⟨ρ', cs', e, x4, rfl, rfl⟩ := for_part (n := 0) (tg := tgN 4) (body := m__law_needs_b1) (ρ := [some (.p (.int many)), some (.p (.int q)), some (.p (.int 0)), some (.p (.int 1)), none]) (cs := []) (ds := rangeD 0 many.toNat) (k := k)
    (fun i ρ cs => ∃ x4, ρ = [some (.p (.int many)), some (.p (.int q)), some (.p (.int (i : Nat))), some (.p (.int (q ^ i))), x4] ∧ cs = []) (by rw [hlen]; omega) ⟨none, by simp, rfl⟩ (fun i d ρ cs hi _ h => by
      obtain ⟨x4, rfl, rfl⟩ := h
      have hl := l.low i hi
      refine ⟨_, rfl, [some (.p (.int many)), some (.p (.int q)), some (.p (.int ((i + 1 : Nat) : Int))), some (.p (.int (q ^ (i + 1)))), some (.p d)], [], ?_, _, rfl, rfl⟩
      refine (x_seq_nx ((x_if_f (cs1 := []) (x_test (x_op (x_var (i := 3) rfl) (x_var (i := 0) rfl) (by rw [f_ge, decide_eq_false (by omega)])))).trans x_next)).trans ?_
      refine (x_seq_nx (x_set (x_op (x_var (i := 3) rfl) (x_var (i := 1) rfl) (f_mul (.inr ⟨by omega, by omega⟩))))).trans ?_
      refine (x_aug (x := (i : Int)) (y := 1) rfl x_c).trans ?_
      rw [Int.pow_succ]; rfl)
  refine x_fnP_rt rfl (cs1 := []) ((x_seq_nx (x_set x_c)).trans ((x_seq_nx (x_set x_c)).trans ?_))
  by_cases c : k = many.toNat
  · have e2 : forD (tgN 4) m__law_needs_b1 0 (rangeD 0 many.toNat) [some (.p (.int many)), some (.p (.int q)), some (.p (.int 0)), some (.p (.int 1)), none] [] = some (.nx [some (.p (.int many)), some (.p (.int q)), some (.p (.int (k : Nat))), some (.p (.int (q ^ k))), x4] []) := by
      rw [e, List.drop_eq_nil_of_le (by rw [hlen, c]; exact Nat.le_refl _)]; rfl
    exact (x_seq_nx ((x_for r).trans e2)).trans (x_ret (x_var rfl))
  · have hlt : k < (rangeD 0 many.toNat).length := by rw [hlen]; omega
    have e2 : forD (tgN 4) m__law_needs_b1 0 (rangeD 0 many.toNat) [some (.p (.int many)), some (.p (.int q)), some (.p (.int 0)), some (.p (.int 1)), none] [] = some (.nx [some (.p (.int many)), some (.p (.int q)), some (.p (.int (k : Nat))), some (.p (.int (q ^ k))), some (.p (rangeD 0 many.toNat)[k])] []) := by
      rw [e, List.drop_eq_getElem_cons hlt]
      refine forD_bk rfl ?_
      exact x_seq_bk ((x_if_t (cs1 := []) (x_test (x_op (x_var (i := 3) rfl) (x_var (i := 0) rfl) (by rw [f_ge, decide_eq_true l.top])))).trans x_brk)
    exact (x_seq_nx ((x_for r).trans e2)).trans (x_ret (x_var rfl))
section
variable {ps sizes : List Int} {found : List (Int × Int)} {n : Nat} {ct T : D} {gs : List D}
theorem e_hills : F_Question_hills [questD ps sizes found n ct T gs] = some (.int (sizes.length : Int)) := by
  have := x_fnP_rt (np := 1) (k := 1) (m := m_Question_hills) (ds := [questD ps sizes found n ct T gs]) rfl (cs1 := []) (x_ret (x_call (x_cons (x_fldO (d := dI sizes) (x_var (i := 0) rfl) rfl) x_nil) (p_cons p_nil) f_lenL))
  rwa [List.length_map] at this
theorem e_needs {q v : Int} {many : Nat} {k : Nat} {g : List D} (hq : 2 ≤ q ∧ q ≤ 1000) (hk : k ≤ 100) (l : Least q many k) (h0 : 0 ≤ v) (hg : gs[v.toNat]? = some (.lst g)) (hm : g.length = many) : F_Question_needs [questD ps sizes found n ct T gs, .int v, .int q] = some (.int (k : Nat)) := by
  have s1 : sSet 3 (mCall fLen (mCons (mOp fIxL (mFld 1 "group_table" (mVar 0)) (mVar 1)) mNil)) 0 [some (.p (questD ps sizes found n ct T gs)), some (.p (.int v)), some (.p (.int q)), none, none, none] [] = some (.nx [some (.p (questD ps sizes found n ct T gs)), some (.p (.int v)), some (.p (.int q)), some (.p (.int (many : Int))), none, none] []) := by
    refine x_set (x_call (x_cons (x_op (d1 := .lst gs) (d := .lst g) (x_fldO (d := .lst gs) (x_var (i := 0) rfl) rfl) (x_var (i := 1) rfl) (atI_of h0 hg)) x_nil) (p_cons p_nil) ?_)
    rw [f_lenL, hm]
  obtain ⟨ρ', cs', e, rfl, rfl⟩ := while_inv (n := 0) (t := mTest (mOp fLt (mVar 5) (mVar 3))) (b := m_Question_needs_b1) (k := k)
    (fun i ρ cs => ρ = [some (.p (questD ps sizes found n ct T gs)), some (.p (.int v)), some (.p (.int q)), some (.p (.int (many : Int))), some (.p (.int (i : Nat))), some (.p (.int (q ^ i)))] ∧ cs = [])
    (fun i ρ cs hi h => by
      obtain ⟨rfl, rfl⟩ := h
      refine ⟨_, x_test (x_op (x_var rfl) (x_var rfl) (by rw [f_lt, decide_eq_true (l.low i hi)])), [some (.p (questD ps sizes found n ct T gs)), some (.p (.int v)), some (.p (.int q)), some (.p (.int (many : Int))), some (.p (.int ((i + 1 : Nat) : Int))), some (.p (.int (q ^ (i + 1))))], [], ?_, rfl, rfl⟩
      refine (x_seq_nx (x_set (x_op (x_var (i := 5) rfl) (x_var (i := 2) rfl) (f_mul (.inr ⟨by omega, by omega⟩))))).trans ?_
      refine (x_aug (x := (i : Int)) (y := 1) rfl x_c).trans ?_
      rw [Int.pow_succ]; rfl)
    (fun ρ cs h => by
      obtain ⟨rfl, rfl⟩ := h
      exact ⟨_, x_test (x_op (x_var rfl) (x_var rfl) (by rw [f_lt, decide_eq_false (by have := l.top; omega)])), rfl, rfl⟩) k 0 1000 [some (.p (questD ps sizes found n ct T gs)), some (.p (.int v)), some (.p (.int q)), some (.p (.int (many : Int))), some (.p (.int 0)), some (.p (.int 1))] [] (by omega) (by omega) ⟨by simp, rfl⟩
  refine x_fnP_rt rfl (cs1 := []) ((x_seq_nx s1).trans ((x_seq_nx (x_set x_c)).trans ((x_seq_nx (x_set x_c)).trans ((x_seq_nx (show sWhile 1000 _ _ 0 _ _ = _ from e)).trans (x_ret (x_var rfl))))))
theorem e_session_picks {lens : List Int} {a : Nat} (sess : Sess ps lens found) (ha : a < ps.length) (hll : lens.length = ps.length) (hr : ∀ x ∈ lens, 1 ≤ x ∧ x ≤ 10) (hn : ∀ p ∈ found, p.2 ≤ (n : Int)) (h500 : n ≤ 500) :
    ∃ xs : List D, F_Question_session_picks [questD ps sizes found n ct T gs, .int ((a : Int) + 1)] = some (.lst xs) ∧ (xs.length : Int) = lens.getD a 0 := by
  have haf : a < found.length := by rw [sess.len]; exact ha
  have hf := List.getElem?_eq_getElem haf
  have h1 := sess.at_ a _ hf
  have h2 := hn _ (List.getElem_mem haf)
  have hal : a < lens.length := by omega
  have h3 := hr _ (List.getElem_mem hal)
  have h4 : lens.getD a 0 = lens[a] := by simp [hal]
  generalize found[a] = s at *
  have q : (a : Int) + 1 - 1 = (a : Int) := by omega
  have ix : fIxL (dP found) (.int ((a : Int) + 1 - 1)) = some (pairD s) := by rw [q]; exact atI_at (by rw [List.getElem?_map, hf]; rfl)
  have ix2 : fIxL (.lst (List.replicate ps.length (promD n))) (.int ((a : Int) + 1 - 1)) = some (promD n) := by rw [q]; exact rep_get ha
  obtain ⟨k, hk⟩ : ∃ k : Nat, (k : Int) = lens.getD a 0 := ⟨(lens.getD a 0).toNat, by omega⟩
  have pk := e_picks (n := n) (s := s.1 - 1) (k := k) (by omega) (by omega) h500
  rw [show s.1 - 1 + (k : Int) = s.2 by omega] at pk
  refine ⟨(rgF (s.1 - 1 + 1) k).map fun b => pairD (b, b), ?_, by rw [List.length_map, rgF_len]; exact hk⟩
  have s1 : sAsg (tg2 2 3) (mOp fIxL (mFld 1 "session_list" (mVar 0)) (mOp fSub (mVar 1) (mC (.int 1)))) 0 [some (.p (questD ps sizes found n ct T gs)), some (.p (.int ((a : Int) + 1))), none, none] [] =
      some (.nx [some (.p (questD ps sizes found n ct T gs)), some (.p (.int ((a : Int) + 1))), some (.p (.int s.1)), some (.p (.int s.2))] []) :=
    x_asg (x_op (d1 := dP found) (d := pairD s) (x_fldO (d := dP found) (x_var (i := 0) rfl) rfl) (x_op (x_var (i := 1) rfl) x_c rfl) ix) rfl
  refine x_fnP_rt rfl (cs1 := []) ((x_seq_nx s1).trans (x_ret ?_))
  exact x_meth (ds0 := [.int n, .lst (W n), dI (endsN n)]) (x_op (d1 := .lst (List.replicate ps.length (promD n))) (x_fldO (d := .lst (List.replicate ps.length (promD n))) (x_var (i := 0) rfl) rfl) (x_op (x_var (i := 1) rfl) x_c rfl) ix2) (by decide +kernel)
    (x_cons (x_op (x_var (i := 2) rfl) x_c rfl) (x_cons (x_var (i := 3) rfl) x_nil)) (p_cons (p_cons p_nil)) pk
end
end Fw
set_option maxRecDepth 100000
set_option maxHeartbeats 4000000
namespace Fw
open PySem PySem.Spec PyProof.Rows L2 Mx
section
variable {ps sizes : List Int} {found : List (Int × Int)} {n : Nat} {ct T : D} {gs : List D}
theorem ans_turn {q : Int} {a k : Nat} {xs : List D} {x2 : Option E} (h1 : F_Question_needs [questD ps sizes found n ct T gs, .int ((a : Int) + 1), .int q] = some (.int (k : Nat))) (h2 : F_Question_session_picks [questD ps sizes found n ct T gs, .int ((a : Int) + 1)] = some (.lst xs)) :
    mTest (mOp fGt (mMeth 1 "needs" F_Question_needs (mVar 0) (mCons (mVar 2) (mCons (mVar 1) mNil))) (mCall fLen (mCons (mMeth 1 "session_picks" F_Question_session_picks (mVar 0) (mCons (mVar 2) mNil)) mNil))) 0 [some (.p (questD ps sizes found n ct T gs)), some (.p (.int q)), some (.p (.int ((a : Int) + 1)))] [] = some (decide (xs.length < k), []) := by
  refine (x_test (x_op (d1 := .int (k : Nat)) (x_meth (ds0 := qV ps sizes found n ct T ++ [D.lst gs]) (x_var (i := 0) rfl) (by decide +kernel) (x_cons (x_var (i := 2) rfl) (x_cons (x_var (i := 1) rfl) x_nil)) (p_cons (p_cons p_nil)) h1) (x_call (x_cons (x_meth (ds0 := qV ps sizes found n ct T ++ [D.lst gs]) (x_var (i := 0) rfl) (by decide +kernel) (x_cons (x_var (i := 2) rfl) x_nil) (p_cons p_nil) h2) x_nil) (p_cons p_nil) f_lenL) f_gt)).trans ?_
  congr 2
  rw [Bool.eq_iff_iff]
  simp
theorem ans_src {q : Int} (hl : ps.length + 1 = sizes.length) (h5 : sizes.length ≤ 1000) : mIR2 (mCons (mC (.int 1)) (mCons (mMeth 1 "hills" F_Question_hills (mVar 0) mNil) mNil)) 0 [some (.p (questD ps sizes found n ct T gs)), some (.p (.int q)), none] [] = some (rangeD 1 ps.length, []) := by
  have r := x_ir2_nat (n := 0) (ρ := [some (.p (questD ps sizes found n ct T gs)), some (.p (.int q)), none]) (cs := []) (cs1 := []) (ma := mCons (mC (.int 1)) (mCons (mMeth 1 "hills" F_Question_hills (mVar 0) mNil) mNil)) (i := 1) (j := (sizes.length : Int))
    (x_cons x_c (x_cons (x_meth (fs := qN) (ds0 := qV ps sizes found n ct T ++ [D.lst gs]) (x_var (i := 0) rfl) (by decide +kernel) x_nil p_nil (e_hills (ps := ps) (sizes := sizes) (found := found) (n := n) (ct := ct) (T := T) (gs := gs))) x_nil)) (by omega) (by omega)
  rw [r]
  congr 3
  omega
theorem e_answered_none {q : Int} {N : Nat → Nat} (hl : ps.length + 1 = sizes.length) (h5 : sizes.length ≤ 1000) (h1 : ∀ a, a < ps.length → F_Question_needs [questD ps sizes found n ct T gs, .int ((a : Int) + 1), .int q] = some (.int (N a : Nat)))
    (h2 : ∀ a, a < ps.length → ∃ xs : List D, F_Question_session_picks [questD ps sizes found n ct T gs, .int ((a : Int) + 1)] = some (.lst xs) ∧ N a ≤ xs.length) : F_Question_answered [questD ps sizes found n ct T gs, .int q] = some .non := by
  obtain ⟨ρ', cs', e, x2, rfl, rfl⟩ := for_inv (n := 0) (tg := tgN 2) (body := m_Question_answered_b1) (ρ := [some (.p (questD ps sizes found n ct T gs)), some (.p (.int q)), none]) (cs := []) (ds := rangeD 1 ps.length)
    (fun i ρ cs => ∃ x2, ρ = [some (.p (questD ps sizes found n ct T gs)), some (.p (.int q)), x2] ∧ cs = []) ⟨none, rfl, rfl⟩ (fun i d ρ cs hd h => by
      obtain ⟨x2, rfl, rfl⟩ := h
      rw [rangeD_rgF, List.getElem?_map, Option.map_eq_some_iff] at hd
      obtain ⟨b, hb, rfl⟩ := hd
      have hi : i < ps.length := by have := (List.getElem?_eq_some_iff.mp hb).1; rwa [rgF_len] at this
      rw [rgF_get hi] at hb
      cases hb
      rw [Int.add_comm]
      obtain ⟨xs, e2, e3⟩ := h2 i hi
      have t := ans_turn (x2 := x2) (h1 i hi) e2
      rw [decide_eq_false (by omega)] at t
      exact ⟨_, rfl, _, _, (x_if_f (cs1 := []) t).trans x_next, _, rfl, rfl⟩)
  exact x_fnP_rt rfl (cs1 := []) ((x_seq_nx ((x_for (ans_src hl h5)).trans e)).trans (x_ret x_c))
theorem e_answered_some {q : Int} {N : Nat → Nat} {a0 : Nat} (hl : ps.length + 1 = sizes.length) (h5 : sizes.length ≤ 1000) (ha : a0 < ps.length) (h1 : ∀ a, a < ps.length → F_Question_needs [questD ps sizes found n ct T gs, .int ((a : Int) + 1), .int q] = some (.int (N a : Nat)))
    (h2 : ∀ a, a < ps.length → ∃ xs : List D, F_Question_session_picks [questD ps sizes found n ct T gs, .int ((a : Int) + 1)] = some (.lst xs) ∧ (a < a0 → N a ≤ xs.length) ∧ (a = a0 → xs.length < N a)) : F_Question_answered [questD ps sizes found n ct T gs, .int q] = some (.int ((a0 : Int) + 1)) := by
  have hlen : (rangeD 1 ps.length).length = ps.length := by rw [rangeD, List.length_map, List.length_range]
  obtain ⟨ρ', cs', e, x2, rfl, rfl⟩ := for_part (n := 0) (tg := tgN 2) (body := m_Question_answered_b1) (ρ := [some (.p (questD ps sizes found n ct T gs)), some (.p (.int q)), none]) (cs := []) (ds := rangeD 1 ps.length) (k := a0)
    (fun i ρ cs => ∃ x2, ρ = [some (.p (questD ps sizes found n ct T gs)), some (.p (.int q)), x2] ∧ cs = []) (by rw [hlen]; omega) ⟨none, rfl, rfl⟩ (fun i d ρ cs hia hd h => by
      obtain ⟨x2, rfl, rfl⟩ := h
      rw [rangeD_rgF, List.getElem?_map, Option.map_eq_some_iff] at hd
      obtain ⟨b, hb, rfl⟩ := hd
      have hi : i < ps.length := by have := (List.getElem?_eq_some_iff.mp hb).1; rwa [rgF_len] at this
      rw [rgF_get hi] at hb
      cases hb
      rw [Int.add_comm]
      obtain ⟨xs, e2, e3, _⟩ := h2 i hi
      have t := ans_turn (x2 := x2) (h1 i hi) e2
      rw [decide_eq_false (by have := e3 hia; omega)] at t
      exact ⟨_, rfl, _, _, (x_if_f (cs1 := []) t).trans x_next, _, rfl, rfl⟩)
  have hlt : a0 < (rangeD 1 ps.length).length := by rw [hlen]; exact ha
  have hd0 : (rangeD 1 ps.length)[a0] = .int ((a0 : Int) + 1) := by
    have : (rangeD 1 ps.length)[a0]? = some (.int ((a0 : Int) + 1)) := by rw [rangeD_rgF, List.getElem?_map, rgF_get ha, Int.add_comm]; rfl
    rw [List.getElem?_eq_getElem hlt] at this
    exact Option.some.inj this
  rw [List.drop_eq_getElem_cons hlt, hd0] at e
  obtain ⟨xs, e2, _, e3⟩ := h2 a0 ha
  have t := ans_turn (x2 := x2) (h1 a0 ha) e2
  rw [decide_eq_true (e3 rfl)] at t
  have e4 := e.trans (forD_rt (e := .p (.int ((a0 : Int) + 1))) (cs2 := []) rfl ((x_if_t (cs1 := []) t).trans (x_ret (x_var rfl))))
  exact x_fnP_rt rfl (cs1 := []) (x_seq_rt ((x_for (ans_src hl h5)).trans e4))
theorem e_classes {v : Int} {g : List (List (List Int))} (h0 : 0 ≤ v) (hg : gs[v.toNat]? = some (.lst (g.map dRs))) (hl : g.length ≤ 100000) : F_Question_classes [questD ps sizes found n ct T gs, .int v] = some (.lst (g.map dRs)) := by
  have lc := lc_map (n := 0) (cs := []) (tg := tgN 2) (mt := mYes) (me := mCall fListOf (mCons (mVar 2) mNil)) (ρw := [some (.p (questD ps sizes found n ct T gs)), some (.p (.int v)), none]) dRs dRs (xs := g) fun x hx => ⟨_, rfl, rfl, x_call (x_cons (x_var rfl) x_nil) (p_cons p_nil) f_listL⟩
  exact x_fnP_rt rfl (cs1 := []) (x_ret (x_lc (x_il (x_op (d1 := .lst gs) (d := .lst (g.map dRs)) (x_fldO (d := .lst gs) (x_var (i := 0) rfl) rfl) (x_var (i := 1) rfl) (atI_of h0 hg))) (by rw [List.length_map]; exact hl) lc))
end
theorem e_match_non : F__law_matches_v0 [.non, .non] = some (.bl true) := by rfl
theorem e_match_int {i : Int} : F__law_matches_v0 [.int i, .int i] = some (.bl true) := by
  simp only [F__law_matches_v0, fnP]
  simp [sSeq, sNext, sSet, sDrop, sRet, sRetN, sIf, sAug, sAsg, sBreak, mVar, mC, mOp, m2, mBind, mCall, mCallM, mNil, mCons, mTup, mLst, mLstC, mTest, mAnd, mOr, mNot, mOfT, mIf, mUn, mTru, mIL, mIE, mIZLT, tgN, tg2, tgT, tgs, tgs0, mYes, mFor, mFrz, mAppend, toC, sPre, sPost, mNo, mPart, mSl, mChain, mChain3, mBM, mFld, mMeth, wipeS, flatSl, deref, mBor, tBorT, scalarD, mIxC, mDNewT, mLstRg1, slots0, m__law_matches_v0, fIsN, D.isNon, fIsi, isiKnown, D.tyn, isiR]
end Fw
set_option maxRecDepth 100000
set_option maxHeartbeats 4000000
namespace Fw
open PySem PySem.Spec PyProof.Rows L2 Mx
theorem x_make0 {c n : Nat} {f : List E → List Cell → Option (E × List Cell)} {ma : MA} {ρ : Sl} {es : List E} {fs : List Str} {ds : List D} (ha : ma n ρ [] = some (es, [])) (hf : f (.c 0 :: es) [.obj c [] []] = some (.p .non, [.obj c fs (ds.map E.p)])) : mMake c f ma n ρ [] = some (.p (.obj c fs ds), []) := by
  unfold mMake
  simp only [ha]
  show (match f (.c 0 :: es) [.obj c [] []] with
    | some (.p .non, cs2) => _
    | _ => none) = _
  rw [hf]
  simp only [List.length_nil, List.getElem?_cons_zero, List.length_cons, Nat.zero_add, List.take_zero, List.all_nil, and_self, if_true, pures_map, Option.map_some]
theorem x_max_snd {found : List (Int × Int)} (hne : found ≠ []) (h : ∀ p ∈ found, 0 ≤ p.2) : maxOf (found.map (·.2)) = some (mx (found.map (·.2))) :=
  maxOf_mx (by simpa using hne) fun x hx => by
    rw [List.mem_map] at hx
    obtain ⟨p, hp, rfl⟩ := hx
    exact h p hp
/-- what _law_made gives -/
theorem e_made {ps sizes lens : List Int} {kz : List Int → Z} (c : Case ps sizes) (hr : ∀ x ∈ lens, 1 ≤ x ∧ x ≤ 10) (hll : lens.length = ps.length) : ∃ found n ct, Sess ps lens found ∧ (∀ p ∈ found, p.2 ≤ ((n : Nat) : Int)) ∧ n ≤ 500 ∧
    F__law_made [dI ps, dI sizes, dI lens, tabD sizes fun w => (kz w).d] = some (questD ps sizes found n ct (tabD sizes fun w => (kz w).d) (groupsD sizes ps kz)) := by
  obtain ⟨found, e1, sess⟩ := e_llengths c.pk hll hr
  have h4 := c.pk.len
  have hne : 1 ≤ ps.length := by
    have := c.pk.ne
    cases h : ps with
    | nil => exact absurd h this
    | cons a b => simp
  have pos : ∀ p ∈ found, 1 ≤ p.2 ∧ p.2 ≤ 40 := fun p hp => by
    obtain ⟨a, ha⟩ := List.mem_iff_getElem?.mp hp
    have hal : a < lens.length := by have := (List.getElem?_eq_some_iff.mp ha).1; rw [sess.len] at this; omega
    have h1 := sess.at_ a p ha
    have h2 := hr _ (List.getElem_mem hal)
    have h3 : lens.getD a 0 = lens[a] := by simp [hal]
    omega
  have fne : found ≠ [] := fun e => by have := sess.len; rw [e] at this; simp at this; omega
  have hmx := x_max_snd fne fun p hp => by have := pos p hp; omega
  obtain ⟨n, hn⟩ : ∃ n : Nat, mx (found.map (·.2)) = (n : Int) := ⟨(mx (found.map (·.2))).toNat, by have := mx_nn (found.map (·.2)); omega⟩
  have hle : ∀ p ∈ found, p.2 ≤ (n : Int) := fun p hp => by rw [← hn]; exact le_mx (List.mem_map.mpr ⟨p, hp, rfl⟩)
  have n1 : 1 ≤ n := by
    cases hf : found with
    | nil => exact absurd hf fne
    | cons p r =>
      have hp : p ∈ found := by rw [hf]; simp
      have := pos p hp
      have := hle p hp
      omega
  have n40 : n ≤ 40 := by
    rcases mx_mem (found.map (·.2)) with z | z
    · omega
    · rw [List.mem_map] at z
      obtain ⟨p, hp, e⟩ := z
      have := pos p hp
      omega
  rw [hn] at hmx
  obtain ⟨ct, e2⟩ := e_question (kz := kz) c hr hll sess hle
  refine ⟨found, n, ct, sess, hle, by omega, ?_⟩
  generalize hT : (tabD sizes fun w => (kz w).d) = T at *
  have s1 : sSet 4 (mCall F__law_lengths (mCons (mVar 0) (mCons (mVar 2) mNil))) 0 [some (.p (dI ps)), some (.p (dI sizes)), some (.p (dI lens)), some (.p T), none, none, none, none] [] = some (.nx [some (.p (dI ps)), some (.p (dI sizes)), some (.p (dI lens)), some (.p T), some (.p (dP found)), none, none, none] []) :=
    x_set (x_call (x_cons (x_var (i := 0) rfl) (x_cons (x_var (i := 2) rfl) x_nil)) (p_cons (p_cons p_nil)) e1)
  have lc := lc_map (n := 0) (cs := []) (tg := tgN 7) (mt := mYes) (me := mOp fIxT (mVar 7) (mC (.int 1))) (ρw := [some (.p (dI ps)), some (.p (dI sizes)), some (.p (dI lens)), some (.p T), some (.p (dP found)), none, none, none]) pairD (fun p => D.int p.2) (xs := found) fun p hp => ⟨_, rfl, rfl, x_op (x_var (e := .p (pairD p)) rfl) x_c at1⟩
  rw [show (found.map fun p => D.int p.2) = (found.map (·.2)).map D.int by rw [List.map_map]; rfl] at lc
  have s2 : sSet 5 (mCall fMax (mCons (mLc (mIL (mVar 4)) (tgN 7) mYes (mOp fIxT (mVar 7) (mC (.int 1))) [7]) mNil)) 0 [some (.p (dI ps)), some (.p (dI sizes)), some (.p (dI lens)), some (.p T), some (.p (dP found)), none, none, none] [] =
      some (.nx [some (.p (dI ps)), some (.p (dI sizes)), some (.p (dI lens)), some (.p T), some (.p (dP found)), some (.p (.int (n : Int))), none, none] []) :=
    x_set (x_call (x_cons (x_lc (ds := found.map pairD) (cs1 := []) (x_il (x_var (i := 4) rfl)) (by rw [List.length_map, sess.len]; omega) lc) x_nil) (p_cons p_nil) (f_max hmx))
  have s3 : sSet 6 (mMake 0 F_Promise___init__ (mCons (mVar 5) (mCons (mCall F__law_windows (mCons (mVar 5) (mCons (mC (.int 1)) mNil))) mNil))) 0 [some (.p (dI ps)), some (.p (dI sizes)), some (.p (dI lens)), some (.p T), some (.p (dP found)), some (.p (.int (n : Int))), none, none] [] =
      some (.nx [some (.p (dI ps)), some (.p (dI sizes)), some (.p (dI lens)), some (.p T), some (.p (dP found)), some (.p (.int (n : Int))), some (.p (promD n)), none] []) :=
    x_set (x_make0 (ds := [.int n, .lst (W n), dI (endsN n)]) (x_cons (x_var (i := 5) rfl) (x_cons (x_call (x_cons (x_var (i := 5) rfl) (x_cons x_c x_nil)) (p_cons (p_cons p_nil)) (e_windows (by omega))) x_nil)) (e_promise n1 (by omega)))
  refine x_fnP_rt rfl (cs1 := []) ((x_seq_nx s1).trans ((x_seq_nx s2).trans ((x_seq_nx s3).trans (x_ret ?_))))
  refine x_make0 (fs := qN) (ds := qV ps sizes found n ct T ++ [D.lst (groupsD sizes ps kz)]) (es := [.p (dI ps), .p (dI sizes), .p (dP found), .p (.lst (List.replicate ps.length (promD n))), .p T]) ?_ e2
  refine x_cons (x_call (x_cons (x_var (i := 0) rfl) x_nil) (p_cons p_nil) f_listL) (x_cons (x_call (x_cons (x_var (i := 1) rfl) x_nil) (p_cons p_nil) f_listL) (x_cons (x_var (i := 4) rfl) (x_cons ?_ (x_cons (x_var (i := 3) rfl) x_nil))))
  refine x_op (d1 := .lst [promD n]) (d2 := .int (ps.length : Int)) (cs1 := []) (x_lst (x_cons (x_var (i := 6) rfl) x_nil) (p_cons p_nil) (by simp)) ((x_call (x_cons (x_var (i := 0) rfl) x_nil) (p_cons p_nil) f_lenL).trans (by rw [List.length_map])) (f_rep1 (by omega))
end Fw
set_option maxRecDepth 100000
set_option maxHeartbeats 4000000
namespace Fw
open PySem PySem.Spec PyProof.Rows L2 Mx
theorem e_match_row {r : List Int} (hl : r.length ≤ 100000) : F__law_matches_v1 [dR r, dR r] = some (.bl true) := by
  obtain ⟨ρ', cs', e, x2, rfl, rfl⟩ := for_inv (n := 0) (tg := tgN 2) (body := m__law_matches_v1_b1) (ρ := [some (.p (dR r)), some (.p (dR r)), none]) (cs := []) (ds := rangeD 0 r.length)
    (fun i ρ cs => ∃ x2, ρ = [some (.p (dR r)), some (.p (dR r)), x2] ∧ cs = []) ⟨none, rfl, rfl⟩ (fun i d ρ cs hd h => by
      obtain ⟨x2, rfl, rfl⟩ := h
      rw [rangeD_rgF, List.getElem?_map, Option.map_eq_some_iff] at hd
      obtain ⟨b, hb, rfl⟩ := hd
      have hi : i < r.length := by have := (List.getElem?_eq_some_iff.mp hb).1; rwa [rgF_len] at this
      rw [rgF_get hi] at hb
      cases hb
      have ix : fIxT (dR r) (.int (0 + (i : Int))) = some (.int r[i]) := by
        rw [Int.zero_add]
        exact atI_at (by rw [List.getElem?_map, List.getElem?_eq_getElem hi]; rfl)
      exact ⟨_, rfl, _, _, (x_if_f (cs1 := []) (x_not (k := true) (x_test (x_call (x_cons (x_op (x_var (i := 0) rfl) (x_var (i := 2) rfl) ix) (x_cons (x_op (x_var (i := 1) rfl) (x_var (i := 2) rfl) ix) x_nil)) (p_cons (p_cons p_nil)) e_match_int)))).trans x_next, _, rfl, rfl⟩)
  have src := x_ir1 (n := 0) (ma := mCons (mCall fLen (mCons (mVar 1) mNil)) mNil) (ρ := [some (.p (dR r)), some (.p (dR r)), none]) (cs := []) (cs1 := []) (j := (r.length : Int)) (x_cons (x_call (x_cons (x_var (i := 1) rfl) x_nil) (p_cons p_nil) (by rw [f_lenT, List.length_map])) x_nil) (by omega) (by omega)
  rw [Int.toNat_natCast] at src
  refine x_fnP_rt rfl (cs1 := []) ?_
  show m__law_matches_v1 0 [some (.p (dR r)), some (.p (dR r)), none] [] = _
  refine (x_seq_nx ((x_if_f (cs1 := []) (by simp [sSeq, sNext, sSet, sDrop, sRet, sRetN, sIf, sAug, sAsg, sBreak, mVar, mC, mOp, m2, mBind, mCall, mCallM, mNil, mCons, mTup, mLst, mLstC, mTest, mAnd, mOr, mNot, mOfT, mIf, mUn, mTru, mIL, mIE, mIZLT, tgN, tg2, tgT, tgs, tgs0, mYes, mFor, mFrz, mAppend, toC, sPre, sPost, mNo, mPart, mSl, mChain, mChain3, mBM, mFld, mMeth, wipeS, flatSl, deref, mBor, tBorT, scalarD, mIxC, mDNewT, mLstRg1, fIsN, D.isNon, dR])).trans x_next)).trans ?_
  refine (x_seq_nx ((x_if_f (cs1 := []) (by simp [sSeq, sNext, sSet, sDrop, sRet, sRetN, sIf, sAug, sAsg, sBreak, mVar, mC, mOp, m2, mBind, mCall, mCallM, mNil, mCons, mTup, mLst, mLstC, mTest, mAnd, mOr, mNot, mOfT, mIf, mUn, mTru, mIL, mIE, mIZLT, tgN, tg2, tgT, tgs, tgs0, mYes, mFor, mFrz, mAppend, toC, sPre, sPost, mNo, mPart, mSl, mChain, mChain3, mBM, mFld, mMeth, wipeS, flatSl, deref, mBor, tBorT, scalarD, mIxC, mDNewT, mLstRg1, fIsi, isiKnown, D.tyn, isiR, dR])).trans x_next)).trans ?_
  refine (x_seq_nx ((x_if_f (cs1 := []) (by simp [sSeq, sNext, sSet, sDrop, sRet, sRetN, sIf, sAug, sAsg, sBreak, mVar, mC, mOp, m2, mBind, mCall, mCallM, mNil, mCons, mTup, mLst, mLstC, mTest, mAnd, mOr, mNot, mOfT, mIf, mUn, mTru, mIL, mIE, mIZLT, tgN, tg2, tgT, tgs, tgs0, mYes, mFor, mFrz, mAppend, toC, sPre, sPost, mNo, mPart, mSl, mChain, mChain3, mBM, mFld, mMeth, wipeS, flatSl, deref, mBor, tBorT, scalarD, mIxC, mDNewT, mLstRg1, fIsi, isiKnown, D.tyn, isiR, dR])).trans x_next)).trans ?_
  refine (x_seq_nx ((x_if_f (cs1 := []) (by simp [sSeq, sNext, sSet, sDrop, sRet, sRetN, sIf, sAug, sAsg, sBreak, mVar, mC, mOp, m2, mBind, mCall, mCallM, mNil, mCons, mTup, mLst, mLstC, mTest, mAnd, mOr, mNot, mOfT, mIf, mUn, mTru, mIL, mIE, mIZLT, tgN, tg2, tgT, tgs, tgs0, mYes, mFor, mFrz, mAppend, toC, sPre, sPost, mNo, mPart, mSl, mChain, mChain3, mBM, mFld, mMeth, wipeS, flatSl, deref, mBor, tBorT, scalarD, mIxC, mDNewT, mLstRg1, fIsi, isiKnown, D.tyn, isiR, dR])).trans x_next)).trans ?_
  refine (x_seq_nx ((x_if_f (cs1 := []) (by simp [sSeq, sNext, sSet, sDrop, sRet, sRetN, sIf, sAug, sAsg, sBreak, mVar, mC, mOp, m2, mBind, mCall, mCallM, mNil, mCons, mTup, mLst, mLstC, mTest, mAnd, mOr, mNot, mOfT, mIf, mUn, mTru, mIL, mIE, mIZLT, tgN, tg2, tgT, tgs, tgs0, mYes, mFor, mFrz, mAppend, toC, sPre, sPost, mNo, mPart, mSl, mChain, mChain3, mBM, mFld, mMeth, wipeS, flatSl, deref, mBor, tBorT, scalarD, mIxC, mDNewT, mLstRg1, fIsi, isiKnown, D.tyn, isiR, dR])).trans x_next)).trans ?_
  refine (x_seq_nx ((x_if_f (cs1 := []) (by simp [sSeq, sNext, sSet, sDrop, sRet, sRetN, sIf, sAug, sAsg, sBreak, mVar, mC, mOp, m2, mBind, mCall, mCallM, mNil, mCons, mTup, mLst, mLstC, mTest, mAnd, mOr, mNot, mOfT, mIf, mUn, mTru, mIL, mIE, mIZLT, tgN, tg2, tgT, tgs, tgs0, mYes, mFor, mFrz, mAppend, toC, sPre, sPost, mNo, mPart, mSl, mChain, mChain3, mBM, mFld, mMeth, wipeS, flatSl, deref, mBor, tBorT, scalarD, mIxC, mDNewT, mLstRg1, fIsi, isiKnown, D.tyn, isiR, dR])).trans x_next)).trans ?_
  refine (x_seq_nx ((x_if_f (cs1 := []) (by simp [sSeq, sNext, sSet, sDrop, sRet, sRetN, sIf, sAug, sAsg, sBreak, mVar, mC, mOp, m2, mBind, mCall, mCallM, mNil, mCons, mTup, mLst, mLstC, mTest, mAnd, mOr, mNot, mOfT, mIf, mUn, mTru, mIL, mIE, mIZLT, tgN, tg2, tgT, tgs, tgs0, mYes, mFor, mFrz, mAppend, toC, sPre, sPost, mNo, mPart, mSl, mChain, mChain3, mBM, mFld, mMeth, wipeS, flatSl, deref, mBor, tBorT, scalarD, mIxC, mDNewT, mLstRg1, dR])).trans x_next)).trans ?_
  exact (x_seq_nx ((x_for src).trans e)).trans (x_ret x_c)
theorem e_match_rows {R : List (List Int)} (hR : R.length ≤ 100000) (hl : ∀ r ∈ R, r.length ≤ 100000) : F__law_matches_v2 [dRs R, dRs R] = some (.bl true) := by
  obtain ⟨ρ', cs', e, x2, rfl, rfl⟩ := for_inv (n := 0) (tg := tgN 2) (body := m__law_matches_v2_b1) (ρ := [some (.p (dRs R)), some (.p (dRs R)), none]) (cs := []) (ds := rangeD 0 R.length)
    (fun i ρ cs => ∃ x2, ρ = [some (.p (dRs R)), some (.p (dRs R)), x2] ∧ cs = []) ⟨none, rfl, rfl⟩ (fun i d ρ cs hd h => by
      obtain ⟨x2, rfl, rfl⟩ := h
      rw [rangeD_rgF, List.getElem?_map, Option.map_eq_some_iff] at hd
      obtain ⟨b, hb, rfl⟩ := hd
      have hi : i < R.length := by have := (List.getElem?_eq_some_iff.mp hb).1; rwa [rgF_len] at this
      rw [rgF_get hi] at hb
      cases hb
      have ix : fIxL (dRs R) (.int (0 + (i : Int))) = some (dR R[i]) := by
        rw [Int.zero_add]
        exact atI_at (by rw [List.getElem?_map, List.getElem?_eq_getElem hi]; rfl)
      exact ⟨_, rfl, _, _, (x_if_f (cs1 := []) (x_not (k := true) (x_test (x_call (x_cons (x_op (x_var (i := 0) rfl) (x_var (i := 2) rfl) ix) (x_cons (x_op (x_var (i := 1) rfl) (x_var (i := 2) rfl) ix) x_nil)) (p_cons (p_cons p_nil)) (e_match_row (hl _ (List.getElem_mem hi))))))).trans x_next, _, rfl, rfl⟩)
  have src := x_ir1 (n := 0) (ma := mCons (mCall fLen (mCons (mVar 1) mNil)) mNil) (ρ := [some (.p (dRs R)), some (.p (dRs R)), none]) (cs := []) (cs1 := []) (j := (R.length : Int)) (x_cons (x_call (x_cons (x_var (i := 1) rfl) x_nil) (p_cons p_nil) (by rw [f_lenL, List.length_map])) x_nil) (by omega) (by omega)
  rw [Int.toNat_natCast] at src
  refine x_fnP_rt rfl (cs1 := []) ?_
  show m__law_matches_v2 0 [some (.p (dRs R)), some (.p (dRs R)), none] [] = _
  refine (x_seq_nx ((x_if_f (cs1 := []) (by simp [sSeq, sNext, sSet, sDrop, sRet, sRetN, sIf, sAug, sAsg, sBreak, mVar, mC, mOp, m2, mBind, mCall, mCallM, mNil, mCons, mTup, mLst, mLstC, mTest, mAnd, mOr, mNot, mOfT, mIf, mUn, mTru, mIL, mIE, mIZLT, tgN, tg2, tgT, tgs, tgs0, mYes, mFor, mFrz, mAppend, toC, sPre, sPost, mNo, mPart, mSl, mChain, mChain3, mBM, mFld, mMeth, wipeS, flatSl, deref, mBor, tBorT, scalarD, mIxC, mDNewT, mLstRg1, fIsN, D.isNon, dRs])).trans x_next)).trans ?_
  refine (x_seq_nx ((x_if_f (cs1 := []) (by simp [sSeq, sNext, sSet, sDrop, sRet, sRetN, sIf, sAug, sAsg, sBreak, mVar, mC, mOp, m2, mBind, mCall, mCallM, mNil, mCons, mTup, mLst, mLstC, mTest, mAnd, mOr, mNot, mOfT, mIf, mUn, mTru, mIL, mIE, mIZLT, tgN, tg2, tgT, tgs, tgs0, mYes, mFor, mFrz, mAppend, toC, sPre, sPost, mNo, mPart, mSl, mChain, mChain3, mBM, mFld, mMeth, wipeS, flatSl, deref, mBor, tBorT, scalarD, mIxC, mDNewT, mLstRg1, fIsi, isiKnown, D.tyn, isiR, dRs])).trans x_next)).trans ?_
  refine (x_seq_nx ((x_if_f (cs1 := []) (by simp [sSeq, sNext, sSet, sDrop, sRet, sRetN, sIf, sAug, sAsg, sBreak, mVar, mC, mOp, m2, mBind, mCall, mCallM, mNil, mCons, mTup, mLst, mLstC, mTest, mAnd, mOr, mNot, mOfT, mIf, mUn, mTru, mIL, mIE, mIZLT, tgN, tg2, tgT, tgs, tgs0, mYes, mFor, mFrz, mAppend, toC, sPre, sPost, mNo, mPart, mSl, mChain, mChain3, mBM, mFld, mMeth, wipeS, flatSl, deref, mBor, tBorT, scalarD, mIxC, mDNewT, mLstRg1, fIsi, isiKnown, D.tyn, isiR, dRs])).trans x_next)).trans ?_
  refine (x_seq_nx ((x_if_f (cs1 := []) (by simp [sSeq, sNext, sSet, sDrop, sRet, sRetN, sIf, sAug, sAsg, sBreak, mVar, mC, mOp, m2, mBind, mCall, mCallM, mNil, mCons, mTup, mLst, mLstC, mTest, mAnd, mOr, mNot, mOfT, mIf, mUn, mTru, mIL, mIE, mIZLT, tgN, tg2, tgT, tgs, tgs0, mYes, mFor, mFrz, mAppend, toC, sPre, sPost, mNo, mPart, mSl, mChain, mChain3, mBM, mFld, mMeth, wipeS, flatSl, deref, mBor, tBorT, scalarD, mIxC, mDNewT, mLstRg1, fIsi, isiKnown, D.tyn, isiR, dRs])).trans x_next)).trans ?_
  refine (x_seq_nx ((x_if_f (cs1 := []) (by simp [sSeq, sNext, sSet, sDrop, sRet, sRetN, sIf, sAug, sAsg, sBreak, mVar, mC, mOp, m2, mBind, mCall, mCallM, mNil, mCons, mTup, mLst, mLstC, mTest, mAnd, mOr, mNot, mOfT, mIf, mUn, mTru, mIL, mIE, mIZLT, tgN, tg2, tgT, tgs, tgs0, mYes, mFor, mFrz, mAppend, toC, sPre, sPost, mNo, mPart, mSl, mChain, mChain3, mBM, mFld, mMeth, wipeS, flatSl, deref, mBor, tBorT, scalarD, mIxC, mDNewT, mLstRg1, fIsi, isiKnown, D.tyn, isiR, dRs])).trans x_next)).trans ?_
  refine (x_seq_nx ((x_if_f (cs1 := []) (by simp [sSeq, sNext, sSet, sDrop, sRet, sRetN, sIf, sAug, sAsg, sBreak, mVar, mC, mOp, m2, mBind, mCall, mCallM, mNil, mCons, mTup, mLst, mLstC, mTest, mAnd, mOr, mNot, mOfT, mIf, mUn, mTru, mIL, mIE, mIZLT, tgN, tg2, tgT, tgs, tgs0, mYes, mFor, mFrz, mAppend, toC, sPre, sPost, mNo, mPart, mSl, mChain, mChain3, mBM, mFld, mMeth, wipeS, flatSl, deref, mBor, tBorT, scalarD, mIxC, mDNewT, mLstRg1, fIsi, isiKnown, D.tyn, isiR, dRs])).trans x_next)).trans ?_
  refine (x_seq_nx ((x_if_f (cs1 := []) (by simp [sSeq, sNext, sSet, sDrop, sRet, sRetN, sIf, sAug, sAsg, sBreak, mVar, mC, mOp, m2, mBind, mCall, mCallM, mNil, mCons, mTup, mLst, mLstC, mTest, mAnd, mOr, mNot, mOfT, mIf, mUn, mTru, mIL, mIE, mIZLT, tgN, tg2, tgT, tgs, tgs0, mYes, mFor, mFrz, mAppend, toC, sPre, sPost, mNo, mPart, mSl, mChain, mChain3, mBM, mFld, mMeth, wipeS, flatSl, deref, mBor, tBorT, scalarD, mIxC, mDNewT, mLstRg1, dRs])).trans x_next)).trans ?_
  exact (x_seq_nx ((x_for src).trans e)).trans (x_ret x_c)
end Fw
set_option maxRecDepth 100000
set_option maxHeartbeats 4000000
namespace Fw
open PySem PySem.Spec PyProof.Rows L2 Mx
theorem tupsOf_rows : ∀ {R : List (List Int)}, (∀ r ∈ R, r ≠ []) → tupsOf (R.map dR) = some R
  | [], _ => rfl
  | r :: R, h => by
    have ih := tupsOf_rows fun x hx => h x (List.mem_cons_of_mem _ hx)
    have hr := h r (by simp)
    rw [List.map_cons]
    show tupsOf (.tup (r.map D.int) :: R.map dR) = _
    rw [tupsOf, intsOf_map, ih]
    simp only
    rw [if_neg hr]
theorem f_sortT {R : List (List Int)} {ss : List Int} (hp : R.Perm (rowsL ss)) (hne : ∀ r ∈ R, r ≠ []) (hl : R.length ≤ 100000) : fSortT [dRs R] = some (dRs (rowsL ss)) := by
  have e := sort_rows hp
  unfold fSortT
  simp only [tupsOf_rows hne]
  rw [if_pos hl]
  have e2 : R.mergeSort leI = rowsL ss := e
  rw [e2]; rfl
theorem dRs_Z {R : List (List Int)} : dRs R = dZ (R.map Z.t) := by
  unfold dZ dRs
  rw [List.map_map]; rfl
theorem f_eq_rows {R : List (List Int)} (h : R ≠ []) : fEqD (dRs R) (.lst []) = some (.bl false) := by
  have := f_eqZ (xs := R.map Z.t) (ys := [])
  rw [← dRs_Z] at this
  rw [show (D.lst []) = dZ [] from rfl, this, decide_eq_false (by simpa using h)]
end Fw
set_option maxRecDepth 100000
set_option maxHeartbeats 4000000
namespace Fw
open PySem PySem.Spec PyProof.Rows L2 Mx
theorem isi_list {xs : List D} : fIsi "list" (.lst xs) = some (.bl true) := by simp [fIsi, isiKnown, D.tyn, isiR]
/-- a group's turn -/
theorem grp_turn {Q PS : D} {kind hill : Int} {S own sizes : List Int} {v : D} {told : D} {acc g : List (List Int)} {x10 x11 x12 : Option E} (hk : 0 ≤ kind ∧ kind ≤ 5) (hSl : own.length = S.length) (hSne : S ≠ []) (hg : g ≠ []) (hfit : ∀ r ∈ g, Fit r own) (hsame : ∀ r ∈ g, ∀ r' ∈ g, ky kind hill S r = ky kind hill S r') (hl : g.length ≤ 2000) (hacc : acc.length + g.length ≤ 2000) :
    ∃ y10, m__law_classes_hold_b1 0 [some (.p Q), some (.p (.int kind)), some (.p (.int hill)), some (.p PS), some (.p (dI sizes)), some (.p v), some (.p (dI S)), some (.p told), some (.p (dRs acc)), some (.p (dRs g)), x10, x11, x12] [] =
      some (.nx [some (.p Q), some (.p (.int kind)), some (.p (.int hill)), some (.p PS), some (.p (dI sizes)), some (.p v), some (.p (dI S)), some (.p told), some (.p (dRs (acc ++ g))), some (.p (dRs g)), y10, x11, x12] []) := by
  have lc := lc_map (n := 0) (cs := []) (tg := tgN 11) (mt := mYes) (me := mCall F__law_key (mCons (mVar 1) (mCons (mVar 2) (mCons (mVar 6) (mCons (mVar 11) mNil))))) (ρw := [some (.p Q), some (.p (.int kind)), some (.p (.int hill)), some (.p PS), some (.p (dI sizes)), some (.p v), some (.p (dI S)), some (.p told), some (.p (dRs acc)), some (.p (dRs g)), x10, none, x12]) dR (fun r => (ky kind hill S r).d) (xs := g) fun r hr => ⟨_, rfl, rfl, x_call (x_cons (x_var (i := 1) rfl) (x_cons (x_var (i := 2) rfl) (x_cons (x_var (i := 6) rfl) (x_cons (x_var (i := 11) rfl) x_nil)))) (p_cons (p_cons (p_cons (p_cons p_nil))))
    (e_lkey hk (by rw [(hfit r hr).length, hSl]) (fun e => hSne (List.length_eq_zero_iff.mp (by rw [← hSl, ← (hfit r hr).length, e]; rfl))) (fit_nn (hfit r hr)))⟩
  generalize hks : g.map (ky kind hill S) = ks
  have e1 : (g.map fun r => (ky kind hill S r).d) = ks.map Z.d := by rw [← hks, List.map_map]; rfl
  rw [e1] at lc
  have kl : ks.length = g.length := by rw [← hks, List.length_map]
  have hkne : ks ≠ [] := fun e => hg (List.length_eq_zero_iff.mp (by rw [← kl, e]; rfl))
  obtain ⟨k0, kr, hk0⟩ : ∃ k0 kr, ks = k0 :: kr := by
    cases ks with
    | nil => exact absurd rfl hkne
    | cons a b => exact ⟨a, b, rfl⟩
  have all0 : ∀ k ∈ ks, k = k0 := fun k hkm => by
    have h0 : k0 ∈ ks := by rw [hk0]; simp
    rw [← hks, List.mem_map] at hkm h0
    obtain ⟨r, hr, rfl⟩ := hkm
    obtain ⟨r', hr', rfl⟩ := h0
    exact hsame r hr r' hr'
  refine ⟨some (.p (dZ ks)), ?_⟩
  have s1 : sSet 10 (mLc (mIL (mVar 9)) (tgN 11) mYes (mCall F__law_key (mCons (mVar 1) (mCons (mVar 2) (mCons (mVar 6) (mCons (mVar 11) mNil))))) [11]) 0 [some (.p Q), some (.p (.int kind)), some (.p (.int hill)), some (.p PS), some (.p (dI sizes)), some (.p v), some (.p (dI S)), some (.p told), some (.p (dRs acc)), some (.p (dRs g)), x10, x11, x12] [] =
      some (.nx [some (.p Q), some (.p (.int kind)), some (.p (.int hill)), some (.p PS), some (.p (dI sizes)), some (.p v), some (.p (dI S)), some (.p told), some (.p (dRs acc)), some (.p (dRs g)), some (.p (dZ ks)), x11, x12] []) :=
    x_set (x_lc (ds := g.map dR) (cs1 := []) (x_il (x_var (i := 9) rfl)) (by rw [List.length_map]; omega) lc)
  refine (x_seq_nx s1).trans ((x_seq_nx ((x_if_f (cs1 := []) ?_).trans x_next)).trans (x_set (x_op (x_var (i := 8) rfl) (x_var (i := 9) rfl) ?_)))
  · have l9 : fIsi "list" (dRs g) = some (.bl true) := isi_list
    refine (x_or_f (cs1 := []) (x_not (k := true) (x_test (x_un (x_var (i := 9) rfl) l9)))).trans ?_
    refine (x_or_f (cs1 := []) (x_test (x_op (x_var (i := 9) rfl) (x_lst x_nil p_nil (by simp)) (f_eq_rows hg)))).trans ?_
    refine x_test (x_op (d1 := .int 0) (x_call (x_cons (x_lc (ds := ks.map Z.d) (cs1 := []) (es1 := []) (x_il (x_var (i := 10) rfl)) (by rw [List.length_map]; omega) ?_) x_nil) (p_cons p_nil) f_lenL) x_c rfl)
    have hix : fIxL (dZ ks) (.int 0) = some k0.d := by rw [hk0]; exact at0
    have := lc_filter (n := 0) (cs := []) (tg := tgN 12) (mt := mTest (mOp fNeD (mVar 12) (mOp fIxL (mVar 10) (mC (.int 0))))) (me := mVar 12) (ρw := [some (.p Q), some (.p (.int kind)), some (.p (.int hill)), some (.p PS), some (.p (dI sizes)), some (.p v), some (.p (dI S)), some (.p told), some (.p (dRs acc)), some (.p (dRs g)), some (.p (dZ ks)), x11, none]) Z.d (fun _ => false) Z.d (xs := ks)
      fun k hkm => ⟨_, rfl, x_test (x_op (d1 := k.d) (x_var rfl) (x_op (x_var (i := 10) rfl) x_c hix) (by rw [f_neZ, all0 k hkm]; simp)), fun _ => x_var rfl⟩
    rwa [List.filter_eq_nil_iff.mpr (by simp)] at this
  · rw [f_cat (by rw [List.length_map, List.length_map]; omega), ← List.map_append]
end Fw
set_option maxRecDepth 100000
set_option maxHeartbeats 4000000
namespace Fw
open PySem PySem.Spec PyProof.Rows L2 Mx
/-- the table's keys -/
def kzOf (kind hill : Int) (n : Nat) (w : List Int) : Z := ky kind hill (rg (n : Int)) w
theorem groups_eq {ps sizes : List Int} {v kind hill : Int} : groupsZ sizes ps v (kzOf kind hill sizes.length) = groups sizes.length kind hill (sideOf ps v) (others sizes.length (sideOf ps v)) (ownOf sizes (sideOf ps v)) (ownOf sizes (others sizes.length (sideOf ps v))) := rfl
/-- what is true of a hill -/
structure Hill (ps sizes : List Int) (kind hill v : Int) : Prop where
  side : (sideOf ps v).length ≤ 5 ∧ (∀ x ∈ sideOf ps v, 0 ≤ x ∧ x < (sizes.length : Int)) ∧ sideOf ps v ≠ []
  good : GoodGroups kind hill (sideOf ps v) sizes (ownOf sizes (sideOf ps v)) (groupsZ sizes ps v (kzOf kind hill sizes.length))
  own : Sizes (ownOf sizes (sideOf ps v))
theorem hill_of {ps sizes : List Int} {kind hill v : Int} (c : Case ps sizes) (hh : 0 ≤ hill ∧ hill < (sizes.length : Int)) (h0 : 0 ≤ v) (h1 : v ≤ ps.length) : Hill ps sizes kind hill v := by
  have h5 := c.ss.len
  obtain ⟨sf1, sf2, sf3⟩ := side_facts h0 h1
  rw [c.hl] at sf2
  have bx := box_of (n := sizes.length) rfl sf1 sf2 fun s h => (c.ss.rng s h).1
  have sl := nodup_len bx.sp.s.nd sf2
  have ne : sideOf ps v ≠ [] := fun e => by rw [e] at sf3; cases sf3
  exact ⟨⟨by omega, sf2, ne⟩, by rw [groups_eq]; exact groups_good bx ne hh.1 hh.2, own_sizes c.ss rfl sf2 (by omega)⟩
theorem Hill.fit {ps sizes : List Int} {kind hill v : Int} (h : Hill ps sizes kind hill v) {g : List (List Int)} (hg : g ∈ groupsZ sizes ps v (kzOf kind hill sizes.length)) : ∀ r ∈ g, Fit r (ownOf sizes (sideOf ps v)) := fun r hr => mem_rowsL.mp (h.good.perm.mem_iff.mp (List.mem_flatten.mpr ⟨g, hg, hr⟩))
theorem e_classes_hold {ps sizes : List Int} {found : List (Int × Int)} {n : Nat} {ct T : D} {kind hill : Int} (c : Case ps sizes) (hk : 0 ≤ kind ∧ kind ≤ 5) (hh : 0 ≤ hill ∧ hill < (sizes.length : Int)) :
    F__law_classes_hold [questD ps sizes found n ct T (groupsD sizes ps (kzOf kind hill sizes.length)), .int kind, .int hill, dI ps, dI sizes] = some (.bl true) := by
  have h5 := c.ss.len
  have h4 := c.pk.len
  generalize hQ : questD ps sizes found n ct T (groupsD sizes ps (kzOf kind hill sizes.length)) = Q
  obtain ⟨ρ', cs', e, x5, x6, x7, x8, x9, x10, x11, x12, rfl, rfl⟩ := for_inv (n := 0) (tg := tgN 5) (body := m__law_classes_hold_b2) (ρ := [some (.p Q), some (.p (.int kind)), some (.p (.int hill)), some (.p (dI ps)), some (.p (dI sizes)), none, none, none, none, none, none, none, none]) (cs := []) (ds := rangeD 0 sizes.length)
    (fun i ρ cs => ∃ x5 x6 x7 x8 x9 x10 x11 x12, ρ = [some (.p Q), some (.p (.int kind)), some (.p (.int hill)), some (.p (dI ps)), some (.p (dI sizes)), x5, x6, x7, x8, x9, x10, x11, x12] ∧ cs = []) ⟨none, none, none, none, none, none, none, none, rfl, rfl⟩ (fun i d ρ cs hd h => by
      obtain ⟨x5, x6, x7, x8, x9, x10, x11, x12, rfl, rfl⟩ := h
      rw [rangeD_rgF, List.getElem?_map, Option.map_eq_some_iff] at hd
      obtain ⟨b, hb, rfl⟩ := hd
      have hi : i < sizes.length := by have := (List.getElem?_eq_some_iff.mp hb).1; rwa [rgF_len] at this
      rw [rgF_get hi, Int.zero_add] at hb
      cases hb
      have hl := c.hl
      have H := hill_of (kind := kind) (hill := hill) (v := (i : Int)) c hh (by omega) (by omega)
      have hsd := e_lside (ps := ps) (v := (i : Int)) (by omega) (by omega) (by omega)
      have gl : (groupsZ sizes ps (i : Int) (kzOf kind hill sizes.length)).length ≤ 1024 := by
        have a := H.good.perm.length_eq
        have b := rowsL_small H.own.rng H.own.len
        have key : ∀ G : List (List (List Int)), (∀ g ∈ G, g ≠ []) → G.length ≤ G.flatten.length := by
          intro G
          induction G with
          | nil => intro _; simp
          | cons g G ih =>
            intro hne
            have := ih fun x hx => hne x (List.mem_cons_of_mem _ hx)
            have hg := List.length_pos_iff.mpr (hne g (by simp))
            rw [List.flatten_cons, List.length_append, List.length_cons]; omega
        have := key _ H.good.ne
        omega
      have fl : (groupsZ sizes ps (i : Int) (kzOf kind hill sizes.length)).flatten.length ≤ 1024 := by
        rw [H.good.perm.length_eq]; exact rowsL_small H.own.rng H.own.len
      have hfit := fun g hg => H.fit (g := g) hg
      have frm := e_lformula (kind := kind) (hill := hill) hk H.side.2.1 H.side.2.2 H.side.1 c.ss hh
      have hg : (groupsD sizes ps (kzOf kind hill sizes.length))[((i : Int)).toNat]? = some (.lst ((groupsZ sizes ps (i : Int) (kzOf kind hill sizes.length)).map dRs)) := by
        rw [groupsD, Int.toNat_natCast, List.getElem?_map, rg_get hi]; rfl
      have cls := e_classes (ps := ps) (sizes := sizes) (found := found) (n := n) (ct := ct) (T := T) (v := (i : Int)) (by omega) hg (by omega)
      have ol := nodup_len (n := sizes.length) ((side_facts (ps := ps) (v := (i : Int)) (by omega) (by omega)).1.imp fun h => by omega) H.side.2.1
      have hlenown : (ownOf sizes (sideOf ps (i : Int))).length = (sideOf ps (i : Int)).length := by rw [ownOf, List.length_map]
      have gd := H.good
      have own := H.own
      have sne := H.side.2.2
      have sin := H.side.2.1
      have s5 := H.side.1
      clear H
      generalize hGG : groupsZ sizes ps (i : Int) (kzOf kind hill sizes.length) = GG at *
      generalize hSS : sideOf ps (i : Int) = S at *
      -- the groups
      obtain ⟨ρ2, cs2, e2, acc, y9, y10, ⟨eacc, eb⟩, rfl, rfl⟩ := for_inv (n := 0) (tg := tgN 9) (body := m__law_classes_hold_b1) (ρ := [some (.p Q), some (.p (.int kind)), some (.p (.int hill)), some (.p (dI ps)), some (.p (dI sizes)), some (.p (.int (i : Int))), some (.p (dI S)), some (.p (.lst (GG.map dRs))), some (.p (dRs [])), x9, x10, x11, x12]) (cs := []) (ds := GG.map dRs)
        (fun j ρ cs => ∃ (acc : List (List Int)) (y9 y10 : Option E), (acc = (GG.take j).flatten ∧ acc.length ≤ 1024) ∧ ρ = [some (.p Q), some (.p (.int kind)), some (.p (.int hill)), some (.p (dI ps)), some (.p (dI sizes)), some (.p (.int (i : Int))), some (.p (dI S)), some (.p (.lst (GG.map dRs))), some (.p (dRs acc)), y9, y10, x11, x12] ∧ cs = []) ⟨[], x9, x10, ⟨by simp, by simp⟩, rfl, rfl⟩ (fun j d ρ cs hd h => by
          obtain ⟨acc, y9, y10, ⟨eacc, _⟩, rfl, rfl⟩ := h
          rw [List.getElem?_map, Option.map_eq_some_iff] at hd
          obtain ⟨g, hgj, rfl⟩ := hd
          have hgm := List.mem_of_getElem? hgj
          have enext : acc ++ g = (GG.take (j + 1)).flatten := by rw [take_snoc hgj, List.flatten_append, eacc]; simp
          have lnext : (acc ++ g).length ≤ 1024 := by
            rw [enext]
            have : GG.flatten = (GG.take (j + 1)).flatten ++ (GG.drop (j + 1)).flatten := by rw [← List.flatten_append, List.take_append_drop]
            have := congrArg List.length this
            rw [List.length_append] at this
            omega
          have l2 : acc.length + g.length ≤ 2000 := by rw [List.length_append] at lnext; omega
          obtain ⟨z10, et⟩ := grp_turn (Q := Q) (PS := dI ps) (sizes := sizes) (v := .int (i : Int)) (told := .lst (GG.map dRs)) (acc := acc) (g := g) (x10 := y10) (x11 := x11) (x12 := x12) hk hlenown sne (gd.ne g hgm) (hfit g hgm) (gd.same g hgm) (by omega) l2
          exact ⟨_, rfl, _, _, et, _, _, _, ⟨enext, lnext⟩, rfl, rfl⟩)
      rw [List.length_map, List.take_length] at eacc
      have nne : ∀ r ∈ acc, r ≠ [] := fun r hr e => by
        rw [eacc] at hr
        obtain ⟨g, hg, hr⟩ := List.mem_flatten.mp hr
        have := (hfit g hg r hr).length
        rw [e, hlenown] at this
        exact sne (List.length_eq_zero_iff.mp this.symm)
      have srt := f_sortT (R := acc) (ss := ownOf sizes S) (by rw [eacc]; exact gd.perm) nne (by omega)
      have rl := rowsL_small own.rng own.len
      have mt := e_match_rows (R := rowsL (ownOf sizes S)) (by omega) fun r hr => by have := (mem_rowsL.mp hr).length; omega
      have s1 : sSet 6 (mCall F__law_side (mCons (mVar 3) (mCons (mVar 5) mNil))) 0 [some (.p Q), some (.p (.int kind)), some (.p (.int hill)), some (.p (dI ps)), some (.p (dI sizes)), some (.p (.int (i : Int))), x6, x7, x8, x9, x10, x11, x12] [] =
          some (.nx [some (.p Q), some (.p (.int kind)), some (.p (.int hill)), some (.p (dI ps)), some (.p (dI sizes)), some (.p (.int (i : Int))), some (.p (dI S)), x7, x8, x9, x10, x11, x12] []) :=
        x_set (x_call (x_cons (x_var (i := 3) rfl) (x_cons (x_var (i := 5) rfl) x_nil)) (p_cons (p_cons p_nil)) hsd)
      have s2 : sSet 7 (mMeth 1 "classes" F_Question_classes (mVar 0) (mCons (mVar 5) mNil)) 0 [some (.p Q), some (.p (.int kind)), some (.p (.int hill)), some (.p (dI ps)), some (.p (dI sizes)), some (.p (.int (i : Int))), some (.p (dI S)), x7, x8, x9, x10, x11, x12] [] =
          some (.nx [some (.p Q), some (.p (.int kind)), some (.p (.int hill)), some (.p (dI ps)), some (.p (dI sizes)), some (.p (.int (i : Int))), some (.p (dI S)), some (.p (.lst (GG.map dRs))), x8, x9, x10, x11, x12] []) := by
        rw [← hQ]
        exact x_set (x_meth (fs := qN) (ds0 := qV ps sizes found n ct T ++ [D.lst (groupsD sizes ps (kzOf kind hill sizes.length))]) (x_var (i := 0) rfl) (by decide +kernel) (x_cons (x_var (i := 5) rfl) x_nil) (p_cons p_nil) cls)
      have s3 : sIf (mOr (mNot (mTest (mUn (fIsi "list") (mVar 7)))) (mTest (mOp fNe (mCall fLen (mCons (mVar 7) mNil)) (mCall F__law_formula (mCons (mVar 1) (mCons (mVar 2) (mCons (mVar 6) (mCons (mVar 4) mNil)))))))) (sRet (mC (.bl false))) sNext 0 [some (.p Q), some (.p (.int kind)), some (.p (.int hill)), some (.p (dI ps)), some (.p (dI sizes)), some (.p (.int (i : Int))), some (.p (dI S)), some (.p (.lst (GG.map dRs))), x8, x9, x10, x11, x12] [] =
          some (.nx [some (.p Q), some (.p (.int kind)), some (.p (.int hill)), some (.p (dI ps)), some (.p (dI sizes)), some (.p (.int (i : Int))), some (.p (dI S)), some (.p (.lst (GG.map dRs))), x8, x9, x10, x11, x12] []) := by
        refine (x_if_f (cs1 := []) ((x_or_f (cs1 := []) (x_not (k := true) (x_test (x_un (x_var (i := 7) rfl) isi_list)))).trans ?_)).trans x_next
        refine x_test (x_op (x_call (x_cons (x_var (i := 7) rfl) x_nil) (p_cons p_nil) f_lenL) (x_call (x_cons (x_var (i := 1) rfl) (x_cons (x_var (i := 2) rfl) (x_cons (x_var (i := 6) rfl) (x_cons (x_var (i := 4) rfl) x_nil)))) (p_cons (p_cons (p_cons (p_cons p_nil)))) frm) ?_)
        rw [List.length_map, f_ne, gd.len]
        simp
      refine ⟨_, rfl, _, _, (x_seq_nx s1).trans ((x_seq_nx s2).trans ((x_seq_nx s3).trans ((x_seq_nx (x_set (x_lst x_nil p_nil (by simp)))).trans ((x_seq_nx ((x_for (x_il (x_var (i := 7) rfl))).trans e2)).trans ((x_if_f (cs1 := []) (x_not (k := true) (x_test (x_call (x_cons (x_call (x_cons (x_var (i := 8) rfl) x_nil) (p_cons p_nil) srt) (x_cons (x_call (x_cons (own_eval (S := S) (sizes := sizes) sin (by omega) rfl fun d => ⟨_, rfl, rfl, rfl⟩) x_nil) (p_cons p_nil) (e_lrows own)) x_nil)) (p_cons (p_cons p_nil)) mt)))).trans x_next))))), _, _, _, _, _, _, _, _, rfl, rfl⟩)
  have src := x_ir1 (n := 0) (ma := mCons (mCall fLen (mCons (mVar 4) mNil)) mNil) (ρ := [some (.p Q), some (.p (.int kind)), some (.p (.int hill)), some (.p (dI ps)), some (.p (dI sizes)), none, none, none, none, none, none, none, none]) (cs := []) (cs1 := []) (j := (sizes.length : Int)) (x_cons (x_call (x_cons (x_var (i := 4) rfl) x_nil) (p_cons p_nil) (by rw [f_lenL, List.length_map])) x_nil) (by omega) (by omega)
  rw [Int.toNat_natCast] at src
  exact x_fnP_rt rfl (cs1 := []) ((x_seq_nx ((x_for src).trans e)).trans (x_ret x_c))
end Fw
set_option maxRecDepth 100000
set_option maxHeartbeats 4000000
namespace Fw
open PySem PySem.Spec PyProof.Rows L2 Mx
theorem Clo.get {cs : List Cell} (h : Clo cs) : cs.all (closedC cs.length) = true := h
theorem fml_bound {ps sizes : List Int} {kind hill v : Int} (H : Hill ps sizes kind hill v) : 1 ≤ fml kind hill (sideOf ps v) sizes (ownOf sizes (sideOf ps v)) ∧ fml kind hill (sideOf ps v) sizes (ownOf sizes (sideOf ps v)) ≤ 1024 := by
  rw [← H.good.len]
  have b := rowsL_small H.own.rng H.own.len
  have a := H.good.perm.length_eq
  have r0 := rowsL_ne fun s h => (H.own.rng s h).1
  have key : ∀ G : List (List (List Int)), (∀ g ∈ G, g ≠ []) → G.length ≤ G.flatten.length := by
    intro G
    induction G with
    | nil => intro _; simp
    | cons g G ih =>
      intro hne
      have := ih fun x hx => hne x (List.mem_cons_of_mem _ hx)
      have hg := List.length_pos_iff.mpr (hne g (by simp))
      rw [List.flatten_cons, List.length_append, List.length_cons]; omega
  have := key _ H.good.ne
  have pos : (groupsZ sizes ps v (kzOf kind hill sizes.length)).length ≠ 0 := fun e => by
    rw [List.length_eq_zero_iff] at e
    rw [e] at a
    simp at a
    exact r0 (List.length_eq_zero_iff.mp a.symm)
  omega
/-- the least number of beats of every hill -/
theorem needs_ex {ps sizes : List Int} {kind hill q : Int} (c : Case ps sizes) (hh : 0 ≤ hill ∧ hill < (sizes.length : Int)) (hq : 2 ≤ q) :
    ∃ NN : Nat → Nat, ∀ a, a < ps.length → NN a ≤ 10 ∧ Least q (fml kind hill (sideOf ps ((a : Int) + 1)) sizes (ownOf sizes (sideOf ps ((a : Int) + 1)))) (NN a) := by
  have : ∀ a : Nat, ∃ k : Nat, a < ps.length → k ≤ 10 ∧ Least q (fml kind hill (sideOf ps ((a : Int) + 1)) sizes (ownOf sizes (sideOf ps ((a : Int) + 1)))) k := fun a => by
    by_cases ha : a < ps.length
    · have b := fml_bound (hill_of (kind := kind) (hill := hill) (v := (a : Int) + 1) c hh (by omega) (by omega))
      have p2 := pow_two hq 10
      have : (2 : Int) ^ 10 = 1024 := by decide
      obtain ⟨k, hk, l⟩ := least_ex (q := q) (many := fml kind hill (sideOf ps ((a : Int) + 1)) sizes (ownOf sizes (sideOf ps ((a : Int) + 1)))) 10 (by omega)
      exact ⟨k, fun _ => ⟨hk, l⟩⟩
    · exact ⟨0, fun h => absurd h ha⟩
  exact ⟨fun a => Classical.choose (this a), fun a ha => Classical.choose_spec (this a) ha⟩
end Fw
set_option maxRecDepth 100000
set_option maxHeartbeats 4000000
namespace Fw
open PySem PySem.Spec PyProof.Rows L2 Mx
def NL (NN : Nat → Nat) (m : Nat) : List Int := (List.range m).map fun (a : Nat) => (NN a : Int)
def LL (NN : Nat → Nat) (m : Nat) : List Int := (NL NN m).map fun x => if x > 1 then x else 1
theorem NL_get {NN : Nat → Nat} {m a : Nat} (h : a < m) : (NL NN m)[a]? = some (NN a : Int) := by rw [NL, List.getElem?_map, List.getElem?_range h]; rfl
theorem NL_len {NN : Nat → Nat} {m : Nat} : (NL NN m).length = m := by rw [NL, List.length_map, List.length_range]
theorem LL_len {NN : Nat → Nat} {m : Nat} : (LL NN m).length = m := by rw [LL, List.length_map, NL_len]
theorem LL_get {NN : Nat → Nat} {m a : Nat} (h : a < m) : (LL NN m).getD a 0 = if (NN a : Int) > 1 then (NN a : Int) else 1 := by
  simp [LL, List.getElem?_map, NL_get h]
theorem LL_rng {NN : Nat → Nat} {m : Nat} (h : ∀ a, a < m → NN a ≤ 10) : ∀ x ∈ LL NN m, 1 ≤ x ∧ x ≤ 10 := fun x hx => by
  rw [LL, List.mem_map] at hx
  obtain ⟨y, hy, rfl⟩ := hx
  rw [NL, List.mem_map] at hy
  obtain ⟨a, ha, rfl⟩ := hy
  have := h a (List.mem_range.mp ha)
  split <;> omega
section
variable {ps sizes : List Int} {found : List (Int × Int)} {n : Nat} {ct T : D} {kind hill q : Int} {NN : Nat → Nat}
theorem need_at (c : Case ps sizes) (hh : 0 ≤ hill ∧ hill < (sizes.length : Int)) (hq : 2 ≤ q ∧ q ≤ 1000) (hN : ∀ a, a < ps.length → NN a ≤ 10 ∧ Least q (fml kind hill (sideOf ps ((a : Int) + 1)) sizes (ownOf sizes (sideOf ps ((a : Int) + 1)))) (NN a)) {a : Nat} (ha : a < ps.length) :
    F_Question_needs [questD ps sizes found n ct T (groupsD sizes ps (kzOf kind hill sizes.length)), .int ((a : Int) + 1), .int q] = some (.int (NN a : Nat)) := by
  have hl := c.hl
  have H := hill_of (kind := kind) (hill := hill) (v := (a : Int) + 1) c hh (by omega) (by omega)
  obtain ⟨h10, l⟩ := hN a ha
  rw [← H.good.len] at l
  refine e_needs (g := (groupsZ sizes ps ((a : Int) + 1) (kzOf kind hill sizes.length)).map dRs) (many := (groupsZ sizes ps ((a : Int) + 1) (kzOf kind hill sizes.length)).length) hq (by omega) l (by omega) ?_ (List.length_map ..)
  have e : ((a : Int) + 1).toNat = a + 1 := by omega
  rw [e, groupsD, List.getElem?_map, rg_get (by omega)]
  rfl
end
end Fw
set_option maxRecDepth 100000
set_option maxHeartbeats 4000000
namespace Fw
open PySem PySem.Spec PyProof.Rows L2 Mx
/-- the slots of _law_exact -/
def S27 (k : Nat) (q kind hill : Int) (ps sizes : List Int) (T : D) (x7 x8 x9 x10 x11 x12 x13 x14 : Option E) : Sl :=
  [some (.c k), some (.p (.int q)), some (.p (.int kind)), some (.p (.int hill)), some (.p (dI ps)), some (.p (dI sizes)), some (.p T), x7, x8, x9, x10, x11, x12, x13, x14]
section
variable {ps sizes : List Int} {T : D} {kind hill q : Int} {NN : Nat → Nat} {k : Nat} {cs : List Cell} {N : Nat}
theorem src27 (hl : ps.length + 1 = sizes.length) (h5 : sizes.length ≤ 1000) {x7 x8 x9 x10 x11 x12 x13 x14 : Option E} {cs1 : List Cell} : mIR2 (mCons (mC (.int 1)) (mCons (mCall fLen (mCons (mVar 5) mNil)) mNil)) N (S27 k q kind hill ps sizes T x7 x8 x9 x10 x11 x12 x13 x14) cs1 = some (rangeD 1 ps.length, cs1) := by
  have r := x_ir2_nat (n := N) (ρ := S27 k q kind hill ps sizes T x7 x8 x9 x10 x11 x12 x13 x14) (cs := cs1) (cs1 := cs1) (ma := mCons (mC (.int 1)) (mCons (mCall fLen (mCons (mVar 5) mNil)) mNil)) (i := 1) (j := (sizes.length : Int))
    (x_cons x_c (x_cons (x_call (x_cons (x_var (i := 5) rfl) x_nil) (p_cons p_nil) (by rw [f_lenL, List.length_map])) x_nil)) (by omega) (by omega)
  rw [r]
  congr 3
  omega
theorem range1_get {m i : Nat} {d : D} (h : (rangeD 1 m)[i]? = some d) : i < m ∧ d = .int ((i : Int) + 1) := by
  rw [rangeD_rgF, List.getElem?_map, Option.map_eq_some_iff] at h
  obtain ⟨b, hb, rfl⟩ := h
  have hi : i < m := by have := (List.getElem?_eq_some_iff.mp hb).1; rwa [rgF_len] at this
  rw [rgF_get hi] at hb
  cases hb
  exact ⟨hi, by rw [Int.add_comm]⟩
/-- the needed numbers, one after the other -/
theorem ex_loop1 (c : Case ps sizes) (hk : 0 ≤ kind ∧ kind ≤ 5) (hh : 0 ≤ hill ∧ hill < (sizes.length : Int)) (hq : 2 ≤ q ∧ q ≤ 1000) (hN : ∀ a, a < ps.length → NN a ≤ 10 ∧ Least q (fml kind hill (sideOf ps ((a : Int) + 1)) sizes (ownOf sizes (sideOf ps ((a : Int) + 1)))) (NN a)) :
    ∃ x8, forD (tgN 8) m__law_exact_b1 cs.length (rangeD 1 ps.length) (S27 k q kind hill ps sizes T (some (.c cs.length)) none none none none none none none) (cs ++ [.lst []]) = some (.nx (S27 k q kind hill ps sizes T (some (.c cs.length)) x8 none none none none none none) (cs ++ [.lst (lI (NL NN ps.length))])) := by
  have h5 := c.ss.len
  have hl := c.hl
  obtain ⟨ρ', cs', e, x8, rfl, rfl⟩ := for_inv (n := cs.length) (tg := tgN 8) (body := m__law_exact_b1) (ρ := S27 k q kind hill ps sizes T (some (.c cs.length)) none none none none none none none) (cs := cs ++ [.lst []]) (ds := rangeD 1 ps.length)
    (fun i ρ cs' => ∃ x8, ρ = S27 k q kind hill ps sizes T (some (.c cs.length)) x8 none none none none none none ∧ cs' = cs ++ [.lst (lI ((NL NN ps.length).take i))]) ⟨none, rfl, by simp⟩ (fun i d ρ cs' hd h => by
      obtain ⟨x8, rfl, rfl⟩ := h
      obtain ⟨hi, rfl⟩ := range1_get hd
      have H := hill_of (kind := kind) (hill := hill) (v := (i : Int) + 1) c hh (by omega) (by omega)
      have fb := fml_bound H
      have frm := e_lformula (kind := kind) (hill := hill) hk H.side.2.1 H.side.2.2 H.side.1 c.ss hh
      have nd := e_lneeds hq ⟨by omega, by omega⟩ (hN i hi).2
      have sd := e_lside (ps := ps) (v := (i : Int) + 1) (by omega) (by omega) (by omega)
      have hg : (cs ++ [Cell.lst (lI ((NL NN ps.length).take i))])[cs.length]? = some (.lst (lI ((NL NN ps.length).take i))) := app_get
      refine ⟨_, rfl, S27 k q kind hill ps sizes T (some (.c cs.length)) (some (.p (.int ((i : Int) + 1)))) none none none none none none, cs ++ [.lst (lI ((NL NN ps.length).take (i + 1)))], ?_, _, rfl, rfl⟩
      refine (x_drop (x_append (k := cs.length) (es := lI ((NL NN ps.length).take i)) (e := .p (.int (NN i : Nat))) (cs2 := cs ++ [.lst (lI ((NL NN ps.length).take i))]) (x_var (i := 7) rfl) hg (x_cons (x_call (x_cons (x_call (x_cons (x_var (i := 2) rfl) (x_cons (x_var (i := 3) rfl) (x_cons (x_call (x_cons (x_var (i := 4) rfl) (x_cons (x_var (i := 8) rfl) x_nil)) (p_cons (p_cons p_nil)) sd) (x_cons (x_var (i := 5) rfl) x_nil)))) (p_cons (p_cons (p_cons (p_cons p_nil)))) frm) (x_cons (x_var (i := 1) rfl) x_nil)) (p_cons (p_cons p_nil)) nd) x_nil) hg (by rw [lI_len, List.length_take]; omega))).trans ?_
      rw [lI_snoc, List.set_append_right _ _ (Nat.le_refl _), Nat.sub_self, take_snoc (NL_get hi)]
      rfl)
  have hlen : (rangeD 1 ps.length).length = (NL NN ps.length).length := by rw [rangeD, List.length_map, List.length_range, NL_len]
  rw [hlen, List.take_length] at e
  exact ⟨x8, e⟩
end
end Fw
set_option maxRecDepth 100000
set_option maxHeartbeats 4000000
namespace Fw
open PySem PySem.Spec PyProof.Rows L2 Mx
section
variable {ps sizes : List Int} {kind hill q : Int} {NN : Nat → Nat} {k : Nat} {cs : List Cell}
/-- a question made with lengths: what it answers -/
theorem ex_made {lens : List Int} (c : Case ps sizes) (hh : 0 ≤ hill ∧ hill < (sizes.length : Int)) (hq : 2 ≤ q ∧ q ≤ 1000) (hN : ∀ a, a < ps.length → NN a ≤ 10 ∧ Least q (fml kind hill (sideOf ps ((a : Int) + 1)) sizes (ownOf sizes (sideOf ps ((a : Int) + 1)))) (NN a))
    (hr : ∀ x ∈ lens, 1 ≤ x ∧ x ≤ 10) (hll : lens.length = ps.length) : ∃ found n ct, F__law_made [dI ps, dI sizes, dI lens, tabD sizes fun w => (kzOf kind hill sizes.length w).d] = some (questD ps sizes found n ct (tabD sizes fun w => (kzOf kind hill sizes.length w).d) (groupsD sizes ps (kzOf kind hill sizes.length))) ∧
      ((∀ a, a < ps.length → (NN a : Int) ≤ lens.getD a 0) → F_Question_answered [questD ps sizes found n ct (tabD sizes fun w => (kzOf kind hill sizes.length w).d) (groupsD sizes ps (kzOf kind hill sizes.length)), .int q] = some .non) ∧
      ∀ a0, a0 < ps.length → (∀ a, a < a0 → (NN a : Int) ≤ lens.getD a 0) → lens.getD a0 0 < (NN a0 : Int) → F_Question_answered [questD ps sizes found n ct (tabD sizes fun w => (kzOf kind hill sizes.length w).d) (groupsD sizes ps (kzOf kind hill sizes.length)), .int q] = some (.int ((a0 : Int) + 1)) := by
  have h5 := c.ss.len
  obtain ⟨found, n, ct, sess, hn, h500, e⟩ := e_made (kz := kzOf kind hill sizes.length) c hr hll
  have nd := fun a ha => need_at (found := found) (n := n) (ct := ct) (T := tabD sizes fun w => (kzOf kind hill sizes.length w).d) c hh hq hN (a := a) ha
  have pk := fun a (ha : a < ps.length) => e_session_picks (sizes := sizes) (ct := ct) (T := tabD sizes fun w => (kzOf kind hill sizes.length w).d) (gs := groupsD sizes ps (kzOf kind hill sizes.length)) sess ha hll hr hn h500
  refine ⟨found, n, ct, e, fun h => ?_, fun a0 ha0 h1 h2 => ?_⟩
  · refine e_answered_none (N := NN) c.hl (by omega) nd fun a ha => ?_
    obtain ⟨xs, e1, e2⟩ := pk a ha
    have := h a ha
    exact ⟨xs, e1, by omega⟩
  · refine e_answered_some (N := NN) c.hl (by omega) ha0 nd fun a ha => ?_
    obtain ⟨xs, e1, e2⟩ := pk a ha
    exact ⟨xs, e1, fun hlt => by have := h1 a hlt; omega, fun heq => by subst heq; omega⟩
end
end Fw
set_option maxRecDepth 100000
set_option maxHeartbeats 4000000
namespace Fw
open PySem PySem.Spec PyProof.Rows L2 Mx
section
variable {ps sizes : List Int} {kind hill q : Int} {NN : Nat → Nat} {k : Nat} {cs : List Cell}
theorem e_exact (c : Case ps sizes) (hk : 0 ≤ kind ∧ kind ≤ 5) (hh : 0 ≤ hill ∧ hill < (sizes.length : Int)) (hq : 2 ≤ q ∧ q ≤ 1000) (hp : PurseAt cs k) (hc : Clo cs) :
    ∃ p, F__law_exact [.c k, .p (.int q), .p (.int kind), .p (.int hill), .p (dI ps), .p (dI sizes), .p (tabD sizes (keyD kind hill sizes.length))] cs = some (.p (.bl true), cs.set k p) ∧ PurseAt (cs.set k p) k := by
  have h5 := c.ss.len
  have hl := c.hl
  have hkl := hp.lt
  obtain ⟨NN, hN⟩ := needs_ex (kind := kind) (q := q) c hh hq.1
  have hT : tabD sizes (keyD kind hill sizes.length) = tabD sizes fun w => (kzOf kind hill sizes.length w).d := rfl
  rw [hT]
  have lr := LL_rng (NN := NN) (m := ps.length) fun a ha => (hN a ha).1
  obtain ⟨found, n, ct, em, ea, _⟩ := ex_made (kind := kind) (hill := hill) c hh hq hN lr LL_len
  have nd := fun a ha => need_at (found := found) (n := n) (ct := ct) (T := tabD sizes fun w => (kzOf kind hill sizes.length w).d) c hh hq hN (a := a) ha
  have ch := e_classes_hold (found := found) (n := n) (ct := ct) (T := tabD sizes fun w => (kzOf kind hill sizes.length w).d) c hk hh
  have an := ea fun a ha => by rw [LL_get ha]; split <;> omega
  obtain ⟨x8, l1⟩ := ex_loop1 (T := tabD sizes fun w => (kzOf kind hill sizes.length w).d) (k := k) (cs := cs) c hk hh hq hN
  generalize hTT : (tabD sizes fun w => (kzOf kind hill sizes.length w).d) = T at *
  generalize hQ : questD ps sizes found n ct T (groupsD sizes ps (kzOf kind hill sizes.length)) = Q at *
  have s1 : sSet 7 (mLstC mNil) cs.length (S27 k q kind hill ps sizes T none none none none none none none none) cs = some (.nx (S27 k q kind hill ps sizes T (some (.c cs.length)) none none none none none none none) (cs ++ [.lst []])) := x_set (x_lstC x_nil (by simp))
  -- max(1, many), the list frozen
  have fz : gFrz 7 cs.length (S27 k q kind hill ps sizes T (some (.c cs.length)) x8 none none none none none none) (cs ++ [.lst (lI (NL NN ps.length))]) = some (S27 k q kind hill ps sizes T (some (.p (dI (NL NN ps.length)))) x8 none none none none none none, cs ++ [Cell.gone]) := by
    have g7 : (S27 k q kind hill ps sizes T (some (.c cs.length)) x8 none none none none none none)[7]? = some (some (.c cs.length)) := rfl
    have hg : (cs ++ [Cell.lst (lI (NL NN ps.length))])[cs.length]? = some (.lst (lI (NL NN ps.length))) := app_get
    have fr : frzC cs.length cs.length (cs ++ [.lst (lI (NL NN ps.length))]) = some (dI (NL NN ps.length), cs ++ [Cell.gone]) := by
      rw [frzC, if_pos (Nat.le_refl _), hg]
      simp only [lI_pures, Option.map_some]
      rw [List.set_append_right _ _ (Nat.le_refl _), Nat.sub_self]; rfl
    simp only [gFrz, g7, fr, Option.map_some]
    rfl
  have lcL := lc_map (n := cs.length) (cs := cs ++ [Cell.gone]) (tg := tgN 13) (mt := mYes) (me := mCall fMax2 (mCons (mC (.int 1)) (mCons (mVar 13) mNil))) (ρw := S27 k q kind hill ps sizes T (some (.p (dI (NL NN ps.length)))) x8 none none none none none none) D.int (fun x => D.int (if x > 1 then x else 1)) (xs := NL NN ps.length) fun x hx => ⟨_, rfl, rfl, x_call (x_cons x_c (x_cons (x_var (i := 13) rfl) x_nil)) (p_cons (p_cons p_nil)) f_max2⟩
  rw [show ((NL NN ps.length).map fun x => D.int (if x > 1 then x else 1)) = (LL NN ps.length).map D.int by rw [LL, List.map_map]; rfl] at lcL
  have s3 : sPre (gFrz 7) (sSet 9 (mLc (mIL (mVar 7)) (tgN 13) mYes (mCall fMax2 (mCons (mC (.int 1)) (mCons (mVar 13) mNil))) [13])) cs.length (S27 k q kind hill ps sizes T (some (.c cs.length)) x8 none none none none none none) (cs ++ [.lst (lI (NL NN ps.length))]) =
      some (.nx (S27 k q kind hill ps sizes T (some (.p (dI (NL NN ps.length)))) x8 (some (.p (dI (LL NN ps.length)))) none none none none none) (cs ++ [Cell.gone])) := by
    simp only [sPre, fz]
    exact x_set (x_lc (ds := (NL NN ps.length).map D.int) (cs1 := cs ++ [Cell.gone]) (x_il (x_var (i := 7) rfl)) (by rw [List.length_map, NL_len]; omega) lcL)
  have s4 : sSet 10 (mCall F__law_made (mCons (mVar 4) (mCons (mVar 5) (mCons (mVar 9) (mCons (mVar 6) mNil))))) cs.length (S27 k q kind hill ps sizes T (some (.p (dI (NL NN ps.length)))) x8 (some (.p (dI (LL NN ps.length)))) none none none none none) (cs ++ [Cell.gone]) =
      some (.nx (S27 k q kind hill ps sizes T (some (.p (dI (NL NN ps.length)))) x8 (some (.p (dI (LL NN ps.length)))) (some (.p Q)) none none none none) (cs ++ [Cell.gone])) :=
    x_set (x_call (x_cons (x_var (i := 4) rfl) (x_cons (x_var (i := 5) rfl) (x_cons (x_var (i := 9) rfl) (x_cons (x_var (i := 6) rfl) x_nil)))) (p_cons (p_cons (p_cons (p_cons p_nil)))) em)
  have meth : ∀ {m : Str} {f : List D → Option D} {ma : MA} {es : List E} {ds : List D} {d : D} {mo : ME} {n0 : Nat} {ρ : Sl} {cs0 : List Cell}, qN.contains m = false → mo n0 ρ cs0 = some (.p Q, cs0) → ma n0 ρ cs0 = some (es, cs0) → pures es = some ds → f (Q :: ds) = some d → mMeth 1 m f mo ma n0 ρ cs0 = some (.p d, cs0) := by
    intro m f ma es ds d mo n0 ρ cs0 hm ho ha hp hf
    rw [← hQ] at ho hf
    exact x_meth (fs := qN) (ds0 := qV ps sizes found n ct T ++ [D.lst (groupsD sizes ps (kzOf kind hill sizes.length))]) ho hm ha hp hf
  have s5 : sIf (mOr (mNot (mTest (mCall F__law_classes_hold (mCons (mVar 10) (mCons (mVar 2) (mCons (mVar 3) (mCons (mVar 4) (mCons (mVar 5) mNil)))))))) (mNot (mTest (mCall F__law_matches_v0 (mCons (mMeth 1 "answered" F_Question_answered (mVar 10) (mCons (mVar 1) mNil)) (mCons (mC .non) mNil)))))) (sRet (mC (.bl false))) sNext cs.length
      (S27 k q kind hill ps sizes T (some (.p (dI (NL NN ps.length)))) x8 (some (.p (dI (LL NN ps.length)))) (some (.p Q)) none none none none) (cs ++ [Cell.gone]) = some (.nx (S27 k q kind hill ps sizes T (some (.p (dI (NL NN ps.length)))) x8 (some (.p (dI (LL NN ps.length)))) (some (.p Q)) none none none none) (cs ++ [Cell.gone])) := by
    refine (x_if_f (cs1 := cs ++ [Cell.gone]) ((x_or_f (cs1 := cs ++ [Cell.gone]) (x_not (k := true) (x_test (x_call (x_cons (x_var (i := 10) rfl) (x_cons (x_var (i := 2) rfl) (x_cons (x_var (i := 3) rfl) (x_cons (x_var (i := 4) rfl) (x_cons (x_var (i := 5) rfl) x_nil))))) (p_cons (p_cons (p_cons (p_cons (p_cons p_nil))))) ch)))).trans ?_)).trans x_next
    exact x_not (k := true) (x_test (x_call (x_cons (meth (by decide +kernel) (x_var (i := 10) rfl) (x_cons (x_var (i := 1) rfl) x_nil) (p_cons p_nil) an) (x_cons x_c x_nil)) (p_cons (p_cons p_nil)) e_match_non))
  have ixN : ∀ a, a < ps.length → fIxL (dI (NL NN ps.length)) (.int ((a : Int) + 1 - 1)) = some (.int (NN a : Nat)) := fun a ha => by
    rw [show (a : Int) + 1 - 1 = (a : Int) by omega]; exact lI_ixL (NL_get ha)
  obtain ⟨ρ2, cs2, e2, y8, rfl, rfl⟩ := for_inv (n := cs.length) (tg := tgN 8) (body := m__law_exact_b2) (ρ := S27 k q kind hill ps sizes T (some (.p (dI (NL NN ps.length)))) x8 (some (.p (dI (LL NN ps.length)))) (some (.p Q)) none none none none) (cs := cs ++ [Cell.gone]) (ds := rangeD 1 ps.length)
    (fun i ρ cs' => ∃ y8, ρ = S27 k q kind hill ps sizes T (some (.p (dI (NL NN ps.length)))) y8 (some (.p (dI (LL NN ps.length)))) (some (.p Q)) none none none none ∧ cs' = cs ++ [Cell.gone]) ⟨x8, rfl, rfl⟩ (fun i d ρ cs' hd h => by
      obtain ⟨y8, rfl, rfl⟩ := h
      obtain ⟨hi, rfl⟩ := range1_get hd
      exact ⟨_, rfl, _, _, (x_if_f (cs1 := cs ++ [Cell.gone]) (x_not (k := true) (x_test (x_call (x_cons (meth (by decide +kernel) (x_var (i := 10) rfl) (x_cons (x_var (i := 8) rfl) (x_cons (x_var (i := 1) rfl) x_nil)) (p_cons (p_cons p_nil)) (nd i hi)) (x_cons (x_op (x_var (i := 7) rfl) (x_op (x_var (i := 8) rfl) x_c rfl) (ixN i hi)) x_nil)) (p_cons (p_cons p_nil)) e_match_int)))).trans x_next, _, rfl, rfl⟩)
  -- the long ones
  have lcG := lc_filter (n := cs.length) (cs := cs ++ [Cell.gone]) (tg := tgN 8) (mt := mTest (mOp fGt (mOp fIxL (mVar 7) (mOp fSub (mVar 8) (mC (.int 1)))) (mC (.int 1)))) (me := mVar 8) (ρw := S27 k q kind hill ps sizes T (some (.p (dI (NL NN ps.length)))) none (some (.p (dI (LL NN ps.length)))) (some (.p Q)) none none none none) D.int (fun v => decide ((1 : Int) < (NN (v - 1).toNat : Int))) D.int (xs := rgF 1 ps.length) fun v hv => by
    have hm := mem_rgF.mp hv
    obtain ⟨a, ha⟩ : ∃ a : Nat, v = (a : Int) + 1 := ⟨(v - 1).toNat, by omega⟩
    subst ha
    have e1 : ((a : Int) + 1 - 1).toNat = a := by omega
    exact ⟨_, rfl, x_test (x_op (x_op (x_var (i := 7) rfl) (x_op (x_var (i := 8) rfl) x_c rfl) (ixN a (by omega))) x_c (by rw [f_gt, e1])), fun _ => x_var rfl⟩
  generalize hLG : (rgF 1 ps.length).filter (fun v => decide ((1 : Int) < (NN (v - 1).toNat : Int))) = LG at lcG
  have LGm : ∀ v ∈ LG, ∃ a : Nat, v = (a : Int) + 1 ∧ a < ps.length ∧ 1 < NN a := fun v hv => by
    rw [← hLG] at hv
    obtain ⟨h1, h2⟩ := List.mem_filter.mp hv
    have hm := mem_rgF.mp h1
    have := of_decide_eq_true h2
    exact ⟨(v - 1).toNat, by omega, by omega, by omega⟩
  have LGl : LG.length ≤ 1000 := by
    rw [← hLG]
    have := List.length_filter_le (fun v => decide ((1 : Int) < (NN (v - 1).toNat : Int))) (rgF 1 ps.length)
    rw [rgF_len] at this
    omega
  have s7 : sSet 11 (mLc (mIR2 (mCons (mC (.int 1)) (mCons (mCall fLen (mCons (mVar 5) mNil)) mNil))) (tgN 8) (mTest (mOp fGt (mOp fIxL (mVar 7) (mOp fSub (mVar 8) (mC (.int 1)))) (mC (.int 1)))) (mVar 8) [8]) cs.length (S27 k q kind hill ps sizes T (some (.p (dI (NL NN ps.length)))) y8 (some (.p (dI (LL NN ps.length)))) (some (.p Q)) none none none none) (cs ++ [Cell.gone]) =
      some (.nx (S27 k q kind hill ps sizes T (some (.p (dI (NL NN ps.length)))) y8 (some (.p (dI (LL NN ps.length)))) (some (.p Q)) (some (.p (dI LG))) none none none) (cs ++ [Cell.gone])) := by
    refine x_set (x_lc (ds := (rgF 1 ps.length).map D.int) (cs1 := cs ++ [Cell.gone]) ?_ (by rw [List.length_map, rgF_len]; omega) lcG)
    rw [← rangeD_rgF]
    exact src27 hl (by omega)
  have pre : ∀ {o : Out}, sSeq (sIf (mTest (mOp fEqD (mVar 11) (mLst mNil))) (sRet (mC (.bl true))) sNext) (sSeq (sSet 8 (mOp fIxL (mVar 11) (mCallM F__law_draw (mCons (mVar 0) (mCons (mCall fLen (mCons (mVar 11) mNil)) mNil))))) (sSeq (sSet 12 (mLc (mIR1 (mCons (mCall fLen (mCons (mVar 9) mNil)) mNil)) (tgN 14) mYes (mIf (mTest (mOp fEq (mVar 14) (mOp fSub (mVar 8) (mC (.int 1))))) (mOp fSub (mOp fIxL (mVar 9) (mVar 14)) (mC (.int 1))) (mOp fIxL (mVar 9) (mVar 14))) [14])) (sRet (mCall F__law_matches_v0 (mCons (mMeth 1 "answered" F_Question_answered (mCall F__law_made (mCons (mVar 4) (mCons (mVar 5) (mCons (mVar 12) (mCons (mVar 6) mNil))))) (mCons (mVar 1) mNil)) (mCons (mVar 8) mNil)))))) cs.length (S27 k q kind hill ps sizes T (some (.p (dI (NL NN ps.length)))) y8 (some (.p (dI (LL NN ps.length)))) (some (.p Q)) (some (.p (dI LG))) none none none) (cs ++ [Cell.gone]) = some o →
      m__law_exact cs.length (S27 k q kind hill ps sizes T none none none none none none none none) cs = some o := fun hrest =>
    (x_seq_nx s1).trans ((x_seq_nx ((x_for (src27 hl (by omega))).trans l1)).trans ((x_seq_nx s3).trans ((x_seq_nx s4).trans ((x_seq_nx s5).trans ((x_seq_nx ((x_for (src27 hl (by omega))).trans e2)).trans ((x_seq_nx s7).trans hrest))))))
  have eqt : mTest (mOp fEqD (mVar 11) (mLst mNil)) cs.length (S27 k q kind hill ps sizes T (some (.p (dI (NL NN ps.length)))) y8 (some (.p (dI (LL NN ps.length)))) (some (.p Q)) (some (.p (dI LG))) none none none) (cs ++ [Cell.gone]) = some (decide (LG = []), cs ++ [Cell.gone]) := by
    refine x_test (x_op (d1 := dI LG) (d2 := .lst []) (x_var (i := 11) rfl) (x_lst x_nil p_nil (by simp)) ?_)
    have := f_eqZ (xs := LG.map Z.i) (ys := [])
    rw [show dZ (LG.map Z.i) = dI LG by unfold dZ dI; rw [List.map_map]; rfl] at this
    rw [show (D.lst []) = dZ [] from rfl, this]
    congr 2
    simp
  by_cases hL : LG = []
  · rw [decide_eq_true hL] at eqt
    obtain ⟨p, e0, hq0⟩ := hp.self
    refine ⟨p, ?_, hq0⟩
    rw [e0]
    have cut := cutM_clo (n := cs.length) (d := .bl true) (cs := cs) (ds := [Cell.gone]) hc rfl
    exact (x_fnM_rt (es := [.c k, .p (.int q), .p (.int kind), .p (.int hill), .p (dI ps), .p (dI sizes), .p T]) (e := .p (.bl true)) (cs1 := cs ++ [Cell.gone]) rfl (pre (x_seq_rt ((x_if_t eqt).trans (x_ret x_c))))).trans (congrArg some cut)
  · rw [decide_eq_false hL] at eqt
    have hLl : 0 < LG.length := List.length_pos_iff.mpr hL
    obtain ⟨r, p, ed, hq', r0, r1⟩ := e_draw' (ds := [Cell.gone]) (many := (LG.length : Int)) hp (by omega) (by omega)
    have hrl : r.toNat < LG.length := by omega
    obtain ⟨a0, ea0, ha0, hn0⟩ := LGm _ (List.getElem_mem hrl)
    have ixG : fIxL (dI LG) (.int r) = some (.int ((a0 : Int) + 1)) := by
      rw [← ea0]; exact lI_ixL' r0 (List.getElem?_eq_getElem hrl)
    -- one beat less at that hill
    obtain ⟨SL, hSL⟩ : ∃ SL, SL = (rg (ps.length : Int)).map fun at' => if at' = (a0 : Int) then (LL NN ps.length).getD at'.toNat 0 - 1 else (LL NN ps.length).getD at'.toNat 0 := ⟨_, rfl⟩
    have SLg : ∀ a, a < ps.length → SL.getD a 0 = if a = a0 then (LL NN ps.length).getD a 0 - 1 else (LL NN ps.length).getD a 0 := fun a ha => by
      have : SL[a]? = some (if (a : Int) = (a0 : Int) then (LL NN ps.length).getD a 0 - 1 else (LL NN ps.length).getD a 0) := by rw [hSL, List.getElem?_map, rg_get ha]; simp
      rw [List.getD_eq_getElem?_getD, this, Option.getD_some]
      by_cases c : a = a0
      · rw [if_pos c, if_pos (by rw [c])]
      · rw [if_neg c, if_neg (by omega)]
    have SLl : SL.length = ps.length := by rw [hSL, List.length_map, rg_len, Int.toNat_natCast]
    have SLr : ∀ x ∈ SL, 1 ≤ x ∧ x ≤ 10 := fun x hx => by
      obtain ⟨a, ha⟩ := List.mem_iff_getElem?.mp hx
      have hal : a < ps.length := by have := (List.getElem?_eq_some_iff.mp ha).1; rwa [SLl] at this
      have e1 := SLg a hal
      rw [List.getD_eq_getElem?_getD, ha, Option.getD_some, LL_get hal] at e1
      have := (hN a hal).1
      rw [e1]
      by_cases c : a = a0
      · subst c; rw [if_pos rfl, if_pos (by omega)]; omega
      · rw [if_neg c]; split <;> omega
    obtain ⟨found', n', ct', em', _, ea'⟩ := ex_made (kind := kind) (hill := hill) (lens := SL) c hh hq hN SLr SLl
    rw [hTT] at em' ea'
    have an' := ea' a0 ha0 (fun a ha => by
      rw [SLg a (by omega), if_neg (by omega), LL_get (by omega)]
      split <;> omega) (by
      rw [SLg a0 ha0, if_pos rfl, LL_get ha0, if_pos (by omega)]; omega)
    generalize hQ' : questD ps sizes found' n' ct' T (groupsD sizes ps (kzOf kind hill sizes.length)) = Q' at *
    have t8 : sSet 8 (mOp fIxL (mVar 11) (mCallM F__law_draw (mCons (mVar 0) (mCons (mCall fLen (mCons (mVar 11) mNil)) mNil)))) cs.length (S27 k q kind hill ps sizes T (some (.p (dI (NL NN ps.length)))) y8 (some (.p (dI (LL NN ps.length)))) (some (.p Q)) (some (.p (dI LG))) none none none) (cs ++ [Cell.gone]) =
        some (.nx (S27 k q kind hill ps sizes T (some (.p (dI (NL NN ps.length)))) (some (.p (.int ((a0 : Int) + 1)))) (some (.p (dI (LL NN ps.length)))) (some (.p Q)) (some (.p (dI LG))) none none none) (cs.set k p ++ [Cell.gone])) :=
      x_set (x_op (d1 := dI LG) (d2 := .int r) (cs1 := cs ++ [Cell.gone]) (cs2 := cs.set k p ++ [Cell.gone]) (x_var (i := 11) rfl) (x_callM (x_cons (x_var (i := 0) rfl) (x_cons (x_call (x_cons (x_var (i := 11) rfl) x_nil) (p_cons p_nil) (by rw [f_lenL, List.length_map])) x_nil)) ed) ixG)
    have lcS := lc_map (n := cs.length) (cs := cs.set k p ++ [Cell.gone]) (tg := tgN 14) (mt := mYes) (me := mIf (mTest (mOp fEq (mVar 14) (mOp fSub (mVar 8) (mC (.int 1))))) (mOp fSub (mOp fIxL (mVar 9) (mVar 14)) (mC (.int 1))) (mOp fIxL (mVar 9) (mVar 14))) (ρw := S27 k q kind hill ps sizes T (some (.p (dI (NL NN ps.length)))) (some (.p (.int ((a0 : Int) + 1)))) (some (.p (dI (LL NN ps.length)))) (some (.p Q)) (some (.p (dI LG))) none none none) D.int
      (fun at' => D.int (if at' = (a0 : Int) then (LL NN ps.length).getD at'.toNat 0 - 1 else (LL NN ps.length).getD at'.toNat 0)) (xs := rg (ps.length : Int)) fun a ha => by
      have hm := mem_rg.mp ha
      have ixL : fIxL (dI (LL NN ps.length)) (.int a) = some (.int ((LL NN ps.length).getD a.toNat 0)) := by
        have hal : a.toNat < (LL NN ps.length).length := by rw [LL_len]; omega
        refine lI_ixL' hm.1 ?_
        rw [List.getElem?_eq_getElem hal]; simp [hal]
      refine ⟨_, rfl, rfl, ?_⟩
      have e1 : (a0 : Int) + 1 - 1 = (a0 : Int) := by omega
      by_cases cc : a = (a0 : Int)
      · refine (x_ifE_t (cs1 := cs.set k p ++ [Cell.gone]) (x_test (x_op (x_var (i := 14) rfl) (x_op (x_var (i := 8) rfl) x_c rfl) (by show fEq (.int a) (.int ((a0 : Int) + 1 - 1)) = _; rw [e1, f_eq, decide_eq_true cc])))).trans ?_
        rw [if_pos cc]
        exact x_op (x_op (x_var (i := 9) rfl) (x_var (i := 14) rfl) ixL) x_c rfl
      · refine (x_ifE_f (cs1 := cs.set k p ++ [Cell.gone]) (x_test (x_op (x_var (i := 14) rfl) (x_op (x_var (i := 8) rfl) x_c rfl) (by show fEq (.int a) (.int ((a0 : Int) + 1 - 1)) = _; rw [e1, f_eq, decide_eq_false cc])))).trans ?_
        rw [if_neg cc]
        exact x_op (x_var (i := 9) rfl) (x_var (i := 14) rfl) ixL
    rw [show ((rg (ps.length : Int)).map fun at' => D.int (if at' = (a0 : Int) then (LL NN ps.length).getD at'.toNat 0 - 1 else (LL NN ps.length).getD at'.toNat 0)) = SL.map D.int by rw [hSL, List.map_map]; rfl] at lcS
    have t12 : sSet 12 (mLc (mIR1 (mCons (mCall fLen (mCons (mVar 9) mNil)) mNil)) (tgN 14) mYes (mIf (mTest (mOp fEq (mVar 14) (mOp fSub (mVar 8) (mC (.int 1))))) (mOp fSub (mOp fIxL (mVar 9) (mVar 14)) (mC (.int 1))) (mOp fIxL (mVar 9) (mVar 14))) [14]) cs.length (S27 k q kind hill ps sizes T (some (.p (dI (NL NN ps.length)))) (some (.p (.int ((a0 : Int) + 1)))) (some (.p (dI (LL NN ps.length)))) (some (.p Q)) (some (.p (dI LG))) none none none) (cs.set k p ++ [Cell.gone]) =
        some (.nx (S27 k q kind hill ps sizes T (some (.p (dI (NL NN ps.length)))) (some (.p (.int ((a0 : Int) + 1)))) (some (.p (dI (LL NN ps.length)))) (some (.p Q)) (some (.p (dI LG))) (some (.p (dI SL))) none none) (cs.set k p ++ [Cell.gone])) := by
      refine x_set (x_lc (ds := (rg (ps.length : Int)).map D.int) (cs1 := cs.set k p ++ [Cell.gone]) ?_ (by rw [List.length_map, rg_len]; omega) lcS)
      rw [← rg_rangeD]
      refine x_ir1 (j := (ps.length : Int)) (x_cons (x_call (x_cons (x_var (i := 9) rfl) x_nil) (p_cons p_nil) ?_) x_nil) (by omega) (by omega)
      rw [f_lenL, List.length_map, LL_len]
    refine ⟨p, ?_, hq'⟩
    have cut := cutM_clo (n := cs.length) (d := .bl true) (cs := cs.set k p) (ds := [Cell.gone]) (hc.set (k := k) (p := p) (hq'.isP hkl)) List.length_set
    refine (x_fnM_rt (es := [.c k, .p (.int q), .p (.int kind), .p (.int hill), .p (dI ps), .p (dI sizes), .p T]) (e := .p (.bl true)) (cs1 := cs.set k p ++ [Cell.gone]) rfl (pre ((x_seq_nx ((x_if_f eqt).trans x_next)).trans ((x_seq_nx t8).trans ((x_seq_nx t12).trans (x_ret ?_)))))).trans (congrArg some cut)
    refine x_call (x_cons ?_ (x_cons (x_var (i := 8) rfl) x_nil)) (p_cons (p_cons p_nil)) e_match_int
    have mq : mCall F__law_made (mCons (mVar 4) (mCons (mVar 5) (mCons (mVar 12) (mCons (mVar 6) mNil)))) cs.length (S27 k q kind hill ps sizes T (some (.p (dI (NL NN ps.length)))) (some (.p (.int ((a0 : Int) + 1)))) (some (.p (dI (LL NN ps.length)))) (some (.p Q)) (some (.p (dI LG))) (some (.p (dI SL))) none none) (cs.set k p ++ [Cell.gone]) = some (.p Q', cs.set k p ++ [Cell.gone]) :=
      x_call (x_cons (x_var (i := 4) rfl) (x_cons (x_var (i := 5) rfl) (x_cons (x_var (i := 12) rfl) (x_cons (x_var (i := 6) rfl) x_nil)))) (p_cons (p_cons (p_cons (p_cons p_nil)))) em'
    rw [← hQ'] at mq an'
    exact x_meth (fs := qN) (ds0 := qV ps sizes found' n' ct' T ++ [D.lst (groupsD sizes ps (kzOf kind hill sizes.length))]) mq (by decide +kernel) (x_cons (x_var (i := 1) rfl) x_nil) (p_cons p_nil) an'
end
end Fw
set_option maxRecDepth 100000
set_option maxHeartbeats 4000000
namespace Fw
open PySem PySem.Spec PyProof.Rows L2 Mx
theorem purse_clo {a b c : Int} : Clo [purse a b c, Cell.gone] := rfl
theorem two_cells {cs : List Cell} {p : Cell} (h : PurseAt [p, Cell.gone] 0) : ∃ a b c, p = purse a b c := by
  obtain ⟨a, b, c, h⟩ := h
  exact ⟨a, b, c, Option.some.inj h⟩
theorem clo2 {p : Cell} (h : PurseAt [p, Cell.gone] 0) : Clo [p, Cell.gone] := by
  obtain ⟨a, b, c, rfl⟩ := two_cells (cs := []) h
  rfl
theorem f_kinds {ks : List Int} (h : ks.length = 4) : ∃ k2 : List Int, fSlL (dI ks) none (some 2) = some (dI k2) ∧ (∀ x ∈ k2, x ∈ ks) ∧ k2.length ≤ 4 := by
  match ks, h with
  | [a, b, c, d], _ => exact ⟨[a, b], rfl, by simp, by simp⟩
theorem law_true : ∀ ns : List Int, ns.length ≤ 63 → ∃ cs', F_law [.p (.fls (ns.map D.int))] [] = some (.p (.bl true), cs') := by
  intro ns _
  obtain ⟨a, b, c, e1⟩ := e_purse (ns := ns) (cs := [])
  have p1 : PurseAt [purse a b c] 0 := ⟨a, b, c, rfl⟩
  obtain ⟨r2, q2, e2, p2, r20, r21⟩ := e_draw p1 (many := 4) (by omega) (by omega)
  have hset2 : [purse a b c].set 0 q2 = [q2] := rfl
  rw [hset2] at e2 p2
  obtain ⟨m, hm⟩ : ∃ m : Nat, 2 + r2 = (m : Int) + 1 := ⟨(r2 + 1).toNat, by omega⟩
  -- parents
  obtain ⟨ρ', cs', el, ps, q4, x4, hpl, hpar, p4, rfl, rfl⟩ := for_inv (n := 0) (tg := tgN 4) (body := m_law_b1) (ρ := [some (.p (.fls (ns.map D.int))), some (.c 0), some (.p (.int ((m : Int) + 1))), some (.c 1), none, none, none, none, none, none]) (cs := [q2, .lst []]) (ds := rangeD 1 m)
    (fun i ρ cs => ∃ (ps : List Int) (q4 : Cell) (x4 : Option E), ps.length = i ∧ (∀ (a : Nat) p, ps[a]? = some p → 0 ≤ p ∧ p ≤ (a : Int)) ∧ PurseAt [q4] 0 ∧ ρ = [some (.p (.fls (ns.map D.int))), some (.c 0), some (.p (.int ((m : Int) + 1))), some (.c 1), x4, none, none, none, none, none] ∧ cs = [q4, .lst (lI ps)]) ⟨[], q2, none, rfl, by simp, p2, rfl, rfl⟩ (fun i d ρ cs hd h => by
      obtain ⟨ps, q4, x4, hpl, hpar, p4, rfl, rfl⟩ := h
      obtain ⟨hi, rfl⟩ := range1_get hd
      obtain ⟨r, q5, ed, p5, r0, r1⟩ := e_draw' (cs := [q4]) (ds := [.lst (lI ps)]) (many := (i : Int) + 1) p4 (by omega) (by omega)
      refine ⟨_, rfl, [some (.p (.fls (ns.map D.int))), some (.c 0), some (.p (.int ((m : Int) + 1))), some (.c 1), some (.p (.int ((i : Int) + 1))), none, none, none, none, none], [q5, .lst (lI (ps ++ [r]))], ?_, ps ++ [r], q5, _, by simp [hpl], fun a p ha => ?_, p5, rfl, rfl⟩
      · refine (x_drop (x_append (k := 1) (es := lI ps) (e := .p (.int r)) (cs2 := [q5, .lst (lI ps)]) (x_var (i := 3) rfl) rfl (x_cons (x_callM (x_cons (x_var (i := 1) rfl) (x_cons (x_var (i := 4) rfl) x_nil)) ed) x_nil) rfl (by rw [lI_len]; omega))).trans ?_
        rw [lI_snoc]; rfl
      · by_cases hal : a < ps.length
        · rw [List.getElem?_append_left hal] at ha
          exact hpar a p ha
        · have hlt := (List.getElem?_eq_some_iff.mp ha).1
          rw [List.length_append] at hlt
          have : a = ps.length := by simp at hlt; omega
          subst this
          rw [List.getElem?_append_right (Nat.le_refl _), Nat.sub_self] at ha
          simp at ha
          subst ha
          omega)
  have hrl : (rangeD 1 m).length = m := by rw [rangeD, List.length_map, List.length_range]
  rw [hrl] at hpl
  have p4g : PurseAt [q4, Cell.gone] 0 := by obtain ⟨a, b, c, h⟩ := p4; exact ⟨a, b, c, h⟩
  -- sizes
  obtain ⟨sizes, q5, e5, p5, sl, sr⟩ := e_drawn_sizes (cs := [q4, Cell.gone]) (k := 0) (many := (m : Int) + 1) p4g (clo2 p4g) (by omega) (by omega)
  have hs5 : [q4, Cell.gone].set 0 q5 = [q5, Cell.gone] := rfl
  rw [hs5] at e5 p5
  obtain ⟨r6, q6, e6, p6, r60, r61⟩ := e_draw p5 (many := 8) (by omega) (by omega)
  have hs6 : [q5, Cell.gone].set 0 q6 = [q6, Cell.gone] := rfl
  rw [hs6] at e6 p6
  obtain ⟨r7, q7, e7, p7, r70, r71⟩ := e_draw p6 (many := (m : Int) + 1) (by omega) (by omega)
  have hs7 : [q6, Cell.gone].set 0 q7 = [q7, Cell.gone] := rfl
  rw [hs7] at e7 p7
  obtain ⟨ks, q8, e8, p8, kl, kin⟩ := e_mix (cs := [q7, Cell.gone]) (k := 0) (xs := [2, 3, 4, 5]) p7 (clo2 p7) (by simp)
  have hs8 : [q7, Cell.gone].set 0 q8 = [q8, Cell.gone] := rfl
  rw [hs8] at e8 p8
  obtain ⟨k2, ek, k2in, k2l⟩ := f_kinds (ks := ks) kl
  have C : Case ps sizes := ⟨⟨fun e => by rw [e] at hpl; simp at hpl; omega, by omega, hpar⟩, ⟨sr, by omega⟩, by omega⟩
  have kr : ∀ x ∈ k2 ++ [1, 0], 0 ≤ x ∧ x ≤ 5 := fun x hx => by
    rcases List.mem_append.mp hx with z | z
    · have := kin x (k2in x z)
      simp at this
      omega
    · simp at z; omega
  -- the kinds
  obtain ⟨ρ9, cs9, e9, q9, x9, p9, rfl, rfl⟩ := for_inv (n := 0) (tg := tgN 9) (body := m_law_b2) (ρ := [some (.p (.fls (ns.map D.int))), some (.c 0), some (.p (.int ((m : Int) + 1))), some (.p (dI ps)), x4, some (.p (dI sizes)), some (.p (.int (2 + r6))), some (.p (.int r7)), some (.p (dI (k2 ++ [1, 0]))), none]) (cs := [q8, Cell.gone]) (ds := (k2 ++ [1, 0]).map D.int)
    (fun i ρ cs => ∃ (q9 : Cell) (x9 : Option E), PurseAt [q9, Cell.gone] 0 ∧ ρ = [some (.p (.fls (ns.map D.int))), some (.c 0), some (.p (.int ((m : Int) + 1))), some (.p (dI ps)), x4, some (.p (dI sizes)), some (.p (.int (2 + r6))), some (.p (.int r7)), some (.p (dI (k2 ++ [1, 0]))), x9] ∧ cs = [q9, Cell.gone]) ⟨q8, none, p8, rfl, rfl⟩ (fun i d ρ cs hd h => by
      obtain ⟨q9, x9, p9, rfl, rfl⟩ := h
      rw [List.getElem?_map, Option.map_eq_some_iff] at hd
      obtain ⟨kind, hkd, rfl⟩ := hd
      have hk := kr kind (List.mem_of_getElem? hkd)
      obtain ⟨q10, ex, p10⟩ := e_exact (kind := kind) (hill := r7) (q := 2 + r6) C hk ⟨r70, by omega⟩ ⟨by omega, by omega⟩ p9 (clo2 p9)
      have hs : [q9, Cell.gone].set 0 q10 = [q10, Cell.gone] := rfl
      rw [hs] at ex p10
      have tb := e_ltable (kind := kind) (hill := r7) hk C.ss C.ne
      refine ⟨_, rfl, _, _, (x_if_f (cs1 := [q10, Cell.gone]) (x_not (k := true) (x_test (x_callM (x_cons (x_var (i := 1) rfl) (x_cons (x_var (i := 6) rfl) (x_cons (x_var (i := 9) rfl) (x_cons (x_var (i := 7) rfl) (x_cons (x_var (i := 3) rfl) (x_cons (x_var (i := 5) rfl) (x_cons (x_call (x_cons (x_var (i := 9) rfl) (x_cons (x_var (i := 7) rfl) (x_cons (x_var (i := 5) rfl) x_nil))) (p_cons (p_cons (p_cons p_nil))) tb) x_nil))))))) ex)))).trans x_next, q10, _, p10, rfl, rfl⟩)
  have fz : gFrz 3 0 [some (.p (.fls (ns.map D.int))), some (.c 0), some (.p (.int ((m : Int) + 1))), some (.c 1), x4, none, none, none, none, none] [q4, .lst (lI ps)] = some ([some (.p (.fls (ns.map D.int))), some (.c 0), some (.p (.int ((m : Int) + 1))), some (.p (dI ps)), x4, none, none, none, none, none], [q4, Cell.gone]) := by
    have g3 : [some (E.p (.fls (ns.map D.int))), some (.c 0), some (.p (.int ((m : Int) + 1))), some (.c 1), x4, none, none, none, none, none][3]? = some (some (.c 1)) := rfl
    have fr : frzC 0 1 [q4, .lst (lI ps)] = some (dI ps, [q4, Cell.gone]) := by
      rw [frzC, if_pos (by omega)]
      show (pures (lI ps)).map _ = _
      rw [lI_pures]; rfl
    simp only [gFrz, g3, fr, Option.map_some]
    rfl
  have s5 : sPre (gFrz 3) (sSet 5 (mCallM F__law_drawn_sizes (mCons (mVar 1) (mCons (mVar 2) mNil)))) 0 [some (.p (.fls (ns.map D.int))), some (.c 0), some (.p (.int ((m : Int) + 1))), some (.c 1), x4, none, none, none, none, none] [q4, .lst (lI ps)] =
      some (.nx [some (.p (.fls (ns.map D.int))), some (.c 0), some (.p (.int ((m : Int) + 1))), some (.p (dI ps)), x4, some (.p (dI sizes)), none, none, none, none] [q5, Cell.gone]) := by
    simp only [sPre, fz]
    exact x_set (x_callM (x_cons (x_var (i := 1) rfl) (x_cons (x_var (i := 2) rfl) x_nil)) e5)
  have src := x_ir2_nat (n := 0) (ρ := [some (.p (.fls (ns.map D.int))), some (.c 0), some (.p (.int ((m : Int) + 1))), some (.c 1), none, none, none, none, none, none]) (cs := [q2, .lst []]) (cs1 := [q2, .lst []]) (ma := mCons (mC (.int 1)) (mCons (mVar 2) mNil)) (i := 1) (j := (m : Int) + 1) (x_cons x_c (x_cons (x_var (i := 2) rfl) x_nil)) (by omega) (by omega)
  rw [show ((m : Int) + 1 - 1).toNat = m by omega] at src
  have fin : m_law 0 [some (.p (.fls (ns.map D.int))), none, none, none, none, none, none, none, none, none] [] = some (.rt (.p (.bl true)) [q9, Cell.gone]) := by
    refine (x_seq_nx (x_set (x_callM (x_cons (x_var (i := 0) rfl) (x_cons x_c x_nil)) e1))).trans ?_
    refine (x_seq_nx (x_set (x_op (d1 := .int 2) (d2 := .int r2) (d := .int ((m : Int) + 1)) x_c (x_callM (x_cons (x_var (i := 1) rfl) (x_cons x_c x_nil)) e2) (by rw [f_add, hm])))).trans ?_
    refine (x_seq_nx (x_set (x_lstC x_nil (by simp)))).trans ?_
    refine (x_seq_nx ((x_for src).trans el)).trans ?_
    refine (x_seq_nx s5).trans ?_
    refine (x_seq_nx (x_set (x_op (d1 := .int 2) (d2 := .int r6) x_c (x_callM (x_cons (x_var (i := 1) rfl) (x_cons x_c x_nil)) e6) rfl))).trans ?_
    refine (x_seq_nx (x_set (x_callM (x_cons (x_var (i := 1) rfl) (x_cons (x_var (i := 2) rfl) x_nil)) e7))).trans ?_
    have kx : mSl fSlL (mCallM F__law_mix (mCons (mVar 1) (mCons (mLst (mCons (mC (.int 2)) (mCons (mC (.int 3)) (mCons (mC (.int 4)) (mCons (mC (.int 5)) mNil))))) mNil))) mNo (mPart (mC (.int 2))) 0 [some (.p (.fls (ns.map D.int))), some (.c 0), some (.p (.int ((m : Int) + 1))), some (.p (dI ps)), x4, some (.p (dI sizes)), some (.p (.int (2 + r6))), some (.p (.int r7)), none, none] [q7, Cell.gone] = some (.p (dI k2), [q8, Cell.gone]) := by
      have mx8 : mCallM F__law_mix (mCons (mVar 1) (mCons (mLst (mCons (mC (.int 2)) (mCons (mC (.int 3)) (mCons (mC (.int 4)) (mCons (mC (.int 5)) mNil))))) mNil)) 0 [some (.p (.fls (ns.map D.int))), some (.c 0), some (.p (.int ((m : Int) + 1))), some (.p (dI ps)), x4, some (.p (dI sizes)), some (.p (.int (2 + r6))), some (.p (.int r7)), none, none] [q7, Cell.gone] = some (.p (dI ks), [q8, Cell.gone]) :=
        x_callM (x_cons (x_var (i := 1) rfl) (x_cons (x_lst (x_cons x_c (x_cons x_c (x_cons x_c (x_cons x_c x_nil)))) (p_cons (p_cons (p_cons (p_cons p_nil)))) (by simp)) x_nil)) e8
      simp only [mSl, mx8, mNo, mPart, mC, ek, Option.map_some]
    refine (x_seq_nx (x_set (x_op (d1 := dI k2) (d2 := dI [1, 0]) (d := dI (k2 ++ [1, 0])) (cs1 := [q8, Cell.gone]) kx (x_lst (x_cons x_c (x_cons x_c x_nil)) (p_cons (p_cons p_nil)) (by simp)) ?_))).trans ?_
    · rw [f_cat (by simp; omega), ← List.map_append]
    exact (x_seq_nx ((x_for (x_il (ds := (k2 ++ [1, 0]).map D.int) (x_var (i := 8) rfl))).trans e9)).trans (x_ret x_c)
  exact ⟨[], (x_fnM_rt (np := 1) (k := 10) (m := m_law) (es := [.p (.fls (ns.map D.int))]) (cs := []) rfl fin).trans rfl⟩
end Fw
open PySem PySem.W PyProof.Rows
set_option maxRecDepth 100000
set_option maxHeartbeats 0
open_top head80 for PySem.Challenge.rw_clearonce_k80_whole_questions_with_known
open PySem PySem.W PyProof.Rows
set_option maxRecDepth 100000
set_option maxHeartbeats 0
theorem PySem.Challenge.cw_clearonce_k80_whole_questions_with_known_holds : PySem.Challenge.rw_clearonce_k80_whole_questions_with_known.Holds := by
  refine head80 ?_
  k_fill
  refine Fw.walk (l := PySem.Challenge.rw_clearonce_k80_whole_questions_with_known) 8 ⟨rfl, by decide, by decide⟩ rfl rfl (fun w h Y => PySem.W.kIn_of Y) ?F
  case F =>
    intro w mg fa h KX G hmg
    have d_side_of := Fw.mkDef KX G (x := "side_of") (st := Fw.s_side_of) (ps := ["parents", "v"]) (by k_is) (by k_is) (by k_is) (by k_is) (fun _ _ _ _ _ _ us hl => match us, hl with | [_, _], _ => rfl)
    have d_rows_of := Fw.mkDef KX G (x := "rows_of") (st := Fw.s_rows_of) (ps := ["sizes"]) (by k_is) (by k_is) (by k_is) (by k_is) (fun _ _ _ _ _ _ us hl => match us, hl with | [_], _ => rfl)
    have d_whole_row := Fw.mkDef KX G (x := "whole_row") (st := Fw.s_whole_row) (ps := ["many", "side", "row", "others", "rest"]) (by k_is) (by k_is) (by k_is) (by k_is) (fun _ _ _ _ _ _ us hl => match us, hl with | [_, _, _, _, _], _ => rfl)
    have d_split_hills := Fw.mkDef KX G (x := "split_hills") (st := Fw.s_split_hills) (ps := ["parents", "v"]) (by k_is) (by k_is) (by k_is) (by k_is) (fun _ _ _ _ _ _ us hl => match us, hl with | [_, _], _ => rfl)
    have d_class_list := Fw.mkDef KX G (x := "class_list") (st := Fw.s_class_list) (ps := ["parents", "sizes", "table", "v"]) (by k_is) (by k_is) (by k_is) (by k_is) (fun _ _ _ _ _ _ us hl => match us, hl with | [_, _, _, _], _ => rfl)
    have d_check := Fw.mkDef KX G (x := "check") (st := Fw.s_check) (ps := ["what", "number"]) (by k_is) (by k_is) (by k_is) (by k_is) (fun _ _ _ _ _ _ us hl => match us, hl with | [_, _], _ => rfl)
    have d_check_each := Fw.mkDef KX G (x := "check_each") (st := Fw.s_check_each) (ps := ["what", "numbers"]) (by k_is) (by k_is) (by k_is) (by k_is) (fun _ _ _ _ _ _ us hl => match us, hl with | [_, _], _ => rfl)
    have d_children_of := Fw.mkDef KX G (x := "children_of") (st := Fw.s_children_of) (ps := ["parents"]) (by k_is) (by k_is) (by k_is) (by k_is) (fun _ _ _ _ _ _ us hl => match us, hl with | [_], _ => rfl)
    have d_sorted_spans := Fw.mkDef KX G (x := "sorted_spans") (st := Fw.s_sorted_spans) (ps := ["spans"]) (by k_is) (by k_is) (by k_is) (by k_is) (fun _ _ _ _ _ _ us hl => match us, hl with | [_], _ => rfl)
    have d_least_ends := Fw.mkDef KX G (x := "least_ends") (st := Fw.s_least_ends) (ps := ["last", "spans"]) (by k_is) (by k_is) (by k_is) (by k_is) (fun _ _ _ _ _ _ us hl => match us, hl with | [_, _], _ => rfl)
    have d_end_from := Fw.mkDef KX G (x := "end_from") (st := Fw.s_end_from) (ps := ["ends", "start"]) (by k_is) (by k_is) (by k_is) (by k_is) (fun _ _ _ _ _ _ us hl => match us, hl with | [_, _], _ => rfl)
    have d_pick_ends := Fw.mkDef KX G (x := "pick_ends") (st := Fw.s_pick_ends) (ps := ["ends", "s", "t"]) (by k_is) (by k_is) (by k_is) (by k_is) (fun _ _ _ _ _ _ us hl => match us, hl with | [_, _, _], _ => rfl)
    have d_latest_beginning := Fw.mkDef KX G (x := "latest_beginning") (st := Fw.s_latest_beginning) (ps := ["spans", "start", "end"]) (by k_is) (by k_is) (by k_is) (by k_is) (fun _ _ _ _ _ _ us hl => match us, hl with | [_, _, _], _ => rfl)
    have d_pick_spans := Fw.mkDef KX G (x := "pick_spans") (st := Fw.s_pick_spans) (ps := ["spans", "ends", "s", "t"]) (by k_is) (by k_is) (by k_is) (by k_is) (fun _ _ _ _ _ _ us hl => match us, hl with | [_, _, _, _], _ => rfl)
    have d_are_hills := Fw.mkDef KX G (x := "are_hills") (st := Fw.s_are_hills) (ps := ["parents", "values", "sessions", "promises"]) (by k_is) (by k_is) (by k_is) (by k_is) (fun _ _ _ _ _ _ us hl => match us, hl with | [_, _, _, _], _ => rfl)
    have d_are_sessions := Fw.mkDef KX G (x := "are_sessions") (st := Fw.s_are_sessions) (ps := ["parents", "sessions", "last"]) (by k_is) (by k_is) (by k_is) (by k_is) (fun _ _ _ _ _ _ us hl => match us, hl with | [_, _, _], _ => rfl)
    have d_are_answers := Fw.mkDef KX G (x := "are_answers") (st := Fw.s_are_answers) (ps := ["sizes", "answers"]) (by k_is) (by k_is) (by k_is) (by k_is) (fun _ _ _ _ _ _ us hl => match us, hl with | [_, _], _ => rfl)
    have d__law_children := Fw.mkDef KX G (x := "_law_children") (st := Fw.s__law_children) (ps := ["parents", "v"]) (by k_is) (by k_is) (by k_is) (by k_is) (fun _ _ _ _ _ _ us hl => match us, hl with | [_, _], _ => rfl)
    have d__law_side := Fw.mkDef KX G (x := "_law_side") (st := Fw.s__law_side) (ps := ["parents", "v"]) (by k_is) (by k_is) (by k_is) (by k_is) (fun _ _ _ _ _ _ us hl => match us, hl with | [_, _], _ => rfl)
    have d__law_rows_of := Fw.mkDef KX G (x := "_law_rows_of") (st := Fw.s__law_rows_of) (ps := ["sizes"]) (by k_is) (by k_is) (by k_is) (by k_is) (fun _ _ _ _ _ _ us hl => match us, hl with | [_], _ => rfl)
    have d__law_needs := Fw.mkDef KX G (x := "_law_needs") (st := Fw.s__law_needs) (ps := ["many", "q"]) (by k_is) (by k_is) (by k_is) (by k_is) (fun _ _ _ _ _ _ us hl => match us, hl with | [_, _], _ => rfl)
    have d__law_purse := Fw.mkDef KX G (x := "_law_purse") (st := Fw.s__law_purse) (ps := ["script", "at"]) (by k_is) (by k_is) (by k_is) (by k_is) (fun _ _ _ _ _ _ us hl => match us, hl with | [_, _], _ => rfl)
    have d__law_draw := Fw.mkDef KX G (x := "_law_draw") (st := Fw.s__law_draw) (ps := ["purse", "many"]) (by k_is) (by k_is) (by k_is) (by k_is) (fun _ _ _ _ _ _ us hl => match us, hl with | [_, _], _ => rfl)
    have d__law_mix := Fw.mkDef KX G (x := "_law_mix") (st := Fw.s__law_mix) (ps := ["purse", "things"]) (by k_is) (by k_is) (by k_is) (by k_is) (fun _ _ _ _ _ _ us hl => match us, hl with | [_, _], _ => rfl)
    have d__law_matches := Fw.mkDef KX G (x := "_law_matches") (st := Fw.s__law_matches) (ps := ["answer", "due"]) (by k_is) (by k_is) (by k_is) (by k_is) (fun _ _ _ _ _ _ us hl => match us, hl with | [_, _], _ => rfl)
    have d__law_windows := Fw.mkDef KX G (x := "_law_windows") (st := Fw.s__law_windows) (ps := ["n", "a"]) (by k_is) (by k_is) (by k_is) (by k_is) (fun _ _ _ _ _ _ us hl => match us, hl with | [_, _], _ => rfl)
    have d__law_drawn_sizes := Fw.mkDef KX G (x := "_law_drawn_sizes") (st := Fw.s__law_drawn_sizes) (ps := ["purse", "many"]) (by k_is) (by k_is) (by k_is) (by k_is) (fun _ _ _ _ _ _ us hl => match us, hl with | [_, _], _ => rfl)
    have d__law_key := Fw.mkDef KX G (x := "_law_key") (st := Fw.s__law_key) (ps := ["kind", "hill", "side", "row"]) (by k_is) (by k_is) (by k_is) (by k_is) (fun _ _ _ _ _ _ us hl => match us, hl with | [_, _, _, _], _ => rfl)
    have d__law_formula := Fw.mkDef KX G (x := "_law_formula") (st := Fw.s__law_formula) (ps := ["kind", "hill", "side", "sizes"]) (by k_is) (by k_is) (by k_is) (by k_is) (fun _ _ _ _ _ _ us hl => match us, hl with | [_, _, _, _], _ => rfl)
    have d__law_table := Fw.mkDef KX G (x := "_law_table") (st := Fw.s__law_table) (ps := ["kind", "hill", "sizes"]) (by k_is) (by k_is) (by k_is) (by k_is) (fun _ _ _ _ _ _ us hl => match us, hl with | [_, _, _], _ => rfl)
    have d__law_lengths := Fw.mkDef KX G (x := "_law_lengths") (st := Fw.s__law_lengths) (ps := ["parents", "lengths"]) (by k_is) (by k_is) (by k_is) (by k_is) (fun _ _ _ _ _ _ us hl => match us, hl with | [_, _], _ => rfl)
    have d__law_made := Fw.mkDef KX G (x := "_law_made") (st := Fw.s__law_made) (ps := ["parents", "sizes", "lengths", "table"]) (by k_is) (by k_is) (by k_is) (by k_is) (fun _ _ _ _ _ _ us hl => match us, hl with | [_, _, _, _], _ => rfl)
    have d__law_classes_hold := Fw.mkDef KX G (x := "_law_classes_hold") (st := Fw.s__law_classes_hold) (ps := ["made", "kind", "hill", "parents", "sizes"]) (by k_is) (by k_is) (by k_is) (by k_is) (fun _ _ _ _ _ _ us hl => match us, hl with | [_, _, _, _, _], _ => rfl)
    have d__law_exact := Fw.mkDef KX G (x := "_law_exact") (st := Fw.s__law_exact) (ps := ["purse", "q", "kind", "hill", "parents", "sizes", "table"]) (by k_is) (by k_is) (by k_is) (by k_is) (fun _ _ _ _ _ _ us hl => match us, hl with | [_, _, _, _, _, _, _], _ => rfl)
    have d_law := Fw.mkDef KX G (x := "law") (st := Fw.s_law) (ps := ["script"]) (by k_is) (by k_is) (by k_is) (by k_is) (fun _ _ _ _ _ _ us hl => match us, hl with | [_], _ => rfl)
    have g_Promise := Fw.mkG KX G (x := "Promise") (by k_is)
    have cls_Promise := Fw.mkCls KX g_Promise (by k_is) (by k_is) (by k_is) (by k_is)
    have no_Promise_day_number := Fw.mkNo KX g_Promise (f := "day_number") (by k_is)
    have no_Promise_span_list := Fw.mkNo KX g_Promise (f := "span_list") (by k_is)
    have no_Promise_end_table := Fw.mkNo KX g_Promise (f := "end_table") (by k_is)
    have m_Promise___init__ := Fw.mkMet KX g_Promise (m := "__init__") (qual := "Promise.__init__") (st := Fw.s_Promise___init__) (ps := ["self", "last", "spans"]) (by k_is) (by k_is) (by k_is) (by k_is) (by k_is) (fun _ _ _ _ _ _ us hl => match us, hl with | [_, _, _], _ => rfl)
    have m_Promise_last := Fw.mkMet KX g_Promise (m := "last") (qual := "Promise.last") (st := Fw.s_Promise_last) (ps := ["self"]) (by k_is) (by k_is) (by k_is) (by k_is) (by k_is) (fun _ _ _ _ _ _ us hl => match us, hl with | [_], _ => rfl)
    have m_Promise_picks := Fw.mkMet KX g_Promise (m := "picks") (qual := "Promise.picks") (st := Fw.s_Promise_picks) (ps := ["self", "s", "t"]) (by k_is) (by k_is) (by k_is) (by k_is) (by k_is) (fun _ _ _ _ _ _ us hl => match us, hl with | [_, _, _], _ => rfl)
    have mk_Promise := Fw.mkMk KX g_Promise m_Promise___init__.M (by k_is) (by k_is)
    have g_Question := Fw.mkG KX G (x := "Question") (by k_is)
    have cls_Question := Fw.mkCls KX g_Question (by k_is) (by k_is) (by k_is) (by k_is)
    have no_Question_parent_list := Fw.mkNo KX g_Question (f := "parent_list") (by k_is)
    have no_Question_size_list := Fw.mkNo KX g_Question (f := "size_list") (by k_is)
    have no_Question_session_list := Fw.mkNo KX g_Question (f := "session_list") (by k_is)
    have no_Question_promise_list := Fw.mkNo KX g_Question (f := "promise_list") (by k_is)
    have no_Question_child_table := Fw.mkNo KX g_Question (f := "child_table") (by k_is)
    have no_Question_answer_table := Fw.mkNo KX g_Question (f := "answer_table") (by k_is)
    have no_Question_group_table := Fw.mkNo KX g_Question (f := "group_table") (by k_is)
    have m_Question___init__ := Fw.mkMet KX g_Question (m := "__init__") (qual := "Question.__init__") (st := Fw.s_Question___init__) (ps := ["self", "parents", "values", "sessions", "promises", "answers"]) (by k_is) (by k_is) (by k_is) (by k_is) (by k_is) (fun _ _ _ _ _ _ us hl => match us, hl with | [_, _, _, _, _, _], _ => rfl)
    have m_Question_hills := Fw.mkMet KX g_Question (m := "hills") (qual := "Question.hills") (st := Fw.s_Question_hills) (ps := ["self"]) (by k_is) (by k_is) (by k_is) (by k_is) (by k_is) (fun _ _ _ _ _ _ us hl => match us, hl with | [_], _ => rfl)
    have m_Question_classes := Fw.mkMet KX g_Question (m := "classes") (qual := "Question.classes") (st := Fw.s_Question_classes) (ps := ["self", "v"]) (by k_is) (by k_is) (by k_is) (by k_is) (by k_is) (fun _ _ _ _ _ _ us hl => match us, hl with | [_, _], _ => rfl)
    have m_Question_session_picks := Fw.mkMet KX g_Question (m := "session_picks") (qual := "Question.session_picks") (st := Fw.s_Question_session_picks) (ps := ["self", "v"]) (by k_is) (by k_is) (by k_is) (by k_is) (by k_is) (fun _ _ _ _ _ _ us hl => match us, hl with | [_, _], _ => rfl)
    have m_Question_needs := Fw.mkMet KX g_Question (m := "needs") (qual := "Question.needs") (st := Fw.s_Question_needs) (ps := ["self", "v", "q"]) (by k_is) (by k_is) (by k_is) (by k_is) (by k_is) (fun _ _ _ _ _ _ us hl => match us, hl with | [_, _, _], _ => rfl)
    have m_Question_answered := Fw.mkMet KX g_Question (m := "answered") (qual := "Question.answered") (st := Fw.s_Question_answered) (ps := ["self", "q"]) (by k_is) (by k_is) (by k_is) (by k_is) (by k_is) (fun _ _ _ _ _ _ us hl => match us, hl with | [_, _], _ => rfl)
    have mk_Question := Fw.mkMk KX g_Question m_Question___init__.M (by k_is) (by k_is)
    have g_LIMITS := Fw.mkG KX G (x := "LIMITS") (by k_is)
    have k_LIMITS_hall := Fw.mkTab KX g_LIMITS (w := w) (x := "hall") (by k_is) (by simp [PySem.W.KeysLit]) (by k_is)
    have k_LIMITS_values := Fw.mkTab KX g_LIMITS (w := w) (x := "values") (by k_is) (by simp [PySem.W.KeysLit]) (by k_is)
    have k_LIMITS_beats := Fw.mkTab KX g_LIMITS (w := w) (x := "beats") (by k_is) (by simp [PySem.W.KeysLit]) (by k_is)
    have k_LIMITS_spans := Fw.mkTab KX g_LIMITS (w := w) (x := "spans") (by k_is) (by simp [PySem.W.KeysLit]) (by k_is)
    have T : Fw.Top (Fw.kOf KX) mg w := {
      c_Promise := _,
      cls_Promise := cls_Promise,
      g_Promise := g_Promise,
      no_Promise_day_number := no_Promise_day_number,
      no_Promise_span_list := no_Promise_span_list,
      no_Promise_end_table := no_Promise_end_table,
      mk_Promise := mk_Promise,
      c_Question := _,
      cls_Question := cls_Question,
      g_Question := g_Question,
      no_Question_parent_list := no_Question_parent_list,
      no_Question_size_list := no_Question_size_list,
      no_Question_session_list := no_Question_session_list,
      no_Question_promise_list := no_Question_promise_list,
      no_Question_child_table := no_Question_child_table,
      no_Question_answer_table := no_Question_answer_table,
      no_Question_group_table := no_Question_group_table,
      mk_Question := mk_Question,
      d_side_of := d_side_of,
      d_rows_of := d_rows_of,
      d_whole_row := d_whole_row,
      d_split_hills := d_split_hills,
      d_class_list := d_class_list,
      d_check := d_check,
      d_check_each := d_check_each,
      d_children_of := d_children_of,
      d_sorted_spans := d_sorted_spans,
      d_least_ends := d_least_ends,
      d_end_from := d_end_from,
      d_pick_ends := d_pick_ends,
      d_latest_beginning := d_latest_beginning,
      d_pick_spans := d_pick_spans,
      m_Promise___init__ := m_Promise___init__,
      m_Promise_last := m_Promise_last,
      m_Promise_picks := m_Promise_picks,
      d_are_hills := d_are_hills,
      d_are_sessions := d_are_sessions,
      d_are_answers := d_are_answers,
      m_Question___init__ := m_Question___init__,
      m_Question_hills := m_Question_hills,
      m_Question_classes := m_Question_classes,
      m_Question_session_picks := m_Question_session_picks,
      m_Question_needs := m_Question_needs,
      m_Question_answered := m_Question_answered,
      d__law_children := d__law_children,
      d__law_side := d__law_side,
      d__law_rows_of := d__law_rows_of,
      d__law_needs := d__law_needs,
      d__law_purse := d__law_purse,
      d__law_draw := d__law_draw,
      d__law_mix := d__law_mix,
      d__law_matches := d__law_matches,
      d__law_windows := d__law_windows,
      d__law_drawn_sizes := d__law_drawn_sizes,
      d__law_key := d__law_key,
      d__law_formula := d__law_formula,
      d__law_table := d__law_table,
      d__law_lengths := d__law_lengths,
      d__law_made := d__law_made,
      d__law_classes_hold := d__law_classes_hold,
      d__law_exact := d__law_exact,
      d_law := d_law,
      a_LIMITS := _,
      g_LIMITS := g_LIMITS,
      k_LIMITS := fun x n hx => Fw.tab_LIMITS_ok k_LIMITS_hall k_LIMITS_values k_LIMITS_beats k_LIMITS_spans hx,
      n_abs := Fw.mkN KX G (by k_is),
      n_bool := Fw.mkN KX G (by k_is),
      n_enumerate := Fw.mkN KX G (by k_is),
      n_int := Fw.mkN KX G (by k_is),
      n_isinstance := Fw.mkN KX G (by k_is),
      n_len := Fw.mkN KX G (by k_is),
      n_list := Fw.mkN KX G (by k_is),
      n_max := Fw.mkN KX G (by k_is),
      n_min := Fw.mkN KX G (by k_is),
      n_range := Fw.mkN KX G (by k_is),
      n_set := Fw.mkN KX G (by k_is),
      n_sorted := Fw.mkN KX G (by k_is),
      n_str := Fw.mkN KX G (by k_is),
      n_sum := Fw.mkN KX G (by k_is),
      n_tuple := Fw.mkN KX G (by k_is),
      n_zip := Fw.mkN KX G (by k_is) }
    have e := d_law.g.symm.trans hmg
    refine ⟨T.d_law.fd, fun s u => T.d_law.bt s [u] rfl, fun base _ _ => ?_⟩
    have z := (Fw.ok_law (P := (PySem.Challenge.rw_clearonce_k80_whole_questions_with_known).prog) (base := base) T).imp (Fw.sp_lawM Fw.law_true)
    have e2 : fa = T.d_law.f := by cases Option.some.inj (hmg.symm.trans T.d_law.g); rfl
    rw [e2]; exact z
