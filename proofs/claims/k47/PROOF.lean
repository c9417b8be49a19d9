import PyProof.Rows.All
import HandS.ForMost
import HandS.ForExc
import HandS.IsInst
import HandS.TupAny
import HandS.Flow
import HandS.TupLe
import HandS.Deep
import HandS.Wide
import HandS.Conv
import HandS.Iter
import HandS.Comp
import KE.SortData
import HandS.SortKw
import KE.SortKeyed
import HandS.Slots
import HandS.ExcOwn
import HandS.TupSets
import KE.KeyNested
import HandS.SetBool
import PyProof.ReprRoads
import PyProof.ReprLen
import HandS.Text
import PyProof.ListStr
import KE.GoesEnum
import HandS.ExcSuper
import KE.KSuper
import HandS.Exc
import HandS.Ends
import PySem.Challenge.RW_lateno_k47_whole_crossings_of_any_lots
set_option Elab.async false
set_option linter.all false
set_option maxRecDepth 100000
/-! DatA: data without a heap over the layer: what stands frozen, owned, or behind a token; readings over data. -/
namespace DL
open PySem PySem.Spec PyProof.Rows L2

/-- data: what a value tells, the heap left out; tok n: the n-th thing that may change; ins: an object that no longer changes -/
inductive D where
  | non | bl (b : Bool) | int (i : Int) | str (s : Str) | tup (xs : List D) | lst (xs : List D) | tok (n : Nat) | ins (C : Addr) (ns : List Str) (xs : List D) | scr (ns : List Int) | ty (n : String) | cls (C : Addr)
instance : Inhabited D := ⟨.non⟩

/-- the ghost: what is frozen; where the tokens stand -/
structure Gh where
  F : Addr → Prop
  ρ : List Addr
def Gh.add (G : Gh) (p : Addr) : Gh := ⟨fun a => G.F a ∨ a = p, G.ρ⟩
abbrev Ws := List (List D)

section
variable (K : PySem.W.Frag) (G : Gh) (H : Hp)
/-- frozen here, or written -/
def FzL (a : Addr) (vs : List V) : Prop := G.F a ∧ H a = some (.lst vs) ∧ vs.length ≤ sizeLine
def FzT (a : Addr) (vs : List V) : Prop := (G.F a ∧ H a = some (.tup vs) ∧ vs.length ≤ sizeLine) ∨
  ∃ (o : Obj) (its : Array Value) (n : Nat), K.lookup a = some o ∧ o.cls = .type "tuple" ∧ o.data = .seq its n ∧ its.size ≤ sizeLine ∧ Vals vs its.toList
/-- a list that is frozen here, or written -/
def FzS (a : Addr) (vs : List V) : Prop := (G.F a ∧ Rd H a (.lst vs)) ∨
  ∃ (o : Obj) (its : Array Value) (n : Nat), K.lookup a = some o ∧ o.cls = .type "list" ∧ o.dict = none ∧ o.data = .seq its n ∧ its.size ≤ sizeLine ∧ Vals vs its.toList
mutual
def Rep : V → D → Prop
  | v, .non => v = .non
  | v, .bl b => v = .bl b
  | v, .int i => v = .int i
  | v, .str s => v = .str s
  | v, .tup ds => ∃ a vs, v = .ref a ∧ FzT K G H a vs ∧ RepL vs ds
  | v, .lst ds => ∃ a vs, v = .ref a ∧ FzL G H a vs ∧ RepL vs ds
  | v, .tok n => ∃ a, v = .ref a ∧ G.ρ[n]? = some a
  | v, .ins C ns ds => ∃ a dx vs, v = .ref a ∧ G.F a ∧ H a = some (.ins C dx (ns.zip vs)) ∧ ns.length = vs.length ∧ RepL vs ds
  | v, .scr ns => ∃ a, v = .ref a ∧ FzS K G H a (ns.map V.int) ∧ ns.length ≤ sizeLine
  | v, .ty n => v = .ty n
  | v, .cls C => v = .ref C
def RepL : List V → List D → Prop
  | vs, [] => vs = []
  | vs, d :: ds => ∃ v r, vs = v :: r ∧ Rep v d ∧ RepL r ds
end
end

/-- the state's core stands -/
structure Ok (K : PySem.W.Frag) (G : Gh) (H : Hp) (W : Ws) : Prop where
  fok : ∀ a, G.F a → H a ≠ none
  len : G.ρ.length = W.length
  nod : G.ρ.Nodup
  nf : ∀ a ∈ G.ρ, ¬ G.F a
  tk : ∀ (n : Nat) (a : Addr) (xs : List D), G.ρ[n]? = some a → W[n]? = some xs → ∃ vs, H a = some (.lst vs) ∧ RepL K G H vs xs ∧ vs.length ≤ sizeLine
/-- from one state to a later one: all but the tokens' things is kept -/
structure Mv (G : Gh) (H : Hp) (G' : Gh) (H' : Hp) : Prop where
  f1 : ∀ a, G.F a → G'.F a
  f2 : ∀ a, G'.F a → G.F a ∨ H a = none
  sm : ∀ (a : Addr) (o : HO), H a = some o → a ∉ G.ρ → H' a = some o
  r1 : ∃ more, G'.ρ = G.ρ ++ more ∧ ∀ a ∈ more, H a = none
  al : ∀ a, H' a = none → H a = none

section
variable {K : PySem.W.Frag} {G G' G'' : Gh} {H H' H'' : Hp} {W W' W'' : Ws}
theorem Mv.refl : Mv G H G H := ⟨fun _ h => h, fun _ h => .inl h, fun _ _ h _ => h, ⟨[], by simp, by simp⟩, fun _ h => h⟩
theorem Mv.tok (m : Mv G H G' H') {n : Nat} {a : Addr} (h : G.ρ[n]? = some a) : G'.ρ[n]? = some a := by
  obtain ⟨more, e, _⟩ := m.r1
  rw [e, List.getElem?_append_left (List.getElem?_eq_some_iff.mp h).1]
  exact h
theorem Mv.trans (m : Mv G H G' H') (m' : Mv G' H' G'' H'') : Mv G H G'' H'' := by
  obtain ⟨m1, e1, n1⟩ := m.r1
  obtain ⟨m2, e2, n2⟩ := m'.r1
  refine ⟨fun a h => m'.f1 a (m.f1 a h), fun a h => ?_, fun a o h n => ?_, ⟨m1 ++ m2, by rw [e2, e1, List.append_assoc], fun a h => ?_⟩, fun a h => m.al a (m'.al a h)⟩
  · rcases m'.f2 a h with h | h
    · exact m.f2 a h
    · exact .inr (m.al a h)
  · refine m'.sm a o (m.sm a o h n) fun z => ?_
    rw [e1] at z
    rcases List.mem_append.mp z with z | z
    · exact n z
    · rw [n1 a z] at h; cases h
  · rcases List.mem_append.mp h with h | h
    · exact n1 a h
    · exact m.al a (n2 a h)
theorem Mv.rd (m : Mv G H G' H') (k : Ok K G H W) {a : Addr} {u : HO} (hf : G.F a) (h : Rd H a u) : Rd H' a u := by
  have na : a ∉ G.ρ := fun z => k.nf a z hf
  rcases h with h | ⟨o, h⟩
  · exact .inl (m.sm a _ h na)
  · exact .inr ⟨o, m.sm a _ h na⟩
theorem FzL.mv {a : Addr} {vs : List V} (m : Mv G H G' H') (k : Ok K G H W) (h : FzL G H a vs) : FzL G' H' a vs :=
  ⟨m.f1 a h.1, m.sm a _ h.2.1 fun z => k.nf a z h.1, h.2.2⟩
theorem Mv.sql {a : Addr} {vs : List V} (m : Mv G H G' H') (k : Ok K G H W) (hf : G.F a) (h : SqL K H a vs) : SqL K H' a vs :=
  h.elim (fun h => .inl (m.rd k hf h)) .inr
theorem FzT.mv {a : Addr} {vs : List V} (m : Mv G H G' H') (k : Ok K G H W) (h : FzT K G H a vs) : FzT K G' H' a vs := by
  rcases h with ⟨f, r, z⟩ | h
  · exact .inl ⟨m.f1 a f, m.sm a _ r (fun z => k.nf a z f), z⟩
  · exact .inr h
theorem FzS.mv {a : Addr} {vs : List V} (m : Mv G H G' H') (k : Ok K G H W) (h : FzS K G H a vs) : FzS K G' H' a vs :=
  h.elim (fun h => .inl ⟨m.f1 a h.1, m.rd k h.1 h.2⟩) .inr
theorem FzS.sq {a : Addr} {vs : List V} (h : FzS K G H a vs) : SqL K H a vs := h.elim (fun h => .inl h.2) .inr
theorem FzT.sq {a : Addr} {vs : List V} (h : FzT K G H a vs) : SqT K H a vs := h.elim (fun h => .inl (.inl h.2.1)) .inr
mutual
theorem Rep.mv (m : Mv G H G' H') (k : Ok K G H W) : ∀ (d : D) (v : V), Rep K G H v d → Rep K G' H' v d
  | .non, v, h => h
  | .bl _, v, h => h
  | .int _, v, h => h
  | .str _, v, h => h
  | .tup ds, v, h => by
    obtain ⟨a, vs, e, f, r⟩ := h
    exact ⟨a, vs, e, f.mv m k, RepL.mv m k ds vs r⟩
  | .lst ds, v, h => by
    obtain ⟨a, vs, e, f, r⟩ := h
    exact ⟨a, vs, e, f.mv m k, RepL.mv m k ds vs r⟩
  | .tok n, v, h => by
    obtain ⟨a, e, f⟩ := h
    exact ⟨a, e, m.tok f⟩
  | .ins C ns ds, v, h => by
    obtain ⟨a, dx, vs, e, f, g, l, r⟩ := h
    exact ⟨a, dx, vs, e, m.f1 a f, m.sm a _ g (fun z => k.nf a z f), l, RepL.mv m k ds vs r⟩
  | .scr ns, v, h => by
    obtain ⟨a, e, q, z⟩ := h
    exact ⟨a, e, q.mv m k, z⟩
  | .ty _, v, h => h
  | .cls _, v, h => h
theorem RepL.mv (m : Mv G H G' H') (k : Ok K G H W) : ∀ (ds : List D) (vs : List V), RepL K G H vs ds → RepL K G' H' vs ds
  | [], vs, h => h
  | d :: ds, vs, h => by
    obtain ⟨v, r, e, h1, h2⟩ := h
    exact ⟨v, r, e, Rep.mv m k d v h1, RepL.mv m k ds r h2⟩
end
theorem RepL.length : ∀ {ds : List D} {vs : List V}, RepL K G H vs ds → vs.length = ds.length
  | [], vs, h => by rw [show vs = [] from h]; rfl
  | d :: ds, vs, h => by
    obtain ⟨v, r, e, _, h2⟩ := h
    rw [e, List.length_cons, List.length_cons, RepL.length h2]
theorem RepL.get : ∀ {ds : List D} {vs : List V} {i : Nat} {d : D}, RepL K G H vs ds → ds[i]? = some d → ∃ v, vs[i]? = some v ∧ Rep K G H v d
  | [], vs, i, d, h, e => by simp at e
  | d' :: ds, vs, 0, d, h, e => by
    obtain ⟨v, r, e', h1, _⟩ := h
    rw [e']
    have : d' = d := by simpa using e
    subst this
    exact ⟨v, rfl, h1⟩
  | d' :: ds, vs, i + 1, d, h, e => by
    obtain ⟨v, r, e', _, h2⟩ := h
    rw [e']
    obtain ⟨v', a, b⟩ := RepL.get (i := i) (d := d) h2 (by simpa using e)
    exact ⟨v', by simpa using a, b⟩
theorem RepL.at : ∀ {ds : List D} {vs : List V} {i : Nat} {v : V}, RepL K G H vs ds → vs[i]? = some v → ∃ d, ds[i]? = some d ∧ Rep K G H v d := fun {ds vs i v} h e => by
  have hl : i < ds.length := by
    have := (List.getElem?_eq_some_iff.mp e).1
    rw [h.length] at this
    exact this
  obtain ⟨w, e', r⟩ := h.get (List.getElem?_eq_getElem hl)
  rw [e] at e'
  cases e'
  exact ⟨_, List.getElem?_eq_getElem hl, r⟩
theorem RepL.app : ∀ {ds es : List D} {vs us : List V}, RepL K G H vs ds → RepL K G H us es → RepL K G H (vs ++ us) (ds ++ es)
  | [], es, vs, us, h, g => by rw [show vs = [] from h]; exact g
  | d :: ds, es, vs, us, h, g => by
    obtain ⟨v, r, e, h1, h2⟩ := h
    exact ⟨v, r ++ us, by rw [e]; rfl, h1, RepL.app h2 g⟩
theorem RepL.one {v : V} {d : D} (h : Rep K G H v d) : RepL K G H [v] [d] := ⟨v, [], rfl, h, rfl⟩
theorem RepL.nil : RepL K G H [] [] := rfl
theorem RepL.cons {v : V} {d : D} {vs : List V} {ds : List D} (h : Rep K G H v d) (t : RepL K G H vs ds) : RepL K G H (v :: vs) (d :: ds) := ⟨v, vs, rfl, h, t⟩
theorem RepL.drop : ∀ {ds : List D} {vs : List V} (n : Nat), RepL K G H vs ds → RepL K G H (vs.drop n) (ds.drop n)
  | ds, vs, 0, h => h
  | [], vs, n + 1, h => by rw [show vs = [] from h]; exact RepL.nil
  | d :: ds, vs, n + 1, h => by
    obtain ⟨v, r, e, _, h2⟩ := h
    rw [e]
    exact RepL.drop n h2
theorem RepL.take : ∀ {ds : List D} {vs : List V} (n : Nat), RepL K G H vs ds → RepL K G H (vs.take n) (ds.take n)
  | ds, vs, 0, h => RepL.nil
  | [], vs, n + 1, h => by rw [show vs = [] from h]; exact RepL.nil
  | d :: ds, vs, n + 1, h => by
    obtain ⟨v, r, e, h1, h2⟩ := h
    rw [e]
    exact RepL.cons h1 (RepL.take n h2)
theorem RepL.set {v : V} {d : D} (h : Rep K G H v d) : ∀ {ds : List D} {vs : List V} (n : Nat), RepL K G H vs ds → RepL K G H (vs.set n v) (ds.set n d)
  | [], vs, n, h => by rw [show vs = [] from h]; exact RepL.nil
  | e :: ds, vs, 0, g => by
    obtain ⟨v', r, e', _, h2⟩ := g
    rw [e']
    exact RepL.cons h h2
  | e :: ds, vs, n + 1, g => by
    obtain ⟨v', r, e', h1, h2⟩ := g
    rw [e']
    exact RepL.cons h1 (RepL.set h n h2)
theorem RepL.erase : ∀ {ds : List D} {vs : List V} (n : Nat), RepL K G H vs ds → RepL K G H (vs.eraseIdx n) (ds.eraseIdx n)
  | [], vs, n, h => by rw [show vs = [] from h]; exact RepL.nil
  | e :: ds, vs, 0, g => by
    obtain ⟨v', r, e', _, h2⟩ := g
    rw [e']
    exact h2
  | e :: ds, vs, n + 1, g => by
    obtain ⟨v', r, e', h1, h2⟩ := g
    rw [e']
    exact RepL.cons h1 (RepL.erase n h2)

/-! ### a new frozen thing -/
theorem Mv.fresh {p : Addr} {o : HO} (hp : H p = none) : Mv G H (G.add p) (upd H p o) :=
  ⟨fun _ h => .inl h, fun a h => h.elim .inl fun e => .inr (by rw [e]; exact hp), fun a u h _ => by rw [upd_ne (ne_of_none h hp)]; exact h, ⟨[], by simp [Gh.add], by simp⟩,
   fun a h => by
    by_cases e : a = p
    · rw [e]; exact hp
    · rw [upd_ne e] at h; exact h⟩
/-- .. that is not frozen yet -/
theorem Mv.fresh0 {p : Addr} {o : HO} (hp : H p = none) : Mv G H G (upd H p o) :=
  ⟨fun _ h => h, fun a h => .inl h, fun a u h _ => by rw [upd_ne (ne_of_none h hp)]; exact h, ⟨[], by simp, by simp⟩,
   fun a h => by
    by_cases e : a = p
    · rw [e]; exact hp
    · rw [upd_ne e] at h; exact h⟩
theorem Mv.freeze {p : Addr} (hp : H' p = none) (hal : ∀ a, H a = none → H' a = none) (m : Mv G' H' G H) : Mv G' H' (G.add p) H :=
  ⟨fun a h => .inl (m.f1 a h), fun a h => h.elim (m.f2 a) fun e => .inr (by rw [e]; exact hp), m.sm, m.r1, m.al⟩
theorem Ok.mv (k : Ok K G H W) (m : Mv G H G' H') (e : G'.ρ = G.ρ) (fok : ∀ a, G'.F a → H' a ≠ none) (nf : ∀ a ∈ G.ρ, ¬ G'.F a) (h : ∀ a ∈ G.ρ, H' a = H a) : Ok K G' H' W := by
  refine ⟨fok, by rw [e]; exact k.len, by rw [e]; exact k.nod, fun a ha => nf a (by rw [← e]; exact ha), fun n a xs h1 h2 => ?_⟩
  rw [e] at h1
  obtain ⟨vs, q, r, z⟩ := k.tk n a xs h1 h2
  exact ⟨vs, by rw [h a (List.mem_of_getElem? h1)]; exact q, RepL.mv m k xs vs r, z⟩
theorem Ok.at (k : Ok K G H W) {a : Addr} (ha : a ∈ G.ρ) : ∃ vs, H a = some (.lst vs) := by
  obtain ⟨n, hn, e⟩ := List.mem_iff_getElem.mp ha
  have e1 : G.ρ[n]? = some a := by rw [List.getElem?_eq_getElem hn, e]
  have hw : n < W.length := by rw [← k.len]; exact hn
  obtain ⟨vs, q, _⟩ := k.tk n a _ e1 (List.getElem?_eq_getElem hw)
  exact ⟨vs, q⟩
theorem Ok.fresh {p : Addr} {o : HO} (k : Ok K G H W) (hp : H p = none) : Ok K (G.add p) (upd H p o) W := by
  have np : ∀ a ∈ G.ρ, a ≠ p := fun a ha e => by
    obtain ⟨vs, q⟩ := k.at ha
    rw [e, hp] at q; cases q
  refine k.mv (Mv.fresh hp) rfl (fun a h => ?_) (fun a ha h => h.elim (k.nf a ha) (np a ha)) fun a ha => upd_ne (np a ha)
  rcases h with h | h
  · have n : a ≠ p := fun e => k.fok a h (by rw [e]; exact hp)
    rw [upd_ne n]
    exact k.fok a h
  · rw [h, upd_same]; nofun
theorem Ok.fresh0 {p : Addr} {o : HO} (k : Ok K G H W) (hp : H p = none) : Ok K G (upd H p o) W := by
  have np : ∀ a ∈ G.ρ, a ≠ p := fun a ha e => by
    obtain ⟨vs, q⟩ := k.at ha
    rw [e, hp] at q; cases q
  refine k.mv (Mv.fresh0 hp) rfl (fun a h => ?_) k.nf fun a ha => upd_ne (np a ha)
  have n : a ≠ p := fun e => k.fok a h (by rw [e]; exact hp)
  rw [upd_ne n]
  exact k.fok a h
end

/-! ### slots -/
inductive Sl where
  | no | fz (d : D) | ow (xs : List D)
abbrev Gs := List Sl
def SlOk (K : PySem.W.Frag) (G : Gh) (H : Hp) (o : Option (Option V)) : Sl → Prop
  | .no => True
  | .fz d => ∃ v, o = some (some v) ∧ Rep K G H v d
  | .ow xs => ∃ a vs, o = some (some (.ref a)) ∧ ¬ G.F a ∧ a ∉ G.ρ ∧ H a = some (.lst vs) ∧ RepL K G H vs xs ∧ vs.length ≤ sizeLine
structure Sta (K : PySem.W.Frag) (G : Gh) (σ : L2.St) (H : Hp) (Γ : Gs) (W : Ws) : Prop where
  ok : Ok K G H W
  len : Γ.length = σ.length
  sl : ∀ (i : Nat) (s : Sl), Γ[i]? = some s → SlOk K G H σ[i]? s
  dj : ∀ (i j : Nat) (a : Addr) (xs ys : List D), Γ[i]? = some (.ow xs) → Γ[j]? = some (.ow ys) → σ[i]? = some (some (.ref a)) → σ[j]? = some (some (.ref a)) → i = j
section
variable {K : PySem.W.Frag} {G G' G'' : Gh} {H H' H'' : Hp} {W W' W'' : Ws} {σ σ' : L2.St} {Γ Γ' : Gs}
theorem SlOk.mv {o : Option (Option V)} {s : Sl} (m : Mv G H G' H') (k : Ok K G H W) (h : SlOk K G H o s) : SlOk K G' H' o s := by
  cases s with
  | no => trivial
  | fz d => obtain ⟨v, e, r⟩ := h; exact ⟨v, e, Rep.mv m k d v r⟩
  | ow xs =>
    obtain ⟨a, vs, e, nf, nr, q, r, hz⟩ := h
    refine ⟨a, vs, e, fun z => ?_, fun z => ?_, m.sm a _ q nr, RepL.mv m k xs vs r, hz⟩
    · rcases m.f2 a z with z | z
      · exact nf z
      · rw [q] at z; cases z
    · obtain ⟨more, em, nm⟩ := m.r1
      rw [em] at z
      rcases List.mem_append.mp z with z | z
      · exact nr z
      · rw [nm a z] at q; cases q
theorem Sta.mv (S : Sta K G σ H Γ W) (m : Mv G H G' H') (k : Ok K G' H' W') : Sta K G' σ H' Γ W' :=
  ⟨k, S.len, fun i s e => (S.sl i s e).mv m S.ok, S.dj⟩
end

/-! ### what an expression hands on: data, or an owned list that is read where it stands -/
inductive EV where
  | val (d : D) | bor (i : Nat) (xs : List D)
def EV.d : EV → D
  | .val d => d
  | .bor _ xs => .lst xs
def EVRep (K : PySem.W.Frag) (G : Gh) (σ : L2.St) (H : Hp) (Γ : Gs) (v : V) : EV → Prop
  | .val d => Rep K G H v d
  | .bor i xs => Γ[i]? = some (.ow xs) ∧ σ[i]? = some (some v)
theorem EVRep.mv {K : PySem.W.Frag} {G G' : Gh} {H H' : Hp} {W : Ws} {σ : L2.St} {Γ : Gs} {v : V} {e : EV} (m : Mv G H G' H') (k : Ok K G H W) (h : EVRep K G σ H Γ v e) : EVRep K G' σ H' Γ v e := by
  cases e with
  | val d => exact Rep.mv m k d v h
  | bor i xs => exact h

/-! ### readings over data: what is wished of an exception, the slots, the tokens' lists, what is wished of the answer -/
abbrev XD := Addr → List (Str × D) → Ws → Prop
abbrev TD := XD → Gs → Ws → (EV → Ws → Prop) → Prop
abbrev TDF := XD → Gs → Ws → (List D → Ws → Prop) → Prop
abbrev TDT := XD → Gs → Ws → (Bool → Ws → Prop) → Prop
abbrev TDA := XD → Gs → Ws → (List EV → Ws → Prop) → Prop
def MonoE {α : Type} (t : XD → Gs → Ws → (α → Ws → Prop) → Prop) : Prop := ∀ E E' Γ W (Q Q' : α → Ws → Prop), (∀ C fs W', E C fs W' → E' C fs W') → (∀ a W', Q a W' → Q' a W') → t E Γ W Q → t E' Γ W Q'
/-- what an exception's own dict (if it has one) tells -/
def XFld (K : PySem.W.Frag) (G : Gh) (H : Hp) (d : Option Addr) (fs : List (Str × D)) : Prop := match d with
  | none => fs = []
  | some dd => ∃ vfs : List (Str × V), H dd = some (.xd vfs) ∧ vfs.map (·.1) = fs.map (·.1) ∧ RepL K G H (vfs.map (·.2)) (fs.map (·.2))
/-- the wish of exceptions over data is one over the heap -/
def XOk (K : PySem.W.Frag) (EX : WX) (E : XD) (G : Gh) (σ : L2.St) (H : Hp) : Prop :=
  ∀ C fs W' d G' H', E C fs W' → Mv G H G' H' → Ok K G' H' W' → XFld K G' H' d fs → EX (.ref C) d σ H'
theorem XOk.mv {K : PySem.W.Frag} {EX : WX} {E : XD} {G G' : Gh} {σ : L2.St} {H H' : Hp} (x : XOk K EX E G σ H) (m : Mv G H G' H') : XOk K EX E G' σ H' :=
  fun C fs W' d G'' H'' e m' k f => x C fs W' d G'' H'' e (m.trans m') k f
theorem XOk.no {K : PySem.W.Frag} {EX : WX} {G : Gh} {σ : L2.St} {H : Hp} : XOk K EX (fun _ _ _ => False) G σ H := fun _ _ _ _ _ _ e => e.elim
structure Stx (K : PySem.W.Frag) (EX : WX) (E : XD) (G : Gh) (σ : L2.St) (H : Hp) (Γ : Gs) (W : Ws) : Prop extends Sta K G σ H Γ W where
  x : XOk K EX E G σ H
theorem Stx.mv {K : PySem.W.Frag} {EX : WX} {E : XD} {G G' : Gh} {σ : L2.St} {H H' : Hp} {Γ : Gs} {W W' : Ws} (S : Stx K EX E G σ H Γ W) (m : Mv G H G' H') (k : Ok K G' H' W') : Stx K EX E G' σ H' Γ W' :=
  ⟨S.toSta.mv m k, S.x.mv m⟩
def liftE (K : PySem.W.Frag) (EX : WX) (t : TD) : TE := fun σ H Q => ∃ G Γ W E, Stx K EX E G σ H Γ W ∧ t E Γ W fun e W' => ∀ v G' H', Mv G H G' H' → Ok K G' H' W' → EVRep K G' σ H' Γ v e → Q v H'
/-- a new list, in no other hands -/
def liftF (K : PySem.W.Frag) (EX : WX) (t : TDF) : TE := fun σ H Q => ∃ G Γ W E, Stx K EX E G σ H Γ W ∧ t E Γ W fun xs W' => ∀ p vs G' H', Mv G H G' H' → Ok K G' H' W' → H p = none → ¬ G'.F p → p ∉ G'.ρ → H' p = some (.lst vs) → RepL K G' H' vs xs → vs.length ≤ sizeLine → Q (.ref p) H'
def liftT (K : PySem.W.Frag) (EX : WX) (t : TDT) : TT := fun σ H Q => ∃ G Γ W E, Stx K EX E G σ H Γ W ∧ t E Γ W fun b W' => ∀ G' H', Mv G H G' H' → Ok K G' H' W' → Q b H'
def EVRepL (K : PySem.W.Frag) (G : Gh) (σ : L2.St) (H : Hp) (Γ : Gs) : List V → List EV → Prop
  | vs, [] => vs = []
  | vs, e :: es => ∃ v r, vs = v :: r ∧ EVRep K G σ H Γ v e ∧ EVRepL K G σ H Γ r es
def liftA (K : PySem.W.Frag) (EX : WX) (t : TDA) : TA := fun σ H Q => ∃ G Γ W E, Stx K EX E G σ H Γ W ∧ t E Γ W fun es W' => ∀ vs G' H', Mv G H G' H' → Ok K G' H' W' → EVRepL K G' σ H' Γ vs es → Q vs H'
structure DE (X : Cx) (EX : WX) (e : Expr) (t : TD) : Prop where
  mono : MonoE t
  pe : PE X e (liftE X.K EX t)
structure DF (X : Cx) (EX : WX) (e : Expr) (t : TDF) : Prop where
  mono : MonoE t
  pe : PE X e (liftF X.K EX t)
structure DT (X : Cx) (EX : WX) (e : Expr) (t : TDT) : Prop where
  mono : MonoE t
  pt : PT X e (liftT X.K EX t)
structure DA (X : Cx) (EX : WX) (es : List Expr) (t : TDA) : Prop where
  mono : MonoE t
  pa : PA X es (liftA X.K EX t)
/-- a weaker reading will do -/
theorem PE.imp {X : Cx} {e : Expr} {t t' : TE} (h : PE X e t) (i : ∀ σ H Q, t' σ H Q → t σ H Q) : PE X e t' := ⟨fun pins s σ H Q I q => h.run pins s σ H Q I (i σ H Q q)⟩
theorem PT.imp {X : Cx} {e : Expr} {t t' : TT} (h : PT X e t) (i : ∀ σ H Q, t' σ H Q → t σ H Q) : PT X e t' := ⟨fun pins s σ H Q I q => h.run pins s σ H Q I (i σ H Q q)⟩
theorem PA.imp {X : Cx} {es : List Expr} {t t' : TA} (h : PA X es t) (i : ∀ σ H Q, t' σ H Q → t σ H Q) : PA X es t' := ⟨fun pos pins s σ H Q I q => h.run pos pins s σ H Q I (i σ H Q q)⟩
theorem PS.imp {X : Cx} {st : Stmt} {t t' : TS} (h : PS X st t) (i : ∀ D σ H, t' D σ H → t D σ H) : PS X st t' := ⟨fun pins s σ H D I q => h.run pins s σ H D I (i D σ H q)⟩
theorem PSs.imp {X : Cx} {st : List Stmt} {t t' : TS} (h : PSs X st t) (i : ∀ D σ H, t' D σ H → t D σ H) : PSs X st t' := ⟨fun pins s σ H D I q => h.run pins s σ H D I (i D σ H q)⟩

section
variable {K : PySem.W.Frag} {EX : WX} {E : XD} {G G' : Gh} {H H' : Hp} {W W' : Ws} {σ : L2.St} {Γ : Gs}
theorem liftE.go {t : TD} (mo : MonoE t) (S : Stx K EX E G σ H Γ W) {R : EV → Ws → Prop} {Q : VK} (h : t E Γ W R) (hQ : ∀ e W' v G' H', R e W' → Mv G H G' H' → Stx K EX E G' σ H' Γ W' → EVRep K G' σ H' Γ v e → Q v H') : liftE K EX t σ H Q :=
  ⟨G, Γ, W, E, S, mo _ _ _ _ _ _ (fun _ _ _ h => h) (fun e W' r v G' H' m k er => hQ e W' v G' H' r m (S.mv m k) er) h⟩
theorem liftT.go {t : TDT} (mo : MonoE t) (S : Stx K EX E G σ H Γ W) {R : Bool → Ws → Prop} {Q : Bool → Hp → Prop} (h : t E Γ W R) (hQ : ∀ b W' G' H', R b W' → Mv G H G' H' → Stx K EX E G' σ H' Γ W' → Q b H') : liftT K EX t σ H Q :=
  ⟨G, Γ, W, E, S, mo _ _ _ _ _ _ (fun _ _ _ h => h) (fun b W' r G' H' m k => hQ b W' G' H' r m (S.mv m k)) h⟩
theorem liftA.go {t : TDA} (mo : MonoE t) (S : Stx K EX E G σ H Γ W) {R : List EV → Ws → Prop} {Q : List V → Hp → Prop} (h : t E Γ W R) (hQ : ∀ es W' vs G' H', R es W' → Mv G H G' H' → Stx K EX E G' σ H' Γ W' → EVRepL K G' σ H' Γ vs es → Q vs H') : liftA K EX t σ H Q :=
  ⟨G, Γ, W, E, S, mo _ _ _ _ _ _ (fun _ _ _ h => h) (fun es W' r vs G' H' m k er => hQ es W' vs G' H' r m (S.mv m k) er) h⟩
theorem liftF.go {t : TDF} (mo : MonoE t) (S : Stx K EX E G σ H Γ W) {R : List D → Ws → Prop} {Q : VK} (h : t E Γ W R)
    (hQ : ∀ xs W' p vs G' H', R xs W' → Mv G H G' H' → Stx K EX E G' σ H' Γ W' → H p = none → ¬ G'.F p → p ∉ G'.ρ → H' p = some (.lst vs) → RepL K G' H' vs xs → vs.length ≤ sizeLine → Q (.ref p) H') : liftF K EX t σ H Q :=
  ⟨G, Γ, W, E, S, mo _ _ _ _ _ _ (fun _ _ _ h => h) (fun xs W' r p vs G' H' m k a b c d e f => hQ xs W' p vs G' H' r m (S.mv m k) a b c d e f) h⟩
theorem EVRepL.mv (m : Mv G H G' H') (k : Ok K G H W) : ∀ {es : List EV} {vs : List V}, EVRepL K G σ H Γ vs es → EVRepL K G' σ H' Γ vs es
  | [], vs, h => h
  | e :: es, vs, h => by
    obtain ⟨v, r, e', h1, h2⟩ := h
    exact ⟨v, r, e', h1.mv m k, EVRepL.mv m k h2⟩
/-- the data that a handed-on thing shows now: a token its list -/
def EV.r (W : Ws) : EV → D
  | .val (.tok n) => match W[n]? with
    | some xs => .lst xs
    | none => .tok n
  | .val d => d
  | .bor _ xs => .lst xs
theorem EV.r_cases (W : Ws) (e : EV) : (∃ n xs, e = .val (.tok n) ∧ W[n]? = some xs ∧ e.r W = .lst xs) ∨ (∃ i xs, e = .bor i xs ∧ e.r W = .lst xs) ∨ (∃ d, e = .val d ∧ e.r W = d) := by
  cases e with
  | bor i xs => exact .inr (.inl ⟨i, xs, rfl, rfl⟩)
  | val d =>
    cases d with
    | tok n =>
      cases h : W[n]? with
      | some xs => exact .inl ⟨n, xs, rfl, h, by simp [EV.r, h]⟩
      | none => exact .inr (.inr ⟨_, rfl, by simp [EV.r, h]⟩)
    | _ => exact .inr (.inr ⟨_, rfl, rfl⟩)
/-- a list seen through its value, wherever it stands -/
theorem Sta.seq (S : Sta K G σ H Γ W) {v : V} {e : EV} (r : EVRep K G σ H Γ v e) {xs : List D} (h : e.r W = .lst xs) : ∃ a vs, v = .ref a ∧ H a = some (.lst vs) ∧ RepL K G H vs xs := by
  rcases e.r_cases W with ⟨n, ys, rfl, e2, e3⟩ | ⟨i, ys, rfl, e3⟩ | ⟨d, rfl, e3⟩
  · rw [e3] at h
    injection h with h
    subst h
    obtain ⟨a, e, f⟩ := r
    obtain ⟨vs, q, rl, _⟩ := S.ok.tk n a _ f e2
    exact ⟨a, vs, e, q, rl⟩
  · rw [e3] at h
    injection h with h
    subst h
    obtain ⟨r1, r2⟩ := r
    obtain ⟨a, vs, e, _, _, q, rl, _⟩ := S.sl i _ r1
    rw [r2] at e
    cases e
    exact ⟨a, vs, rfl, q, rl⟩
  · rw [e3] at h
    subst h
    obtain ⟨a, vs, e, f, q⟩ := r
    exact ⟨a, vs, e, f.2.1, q⟩
theorem FzT.len {K : PySem.W.Frag} {G : Gh} {H : Hp} {a : Addr} {vs : List V} (h : FzT K G H a vs) : vs.length ≤ sizeLine := by
  rcases h with ⟨_, _, z⟩ | ⟨o, its, n, _, _, _, z, r⟩
  · exact z
  · rw [r.length, Array.length_toList]
    exact z
theorem Sta.len_of (S : Sta K G σ H Γ W) {v : V} {e : EV} (r : EVRep K G σ H Γ v e) {xs : List D} (h : e.r W = .lst xs) : xs.length ≤ sizeLine := by
  rcases e.r_cases W with ⟨n, ys, rfl, e2, e3⟩ | ⟨i, ys, rfl, e3⟩ | ⟨d, rfl, e3⟩
  · rw [e3] at h
    injection h with h
    subst h
    obtain ⟨a, e, f⟩ := r
    obtain ⟨vs, q, rl, z⟩ := S.ok.tk n a _ f e2
    rw [← rl.length]; exact z
  · rw [e3] at h
    injection h with h
    subst h
    obtain ⟨r1, r2⟩ := r
    obtain ⟨a, vs, e, _, _, q, rl, z⟩ := S.sl i _ r1
    rw [← rl.length]; exact z
  · rw [e3] at h
    subst h
    obtain ⟨a, vs, e, f, q⟩ := r
    rw [← q.length]; exact f.2.2
/-- anything but a list is what its value says -/
theorem EVRep.rep {v : V} {e : EV} (r : EVRep K G σ H Γ v e) {d : D} (h : e.r W = d) (n : ∀ xs, d ≠ .lst xs) : Rep K G H v d := by
  rcases e.r_cases W with ⟨m, ys, rfl, e2, e3⟩ | ⟨i, ys, rfl, e3⟩ | ⟨d', rfl, e3⟩
  · rw [e3] at h
    exact absurd h.symm (n ys)
  · rw [e3] at h
    exact absurd h.symm (n ys)
  · rw [e3] at h
    rw [← h]
    exact r
end
end DL

set_option Elab.async false
set_option linter.all false
set_option maxRecDepth 100000
/-! DatB: expressions over data: names, constants, operators, comparisons, subscripts, displays. -/
namespace DL
open PySem PySem.Spec PyProof.Rows L2

/-! ### data as the library's data -/
mutual
def D.py : D → PyData
  | .non => .none
  | .bl b => .bool b
  | .int i => .int i
  | .str s => .str s
  | .tup ds => .tuple (D.pyL ds)
  | .lst ds => .list (D.pyL ds)
  | _ => .none
def D.pyL : List D → List PyData
  | [] => []
  | d :: ds => D.py d :: D.pyL ds
end
mutual
def fit : Nat → D → Bool
  | _, .non => true
  | _, .bl _ => true
  | _, .int _ => true
  | _, .str s => PyData.strOk s
  | n + 1, .tup ds => fitL n ds
  | n + 1, .lst ds => fitL n ds
  | _, _ => false
def fitL : Nat → List D → Bool
  | _, [] => true
  | n, d :: ds => fit n d && fitL n ds
end
theorem fitL_all : ∀ (n : Nat) (ds : List D), fitL n ds = ds.all (fit n)
  | n, [] => by simp [fitL]
  | n, d :: ds => by simp [fitL, fitL_all n ds]
@[simp] theorem fit_tup (n : Nat) (ds : List D) : fit (n + 1) (.tup ds) = ds.all (fit n) := by rw [← fitL_all]; simp [fit]
@[simp] theorem fit_lst (n : Nat) (ds : List D) : fit (n + 1) (.lst ds) = ds.all (fit n) := by rw [← fitL_all]; simp [fit]
@[simp] theorem fit_non (n : Nat) : fit n .non = true := by simp [fit]
@[simp] theorem fit_bl (n : Nat) (b : Bool) : fit n (.bl b) = true := by simp [fit]
@[simp] theorem fit_int (n : Nat) (i : Int) : fit n (.int i) = true := by simp [fit]
@[simp] theorem fit_str (n : Nat) (s : Str) : fit n (.str s) = PyData.strOk s := by simp [fit]
mutual
theorem fit_py : ∀ (n : Nat) (d : D), fit n d = true → (d.py).canLay0 = true ∧ (d.py).depth ≤ n
  | n, .non, _ => by simp [D.py, PyData.canLay0, PyData.depth]
  | n, .bl _, _ => by simp [D.py, PyData.canLay0, PyData.depth]
  | n, .int _, _ => by simp [D.py, PyData.canLay0, PyData.depth]
  | n, .str s, h => by
    rw [fit_str] at h
    simp [D.py, PyData.canLay0, PyData.depth, h]
  | 0, .tup ds, h => by simp [fit] at h
  | 0, .lst ds, h => by simp [fit] at h
  | n + 1, .tup ds, h => by
    have h' : fitL n ds = true := by simpa [fit] using h
    obtain ⟨a, b⟩ := fitL_py n ds h'
    simp only [D.py, PyData.canLay0, PyData.depth]
    exact ⟨a, by omega⟩
  | n + 1, .lst ds, h => by
    have h' : fitL n ds = true := by simpa [fit] using h
    obtain ⟨a, b⟩ := fitL_py n ds h'
    simp only [D.py, PyData.canLay0, PyData.depth]
    exact ⟨a, by omega⟩
  | n, .tok _, h => by cases n <;> simp [fit] at h
  | n, .ins _ _ _, h => by cases n <;> simp [fit] at h
  | n, .scr _, h => by cases n <;> simp [fit] at h
  | n, .ty _, h => by cases n <;> simp [fit] at h
  | n, .cls _, h => by cases n <;> simp [fit] at h
theorem fitL_py : ∀ (n : Nat) (ds : List D), fitL n ds = true → PyData.canLayAll0 (D.pyL ds) = true ∧ PyData.depthAll (D.pyL ds) ≤ n
  | n, [], _ => by simp [D.pyL, PyData.canLayAll0, PyData.depthAll]
  | n, d :: ds, h => by
    have h' : fit n d = true ∧ fitL n ds = true := by simpa [fitL] using h
    obtain ⟨a, b⟩ := fit_py n d h'.1
    obtain ⟨a', b'⟩ := fitL_py n ds h'.2
    simp only [D.pyL, PyData.canLayAll0, PyData.depthAll, a, a', Bool.and_self, true_and]
    omega
end
theorem fit_shaped {n : Nat} {d : D} (h : fit n d = true) (hn : n ≤ 64) : SeqAt.shaped d.py = true := by
  obtain ⟨a, b⟩ := fit_py n d h
  show (d.py.canLay0 && decide (d.py.depth ≤ 64)) = true
  rw [a, Bool.true_and]
  exact decide_eq_true (by omega)
mutual
theorem Rep.dp {K : PySem.W.Frag} {G : Gh} {H : Hp} : ∀ (n : Nat) (d : D) (v : V), fit n d = true → Rep K G H v d → Dp K H v d.py
  | n, .non, v, _, r => by rw [show v = .non from r]; simp only [D.py]; exact .non
  | n, .bl b, v, _, r => by rw [show v = .bl b from r]; simp only [D.py]; exact .bl b
  | n, .int i, v, _, r => by rw [show v = .int i from r]; simp only [D.py]; exact .int i
  | n, .str s, v, _, r => by rw [show v = .str s from r]; simp only [D.py]; exact .str s
  | 0, .tup ds, v, h, r => by simp [fit] at h
  | 0, .lst ds, v, h, r => by simp [fit] at h
  | n + 1, .tup ds, v, h, r => by
    obtain ⟨a, vs, e, f, q⟩ := r
    rw [e]
    simp only [D.py]
    exact .tup f.sq (RepL.dp n ds vs (by simpa [fit] using h) q)
  | n + 1, .lst ds, v, h, r => by
    obtain ⟨a, vs, e, f, q⟩ := r
    rw [e]
    simp only [D.py]
    exact .lst (SqL.of f.2.1) (RepL.dp n ds vs (by simpa [fit] using h) q)
  | n, .tok _, _, h, _ => by cases n <;> simp [fit] at h
  | n, .ins _ _ _, _, h, _ => by cases n <;> simp [fit] at h
  | n, .scr _, _, h, _ => by cases n <;> simp [fit] at h
  | n, .ty _, _, h, _ => by cases n <;> simp [fit] at h
  | n, .cls _, _, h, _ => by cases n <;> simp [fit] at h
theorem RepL.dp {K : PySem.W.Frag} {G : Gh} {H : Hp} : ∀ (n : Nat) (ds : List D) (vs : List V), fitL n ds = true → RepL K G H vs ds → DpAll K H vs (D.pyL ds)
  | n, [], vs, _, r => by rw [show vs = [] from r]; simp only [D.pyL]; exact .nil
  | n, d :: ds, vs, h, r => by
    obtain ⟨v, t, e, h1, h2⟩ := r
    have h' : fit n d = true ∧ fitL n ds = true := by simpa [fitL] using h
    rw [e]
    simp only [D.pyL]
    exact .cons (Rep.dp n d v h'.1 h1) (RepL.dp n ds t h'.2 h2)
end

/-! ### equality as Python tells it -/
mutual
def deq : D → D → Bool
  | .non, .non => true
  | .bl a, .bl b => a == b
  | .bl a, .int j => (if a then 1 else 0) == j
  | .int i, .bl b => i == (if b then 1 else 0)
  | .int i, .int j => i == j
  | .str x, .str y => x == y
  | .lst xs, .lst ys => deqL xs ys
  | .tup xs, .tup ys => deqL xs ys
  | _, _ => false
def deqL : List D → List D → Bool
  | [], [] => true
  | x :: xs, y :: ys => deq x y && deqL xs ys
  | _, _ => false
end
mutual
theorem deq_py : ∀ (n : Nat) (a b : D), fit n a = true → fit n b = true → PyData.eqv a.py b.py = deq a b
  | n, a, b, ha, hb => by
    cases a with
    | tok _ => cases n <;> simp [fit] at ha
    | ins _ _ _ => cases n <;> simp [fit] at ha
    | scr _ => cases n <;> simp [fit] at ha
    | ty _ => cases n <;> simp [fit] at ha
    | cls _ => cases n <;> simp [fit] at ha
    | lst xs =>
      cases b with
      | tok _ => cases n <;> simp [fit] at hb
      | ins _ _ _ => cases n <;> simp [fit] at hb
      | scr _ => cases n <;> simp [fit] at hb
      | ty _ => cases n <;> simp [fit] at hb
      | cls _ => cases n <;> simp [fit] at hb
      | lst ys =>
        cases n with
        | zero => simp [fit] at ha
        | succ n =>
          simp only [D.py, PyData.eqv, deq]
          exact deqL_py n xs ys (by simpa [fit] using ha) (by simpa [fit] using hb)
      | _ => simp [D.py, PyData.eqv, deq]
    | tup xs =>
      cases b with
      | tok _ => cases n <;> simp [fit] at hb
      | ins _ _ _ => cases n <;> simp [fit] at hb
      | scr _ => cases n <;> simp [fit] at hb
      | ty _ => cases n <;> simp [fit] at hb
      | cls _ => cases n <;> simp [fit] at hb
      | tup ys =>
        cases n with
        | zero => simp [fit] at ha
        | succ n =>
          simp only [D.py, PyData.eqv, deq]
          exact deqL_py n xs ys (by simpa [fit] using ha) (by simpa [fit] using hb)
      | _ => simp [D.py, PyData.eqv, deq]
    | _ =>
      cases b with
      | tok _ => cases n <;> simp [fit] at hb
      | ins _ _ _ => cases n <;> simp [fit] at hb
      | scr _ => cases n <;> simp [fit] at hb
      | ty _ => cases n <;> simp [fit] at hb
      | cls _ => cases n <;> simp [fit] at hb
      | _ => simp [D.py, PyData.eqv, deq]
theorem deqL_py : ∀ (n : Nat) (xs ys : List D), fitL n xs = true → fitL n ys = true → PyData.eqvAll (D.pyL xs) (D.pyL ys) = deqL xs ys
  | n, [], [], _, _ => by simp [D.pyL, PyData.eqvAll, deqL]
  | n, [], y :: ys, _, _ => by simp [D.pyL, PyData.eqvAll, deqL]
  | n, x :: xs, [], _, _ => by simp [D.pyL, PyData.eqvAll, deqL]
  | n, x :: xs, y :: ys, h, g => by
    have h' : fit n x = true ∧ fitL n xs = true := by simpa [fitL] using h
    have g' : fit n y = true ∧ fitL n ys = true := by simpa [fitL] using g
    simp only [D.pyL, PyData.eqvAll, deqL]
    rw [deq_py n x y h'.1 g'.1, deqL_py n xs ys h'.2 g'.2]
end
/-! data without bools and things: equality is equality -/
mutual
def nb : D → Bool
  | .non => true
  | .int _ => true
  | .str _ => true
  | .tup ds => nbL ds
  | .lst ds => nbL ds
  | _ => false
def nbL : List D → Bool
  | [] => true
  | d :: ds => nb d && nbL ds
end
theorem nbL_all : ∀ ds : List D, nbL ds = ds.all nb
  | [] => by simp [nbL]
  | d :: ds => by simp [nbL, nbL_all ds]
@[simp] theorem nb_non : nb .non = true := by simp [nb]
@[simp] theorem nb_int (i : Int) : nb (.int i) = true := by simp [nb]
@[simp] theorem nb_str (s : Str) : nb (.str s) = true := by simp [nb]
@[simp] theorem nb_tup (ds : List D) : nb (.tup ds) = ds.all nb := by rw [← nbL_all]; simp [nb]
@[simp] theorem nb_lst (ds : List D) : nb (.lst ds) = ds.all nb := by rw [← nbL_all]; simp [nb]
mutual
theorem deq_iff : ∀ (a b : D), nb a = true → nb b = true → (deq a b = true ↔ a = b)
  | a, b, ha, hb => by
    cases a with
    | lst xs =>
      cases b with
      | lst ys =>
        simp only [deq, D.lst.injEq]
        exact deqL_iff xs ys (by simpa [nb] using ha) (by simpa [nb] using hb)
      | _ => simp [deq]
    | tup xs =>
      cases b with
      | tup ys =>
        simp only [deq, D.tup.injEq]
        exact deqL_iff xs ys (by simpa [nb] using ha) (by simpa [nb] using hb)
      | _ => simp [deq]
    | tok _ => simp [nb] at ha
    | ins _ _ _ => simp [nb] at ha
    | scr _ => simp [nb] at ha
    | ty _ => simp [nb] at ha
    | cls _ => simp [nb] at ha
    | bl _ => simp [nb] at ha
    | _ =>
      cases b with
      | bl _ => simp [nb] at hb
      | _ => simp [deq]
theorem deqL_iff : ∀ (xs ys : List D), nbL xs = true → nbL ys = true → (deqL xs ys = true ↔ xs = ys)
  | [], [], _, _ => by simp [deqL]
  | [], y :: ys, _, _ => by simp [deqL]
  | x :: xs, [], _, _ => by simp [deqL]
  | x :: xs, y :: ys, h, g => by
    have h' : nb x = true ∧ nbL xs = true := by simpa [nbL] using h
    have g' : nb y = true ∧ nbL ys = true := by simpa [nbL] using g
    simp only [deqL, Bool.and_eq_true, List.cons.injEq, deq_iff x y h'.1 g'.1, deqL_iff xs ys h'.2 g'.2]
end
mutual
theorem deq_refl : ∀ (n : Nat) (a : D), fit n a = true → deq a a = true
  | n, a, h => by
    cases a with
    | lst xs =>
      cases n with
      | zero => simp [fit] at h
      | succ n => simp only [deq]; exact deqL_refl n xs (by simpa [fit] using h)
    | tup xs =>
      cases n with
      | zero => simp [fit] at h
      | succ n => simp only [deq]; exact deqL_refl n xs (by simpa [fit] using h)
    | tok _ => cases n <;> simp [fit] at h
    | ins _ _ _ => cases n <;> simp [fit] at h
    | scr _ => cases n <;> simp [fit] at h
    | ty _ => cases n <;> simp [fit] at h
    | cls _ => cases n <;> simp [fit] at h
    | _ => simp [deq]
theorem deqL_refl : ∀ (n : Nat) (xs : List D), fitL n xs = true → deqL xs xs = true
  | n, [], _ => by simp [deqL]
  | n, x :: xs, h => by
    have h' : fit n x = true ∧ fitL n xs = true := by simpa [fitL] using h
    simp only [deqL, Bool.and_eq_true]
    exact ⟨deq_refl n x h'.1, deqL_refl n xs h'.2⟩
end
end DL

set_option Elab.async false
set_option linter.all false
set_option maxRecDepth 100000
/-! DatC: names, constants, displays, operators, comparisons, tests, subscripts. -/
namespace DL
open PySem PySem.Spec PyProof.Rows L2

section
variable {K : PySem.W.Frag} {G G' : Gh} {H H' : Hp} {W W' : Ws} {σ : L2.St} {Γ : Gs} {v : V} {e : EV}
theorem EVRep.int (r : EVRep K G σ H Γ v e) {i : Int} (h : e.r W = .int i) : v = .int i := r.rep h fun _ q => by cases q
theorem EVRep.bl (r : EVRep K G σ H Γ v e) {i : Bool} (h : e.r W = .bl i) : v = .bl i := r.rep h fun _ q => by cases q
theorem EVRep.str (r : EVRep K G σ H Γ v e) {i : Str} (h : e.r W = .str i) : v = .str i := r.rep h fun _ q => by cases q
theorem EVRep.non (r : EVRep K G σ H Γ v e) (h : e.r W = .non) : v = .non := r.rep h fun _ q => by cases q
theorem EVRep.tup (r : EVRep K G σ H Γ v e) {ds : List D} (h : e.r W = .tup ds) : ∃ a vs, v = .ref a ∧ FzT K G H a vs ∧ RepL K G H vs ds := r.rep h fun _ q => by cases q
/-- a new frozen tuple -/
theorem Rep.newT {p : Addr} {vs : List V} {ds : List D} (k : Ok K G H W) (hp : H p = none) (r : RepL K G H vs ds) (hz : vs.length ≤ sizeLine) : Rep K (G.add p) (upd H p (.tup vs)) (.ref p) (.tup ds) :=
  ⟨p, vs, rfl, .inl ⟨.inr rfl, upd_same, hz⟩, RepL.mv (Mv.fresh hp) k _ _ r⟩
theorem Rep.newL {p : Addr} {vs : List V} {ds : List D} (k : Ok K G H W) (hp : H p = none) (r : RepL K G H vs ds) (hz : vs.length ≤ sizeLine) : Rep K (G.add p) (upd H p (.lst vs)) (.ref p) (.lst ds) :=
  ⟨p, vs, rfl, ⟨.inr rfl, upd_same, hz⟩, RepL.mv (Mv.fresh hp) k _ _ r⟩
/-! more frozen -/
mutual
theorem Rep.wk (f : ∀ a, G.F a → G'.F a) (t : G'.ρ = G.ρ) : ∀ (d : D) (v : V), Rep K G H v d → Rep K G' H v d
  | .non, v, h => h
  | .bl _, v, h => h
  | .int _, v, h => h
  | .str _, v, h => h
  | .tup ds, v, h => by
    obtain ⟨a, vs, e, q, r⟩ := h
    exact ⟨a, vs, e, q.elim (fun q => .inl ⟨f a q.1, q.2⟩) .inr, RepL.wk f t ds vs r⟩
  | .lst ds, v, h => by
    obtain ⟨a, vs, e, q, r⟩ := h
    exact ⟨a, vs, e, ⟨f a q.1, q.2.1, q.2.2⟩, RepL.wk f t ds vs r⟩
  | .tok n, v, h => by
    obtain ⟨a, e, q⟩ := h
    exact ⟨a, e, by rw [t]; exact q⟩
  | .ins C ns ds, v, h => by
    obtain ⟨a, dx, vs, e, q, g, l, r⟩ := h
    exact ⟨a, dx, vs, e, f a q, g, l, RepL.wk f t ds vs r⟩
  | .scr ns, v, h => by
    obtain ⟨a, e, q, g⟩ := h
    exact ⟨a, e, q.elim (fun q => .inl ⟨f a q.1, q.2⟩) .inr, g⟩
  | .ty _, v, h => h
  | .cls _, v, h => h
theorem RepL.wk (f : ∀ a, G.F a → G'.F a) (t : G'.ρ = G.ρ) : ∀ (ds : List D) (vs : List V), RepL K G H vs ds → RepL K G' H vs ds
  | [], vs, h => h
  | d :: ds, vs, h => by
    obtain ⟨v, r, e, h1, h2⟩ := h
    exact ⟨v, r, e, Rep.wk f t d v h1, RepL.wk f t ds r h2⟩
end
/-- a list in no other hands is frozen -/
theorem Ok.freeze {p : Addr} (k : Ok K G H W) (hp : H p ≠ none) (hn : p ∉ G.ρ) : Ok K (G.add p) H W := by
  refine ⟨fun a h => h.elim (k.fok a) fun e => by rw [e]; exact hp, k.len, k.nod, fun a ha h => h.elim (k.nf a ha) fun e => hn (by rw [← e]; exact ha), fun n a xs h1 h2 => ?_⟩
  obtain ⟨vs, q, r, z⟩ := k.tk n a xs h1 h2
  exact ⟨vs, q, RepL.wk (G' := G.add p) (fun _ h => Or.inl h) rfl _ _ r, z⟩
theorem Mv.frz {G0 : Gh} {H0 : Hp} {p : Addr} (m : Mv G0 H0 G H) (hp : H0 p = none) : Mv G0 H0 (G.add p) H :=
  ⟨fun a h => .inl (m.f1 a h), fun a h => h.elim (m.f2 a) fun e => .inr (by rw [e]; exact hp), m.sm, m.r1, m.al⟩
end

section
variable {X : Cx} {EX : WX} {pos : Pos}
/-! ### names and constants -/
def dVar (i : Nat) : TD := fun E Γ W Q => match Γ[i]? with
  | some (.fz d) => Q (.val d) W
  | some (.ow xs) => Q (.bor i xs) W
  | _ => False
theorem mono_var (i : Nat) : MonoE (dVar i) := fun E E' Γ W Q Q' hE hQ h => by
  unfold dVar at h ⊢
  split at h
  · exact hQ _ _ h
  · exact hQ _ _ h
  · exact h
theorem dv (i : Nat) {x : Str} (hN : X.N[i]? = some x := by rfl) (hv : Vis X.env.scope x := by first | exact Or.inl rfl | exact Or.inr (Or.inl rfl) | exact Or.inr (Or.inr rfl)) (hd : (x == ("__debug__" : Str)) = false := by decide)
    (hcd : (x == ("__classdict__" : Str)) = false := by decide) : DE X EX (.Name x pos) (dVar i) :=
  ⟨mono_var i, PE.imp (pv i hN hv hd hcd) fun σ H Q h => by
    obtain ⟨G, Γ, W, E, S, h⟩ := h
    unfold dVar at h
    split at h
    · rename_i d e
      obtain ⟨v, e', r⟩ := S.sl i _ e
      exact ⟨v, e', h v G H .refl S.ok r⟩
    · rename_i xs e
      obtain ⟨a, vs, e', _⟩ := S.sl i _ e
      exact ⟨.ref a, e', h (.ref a) G H .refl S.ok ⟨e, e'⟩⟩
    · exact h.elim⟩
/-- a constant -/
def dC (d : D) : TD := fun _ _ W Q => Q (.val d) W
theorem mono_c (d : D) : MonoE (dC d) := fun _ _ _ _ _ _ hE hQ h => hQ _ _ h
theorem de_c {e : Expr} {v : V} {d : D} (h : PE X e (tC v)) (r : ∀ G H, Rep X.K G H v d) : DE X EX e (dC d) :=
  ⟨mono_c d, PE.imp h fun σ H Q h => by
    obtain ⟨G, Γ, W, E, S, h⟩ := h
    exact h v G H .refl S.ok (r G H)⟩
theorem de_int {i : Int} {j} : DE X EX (.Constant (.int i) j pos) (dC (.int i)) := de_c pe_int fun _ _ => rfl
theorem de_bl {b j} : DE X EX (.Constant (.bool b) j pos) (dC (.bl b)) := de_c pe_bl fun _ _ => rfl
theorem de_non {j} : DE X EX (.Constant .none j pos) (dC .non) := de_c pe_non fun _ _ => rfl
theorem de_str {x : Str} {j} : DE X EX (.Constant (.str x) j pos) (dC (.str x)) := de_c pe_str fun _ _ => rfl
/-- a module's int, text or written tuple -/
theorem de_glob {x : Str} {v : V} {d : D} {u : Value} (hg : Gl X x) (hm : X.mg x = some u) (rv : RelV v u) (r : ∀ G H, Rep X.K G H v d) (hd : (x == ("__debug__" : Str)) = false := by decide) : DE X EX (.Name x pos) (dC d) := de_c (pe_glob hg hm rv hd) r

/-! ### displays -/
def dNil : TDA := fun _ _ W Q => Q [] W
def dCons (t : TD) (u : TDA) : TDA := fun E Γ W Q => t E Γ W fun e W1 => u E Γ W1 fun es W2 => Q (e :: es) W2
theorem da_nil : DA X EX [] dNil := ⟨fun _ _ _ _ _ _ hE hQ h => hQ _ _ h, PA.imp pa_nil fun σ H Q h => by
  obtain ⟨G, Γ, W, E, S, h⟩ := h
  exact h [] G H .refl S.ok rfl⟩
theorem da_cons {e : Expr} {es : List Expr} {t : TD} {u : TDA} (ha : DE X EX e t) (hr : DA X EX es u) (hs : starEach (e :: es) X.env = (false, eval e X.env) :: starEach es X.env := by rfl) : DA X EX (e :: es) (dCons t u) :=
  ⟨fun E E' Γ W Q Q' hE hQ h => ha.mono _ _ _ _ _ _ hE (fun e W1 h => hr.mono _ _ _ _ _ _ hE (fun es W2 h => hQ _ _ h) h) h, PA.imp (pa_cons ha.pe hr.pa hs) fun σ H Q h => by
    obtain ⟨G, Γ, W, E, S, h⟩ := h
    refine liftE.go ha.mono S h fun e1 W1 v G1 H1 h m1 S1 r1 => ?_
    refine liftA.go hr.mono S1 h fun es W2 vs G2 H2 h m2 S2 r2 => ?_
    exact h (v :: vs) G2 H2 (m1.trans m2) S2.ok ⟨v, vs, rfl, r1.mv m2 S1.ok, r2⟩⟩
/-- the values of handed-on data -/
def vals? : List EV → Option (List D)
  | [] => some []
  | .val d :: es => (vals? es).map (d :: ·)
  | .bor _ _ :: _ => none
theorem EVRepL.vals {K : PySem.W.Frag} {G : Gh} {H : Hp} {σ : L2.St} {Γ : Gs} : ∀ {es : List EV} {vs : List V} {ds : List D}, EVRepL K G σ H Γ vs es → vals? es = some ds → RepL K G H vs ds
  | [], vs, ds, h, e => by
    have e' : ds = [] := by simpa [vals?] using e.symm
    rw [e']
    exact h
  | .val d :: es, vs, ds, h, e => by
    obtain ⟨v, r, e1, h1, h2⟩ := h
    have e2 : (vals? es).map (d :: ·) = some ds := e
    obtain ⟨ds', e3, e4⟩ := Option.map_eq_some_iff.mp e2
    rw [e1, ← e4]
    exact RepL.cons h1 (EVRepL.vals h2 e3)
  | .bor i xs :: es, vs, ds, h, e => by cases e
def dTup (t : TDA) : TD := fun E Γ W Q => t E Γ W fun es W' => match vals? es with
  | some ds => ds.length ≤ sizeLine ∧ Q (.val (.tup ds)) W'
  | none => False
def dLst (t : TDA) : TDF := fun E Γ W Q => t E Γ W fun es W' => match vals? es with
  | some ds => ds.length ≤ sizeLine ∧ Q ds W'
  | none => False
theorem de_tup {es : List Expr} {t : TDA} {x1} (h : DA X EX es t) : DE X EX (.Tuple es x1 pos) (dTup t) :=
  ⟨fun E E' Γ W Q Q' hE hQ q => h.mono _ _ _ _ _ _ hE (fun es W' q => by
    split at q
    · exact ⟨q.1, hQ _ _ q.2⟩
    · exact q) q, PE.imp (pe_tup h.pa) fun σ H Q q => by
    obtain ⟨G, Γ, W, E, S, q⟩ := q
    refine liftA.go h.mono S q fun es W1 vs G1 H1 q m1 S1 r1 => ?_
    split at q
    · rename_i ds e
      have rl := r1.vals e
      refine ⟨by rw [rl.length]; exact q.1, fun p hp => q.2 (.ref p) (G1.add p) _ (m1.trans (Mv.fresh hp)) (S1.ok.fresh hp) (Rep.newT S1.ok hp rl (by rw [rl.length]; exact q.1))⟩
    · exact q.elim⟩
theorem df_lst {es : List Expr} {t : TDA} (h : DA X EX es t) : DF X EX (.List es pos) (dLst t) :=
  ⟨fun E E' Γ W Q Q' hE hQ q => h.mono _ _ _ _ _ _ hE (fun es W' q => by
    split at q
    · exact ⟨q.1, hQ _ _ q.2⟩
    · exact q) q, PE.imp (pe_lst h.pa) fun σ H Q q => by
    obtain ⟨G, Γ, W, E, S, q⟩ := q
    refine liftA.go h.mono S q fun es W1 vs G1 H1 q m1 S1 r1 => ?_
    split at q
    · rename_i ds e
      have rl := r1.vals e
      refine ⟨by rw [rl.length]; exact q.1, fun p hp => ?_⟩
      have nF : ¬ G1.F p := fun z => S1.ok.fok p z hp
      have nr : p ∉ G1.ρ := fun z => by
        obtain ⟨vs, q⟩ := S1.ok.at z
        rw [hp] at q; cases q
      exact q.2 p vs G1 _ (m1.trans (Mv.fresh0 hp)) (S1.ok.fresh0 hp) (m1.al p hp) nF nr upd_same (RepL.mv (Mv.fresh0 hp) S1.ok _ _ rl) (by rw [rl.length]; exact q.1)
    · exact q.elim⟩
/-- a new list handed on as data -/
def dFz (t : TDF) : TD := fun E Γ W Q => t E Γ W fun xs W' => Q (.val (.lst xs)) W'
theorem de_fz {e : Expr} {t : TDF} (h : DF X EX e t) : DE X EX e (dFz t) :=
  ⟨fun E E' Γ W Q Q' hE hQ q => h.mono _ _ _ _ _ _ hE (fun xs W' q => hQ _ _ q) q, PE.imp h.pe fun σ H Q q => by
    obtain ⟨G, Γ, W, E, S, q⟩ := q
    refine liftF.go h.mono S q fun xs W' p vs G' H' q m S' hp nf nr e r hz => ?_
    exact q (.ref p) (G'.add p) H' (m.frz hp) (S'.ok.freeze (by rw [e]; nofun) nr) ⟨p, vs, rfl, ⟨.inr rfl, e, hz⟩, RepL.wk (G' := G'.add p) (fun _ h => Or.inl h) rfl _ _ r⟩⟩

/-! ### operators of two -/
structure OpD (X : Cx) (r : R2) (f : D → D → (D → Prop) → Prop) : Prop where
  mono : ∀ a b Q Q', (∀ d, Q d → Q' d) → f a b Q → f a b Q'
  go : ∀ {G H W σ Γ x y e1 e2 R Q}, Sta X.K G σ H Γ W → EVRep X.K G σ H Γ x e1 → EVRep X.K G σ H Γ y e2 → f (e1.r W) (e2.r W) R →
    (∀ d v G' H', R d → Mv G H G' H' → Ok X.K G' H' W → Rep X.K G' H' v d → Q v H') → r x y H Q
def dOp (f : D → D → (D → Prop) → Prop) (ta tb : TD) : TD := fun E Γ W Q => ta E Γ W fun e1 W1 => tb E Γ W1 fun e2 W2 => f (e1.r W2) (e2.r W2) fun d => Q (.val d) W2
theorem dOp_mono {f : D → D → (D → Prop) → Prop} (hf : ∀ a b Q Q', (∀ d, Q d → Q' d) → f a b Q → f a b Q') {ta tb : TD} (ha : MonoE ta) (hb : MonoE tb) : MonoE (dOp f ta tb) := fun E E' Γ W Q Q' hE hQ h =>
  ha _ _ _ _ _ _ hE (fun e1 W1 h => hb _ _ _ _ _ _ hE (fun e2 W2 h => hf _ _ _ _ (fun d h => hQ _ _ h) h) h) h
theorem dOp_go {r : R2} {f : D → D → (D → Prop) → Prop} {a b : Expr} {ta tb : TD} (o : OpD X r f) (ha : DE X EX a ta) (hb : DE X EX b tb) : ∀ σ H Q, liftE X.K EX (dOp f ta tb) σ H Q → tOp r (liftE X.K EX ta) (liftE X.K EX tb) σ H Q := fun σ H Q h => by
  obtain ⟨G, Γ, W, E, S, h⟩ := h
  refine liftE.go ha.mono S h fun e1 W1 v G1 H1 h m1 S1 r1 => ?_
  refine liftE.go hb.mono S1 h fun e2 W2 u G2 H2 h m2 S2 r2 => ?_
  exact o.go S2.toSta (r1.mv m2 S1.ok) r2 h fun d z G3 H3 q m3 k3 rz => q z G3 H3 ((m1.trans m2).trans m3) k3 rz
theorem de_bin {op : Operator} {r : R2} {f : D → D → (D → Prop) → Prop} {a b : Expr} {ta tb : TD} (ho : OpR X (binaryOp op) r) (o : OpD X r f) (ha : DE X EX a ta) (hb : DE X EX b tb) : DE X EX (.BinOp a op b pos) (dOp f ta tb) :=
  ⟨dOp_mono o.mono ha.mono hb.mono, PE.imp (pe_op ho ha.pe hb.pe) (dOp_go o ha hb)⟩
theorem de_cmp {op : CmpOp} {r : R2} {f : D → D → (D → Prop) → Prop} {a b : Expr} {ta tb : TD} (ho : OpR X (compareOp op) r) (o : OpD X r f) (ha : DE X EX a ta) (hb : DE X EX b tb) (hm : behindInMarks op b = false) : DE X EX (.Compare a [op] [b] pos) (dOp f ta tb) :=
  ⟨dOp_mono o.mono ha.mono hb.mono, PE.imp (pe_cmpR ho ha.pe hb.pe hm) (dOp_go o ha hb)⟩

/-! ### tests -/
def dB (t : TD) : TDT := fun E Γ W Q => t E Γ W fun e W' => match e with
  | .val (.bl b) => Q b W'
  | _ => False
/-- a test by an expression that gives True or False -/
theorem dt_val {e : Expr} {t : TD} (h : DE X EX e t) (he : ∀ whole, isTrue e X.env whole = (do let v ← whole; standAt e.pos; holding [v] (truthy v)) := by intro _; rfl) : DT X EX e (dB t) :=
  ⟨fun E E' Γ W Q Q' hE hQ q => h.mono _ _ _ _ _ _ hE (fun e W' q => by
    split at q
    · exact hQ _ _ q
    · exact q) q, PT.imp (pt_val h.pe he) fun σ H Q q => by
    obtain ⟨G, Γ, W, E, S, q⟩ := q
    refine liftE.go h.mono S q fun e W1 v G1 H1 q m1 S1 r1 => ?_
    split at q
    · rename_i b
      exact ⟨b, r1, q G1 H1 m1 S1.ok⟩
    · exact q.elim⟩
theorem dt_cmp {op : CmpOp} {r : R2} {f : D → D → (D → Prop) → Prop} {a b : Expr} {ta tb : TD} (ho : OpR X (compareOp op) r) (o : OpD X r f) (ha : DE X EX a ta) (hb : DE X EX b tb) (hm : behindInMarks op b = false) : DT X EX (.Compare a [op] [b] pos) (dB (dOp f ta tb)) :=
  ⟨fun E E' Γ W Q Q' hE hQ q => dOp_mono o.mono ha.mono hb.mono _ _ _ _ _ _ hE (fun e W' q => by
    split at q
    · exact hQ _ _ q
    · exact q) q, PT.imp (pt_cmpR ho ha.pe hb.pe hm) fun σ H Q q => by
    refine dOp_go o ha hb σ H _ ?_
    obtain ⟨G, Γ, W, E, S, q⟩ := q
    refine liftE.go (dOp_mono o.mono ha.mono hb.mono) S q fun e W1 v G1 H1 q m1 S1 r1 => ?_
    split at q
    · rename_i b
      exact ⟨b, r1, q G1 H1 m1 S1.ok⟩
    · exact q.elim⟩
def dNotT (t : TDT) : TDT := fun E Γ W Q => t E Γ W fun b W' => Q (!b) W'
theorem dt_not {e : Expr} {t : TDT} (h : DT X EX e t) : DT X EX (.UnaryOp .Not e pos) (dNotT t) :=
  ⟨fun E E' Γ W Q Q' hE hQ q => h.mono _ _ _ _ _ _ hE (fun b W' q => hQ _ _ q) q, PT.imp (pt_not h.pt) fun σ H Q q => by
    obtain ⟨G, Γ, W, E, S, q⟩ := q
    exact liftT.go h.mono S q fun b W1 G1 H1 q m1 S1 => q G1 H1 m1 S1.ok⟩
end
end DL

set_option Elab.async false
set_option linter.all false
set_option maxRecDepth 100000
/-! DatD: and, or, not, if-expressions, the operators' rules, subscripts, slices. -/
namespace DL
open PySem PySem.Spec PyProof.Rows L2
section
variable {X : Cx} {EX : WX} {pos : Pos}
/-! ### and, or, not -/
structure DW (X : Cx) (EX : WX) (e : Expr) (t : TDT) : Prop where
  mono : MonoE t
  pw : PW X e (liftT X.K EX t)
theorem PW.imp {X : Cx} {e : Expr} {t t' : TT} (h : PW X e t) (i : ∀ σ H Q, t' σ H Q → t σ H Q) : PW X e t' := ⟨fun wh pins s σ H Q I q => h.run wh pins s σ H Q I (i σ H Q q)⟩
def dAndT (t u : TDT) : TDT := fun E Γ W Q => t E Γ W fun c W1 => if c = true then u E Γ W1 Q else Q false W1
def dOrT (t u : TDT) : TDT := fun E Γ W Q => t E Γ W fun c W1 => if c = true then Q true W1 else u E Γ W1 Q
theorem andT_mono {t u : TDT} (ht : MonoE t) (hu : MonoE u) : MonoE (dAndT t u) := fun E E' Γ W Q Q' hE hQ h => ht _ _ _ _ _ _ hE (fun c W1 h => by
  by_cases e : c = true
  · rw [if_pos e] at h ⊢; exact hu _ _ _ _ _ _ hE hQ h
  · rw [if_neg e] at h ⊢; exact hQ _ _ h) h
theorem orT_mono {t u : TDT} (ht : MonoE t) (hu : MonoE u) : MonoE (dOrT t u) := fun E E' Γ W Q Q' hE hQ h => ht _ _ _ _ _ _ hE (fun c W1 h => by
  by_cases e : c = true
  · rw [if_pos e] at h ⊢; exact hQ _ _ h
  · rw [if_neg e] at h ⊢; exact hu _ _ _ _ _ _ hE hQ h) h
theorem dw_and1 {a : Expr} {t : TDT} (h : DT X EX a t) : DW X EX (.BoolOp .And [a] pos) t := ⟨h.mono, pw_and1 h.pt⟩
theorem dw_or1 {a : Expr} {t : TDT} (h : DT X EX a t) : DW X EX (.BoolOp .Or [a] pos) t := ⟨h.mono, pw_or1 h.pt⟩
theorem dw_and {a b : Expr} {rest : List Expr} {t u : TDT} (ha : DT X EX a t) (hb : DW X EX (.BoolOp .And (b :: rest) pos) u) : DW X EX (.BoolOp .And (a :: b :: rest) pos) (dAndT t u) :=
  ⟨andT_mono ha.mono hb.mono, PW.imp (pw_and ha.pt hb.pw) fun σ H Q q => by
    obtain ⟨G, Γ, W, E, S, q⟩ := q
    refine liftT.go ha.mono S q fun c W1 G1 H1 q m1 S1 => ?_
    by_cases e : c = true
    · rw [if_pos e] at q ⊢
      exact liftT.go hb.mono S1 q fun c W2 G2 H2 q m2 S2 => q G2 H2 (m1.trans m2) S2.ok
    · rw [if_neg e] at q ⊢
      exact q G1 H1 m1 S1.ok⟩
theorem dw_or {a b : Expr} {rest : List Expr} {t u : TDT} (ha : DT X EX a t) (hb : DW X EX (.BoolOp .Or (b :: rest) pos) u) : DW X EX (.BoolOp .Or (a :: b :: rest) pos) (dOrT t u) :=
  ⟨orT_mono ha.mono hb.mono, PW.imp (pw_or ha.pt hb.pw) fun σ H Q q => by
    obtain ⟨G, Γ, W, E, S, q⟩ := q
    refine liftT.go ha.mono S q fun c W1 G1 H1 q m1 S1 => ?_
    by_cases e : c = true
    · rw [if_pos e] at q ⊢
      exact q G1 H1 m1 S1.ok
    · rw [if_neg e] at q ⊢
      exact liftT.go hb.mono S1 q fun c W2 G2 H2 q m2 S2 => q G2 H2 (m1.trans m2) S2.ok⟩
theorem DW.dt {e : Expr} {t : TDT} (h : DW X EX e t) : DT X EX e t := ⟨h.mono, h.pw.pt⟩
/-- as values: all but the last True or False -/
def dAndV (t u : TD) : TD := fun E Γ W Q => dB t E Γ W fun c W1 => if c = true then u E Γ W1 Q else Q (.val (.bl false)) W1
def dOrV (t u : TD) : TD := fun E Γ W Q => dB t E Γ W fun c W1 => if c = true then Q (.val (.bl true)) W1 else u E Γ W1 Q
theorem dB_mono {t : TD} (h : MonoE t) : MonoE (dB t) := fun E E' Γ W Q Q' hE hQ q => h _ _ _ _ _ _ hE (fun e W' q => by
    split at q
    · exact hQ _ _ q
    · exact q) q
theorem de_one {op} {a : Expr} {t : TD} (h : DE X EX a t) : DE X EX (.BoolOp op [a] pos) t := ⟨h.mono, pe_one h.pe⟩
theorem de_and {a b : Expr} {rest : List Expr} {t u : TD} (ha : DE X EX a t) (hb : DE X EX (.BoolOp .And (b :: rest) pos) u) : DE X EX (.BoolOp .And (a :: b :: rest) pos) (dAndV t u) :=
  ⟨fun E E' Γ W Q Q' hE hQ h => dB_mono ha.mono _ _ _ _ _ _ hE (fun c W1 h => by
    by_cases e : c = true
    · rw [if_pos e] at h ⊢; exact hb.mono _ _ _ _ _ _ hE hQ h
    · rw [if_neg e] at h ⊢; exact hQ _ _ h) h, PE.imp (pe_and ha.pe hb.pe) fun σ H Q q => by
    obtain ⟨G, Γ, W, E, S, q⟩ := q
    refine liftE.go ha.mono S q fun e W1 v G1 H1 q m1 S1 r1 => ?_
    split at q
    · rename_i c
      refine ⟨c, r1, ?_⟩
      by_cases e : c = true
      · rw [if_pos e] at q ⊢
        exact liftE.go hb.mono S1 q fun e W2 v G2 H2 q m2 S2 r2 => q v G2 H2 (m1.trans m2) S2.ok r2
      · rw [if_neg e] at q ⊢
        exact q (.bl false) G1 H1 m1 S1.ok rfl
    · exact q.elim⟩
theorem de_or {a b : Expr} {rest : List Expr} {t u : TD} (ha : DE X EX a t) (hb : DE X EX (.BoolOp .Or (b :: rest) pos) u) : DE X EX (.BoolOp .Or (a :: b :: rest) pos) (dOrV t u) :=
  ⟨fun E E' Γ W Q Q' hE hQ h => dB_mono ha.mono _ _ _ _ _ _ hE (fun c W1 h => by
    by_cases e : c = true
    · rw [if_pos e] at h ⊢; exact hQ _ _ h
    · rw [if_neg e] at h ⊢; exact hb.mono _ _ _ _ _ _ hE hQ h) h, PE.imp (pe_or ha.pe hb.pe) fun σ H Q q => by
    obtain ⟨G, Γ, W, E, S, q⟩ := q
    refine liftE.go ha.mono S q fun e W1 v G1 H1 q m1 S1 r1 => ?_
    split at q
    · rename_i c
      refine ⟨c, r1, ?_⟩
      by_cases e : c = true
      · rw [if_pos e] at q ⊢
        exact q (.bl true) G1 H1 m1 S1.ok rfl
      · rw [if_neg e] at q ⊢
        exact liftE.go hb.mono S1 q fun e W2 v G2 H2 q m2 S2 r2 => q v G2 H2 (m1.trans m2) S2.ok r2
    · exact q.elim⟩
def dNotV (t : TD) : TD := fun E Γ W Q => dB t E Γ W fun c W1 => Q (.val (.bl (!c))) W1
theorem de_not {a : Expr} {t : TD} (ha : DE X EX a t) : DE X EX (.UnaryOp .Not a pos) (dNotV t) :=
  ⟨fun E E' Γ W Q Q' hE hQ h => dB_mono ha.mono _ _ _ _ _ _ hE (fun c W1 h => hQ _ _ h) h, PE.imp (pe_not ha.pe) fun σ H Q q => by
    obtain ⟨G, Γ, W, E, S, q⟩ := q
    refine liftE.go ha.mono S q fun e W1 v G1 H1 q m1 S1 r1 => ?_
    split at q
    · rename_i c
      exact ⟨c, r1, q (.bl (!c)) G1 H1 m1 S1.ok rfl⟩
    · exact q.elim⟩
def dIfE (c : TDT) (t u : TD) : TD := fun E Γ W Q => c E Γ W fun b W1 => if b = true then t E Γ W1 Q else u E Γ W1 Q
theorem de_ifExp {c a b : Expr} {tc : TDT} {t u : TD} (hc : DT X EX c tc) (ha : DE X EX a t) (hb : DE X EX b u) : DE X EX (.IfExp c a b pos) (dIfE tc t u) :=
  ⟨fun E E' Γ W Q Q' hE hQ h => hc.mono _ _ _ _ _ _ hE (fun b W1 h => by
    by_cases e : b = true
    · rw [if_pos e] at h ⊢; exact ha.mono _ _ _ _ _ _ hE hQ h
    · rw [if_neg e] at h ⊢; exact hb.mono _ _ _ _ _ _ hE hQ h) h, PE.imp (pe_ifExp hc.pt ha.pe hb.pe) fun σ H Q q => by
    obtain ⟨G, Γ, W, E, S, q⟩ := q
    refine liftT.go hc.mono S q fun b W1 G1 H1 q m1 S1 => ?_
    by_cases e : b = true
    · rw [if_pos e] at q ⊢
      exact liftE.go ha.mono S1 q fun e W2 v G2 H2 q m2 S2 r2 => q v G2 H2 (m1.trans m2) S2.ok r2
    · rw [if_neg e] at q ⊢
      exact liftE.go hb.mono S1 q fun e W2 v G2 H2 q m2 S2 r2 => q v G2 H2 (m1.trans m2) S2.ok r2⟩

/-! ### whole numbers -/
def fInt (C : Int → Int → Prop) (g : Int → Int → D) : D → D → (D → Prop) → Prop := fun a b Q => match a, b with
  | .int i, .int j => C i j ∧ Q (g i j)
  | _, _ => False
theorem fInt_mono {C : Int → Int → Prop} {g : Int → Int → D} : ∀ a b Q Q', (∀ d, Q d → Q' d) → fInt C g a b Q → fInt C g a b Q' := fun a b Q Q' hQ h => by
  unfold fInt at h ⊢
  split at h
  · exact ⟨h.1, hQ _ h.2⟩
  · exact h
theorem od_int {C : Int → Int → Prop} {g : Int → Int → Int} : OpD X (rI C fun i j => .int (g i j)) (fInt C fun i j => .int (g i j)) :=
  ⟨fInt_mono, fun S r1 r2 h hQ => by
    unfold fInt at h
    split at h
    · rename_i i j e1 e2
      exact ⟨i, j, r1.int e1, r2.int e2, h.1, hQ _ _ _ _ h.2 .refl S.ok rfl⟩
    · exact h.elim⟩
theorem od_int0 {g : Int → Int → Int} : OpD X (rI0 fun i j => .int (g i j)) (fInt (fun _ _ => True) fun i j => .int (g i j)) :=
  ⟨fInt_mono, fun S r1 r2 h hQ => by
    unfold fInt at h
    split at h
    · rename_i i j e1 e2
      exact ⟨i, j, r1.int e1, r2.int e2, hQ _ _ _ _ h.2 .refl S.ok rfl⟩
    · exact h.elim⟩
theorem od_cmp0 {g : Int → Int → Bool} : OpD X (rI0 fun i j => .bl (g i j)) (fInt (fun _ _ => True) fun i j => .bl (g i j)) :=
  ⟨fInt_mono, fun S r1 r2 h hQ => by
    unfold fInt at h
    split at h
    · rename_i i j e1 e2
      exact ⟨i, j, r1.int e1, r2.int e2, hQ _ _ _ _ h.2 .refl S.ok rfl⟩
    · exact h.elim⟩
/-! ### + -/
def fAdd : D → D → (D → Prop) → Prop := fun a b Q => match a, b with
  | .int i, .int j => Q (.int (i + j))
  | .str i, .str j => i.length + j.length ≤ sizeLine ∧ Q (.str (i ++ j))
  | .tup xs, .tup ys => xs.length + ys.length ≤ sizeLine ∧ Q (.tup (xs ++ ys))
  | .lst xs, .lst ys => xs.length + ys.length ≤ sizeLine ∧ Q (.lst (xs ++ ys))
  | _, _ => False
abbrev rAddD (K : PySem.W.Frag) : R2 := fun x y H Q => rI0 (fun i j => .int (i + j)) x y H Q ∨ (fun x y H Q => (∃ i j, x = .str i ∧ y = .str j ∧ i.length + j.length ≤ sizeLine ∧ Q (.str (i ++ j)) H) ∨ (fun x y H Q => rCatA K x y H Q ∨ rCat x y H Q) x y H Q) x y H Q
theorem op_addD : OpR X (binaryOp .Add) (rAddD X.K) := op_add.or (op_add_str.or (op_catA.or op_cat))
theorem od_add : OpD X (rAddD X.K) fAdd :=
  ⟨fun a b Q Q' hQ h => by
    unfold fAdd at h ⊢
    split at h
    · exact hQ _ h
    · exact ⟨h.1, hQ _ h.2⟩
    · exact ⟨h.1, hQ _ h.2⟩
    · exact ⟨h.1, hQ _ h.2⟩
    · exact h, fun {G H W σ Γ x y e1 e2 R Q} S r1 r2 h hQ => by
    unfold fAdd at h
    split at h
    · rename_i i j q1 q2
      exact .inl ⟨i, j, r1.int q1, r2.int q2, hQ _ _ _ _ h .refl S.ok rfl⟩
    · rename_i i j q1 q2
      exact .inr (.inl ⟨i, j, r1.str q1, r2.str q2, h.1, hQ _ _ _ _ h.2 .refl S.ok rfl⟩)
    · rename_i xs ys q1 q2
      obtain ⟨a, vs, rfl, f1, l1⟩ := r1.tup q1
      obtain ⟨b, us, rfl, f2, l2⟩ := r2.tup q2
      refine .inr (.inr (.inl ⟨a, b, vs, us, rfl, rfl, f1.sq, f2.sq, by rw [l1.length, l2.length]; exact h.1, fun e => ?_, fun _ e => ?_, fun _ _ p hp => ?_⟩))
      · have z : xs = [] := List.eq_nil_of_length_eq_zero (by rw [← l1.length, e]; rfl)
        exact hQ _ _ _ _ h.2 .refl S.ok (by rw [z]; exact ⟨b, us, rfl, f2, l2⟩)
      · have z : ys = [] := List.eq_nil_of_length_eq_zero (by rw [← l2.length, e]; rfl)
        exact hQ _ _ _ _ h.2 .refl S.ok (by rw [z, List.append_nil]; exact ⟨a, vs, rfl, f1, l1⟩)
      · exact hQ _ _ (G.add p) _ h.2 (Mv.fresh hp) (S.ok.fresh hp) (Rep.newT S.ok hp (l1.app l2) (by rw [List.length_append, l1.length, l2.length]; exact h.1))
    · rename_i xs ys q1 q2
      obtain ⟨a, vs, rfl, f1, l1⟩ := S.seq r1 q1
      obtain ⟨b, us, rfl, f2, l2⟩ := S.seq r2 q2
      exact .inr (.inr (.inr ⟨a, b, vs, us, rfl, rfl, f1, f2, by rw [l1.length, l2.length]; exact h.1, fun p hp => hQ _ _ (G.add p) _ h.2 (Mv.fresh hp) (S.ok.fresh hp) (Rep.newL S.ok hp (l1.app l2) (by rw [List.length_append, l1.length, l2.length]; exact h.1))⟩))
    · exact h.elim⟩
/-! ### == -/
theorem Sta.dp {K : PySem.W.Frag} {G : Gh} {H : Hp} {W : Ws} {σ : L2.St} {Γ : Gs} (S : Sta K G σ H Γ W) {v : V} {e : EV} (r : EVRep K G σ H Γ v e) {n : Nat} (h : fit n (e.r W) = true) : Dp K H v (e.r W).py := by
  cases q : e.r W with
  | lst xs =>
    obtain ⟨a, vs, rfl, f, l⟩ := S.seq r q
    rw [q] at h
    cases n with
    | zero => simp [fit] at h
    | succ n =>
      simp only [D.py]
      exact .lst (SqL.of f) (RepL.dp n xs vs (by simpa [fit] using h) l)
  | _ =>
    rw [q] at h
    exact Rep.dp n _ v h (r.rep q fun _ z => by cases z)
def fEq : D → D → (D → Prop) → Prop := fun a b Q => fit 60 a = true ∧ fit 60 b = true ∧ Q (.bl (deq a b))
def fNe : D → D → (D → Prop) → Prop := fun a b Q => fit 60 a = true ∧ fit 60 b = true ∧ Q (.bl (!deq a b))
theorem od_eq : OpD X (rEqD X.K) fEq :=
  ⟨fun a b Q Q' hQ h => ⟨h.1, h.2.1, hQ _ h.2.2⟩, fun {G H W σ Γ x y e1 e2 R Q} S r1 r2 h hQ =>
    ⟨_, _, S.dp r1 h.1, S.dp r2 h.2.1, fit_shaped h.1 (by decide), fit_shaped h.2.1 (by decide), by rw [deq_py 60 _ _ h.1 h.2.1]; exact hQ _ _ _ _ h.2.2 .refl S.ok rfl⟩⟩
theorem od_ne : OpD X (rNeD X.K) fNe :=
  ⟨fun a b Q Q' hQ h => ⟨h.1, h.2.1, hQ _ h.2.2⟩, fun {G H W σ Γ x y e1 e2 R Q} S r1 r2 h hQ =>
    ⟨_, _, S.dp r1 h.1, S.dp r2 h.2.1, fit_shaped h.1 (by decide), fit_shaped h.2.1 (by decide), by rw [deq_py 60 _ _ h.1 h.2.1]; exact hQ _ _ _ _ h.2.2 .refl S.ok rfl⟩⟩
/-! ### in -/
def rInT (K : PySem.W.Frag) (neg : Bool) : R2 := fun x y H Q => ∃ d ds, Dp K H x d ∧ (Dp K H y (.list ds) ∨ Dp K H y (.tuple ds)) ∧ SeqAt.shaped d = true ∧ SeqAt.shaped (.list ds) = true ∧ Q (.bl (if neg then !(ds.any fun z => PyData.eqv z d) else ds.any fun z => PyData.eqv z d)) H
theorem shaped_lt {ds : List PyData} (h : SeqAt.shaped (.list ds) = true) : SeqAt.shaped (.tuple ds) = true := by
  have h1 := SeqAt.canLay_of_shaped h
  have h2 := SeqAt.depth_of_shaped h
  simp only [PyData.canLay0, PyData.depth] at h1 h2
  show (PyData.canLay0 (.tuple ds) && decide (PyData.depth (.tuple ds) ≤ 64)) = true
  simp only [PyData.canLay0, PyData.depth, h1, Bool.true_and]
  exact decide_eq_true h2
theorem op_inT (hu : X.A.units + 65 < cLine) : OpR X (compareOp .In) (rInT X.K false) := by
  intro pins s σ H x y v u Q I rx ry h
  obtain ⟨d, ds, hd, he, sd, se, q⟩ := h
  obtain ⟨as, r1⟩ := Dp.reads I d x v hd rx
  rcases he with he | he
  · obtain ⟨bs, r2⟩ := Dp.reads I (.list ds) y u he ry
    exact SeqAt.in_list_reads r2 r1 (SeqAt.canLay_of_shaped se) (SeqAt.canLay_of_shaped sd) (room_in_shaped sd hu) ⟨.bl _, H, I, rfl, q⟩
  · obtain ⟨bs, r2⟩ := Dp.reads I (.tuple ds) y u he ry
    exact SeqAt.in_tuple_reads r2 r1 (SeqAt.canLay_of_shaped se) (SeqAt.canLay_of_shaped sd) (room_in_shaped sd hu) ⟨.bl _, H, I, rfl, q⟩
theorem op_notInT (hu : X.A.units + 65 < cLine) : OpR X (compareOp .NotIn) (rInT X.K true) := by
  intro pins s σ H x y v u Q I rx ry h
  obtain ⟨d, ds, hd, he, sd, se, q⟩ := h
  obtain ⟨as, r1⟩ := Dp.reads I d x v hd rx
  rcases he with he | he
  · obtain ⟨bs, r2⟩ := Dp.reads I (.list ds) y u he ry
    exact SeqAt.notIn_list_reads r2 r1 (SeqAt.canLay_of_shaped se) (SeqAt.canLay_of_shaped sd) (room_in_shaped sd hu) ⟨.bl _, H, I, rfl, q⟩
  · obtain ⟨bs, r2⟩ := Dp.reads I (.tuple ds) y u he ry
    exact SeqAt.notIn_tuple_reads r2 r1 (SeqAt.canLay_of_shaped se) (SeqAt.canLay_of_shaped sd) (room_in_shaped sd hu) ⟨.bl _, H, I, rfl, q⟩
theorem pyL_map : ∀ ds : List D, D.pyL ds = ds.map D.py
  | [] => rfl
  | d :: ds => by simp [D.pyL, pyL_map ds]
theorem any_deq {n : Nat} {d : D} (hd : fit n d = true) : ∀ {ds : List D}, fitL n ds = true → ((D.pyL ds).any fun z => PyData.eqv z d.py) = ds.any fun z => deq z d
  | [], _ => rfl
  | e :: ds, h => by
    have h' : fit n e = true ∧ fitL n ds = true := by simpa [fitL] using h
    simp only [D.pyL, List.any_cons, deq_py n e d h'.1 hd, any_deq hd h'.2]
/-- the items of a list or tuple -/
def D.items : D → Option (List D)
  | .lst xs => some xs
  | .tup xs => some xs
  | _ => none
def fIn (neg : Bool) : D → D → (D → Prop) → Prop := fun a b Q => match b with
  | .lst xs => fit 59 a = true ∧ xs.all (fit 59) = true ∧ Q (.bl (if neg then !(xs.any fun z => deq z a) else xs.any fun z => deq z a))
  | .tup xs => fit 59 a = true ∧ xs.all (fit 59) = true ∧ Q (.bl (if neg then !(xs.any fun z => deq z a) else xs.any fun z => deq z a))
  | _ => False
theorem fIn_mono {neg : Bool} : ∀ a b Q Q', (∀ d, Q d → Q' d) → fIn neg a b Q → fIn neg a b Q' := fun a b Q Q' hQ h => by
  unfold fIn at h ⊢
  split at h
  · exact ⟨h.1, h.2.1, hQ _ h.2.2⟩
  · exact ⟨h.1, h.2.1, hQ _ h.2.2⟩
  · exact h
theorem od_in {neg : Bool} : OpD X (rInT X.K neg) (fIn neg) :=
  ⟨fIn_mono, fun {G H W σ Γ x y e1 e2 R Q} S r1 r2 h hQ => by
    unfold fIn at h
    split at h
    · rename_i xs q
      have hf : fit 60 (e2.r W) = true := by rw [q, fit_lst]; exact h.2.1
      have z := S.dp r2 hf
      have z2 := fit_shaped hf (by decide)
      rw [q] at z z2
      simp only [D.py] at z z2
      refine ⟨_, _, S.dp r1 h.1, .inl z, fit_shaped h.1 (by decide), z2, ?_⟩
      rw [any_deq h.1 (by rw [fitL_all]; exact h.2.1)]
      exact hQ _ _ _ _ h.2.2 .refl S.ok rfl
    · rename_i xs q
      have hf : fit 60 (e2.r W) = true := by rw [q, fit_tup]; exact h.2.1
      have z := S.dp r2 hf
      have z2 := fit_shaped (d := .lst xs) (n := 60) (by rw [fit_lst]; exact h.2.1) (by decide)
      rw [q] at z
      simp only [D.py] at z z2
      refine ⟨_, _, S.dp r1 h.1, .inr z, fit_shaped h.1 (by decide), z2, ?_⟩
      rw [any_deq h.1 (by rw [fitL_all]; exact h.2.1)]
      exact hQ _ _ _ _ h.2.2 .refl S.ok rfl
    · exact h.elim⟩
end
end DL

set_option Elab.async false
set_option linter.all false
set_option maxRecDepth 100000
/-! DatE: subscripts, slices, calls of built-ins. -/
namespace DL
open PySem PySem.Spec PyProof.Rows L2
section
variable {K : PySem.W.Frag} {G : Gh} {H : Hp}
theorem RepL.atI {ds : List D} {vs : List V} {i : Int} {d : D} (r : RepL K G H vs ds) (h : L2.atI ds i = some d) : ∃ v, L2.atI vs i = some v ∧ Rep K G H v d := by
  unfold L2.atI at h ⊢
  rw [← r.length] at h
  cases q : ixN vs.length i with
  | none => rw [q] at h; cases h
  | some j =>
    rw [q] at h
    obtain ⟨v, e, rv⟩ := r.get (i := j) (d := d) h
    exact ⟨v, e, rv⟩
/-- xs[lo:hi] -/
def cutL {α : Type} (xs : List α) (lo hi : Option Int) : List α := (xs.drop (HT.sIx xs.length 0 lo)).take (HT.sIx xs.length xs.length hi - HT.sIx xs.length 0 lo)
theorem RepL.cut {ds : List D} {vs : List V} (lo hi : Option Int) (r : RepL K G H vs ds) : RepL K G H (cutV vs lo hi) (cutL ds lo hi) := by
  unfold cutV cutL
  rw [r.length]
  exact RepL.take _ (RepL.drop _ r)
end
section
variable {X : Cx} {EX : WX} {pos : Pos}
/-! ### o[i] -/
def fIx : D → D → (D → Prop) → Prop := fun a b Q => match a, b with
  | .lst xs, .int i => ∃ d, L2.atI xs i = some d ∧ Q d
  | .tup xs, .int i => ∃ d, L2.atI xs i = some d ∧ Q d
  | .scr ns, .int i => ∃ n, L2.atI ns i = some n ∧ Q (.int n)
  | .str z, .int i => z.length ≤ sizeLine ∧ ∃ c, L2.atI z.cps.toList i = some c ∧ Q (.str ⟨#[c]⟩)
  | _, _ => False
theorem atI_map {α β : Type} (f : α → β) (xs : List α) (i : Int) : L2.atI (xs.map f) i = (L2.atI xs i).map f := by
  unfold L2.atI
  rw [List.length_map]
  cases ixN xs.length i with
  | none => rfl
  | some j => simp
theorem od_ix : OpD X (rIx X.K) fIx :=
  ⟨fun a b Q Q' hQ h => by
    unfold fIx at h ⊢
    split at h
    · obtain ⟨d, e, q⟩ := h; exact ⟨d, e, hQ _ q⟩
    · obtain ⟨d, e, q⟩ := h; exact ⟨d, e, hQ _ q⟩
    · obtain ⟨d, e, q⟩ := h; exact ⟨d, e, hQ _ q⟩
    · obtain ⟨z, d, e, q⟩ := h; exact ⟨z, d, e, hQ _ q⟩
    · exact h, fun {G H W σ Γ x y e1 e2 R Q} S r1 r2 h hQ => by
    unfold fIx at h
    split at h
    · rename_i xs i q1 q2
      obtain ⟨d, e, q⟩ := h
      obtain ⟨a, vs, rfl, f, l⟩ := S.seq r1 q1
      obtain ⟨v, e', rv⟩ := l.atI e
      exact .inl ⟨a, vs, i, v, rfl, r2.int q2, SqL.of f, e', hQ _ _ _ _ q .refl S.ok rv⟩
    · rename_i xs i q1 q2
      obtain ⟨d, e, q⟩ := h
      obtain ⟨a, vs, rfl, f, l⟩ := r1.tup q1
      obtain ⟨v, e', rv⟩ := l.atI e
      exact .inr (.inl ⟨a, vs, i, v, rfl, r2.int q2, f.sq, e', hQ _ _ _ _ q .refl S.ok rv⟩)
    · rename_i ns i q1 q2
      obtain ⟨n, e, q⟩ := h
      obtain ⟨a, rfl, f, _⟩ := r1.rep q1 fun _ z => by cases z
      have l := f.sq
      exact .inl ⟨a, _, i, .int n, rfl, r2.int q2, l, by rw [atI_map, e]; rfl, hQ _ _ _ _ q .refl S.ok rfl⟩
    · rename_i z i q1 q2
      obtain ⟨hz, c, e, q⟩ := h
      exact .inr (.inr ⟨z, i, c, r1.str q1, r2.int q2, hz, e, hQ _ _ _ _ q .refl S.ok rfl⟩)
    · exact h.elim⟩
theorem de_ix {a b : Expr} {ta tb : TD} (ha : DE X EX a ta) (hb : DE X EX b tb) (hs : PlainIx b := by exact fun _ _ => rfl) : DE X EX (.Subscript a b pos) (dOp fIx ta tb) :=
  ⟨dOp_mono (od_ix (X := X)).mono ha.mono hb.mono, PE.imp (pe_ix ix_seq ha.pe hb.pe hs) (dOp_go od_ix ha hb)⟩
/-! ### o[lo:hi] -/
abbrev TDO := XD → Gs → Ws → (Option Int → Ws → Prop) → Prop
def liftO (K : PySem.W.Frag) (EX : WX) (t : TDO) : TO := fun σ H Q => ∃ G Γ W E, Stx K EX E G σ H Γ W ∧ t E Γ W fun o W' => ∀ G' H', Mv G H G' H' → Ok K G' H' W' → Q o H'
structure DO (X : Cx) (EX : WX) (e : Option Expr) (t : TDO) : Prop where
  mono : MonoE t
  po : PO X e (liftO X.K EX t)
theorem PO.imp {X : Cx} {e : Option Expr} {t t' : TO} (h : PO X e t) (i : ∀ σ H Q, t' σ H Q → t σ H Q) : PO X e t' := ⟨fun pins s σ H Q I q => h.run pins s σ H Q I (i σ H Q q)⟩
def dNoPart : TDO := fun _ _ W Q => Q none W
def dPart (t : TD) : TDO := fun E Γ W Q => t E Γ W fun e W' => match e with
  | .val (.int i) => Q (some i) W'
  | _ => False
theorem do_none : DO X EX none dNoPart := ⟨fun _ _ _ _ _ _ hE hQ h => hQ _ _ h, PO.imp po_none fun σ H Q h => by
  obtain ⟨G, Γ, W, E, S, h⟩ := h
  exact h G H .refl S.ok⟩
theorem do_some {e : Expr} {t : TD} (h : DE X EX e t) : DO X EX (some e) (dPart t) := ⟨fun E E' Γ W Q Q' hE hQ q => h.mono _ _ _ _ _ _ hE (fun e W' q => by
    split at q
    · exact hQ _ _ q
    · exact q) q, PO.imp (po_some h.pe) fun σ H Q q => by
  obtain ⟨G, Γ, W, E, S, q⟩ := q
  refine liftE.go h.mono S q fun e W1 v G1 H1 q m1 S1 r1 => ?_
  split at q
  · rename_i i
    exact ⟨i, r1, q G1 H1 m1 S1.ok⟩
  · exact q.elim⟩
def fSl : D → Option Int → Option Int → (D → Prop) → Prop := fun a lo hi Q => match a with
  | .lst xs => Q (.lst (cutL xs lo hi))
  | .tup xs => Q (.tup (cutL xs lo hi))
  | .scr ns => Q (.lst ((cutL ns lo hi).map .int))
  | _ => False
theorem fSl_mono (a : D) (lo hi : Option Int) (Q Q' : D → Prop) (hQ : ∀ d, Q d → Q' d) (h : fSl a lo hi Q) : fSl a lo hi Q' := by
  unfold fSl at h ⊢
  split at h <;> first | exact hQ _ h | exact h
theorem cutL_map {α β : Type} (f : α → β) (xs : List α) (lo hi : Option Int) : (cutL xs lo hi).map f = cutL (xs.map f) lo hi := by
  unfold cutL
  rw [List.length_map, List.map_take, List.map_drop]
def dSl (te : TD) (tl th : TDO) : TD := fun E Γ W Q => te E Γ W fun e W1 => tl E Γ W1 fun lo W2 => th E Γ W2 fun hi W3 => fSl (e.r W3) lo hi fun d => Q (.val d) W3
theorem repI {K : PySem.W.Frag} {G : Gh} {H : Hp} : ∀ ns : List Int, RepL K G H (ns.map V.int) (ns.map D.int)
  | [] => rfl
  | n :: ns => RepL.cons rfl (repI ns)
theorem de_sl {e : Expr} {lo hi : Option Expr} {p2 : Pos} {te : TD} {tl th : TDO} (he : DE X EX e te) (hl : DO X EX lo tl) (hh : DO X EX hi th) : DE X EX (.Subscript e (.Slice lo hi none p2) pos) (dSl te tl th) :=
  ⟨fun E E' Γ W Q Q' hE hQ q => he.mono _ _ _ _ _ _ hE (fun e W1 q => hl.mono _ _ _ _ _ _ hE (fun lo W2 q => hh.mono _ _ _ _ _ _ hE (fun hi W3 q => fSl_mono _ _ _ _ _ (fun d q => hQ _ _ q) q) q) q) q,
   PE.imp (pe_slice (sl_list.or sl_tupA) he.pe hl.po hh.po) fun σ H Q q => by
  obtain ⟨G, Γ, W, E, S, q⟩ := q
  refine liftE.go he.mono S q fun e W1 v G1 H1 q m1 S1 r1 => ?_
  refine ⟨G1, Γ, W1, E, S1, hl.mono _ _ _ _ _ _ (fun _ _ _ h => h) (fun lo W2 q G2 H2 m2 k2 => ?_) q⟩
  have S2 := S1.mv m2 k2
  refine ⟨G2, Γ, W2, E, S2, hh.mono _ _ _ _ _ _ (fun _ _ _ h => h) (fun hi W3 q G3 H3 m3 k3 => ?_) q⟩
  have S3 := S2.mv m3 k3
  have r3 := (r1.mv m2 S1.ok).mv m3 S2.ok
  have m := (m1.trans m2).trans m3
  unfold fSl at q
  split at q
  · rename_i xs q1
    have z := S3.toSta.len_of r3 q1
    obtain ⟨a, vs, rfl, f, l⟩ := S3.toSta.seq r3 q1
    exact .inl ⟨a, vs, rfl, SqL.of f, fun p hp => q (.ref p) (G3.add p) _ (m.trans (Mv.fresh hp)) (k3.fresh hp) (Rep.newL k3 hp (l.cut lo hi) (Nat.le_trans (cutV_length _ _ _) (by rw [l.length]; exact z)))⟩
  · rename_i xs q1
    obtain ⟨a, vs, rfl, f, l⟩ := r3.tup q1
    refine .inr ⟨a, vs, rfl, f.sq, fun hw => ?_, fun hw p hp => q (.ref p) (G3.add p) _ (m.trans (Mv.fresh hp)) (k3.fresh hp) (Rep.newT k3 hp (l.cut lo hi) (Nat.le_trans (cutV_length _ _ _) f.len))⟩
    have z : cutL xs lo hi = xs := by
      unfold cutL
      rw [l.length] at hw
      rw [hw.1, hw.2]
      simp
    rw [z] at q
    exact q (.ref a) G3 H3 m k3 ⟨a, vs, rfl, f, l⟩
  · rename_i ns q1
    obtain ⟨a, rfl, f, z⟩ := r3.rep q1 fun _ z => by cases z
    have l := f.sq
    refine .inl ⟨a, _, rfl, l, fun p hp => q (.ref p) (G3.add p) _ (m.trans (Mv.fresh hp)) (k3.fresh hp) (Rep.newL k3 hp ?_ (Nat.le_trans (cutV_length _ _ _) (by rw [List.length_map]; exact z)))⟩
    rw [cutL_map]
    exact (repI ns).cut lo hi
  · exact q.elim⟩
/-! ### calls of built-ins -/
structure CallD (X : Cx) (r : List V → Hp → VK → Prop) (f : List D → (D → Prop) → Prop) : Prop where
  mono : ∀ a Q Q', (∀ d, Q d → Q' d) → f a Q → f a Q'
  go : ∀ {G H W σ Γ vs es R Q}, Sta X.K G σ H Γ W → EVRepL X.K G σ H Γ vs es → f (es.map (EV.r W)) R → (∀ d v G' H', R d → Mv G H G' H' → Ok X.K G' H' W → Rep X.K G' H' v d → Q v H') → r vs H Q
def dCall (f : List D → (D → Prop) → Prop) (t : TDA) : TD := fun E Γ W Q => t E Γ W fun es W' => f (es.map (EV.r W')) fun d => Q (.val d) W'
theorem dCall_mono {f : List D → (D → Prop) → Prop} (hf : ∀ a Q Q', (∀ d, Q d → Q' d) → f a Q → f a Q') {t : TDA} (h : MonoE t) : MonoE (dCall f t) := fun E E' Γ W Q Q' hE hQ q => h _ _ _ _ _ _ hE (fun es W' q => hf _ _ _ (fun d q => hQ _ _ q) q) q
theorem dCall_go {r : List V → Hp → VK → Prop} {f : List D → (D → Prop) → Prop} {es : List Expr} {t : TDA} (o : CallD X r f) (h : DA X EX es t) : ∀ σ H Q, liftE X.K EX (dCall f t) σ H Q → tCB r (liftA X.K EX t) σ H Q := fun σ H Q q => by
  obtain ⟨G, Γ, W, E, S, q⟩ := q
  refine liftA.go h.mono S q fun es W1 vs G1 H1 q m1 S1 r1 => ?_
  exact o.go S1.toSta r1 q fun d v G2 H2 q m2 k2 rv => q v G2 H2 (m1.trans m2) k2 rv
theorem de_callB {id : String} {x : Str} {p : Pos} {e : Expr} {es : List Expr} {r : List V → Hp → VK → Prop} {f : List D → (D → Prop) → Prop} {t : TDA} (hc : CallR X (.builtin id) r) (o : CallD X r f) (hg : Gl X x) (hm : X.mg x = none) (hv : bootBuiltins x = some (.builtin id))
    (ha : DA X EX (e :: es) t) (hn : x ≠ "__name__" := by decide) (hdb : (x == ("__debug__" : Str)) = false := by decide)
    (he : starEach (e :: es) X.env = (false, eval e X.env) :: starEach es X.env := by rfl) (hpl : (backTo pos (starEach es X.env)).any (·.1) = false := by rfl) : DE X EX (.Call (.Name x p) (e :: es) [] pos) (dCall f t) :=
  ⟨dCall_mono o.mono ha.mono, PE.imp (pe_callB hc hg hm hv ha.pa hn hdb he hpl) (dCall_go o ha)⟩
theorem de_callTy {T : String} {x : Str} {p : Pos} {e : Expr} {es : List Expr} {r : List V → Hp → VK → Prop} {f : List D → (D → Prop) → Prop} {t : TDA} (hc : CallR X (.type T) r) (o : CallD X r f) (hg : Gl X x) (hm : X.mg x = none) (hv : bootBuiltins x = some (.type T))
    (ha : DA X EX (e :: es) t) (hn : x ≠ "__name__" := by decide) (hdb : (x == ("__debug__" : Str)) = false := by decide)
    (he : starEach (e :: es) X.env = (false, eval e X.env) :: starEach es X.env := by rfl) (hpl : (backTo pos (starEach es X.env)).any (·.1) = false := by rfl) : DE X EX (.Call (.Name x p) (e :: es) [] pos) (dCall f t) :=
  ⟨dCall_mono o.mono ha.mono, PE.imp (pe_callTy hc hg hm hv ha.pa hn hdb he hpl) (dCall_go o ha)⟩
/-- one argument's value -/
theorem EVRepL.one {K : PySem.W.Frag} {G : Gh} {H : Hp} {σ : L2.St} {Γ : Gs} {W : Ws} {vs : List V} {es : List EV} {d : D} (r : EVRepL K G σ H Γ vs es) (h : es.map (EV.r W) = [d]) : ∃ v e, vs = [v] ∧ es = [e] ∧ e.r W = d ∧ EVRep K G σ H Γ v e := by
  match es, h with
  | [e], h =>
    obtain ⟨v, t, e1, h1, h2⟩ := r
    have : t = [] := h2
    subst this
    exact ⟨v, e, e1, rfl, by simpa using h, h1⟩
theorem EVRepL.two {K : PySem.W.Frag} {G : Gh} {H : Hp} {σ : L2.St} {Γ : Gs} {W : Ws} {vs : List V} {es : List EV} {d d' : D} (r : EVRepL K G σ H Γ vs es) (h : es.map (EV.r W) = [d, d']) :
    ∃ v v' e e', vs = [v, v'] ∧ es = [e, e'] ∧ e.r W = d ∧ e'.r W = d' ∧ EVRep K G σ H Γ v e ∧ EVRep K G σ H Γ v' e' := by
  match es, h with
  | [e, e'], h =>
    obtain ⟨v, t, e1, h1, h2⟩ := r
    obtain ⟨v', t', e2, h3, h4⟩ := h2
    have : t' = [] := h4
    subst this
    subst e2
    simp only [List.map_cons, List.map_nil, List.cons.injEq, and_true] at h
    exact ⟨v, v', e, e', e1, rfl, h.1, h.2, h1, h3⟩
def fLen : List D → (D → Prop) → Prop := fun l Q => match l with
  | [.lst xs] => Q (.int xs.length)
  | [.tup xs] => Q (.int xs.length)
  | [.scr ns] => Q (.int ns.length)
  | [.str z] => z.length ≤ sizeLine ∧ Q (.int z.length)
  | _ => False
theorem cd_len : CallD X (fun xs H Q => ∃ x n, xs = [x] ∧ LenV X.K x H n ∧ Q (.int n) H) fLen :=
  ⟨fun a Q Q' hQ h => by
    unfold fLen at h ⊢
    split at h
    · exact hQ _ h
    · exact hQ _ h
    · exact hQ _ h
    · exact ⟨h.1, hQ _ h.2⟩
    · exact h, fun {G H W σ Γ vs es R Q} S r h hQ => by
    unfold fLen at h
    split at h
    · rename_i xs q1
      obtain ⟨v, e, rfl, rfl, q, r1⟩ := r.one q1
      obtain ⟨a, us, rfl, f, l⟩ := S.seq r1 q
      exact ⟨.ref a, xs.length, rfl, .inl ⟨us, SqL.of f, l.length.symm⟩, hQ _ _ _ _ h .refl S.ok rfl⟩
    · rename_i xs q1
      obtain ⟨v, e, rfl, rfl, q, r1⟩ := r.one q1
      obtain ⟨a, us, rfl, f, l⟩ := r1.tup q
      exact ⟨.ref a, xs.length, rfl, .inr ⟨us, f.sq, l.length.symm⟩, hQ _ _ _ _ h .refl S.ok rfl⟩
    · rename_i ns q1
      obtain ⟨v, e, rfl, rfl, q, r1⟩ := r.one q1
      obtain ⟨a, rfl, f, _⟩ := r1.rep q fun _ z => by cases z
      have l := f.sq
      exact ⟨.ref a, ns.length, rfl, .inl ⟨_, l, by rw [List.length_map]⟩, hQ _ _ _ _ h .refl S.ok rfl⟩
    · rename_i z q1
      obtain ⟨v, e, rfl, rfl, q, r1⟩ := r.one q1
      exact ⟨.str z, z.length, by rw [r1.str q], ⟨h.1, rfl⟩, hQ _ _ _ _ h.2 .refl S.ok rfl⟩
    · exact h.elim⟩
def fTuple : List D → (D → Prop) → Prop := fun l Q => match l with
  | [.lst xs] => Q (.tup xs)
  | [.tup xs] => Q (.tup xs)
  | _ => False
theorem cd_tuple : CallD X (fun xs H Q => ∃ p ys, xs = [.ref p] ∧ ((SqL X.K H p ys ∧ ∀ l, H l = none → Q (.ref l) (upd H l (.tup ys))) ∨ (SqT X.K H p ys ∧ Q (.ref p) H))) fTuple :=
  ⟨fun a Q Q' hQ h => by
    unfold fTuple at h ⊢
    split at h
    · exact hQ _ h
    · exact hQ _ h
    · exact h, fun {G H W σ Γ vs es R Q} S r h hQ => by
    unfold fTuple at h
    split at h
    · rename_i xs q1
      obtain ⟨v, e, rfl, rfl, q, r1⟩ := r.one q1
      have z := S.len_of r1 q
      obtain ⟨a, us, rfl, f, l⟩ := S.seq r1 q
      exact ⟨a, us, rfl, .inl ⟨SqL.of f, fun p hp => hQ _ _ (G.add p) _ h (Mv.fresh hp) (S.ok.fresh hp) (Rep.newT S.ok hp l (by rw [l.length]; exact z))⟩⟩
    · rename_i xs q1
      obtain ⟨v, e, rfl, rfl, q, r1⟩ := r.one q1
      obtain ⟨a, us, rfl, f, l⟩ := r1.tup q
      exact ⟨a, us, rfl, .inr ⟨f.sq, hQ _ _ _ _ h .refl S.ok ⟨a, us, rfl, f, l⟩⟩⟩
    · exact h.elim⟩
def fIntC : List D → (D → Prop) → Prop := fun l Q => match l with
  | [.int i] => Q (.int i)
  | [.bl k] => Q (.int (if k then 1 else 0))
  | _ => False
theorem cd_int : CallD X (fun xs H Q => (∃ i, xs = [.int i] ∧ Q (.int i) H) ∨ ∃ k, xs = [.bl k] ∧ Q (.int (if k then 1 else 0)) H) fIntC :=
  ⟨fun a Q Q' hQ h => by
    unfold fIntC at h ⊢
    split at h
    · exact hQ _ h
    · exact hQ _ h
    · exact h, fun {G H W σ Γ vs es R Q} S r h hQ => by
    unfold fIntC at h
    split at h
    · rename_i i q1
      obtain ⟨v, e, rfl, rfl, q, r1⟩ := r.one q1
      exact .inl ⟨i, by rw [r1.int q], hQ _ _ _ _ h .refl S.ok rfl⟩
    · rename_i k q1
      obtain ⟨v, e, rfl, rfl, q, r1⟩ := r.one q1
      exact .inr ⟨k, by rw [r1.bl q], hQ _ _ _ _ h .refl S.ok rfl⟩
    · exact h.elim⟩
def fAbs : List D → (D → Prop) → Prop := fun l Q => match l with
  | [.int i] => Q (.int (if i < 0 then -i else i))
  | _ => False
theorem cd_abs : CallD X (fun xs H Q => ∃ i, xs = [.int i] ∧ Q (.int (if i < 0 then -i else i)) H) fAbs :=
  ⟨fun a Q Q' hQ h => by
    unfold fAbs at h ⊢
    split at h
    · exact hQ _ h
    · exact h, fun {G H W σ Γ vs es R Q} S r h hQ => by
    unfold fAbs at h
    split at h
    · rename_i i q1
      obtain ⟨v, e, rfl, rfl, q, r1⟩ := r.one q1
      exact ⟨i, by rw [r1.int q], hQ _ _ _ _ h .refl S.ok rfl⟩
    · exact h.elim⟩
/-! any, all of a list of bools -/
def isBl : D → Bool
  | .bl _ => true
  | _ => false
def isTr : D → Bool
  | .bl b => b
  | _ => false
theorem bls {K : PySem.W.Frag} {G : Gh} {H : Hp} : ∀ {ds : List D} {vs : List V}, RepL K G H vs ds → ds.all isBl = true → vs = (ds.map isTr).map V.bl
  | [], vs, h, _ => h
  | d :: ds, vs, h, g => by
    obtain ⟨v, r, e, h1, h2⟩ := h
    rw [List.all_cons, Bool.and_eq_true] at g
    cases d with
    | bl b =>
      have e1 : v = .bl b := h1
      rw [e, e1, bls h2 g.2]
      rfl
    | _ => cases g.1
def fAny : List D → (D → Prop) → Prop := fun l Q => match l with
  | [.lst xs] => xs.all isBl = true ∧ Q (.bl (xs.any isTr))
  | _ => False
def fAll : List D → (D → Prop) → Prop := fun l Q => match l with
  | [.lst xs] => xs.all isBl = true ∧ Q (.bl (xs.all isTr))
  | _ => False
theorem cd_any : CallD X (rAny X.K) fAny :=
  ⟨fun a Q Q' hQ h => by
    unfold fAny at h ⊢
    split at h
    · exact ⟨h.1, hQ _ h.2⟩
    · exact h, fun {G H W σ Γ vs es R Q} S r h hQ => by
    unfold fAny at h
    split at h
    · rename_i xs q1
      obtain ⟨v, e, rfl, rfl, q, r1⟩ := r.one q1
      obtain ⟨a, us, rfl, f, l⟩ := S.seq r1 q
      have e := bls l h.1
      refine ⟨a, xs.map isTr, rfl, by rw [← e]; exact SqL.of f, ?_⟩
      rw [List.any_map]
      exact hQ _ _ _ _ h.2 .refl S.ok rfl
    · exact h.elim⟩
theorem cd_all : CallD X (rAll X.K) fAll :=
  ⟨fun a Q Q' hQ h => by
    unfold fAll at h ⊢
    split at h
    · exact ⟨h.1, hQ _ h.2⟩
    · exact h, fun {G H W σ Γ vs es R Q} S r h hQ => by
    unfold fAll at h
    split at h
    · rename_i xs q1
      obtain ⟨v, e, rfl, rfl, q, r1⟩ := r.one q1
      obtain ⟨a, us, rfl, f, l⟩ := S.seq r1 q
      have e := bls l h.1
      refine ⟨a, xs.map isTr, rfl, by rw [← e]; exact SqL.of f, ?_⟩
      rw [List.all_map]
      exact hQ _ _ _ _ h.2 .refl S.ok rfl
    · exact h.elim⟩
/-! isinstance of data -/
def tyn : D → Option String
  | .non => some "NoneType"
  | .bl _ => some "bool"
  | .int _ => some "int"
  | .str _ => some "str"
  | .tup _ => some "tuple"
  | .lst _ => some "list"
  | .scr _ => some "list"
  | _ => none
theorem Sta.ty {K : PySem.W.Frag} {G : Gh} {H : Hp} {W : Ws} {σ : L2.St} {Γ : Gs} (S : Sta K G σ H Γ W) {v : V} {e : EV} (r : EVRep K G σ H Γ v e) {t : String} (h : tyn (e.r W) = some t) : TyX K H v (.type t) := by
  cases q : e.r W with
  | non => rw [q] at h; cases h; rw [r.non q]; exact .base .non
  | bl b => rw [q] at h; cases h; rw [r.bl q]; exact .base (.bl b)
  | int b => rw [q] at h; cases h; rw [r.int q]; exact .base (.int b)
  | str b => rw [q] at h; cases h; rw [r.str q]; exact .base (.str b)
  | tup xs =>
    rw [q] at h; cases h
    obtain ⟨a, vs, rfl, f, l⟩ := r.tup q
    rcases f with ⟨_, f, _⟩ | ⟨o, its, n, k, c, _⟩
    · exact .base (.tup f)
    · exact .kTuple k c
  | lst xs =>
    rw [q] at h; cases h
    obtain ⟨a, vs, rfl, f, l⟩ := S.seq r q
    exact .base (.lst f)
  | scr ns =>
    rw [q] at h; cases h
    obtain ⟨a, rfl, f, _⟩ := r.rep q fun _ z => by cases z
    have l := f.sq
    rcases l with (l | ⟨o, l⟩) | ⟨o, its, n, k, c, _⟩
    · exact .base (.lst l)
    · exact .base (.frz l)
    · exact .kList k c
  | _ => rw [q] at h; cases h
/-- which of the simple types is which -/
def isiT (t n : String) : Bool := t == n || (t == "bool" && n == "int")
def tyNames : List String := ["NoneType", "bool", "int", "str", "tuple", "list"]
theorem kit_all : (tyNames.all fun t => tyNames.all fun n => decide (kitB t n = some (isiT t n))) = true := by decide +kernel
theorem kit_of_names {t n : String} (ht : t ∈ tyNames) (hn : n ∈ tyNames) : kitB t n = some (isiT t n) := by
  have h := List.all_eq_true.mp kit_all t ht
  exact of_decide_eq_true (List.all_eq_true.mp h n hn)
theorem tyn_mem {d : D} {t : String} (h : tyn d = some t) : t ∈ tyNames := by
  cases d <;> simp [tyn] at h <;> subst h <;> decide
def fIsi : List D → (D → Prop) → Prop := fun l Q => match l with
  | [d, .ty n] => match tyn d with
    | some t => n ∈ tyNames ∧ Q (.bl (isiT t n))
    | none => False
  | [d, .tup [.ty n, .ty n']] => match tyn d with
    | some t => n ∈ tyNames ∧ n' ∈ tyNames ∧ Q (.bl (isiT t n || isiT t n'))
    | none => False
  | _ => False
theorem call_isiD : CallR X (.builtin "isinstance") (fun xs H Q => rIsi X.K xs H Q ∨ (fun xs H Q => rIsiT X.K xs H Q ∨ rIsiK X.K xs H Q) xs H Q) := call_isi.or (call_isiT.or call_isiK)
theorem cd_isi : CallD X (fun xs H Q => rIsi X.K xs H Q ∨ (fun xs H Q => rIsiT X.K xs H Q ∨ rIsiK X.K xs H Q) xs H Q) fIsi :=
  ⟨fun a Q Q' hQ h => by
    unfold fIsi at h ⊢
    split at h
    · split at h
      · exact ⟨h.1, hQ _ h.2⟩
      · exact h
    · split at h
      · exact ⟨h.1, h.2.1, hQ _ h.2.2⟩
      · exact h
    · exact h, fun {G H W σ Γ vs es R Q} S r h hQ => by
    unfold fIsi at h
    split at h
    · rename_i d n q1
      split at h
      · rename_i t ht
        obtain ⟨v, v', e, e', rfl, rfl, qa, qb, r1, r2⟩ := r.two q1
        have e2 : v' = .ty n := r2.rep qb fun _ z => by cases z
        have T := S.ty r1 (by rw [qa]; exact ht)
        exact .inl ⟨v, .ty n, .type t, .type n, _, by rw [e2], .ty n, T, kit_ty (kit_of_names (tyn_mem ht) h.1), hQ _ _ _ _ h.2 .refl S.ok rfl⟩
      · exact h.elim
    · rename_i d n n' q1
      split at h
      · rename_i t ht
        obtain ⟨v, v', e, e', rfl, rfl, qa, qb, r1, r2⟩ := r.two q1
        obtain ⟨a, us, rfl, f, l⟩ := r2.tup qb
        have T := S.ty r1 (by rw [qa]; exact ht)
        obtain ⟨u1, t1, z1, z2, z3⟩ := l
        obtain ⟨u2, t2, z4, z5, z6⟩ := z3
        have z7 : t2 = [] := z6
        subst z1 z4 z7
        have z8 : u1 = .ty n := z2
        have z9 : u2 = .ty n' := z5
        subst z8 z9
        have kA : PySem.W.kitAny X.K (.type t) [.type n, .type n'] = some (isiT t n || isiT t n') := by
          refine kitAny_cons (kit_ty (kit_of_names (tyn_mem ht) h.1)) (fun q => ?_) (fun q => ?_)
          · rw [q, Bool.false_or]
            exact kitAny_cons (kit_ty (kit_of_names (tyn_mem ht) h.2.1)) (fun q => by rw [q]; exact kitAny_nil) fun q => q
          · rw [q, Bool.true_or]
        rcases f with ⟨_, f, _⟩ | ⟨⟨oc, od, odt, osl⟩, its, m, k, c, d1, d2, d3⟩
        · exact .inr (.inl ⟨v, a, [.ty n, .ty n'], .type t, [.type n, .type n'], _, rfl, f, .cons (.ty n) (.cons (.ty n') .nil), T, kA, hQ _ _ _ _ h.2.2 .refl S.ok rfl⟩)
        · have e1 : oc = .type "tuple" := c
          have e2 : odt = .seq its m := d1
          have e3 : its.toList = [.type n, .type n'] := by
            obtain ⟨w1, w2, e3, q1, q2⟩ := vals2 d3
            have z1 : w1 = .type n := q1
            have z2 : w2 = .type n' := q2
            rw [e3, z1, z2]
          have e4 : its = [Value.type n, Value.type n'].toArray := by rw [← e3]
          subst e1 e2 e4
          exact .inr (.inr ⟨v, a, od, [.type n, .type n'], m, osl, .type t, _, rfl, k, T, kA, hQ _ _ _ _ h.2.2 .refl S.ok rfl⟩)
      · exact h.elim
    · exact h.elim⟩
end
end DL

set_option Elab.async false
set_option linter.all false
set_option maxRecDepth 100000
/-! DatF: targets, what is walked, list comprehensions. -/
namespace DL
open PySem PySem.Spec PyProof.Rows L2

/-! ### what is kept by everything: frozen things, tokens' places -/
structure Keep (G : Gh) (H : Hp) (G' : Gh) (H' : Hp) : Prop where
  f1 : ∀ a, G.F a → G'.F a
  kf : ∀ a, G.F a → H' a = H a
  r1 : ∃ more, G'.ρ = G.ρ ++ more
section
variable {K : PySem.W.Frag} {G G' G'' : Gh} {H H' H'' : Hp} {W W' W'' : Ws} {σ σ' : L2.St} {Γ Γ' : Gs}
theorem Keep.refl : Keep G H G H := ⟨fun _ h => h, fun _ _ => rfl, [], by simp⟩
theorem Keep.trans (k : Keep G H G' H') (k' : Keep G' H' G'' H'') : Keep G H G'' H'' := by
  obtain ⟨m1, e1⟩ := k.r1
  obtain ⟨m2, e2⟩ := k'.r1
  exact ⟨fun a h => k'.f1 a (k.f1 a h), fun a h => (k'.kf a (k.f1 a h)).trans (k.kf a h), m1 ++ m2, by rw [e2, e1, List.append_assoc]⟩
theorem Mv.keep (m : Mv G H G' H') (k : Ok K G H W) : Keep G H G' H' := by
  obtain ⟨more, e, _⟩ := m.r1
  refine ⟨m.f1, fun a h => ?_, more, e⟩
  cases q : H a with
  | none => exact absurd q (k.fok a h)
  | some o => exact m.sm a o q fun z => k.nf a z h
theorem Keep.sql {a : Addr} {vs : List V} (m : Keep G H G' H') (hf : G.F a) (h : SqL K H a vs) : SqL K H' a vs := by
  rcases h with (h | ⟨o, h⟩) | h
  · exact .inl (.inl ((m.kf a hf).trans h))
  · exact .inl (.inr ⟨o, (m.kf a hf).trans h⟩)
  · exact .inr h
theorem FzL.keep {a : Addr} {vs : List V} (m : Keep G H G' H') (h : FzL G H a vs) : FzL G' H' a vs := ⟨m.f1 a h.1, (m.kf a h.1).trans h.2.1, h.2.2⟩
theorem FzS.keep {a : Addr} {vs : List V} (m : Keep G H G' H') (h : FzS K G H a vs) : FzS K G' H' a vs := by
  rcases h with ⟨f, h⟩ | h
  · refine .inl ⟨m.f1 a f, ?_⟩
    rcases h with h | ⟨o, h⟩
    · exact .inl ((m.kf a f).trans h)
    · exact .inr ⟨o, (m.kf a f).trans h⟩
  · exact .inr h
theorem FzT.keep {a : Addr} {vs : List V} (m : Keep G H G' H') (h : FzT K G H a vs) : FzT K G' H' a vs :=
  h.elim (fun h => .inl ⟨m.f1 a h.1, (m.kf a h.1).trans h.2.1, h.2.2⟩) .inr
theorem Keep.tok (m : Keep G H G' H') {n : Nat} {a : Addr} (h : G.ρ[n]? = some a) : G'.ρ[n]? = some a := by
  obtain ⟨more, e⟩ := m.r1
  rw [e, List.getElem?_append_left (List.getElem?_eq_some_iff.mp h).1]
  exact h
mutual
theorem Rep.keep (m : Keep G H G' H') : ∀ (d : D) (v : V), Rep K G H v d → Rep K G' H' v d
  | .non, v, h => h
  | .bl _, v, h => h
  | .int _, v, h => h
  | .str _, v, h => h
  | .tup ds, v, h => by
    obtain ⟨a, vs, e, f, r⟩ := h
    exact ⟨a, vs, e, f.keep m, RepL.keep m ds vs r⟩
  | .lst ds, v, h => by
    obtain ⟨a, vs, e, f, r⟩ := h
    exact ⟨a, vs, e, f.keep m, RepL.keep m ds vs r⟩
  | .tok n, v, h => by
    obtain ⟨a, e, f⟩ := h
    exact ⟨a, e, m.tok f⟩
  | .ins C ns ds, v, h => by
    obtain ⟨a, dx, vs, e, f, g, l, r⟩ := h
    exact ⟨a, dx, vs, e, m.f1 a f, (m.kf a f).trans g, l, RepL.keep m ds vs r⟩
  | .scr ns, v, h => by
    obtain ⟨a, e, q, z⟩ := h
    exact ⟨a, e, q.keep m, z⟩
  | .ty _, v, h => h
  | .cls _, v, h => h
theorem RepL.keep (m : Keep G H G' H') : ∀ (ds : List D) (vs : List V), RepL K G H vs ds → RepL K G' H' vs ds
  | [], vs, h => h
  | d :: ds, vs, h => by
    obtain ⟨v, r, e, h1, h2⟩ := h
    exact ⟨v, r, e, Rep.keep m d v h1, RepL.keep m ds r h2⟩
end

/-- a thing that is neither frozen nor a token's may turn -/
theorem Keep.poke {p : Addr} {o : HO} (h : ¬ G.F p) : Keep G H G (upd H p o) := ⟨fun _ h => h, fun a ha => upd_ne fun e => h (by rw [← e]; exact ha), [], by simp⟩
theorem Ok.poke {p : Addr} {o : HO} (k : Ok K G H W) (h : ¬ G.F p) (hn : p ∉ G.ρ) : Ok K G (upd H p o) W := by
  refine ⟨fun a ha => ?_, k.len, k.nod, k.nf, fun n a xs h1 h2 => ?_⟩
  · rw [upd_ne fun e => h (by rw [← e]; exact ha)]
    exact k.fok a ha
  · obtain ⟨vs, q, r, z⟩ := k.tk n a xs h1 h2
    refine ⟨vs, ?_, RepL.keep (Keep.poke h) _ _ r, z⟩
    rw [upd_ne fun e => hn (by rw [← e]; exact List.mem_of_getElem? h1)]
    exact q

/-! ### targets -/
inductive Tgt where
  | nm (i : Nat) | tp (l : List Tgt)
mutual
def Tgt.sto : Tgt → D → Gs → Option Gs
  | .nm i, d, Γ => some (Γ.set i (.fz d))
  | .tp l, .tup ds, Γ => Tgt.stoL l ds Γ
  | .tp _, _, _ => none
def Tgt.stoL : List Tgt → List D → Gs → Option Gs
  | [], [], Γ => some Γ
  | t :: ts, d :: ds, Γ => (Tgt.sto t d Γ).bind fun Γ' => Tgt.stoL ts ds Γ'
  | _, _, _ => none
end
mutual
def Tgt.vars : Tgt → List Nat
  | .nm i => [i]
  | .tp l => Tgt.varsL l
def Tgt.varsL : List Tgt → List Nat
  | [] => []
  | t :: ts => Tgt.vars t ++ Tgt.varsL ts
end
mutual
def Tgt.g (K : PySem.W.Frag) : Tgt → TG
  | .nm i => gName i
  | .tp l => gTup K l.length (Tgt.gL K l)
def Tgt.gL (K : PySem.W.Frag) : List Tgt → TGs
  | [] => gNil
  | t :: ts => gCons (Tgt.g K t) (Tgt.gL K ts)
end
/-- behind a store: no slot is newly owned -/
def Sub (Γ : Gs) (σ : L2.St) (Γ' : Gs) (σ' : L2.St) : Prop := ∀ (i : Nat) (xs : List D), Γ'[i]? = some (.ow xs) → Γ[i]? = some (.ow xs) ∧ σ'[i]? = σ[i]?
theorem Sub.refl : Sub Γ σ Γ σ := fun _ _ h => ⟨h, rfl⟩
theorem Sub.trans {Γ'' : Gs} {σ'' : L2.St} (a : Sub Γ σ Γ' σ') (b : Sub Γ' σ' Γ'' σ'') : Sub Γ σ Γ'' σ'' := fun i xs h => by
  obtain ⟨h1, h2⟩ := b i xs h
  obtain ⟨h3, h4⟩ := a i xs h1
  exact ⟨h3, h2.trans h4⟩
theorem Sta.sub (S : Sta K G σ H Γ W) (s : Sub Γ σ Γ' σ') (l : Γ'.length = σ'.length) (sl : ∀ (i : Nat) (x : Sl), Γ'[i]? = some x → SlOk K G H σ'[i]? x) : Sta K G σ' H Γ' W :=
  ⟨S.ok, l, sl, fun i j a xs ys h1 h2 h3 h4 => by
    obtain ⟨q1, q2⟩ := s i xs h1
    obtain ⟨q3, q4⟩ := s j ys h2
    exact S.dj i j a xs ys q1 q3 (by rw [← q2]; exact h3) (by rw [← q4]; exact h4)⟩
theorem Sta.set (S : Sta K G σ H Γ W) {i : Nat} {v : V} {d : D} (r : Rep K G H v d) : Sta K G (σ.set i (some v)) H (Γ.set i (.fz d)) W ∧ Sub Γ σ (Γ.set i (.fz d)) (σ.set i (some v)) := by
  have sb : Sub Γ σ (Γ.set i (.fz d)) (σ.set i (some v)) := fun j xs h => by
    by_cases e : i = j
    · subst e
      rw [List.getElem?_set_self'] at h
      cases q : Γ[i]? with
      | none => rw [q] at h; cases h
      | some z => rw [q] at h; cases h
    · rw [List.getElem?_set_ne e] at h ⊢
      exact ⟨h, rfl⟩
  refine ⟨S.sub sb (by rw [List.length_set, List.length_set]; exact S.len) fun j x h => ?_, sb⟩
  by_cases e : i = j
  · subst e
    by_cases hl : i < Γ.length
    · rw [List.getElem?_set_self hl] at h
      cases h
      exact ⟨v, by rw [List.getElem?_set_self (by rw [← S.len]; exact hl)], r⟩
    · rw [List.getElem?_eq_none (by rw [List.length_set]; omega)] at h
      cases h
  · rw [List.getElem?_set_ne e] at h ⊢
    exact S.sl j x h
theorem wipe_set {σ : L2.St} {i : Nat} {v : Option V} : ∀ {vs : List Nat}, i ∈ vs → wipe (σ.set i v) vs = wipe σ vs
  | w :: vs, h => by
    unfold wipe
    by_cases e : i ∈ vs
    · rw [wipe_set e]
    · have hw : i = w := by
        rcases List.mem_cons.mp h with z | z
        · exact z
        · exact absurd z e
      subst hw
      have gen : ∀ (vs : List Nat) (τ : L2.St), i ∉ vs → wipe (τ.set i v) vs = (wipe τ vs).set i v := by
        intro vs
        induction vs with
        | nil => intro τ _; rfl
        | cons u us ih =>
          intro τ hn
          have h1 : i ≠ u := fun z => hn (by rw [z]; exact List.mem_cons_self)
          have h2 : i ∉ us := fun z => hn (List.mem_cons_of_mem _ z)
          unfold wipe
          rw [ih τ h2, List.set_comm _ _ h1]
      rw [gen vs σ e, List.set_set]
mutual
theorem Tgt.go : ∀ (t : Tgt) (d : D) (v : V) (σ : L2.St) (Γ Γ' : Gs) (Q : L2.St → Hp → Prop), Sta K G σ H Γ W → Rep K G H v d → t.sto d Γ = some Γ' →
    (∀ σ', Sta K G σ' H Γ' W → Sub Γ σ Γ' σ' → (∀ vs, (∀ i ∈ t.vars, i ∈ vs) → wipe σ' vs = wipe σ vs) → Q σ' H) → t.g K v σ H Q
  | .nm i, d, v, σ, Γ, Γ', Q, S, r, e, hQ => by
    simp only [Tgt.sto, Option.some.injEq] at e
    subst e
    obtain ⟨S', sb⟩ := S.set (i := i) r
    simp only [Tgt.g]
    exact hQ _ S' sb fun vs h => wipe_set (h i (by simp [Tgt.vars]))
  | .tp l, d, v, σ, Γ, Γ', Q, S, r, e, hQ => by
    cases d with
    | tup ds =>
      simp only [Tgt.sto] at e
      obtain ⟨a, vs, rfl, f, rl⟩ := r
      simp only [Tgt.g]
      have hl : l.length = ds.length := stoL_len l ds Γ Γ' e
      exact ⟨a, vs, rfl, f.sq, by rw [rl.length, hl], Tgt.goL l ds vs σ Γ Γ' Q S rl e fun σ' S' sb w => hQ σ' S' sb fun us h => w us (by simpa [Tgt.vars] using h)⟩
    | _ => simp [Tgt.sto] at e
theorem Tgt.goL : ∀ (ts : List Tgt) (ds : List D) (vs : List V) (σ : L2.St) (Γ Γ' : Gs) (Q : L2.St → Hp → Prop), Sta K G σ H Γ W → RepL K G H vs ds → Tgt.stoL ts ds Γ = some Γ' →
    (∀ σ', Sta K G σ' H Γ' W → Sub Γ σ Γ' σ' → (∀ us, (∀ i ∈ Tgt.varsL ts, i ∈ us) → wipe σ' us = wipe σ us) → Q σ' H) → Tgt.gL K ts vs σ H Q
  | [], [], vs, σ, Γ, Γ', Q, S, r, e, hQ => by
    simp only [Tgt.stoL, Option.some.injEq] at e
    subst e
    simp only [Tgt.gL]
    exact ⟨r, hQ σ S .refl fun _ _ => rfl⟩
  | t :: ts, d :: ds, vs, σ, Γ, Γ', Q, S, r, e, hQ => by
    simp only [Tgt.stoL, Option.bind_eq_some_iff] at e
    obtain ⟨Γ1, e1, e2⟩ := e
    obtain ⟨v, us, rfl, r1, r2⟩ := r
    simp only [Tgt.gL]
    refine ⟨v, us, rfl, Tgt.go t d v σ Γ Γ1 _ S r1 e1 fun σ1 S1 sb1 w1 => ?_⟩
    refine Tgt.goL ts ds us σ1 Γ1 Γ' Q S1 r2 e2 fun σ2 S2 sb2 w2 => hQ σ2 S2 (sb1.trans sb2) fun zs h => ?_
    have h1 : ∀ i ∈ t.vars, i ∈ zs := fun i hi => h i (by simp only [Tgt.varsL]; exact List.mem_append_left _ hi)
    have h2 : ∀ i ∈ Tgt.varsL ts, i ∈ zs := fun i hi => h i (by simp only [Tgt.varsL]; exact List.mem_append_right _ hi)
    rw [w2 zs h2, w1 zs h1]
  | [], d :: ds, vs, σ, Γ, Γ', Q, S, r, e, hQ => by simp [Tgt.stoL] at e
  | t :: ts, [], vs, σ, Γ, Γ', Q, S, r, e, hQ => by simp [Tgt.stoL] at e
theorem stoL_len : ∀ (ts : List Tgt) (ds : List D) (Γ Γ' : Gs), Tgt.stoL ts ds Γ = some Γ' → ts.length = ds.length
  | [], [], _, _, _ => rfl
  | t :: ts, d :: ds, Γ, Γ', e => by
    simp only [Tgt.stoL, Option.bind_eq_some_iff] at e
    obtain ⟨Γ1, _, e2⟩ := e
    rw [List.length_cons, List.length_cons, stoL_len ts ds Γ1 Γ' e2]
  | [], d :: ds, _, _, e => by simp [Tgt.stoL] at e
  | t :: ts, [], _, _, e => by simp [Tgt.stoL] at e
end
end
section
variable {X : Cx} {EX : WX} {pos : Pos}
theorem dg_nm {i : Nat} {x : Str} (hN : X.N.Nodup) (hi : X.N[i]? = some x := by rfl) (hx : Loc X.env.scope x := by first | exact Or.inl rfl | exact Or.inr rfl) (hf : X.fn x = true ∨ X.env.scope.names.lookup x = some .local := by first | exact .inl rfl | exact .inr rfl | assumption) :
    PG X (.Name x pos) ((Tgt.nm i).g X.K) := by simp only [Tgt.g]; exact pg_name hN hi hx hf
theorem dgs_nil : PGs X [] (Tgt.gL X.K []) := by simp only [Tgt.gL]; exact pgs_nil
theorem dgs_cons {e : Expr} {es : List Expr} {t : Tgt} {ts : List Tgt} (h1 : PG X e (t.g X.K)) (h2 : PGs X es (Tgt.gL X.K ts)) (hs : (assignEach (e :: es) X.env).map (·.2) = assign e X.env :: (assignEach es X.env).map (·.2) := by rfl) :
    PGs X (e :: es) (Tgt.gL X.K (t :: ts)) := by simp only [Tgt.gL]; exact pgs_cons h1 h2 hs
theorem dg_tp {es : List Expr} {k : Nat} {l : List Tgt} (hc : X.calm = true) (h : PGs X es (Tgt.gL X.K l)) (hn : (assignEach es X.env).length = l.length := by rfl) (hst : (assignEach es X.env).findIdx? (·.1) = none := by rfl) :
    PG X (.Tuple es k pos) ((Tgt.tp l).g X.K) := by simp only [Tgt.g]; exact pg_tup hc h hn hst

/-! ### what is walked -/
/-- J yields the items, wherever what P keeps is kept -/
def ItD (K : PySem.W.Frag) (P : Gh → Hp → Gh → Hp → Prop) (G : Gh) (H : Hp) (J : It) (items : List D) : Prop :=
  ∀ G' H' W', P G H G' H' → Ok K G' H' W' → ∀ i : Nat, (items.length ≤ i → J.stop i H') ∧
    ∀ d, items[i]? = some d → J.go i H' ∧ ∀ x H'', J.yld i H' x H'' → ∃ G'', Mv G' H' G'' H'' ∧ Ok K G'' H'' W' ∧ Rep K G'' H'' x d
abbrev TDI := XD → Gs → Ws → (List D → Ws → Prop) → Prop
def liftI (K : PySem.W.Frag) (EX : WX) (P : Gh → Hp → Gh → Hp → Prop) (t : TDI) : TI := fun σ H R => ∃ G Γ W E, Stx K EX E G σ H Γ W ∧ t E Γ W fun items W' => ∀ J G' H', Mv G H G' H' → Ok K G' H' W' → ItD K P G' H' J items → items.length ≤ sizeLine → R J H'
structure DI (X : Cx) (EX : WX) (P : Gh → Hp → Gh → Hp → Prop) (tg iter : Expr) (t : TDI) : Prop where
  mono : MonoE t
  pi : PI X tg iter (liftI X.K EX P t)
theorem PI.imp {X : Cx} {tg iter : Expr} {t t' : TI} (h : PI X tg iter t) (i : ∀ σ H R, t' σ H R → t σ H R) : PI X tg iter t' := ⟨fun pins s σ H R I q => h.run pins s σ H R I (i σ H R q)⟩
/-- a list, a tuple, a text -/
def iAny (K : PySem.W.Frag) (tl : TE) : TI := fun σ H R => tl σ H fun x H1 => (∃ a, x = .ref a ∧ (∃ xs, SqL K H1 a xs) ∧ R (Itl K a) H1) ∨ (∃ a, x = .ref a ∧ (∃ xs, SqT K H1 a xs) ∧ R (Itt K a) H1) ∨ ∃ z, x = .str z ∧ R (Its z) H1
theorem pi_any {tg l : Expr} {tl : TE} (hl : PE X l tl) : PI X tg l (iAny X.K tl) := by
  refine ⟨fun pins s σ H R I h => ?_⟩
  refine thn (hl.run pins s σ H _ I h) fun v s1 ⟨x, H1, I1, r1, q1⟩ => ?_
  rcases q1 with ⟨a, rfl, ⟨xs, hq⟩, q⟩ | ⟨a, rfl, ⟨xs, hq⟩, q⟩ | ⟨z, rfl, q⟩
  · cases r1
    obtain ⟨its, rv, p, hz⟩ := I1.list hq
    refine wpAny_pyIter_list p.isList ⟨_, [_], _, _, H1, rfl, I1.kept (t' := s1.toks) fun b o e => Heap.get?_push_of_some _ e, turn_list a s1.heap.objs.size, ⟨_, Heap.get?_push_size _ rfl, rfl, rfl⟩, fun b hb => ?_, q⟩
    rw [List.mem_singleton.mp hb]
    exact I1.fpOk (Nat.le_refl _) I1.fresh
  · cases r1
    obtain ⟨its, rv, p, hz⟩ := I1.tuple hq
    refine wpAny_pyIter_tuple p ⟨_, [_], _, _, H1, rfl, I1.kept (t' := s1.toks) fun b o e => Heap.get?_push_of_some _ e, turn_tuple a s1.heap.objs.size, ⟨_, Heap.get?_push_size _ rfl, rfl, rfl⟩, fun b hb => ?_, q⟩
    rw [List.mem_singleton.mp hb]
    exact I1.fpOk (Nat.le_refl _) I1.fresh
  · obtain ⟨t, rfl⟩ := r1
    cases ha : z.cps.all (· < 128)
    · exact wpAny_pyIter_wide ha (pi_one (tk := s1.toks) I1 _ (turn_str _ z t "str_iterator" (.inr rfl)) ⟨_, Heap.get?_push_size _ rfl, rfl, rfl⟩ q)
    · exact wpAny_pyIter_ascii ha (pi_one (tk := s1.toks) I1 _ (turn_str _ z t "str_ascii_iterator" (.inl rfl)) ⟨_, Heap.get?_push_size _ rfl, rfl, rfl⟩ q)
/-- the items of data -/
def D.seq : D → Option (List D)
  | .lst xs => some xs
  | .tup xs => some xs
  | .scr ns => some (ns.map .int)
  | .str z => some (z.cps.toList.map fun c => .str ⟨#[c]⟩)
  | _ => none
section
variable {K : PySem.W.Frag} {P : Gh → Hp → Gh → Hp → Prop} {G : Gh} {H : Hp}
theorem itd_list {a : Addr} {xs : List D} (h : ∀ G' H' W', P G H G' H' → Ok K G' H' W' → ∃ vs, SqL K H' a vs ∧ RepL K G' H' vs xs) : ItD K P G H (Itl K a) xs := by
  intro G' H' W' p k i
  obtain ⟨vs, q, r⟩ := h G' H' W' p k
  refine ⟨fun hi => ⟨vs, q, by rw [r.length]; exact hi⟩, fun d hd => ?_⟩
  obtain ⟨v, e, rv⟩ := r.get hd
  refine ⟨⟨vs, v, q, e⟩, fun x H'' y => ?_⟩
  obtain ⟨e1, y⟩ := y
  subst e1
  refine ⟨G', .refl, k, ?_⟩
  have e2 := y vs q
  rw [e] at e2
  cases e2
  exact rv
theorem itd_tup {a : Addr} {xs : List D} (h : ∀ G' H' W', P G H G' H' → Ok K G' H' W' → ∃ vs, SqT K H' a vs ∧ RepL K G' H' vs xs) : ItD K P G H (Itt K a) xs := by
  intro G' H' W' p k i
  obtain ⟨vs, q, r⟩ := h G' H' W' p k
  refine ⟨fun hi => ⟨vs, q, by rw [r.length]; exact hi⟩, fun d hd => ?_⟩
  obtain ⟨v, e, rv⟩ := r.get hd
  refine ⟨⟨vs, v, q, e⟩, fun x H'' y => ?_⟩
  obtain ⟨e1, y⟩ := y
  subst e1
  refine ⟨G', .refl, k, ?_⟩
  have e2 := y vs q
  rw [e] at e2
  cases e2
  exact rv
end
end
end DL

set_option Elab.async false
set_option linter.all false
set_option maxRecDepth 100000
/-! DatG: what is walked (lists, tuples, texts, ranges), list comprehensions. -/
namespace DL
open PySem PySem.Spec PyProof.Rows L2
def MvP : Gh → Hp → Gh → Hp → Prop := Mv
section
variable {K : PySem.W.Frag} {P : Gh → Hp → Gh → Hp → Prop} {G G' : Gh} {H H' : Hp} {J : It} {items : List D} {W : Ws}
theorem ItD.mv (h : ItD K Keep G H J items) (k : Ok K G H W) : ItD K MvP G H J items := fun G' H' W' m k' => h G' H' W' (Mv.keep m k) k'
theorem itd_str {z : Str} : ItD K P G H (Its z) (z.cps.toList.map fun c => .str ⟨#[c]⟩) := by
  intro G' H' W' p k i
  refine ⟨fun hi => ?_, fun d hd => ?_⟩
  · show z.cps.size ≤ i
    simpa using hi
  · rw [List.getElem?_map] at hd
    obtain ⟨c, e1, e2⟩ := Option.map_eq_some_iff.mp hd
    have e1' : z.cps[i]? = some c := by rw [← Array.getElem?_toList]; exact e1
    refine ⟨(Array.getElem?_eq_some_iff.mp e1').1, fun x H'' y => ?_⟩
    obtain ⟨e3, c', e4, e5⟩ := y
    rw [e1'] at e4
    cases e4
    subst e3 e5 e2
    exact ⟨G', .refl, k, rfl⟩
theorem itd_rng {lo : Int} {n : Nat} : ItD K P G H (Itr lo n) ((List.range n).map fun j => .int (lo + (j : Nat))) := by
  intro G' H' W' p k i
  refine ⟨fun hi => ?_, fun d hd => ?_⟩
  · show n ≤ i
    simpa using hi
  · rw [List.getElem?_map] at hd
    obtain ⟨j, e1, e2⟩ := Option.map_eq_some_iff.mp hd
    obtain ⟨hl, e3⟩ := List.getElem?_eq_some_iff.mp e1
    rw [List.length_range] at hl
    rw [List.getElem_range] at e3
    refine ⟨hl, fun x H'' y => ?_⟩
    obtain ⟨e4, e5⟩ := y
    subst e4 e5 e3 e2
    exact ⟨G', .refl, k, rfl⟩
end
section
variable {X : Cx} {EX : WX} {pos : Pos} {tg : Expr}
def isStr : D → Bool
  | .str _ => true
  | _ => false
/-- a loop's: what is walked stands still -/
def dIt (t : TD) : TDI := fun E Γ W Q => t E Γ W fun e W1 => match e with
  | .val d => match d.seq with
    | some xs => (isStr d = true → xs.length ≤ sizeLine) ∧ Q xs W1
    | none => False
  | _ => False
theorem itd_of {K : PySem.W.Frag} {G : Gh} {H : Hp} {W : Ws} {σ : L2.St} {Γ : Gs} {v : V} {d : D} {xs : List D} {R : It → Hp → Prop} (k : Ok K G H W) (r : Rep K G H v d) (h : d.seq = some xs) (hz : isStr d = true → xs.length ≤ sizeLine) (q : ∀ J, ItD K Keep G H J xs → xs.length ≤ sizeLine → R J H) :
    (∃ a, v = .ref a ∧ (∃ xs, SqL K H a xs) ∧ R (Itl K a) H) ∨ (∃ a, v = .ref a ∧ (∃ xs, SqT K H a xs) ∧ R (Itt K a) H) ∨ ∃ z, v = .str z ∧ R (Its z) H := by
  cases d with
  | lst ys =>
    have e : ys = xs := by simpa [D.seq] using h
    subst e
    obtain ⟨a, vs, rfl, f, l⟩ := r
    exact .inl ⟨a, rfl, ⟨vs, SqL.of f.2.1⟩, q _ (itd_list fun G' H' W' m k' => ⟨vs, SqL.of ((m.kf a f.1).trans f.2.1), RepL.keep m _ _ l⟩) (by rw [← l.length]; exact f.2.2)⟩
  | tup ys =>
    have e : ys = xs := by simpa [D.seq] using h
    subst e
    obtain ⟨a, vs, rfl, f, l⟩ := r
    exact .inr (.inl ⟨a, rfl, ⟨vs, f.sq⟩, q _ (itd_tup fun G' H' W' m k' => ⟨vs, (f.keep m).sq, RepL.keep m _ _ l⟩) (by rw [← l.length]; exact f.len)⟩)
  | scr ns =>
    have e : ns.map D.int = xs := by simpa [D.seq] using h
    subst e
    obtain ⟨a, rfl, f, z⟩ := r
    exact .inl ⟨a, rfl, ⟨_, f.sq⟩, q _ (itd_list fun G' H' W' m k' => ⟨_, (f.keep m).sq, repI ns⟩) (by rw [List.length_map]; exact z)⟩
  | str z =>
    have e : (z.cps.toList.map fun c => D.str ⟨#[c]⟩) = xs := by simpa [D.seq] using h
    subst e
    exact .inr (.inr ⟨z, r, q _ itd_str (hz rfl)⟩)
  | _ => simp [D.seq] at h
theorem di_it {e : Expr} {t : TD} (h : DE X EX e t) : DI X EX Keep tg e (dIt t) :=
  ⟨fun E E' Γ W Q Q' hE hQ q => h.mono _ _ _ _ _ _ hE (fun e W1 q => by
    split at q
    · split at q
      · exact ⟨q.1, hQ _ _ q.2⟩
      · exact q
    · exact q) q, PI.imp (pi_any h.pe) fun σ H R q => by
    obtain ⟨G, Γ, W, E, S, q⟩ := q
    refine liftE.go h.mono S q fun e W1 v G1 H1 q m1 S1 r1 => ?_
    split at q
    · split at q
      · rename_i d xs hx
        exact itd_of (σ := σ) (Γ := Γ) S1.ok r1 hx q.1 fun J hJ hz => q.2 J G1 H1 m1 S1.ok hJ hz
      · exact q.elim
    · exact q.elim⟩
/-- a comprehension's: owned lists, too -/
def dItM (t : TD) : TDI := fun E Γ W Q => t E Γ W fun e W1 => match e with
  | .bor _ xs => Q xs W1
  | .val d => match d.seq with
    | some xs => (isStr d = true → xs.length ≤ sizeLine) ∧ Q xs W1
    | none => False
theorem di_itM {e : Expr} {t : TD} (h : DE X EX e t) : DI X EX MvP tg e (dItM t) :=
  ⟨fun E E' Γ W Q Q' hE hQ q => h.mono _ _ _ _ _ _ hE (fun e W1 q => by
    split at q
    · exact hQ _ _ q
    · split at q
      · exact ⟨q.1, hQ _ _ q.2⟩
      · exact q) q, PI.imp (pi_any h.pe) fun σ H R q => by
    obtain ⟨G, Γ, W, E, S, q⟩ := q
    refine liftE.go h.mono S q fun e W1 v G1 H1 q m1 S1 r1 => ?_
    split at q
    · rename_i i ys
      obtain ⟨r2, r3⟩ := r1
      obtain ⟨a, vs, e5, nf, nr, f, l, hz⟩ := S1.sl i _ r2
      rw [r3] at e5
      cases e5
      exact .inl ⟨a, rfl, ⟨vs, SqL.of f⟩, q _ G1 H1 m1 S1.ok (itd_list fun G' H' W' m k' => ⟨vs, SqL.of (Mv.sm m a _ f nr), RepL.mv m S1.ok _ _ l⟩) (by rw [← l.length]; exact hz)⟩
    · split at q
      · rename_i d xs hx
        exact itd_of (σ := σ) (Γ := Γ) S1.ok r1 hx q.1 fun J hJ hz => q.2 J G1 H1 m1 S1.ok (hJ.mv S1.ok) hz
      · exact q.elim⟩
theorem DI.mv {e : Expr} {t : TDI} (h : DI X EX Keep tg e t) : DI X EX MvP tg e t := ⟨h.mono, PI.imp h.pi fun σ H R q => by
  obtain ⟨G, Γ, W, E, S, q⟩ := q
  exact ⟨G, Γ, W, E, S, h.mono _ _ _ _ _ _ (fun _ _ _ h => h) (fun items W' q J G' H' m k i hz => q J G' H' m k (i.mv k) hz) q⟩⟩
/-! ranges -/
def rngD (lo : Int) (n : Nat) : List D := (List.range n).map fun j => .int (lo + (j : Nat))
theorem rngD_len (lo : Int) (n : Nat) : (rngD lo n).length = n := by unfold rngD; rw [List.length_map, List.length_range]
def dRng1 (t : TDA) : TDI := fun E Γ W Q => t E Γ W fun es W1 => match es with
  | [.val (.int j)] => -16777216 ≤ j ∧ j ≤ 16777216 ∧ Q (rngD 0 j.toNat) W1
  | _ => False
def dRng2 (t : TDA) : TDI := fun E Γ W Q => t E Γ W fun es W1 => match es with
  | [.val (.int i), .val (.int j)] => (0 ≤ i ∧ i ≤ 16777216 ∧ -16777216 ≤ j ∧ j ≤ 16777216) ∧ Q (rngD i (j - i).toNat) W1
  | _ => False
theorem di_rng1 {a : Expr} {p : Pos} {t : TDA} (hg : Gl X "range") (hm : X.mg "range" = none) (ha : DA X EX [a] t) (hs : starEach [a] X.env = [(false, eval a X.env)] := by rfl) : DI X EX Keep tg (.Call (.Name "range" p) [a] [] pos) (dRng1 t) :=
  ⟨fun E E' Γ W Q Q' hE hQ q => ha.mono _ _ _ _ _ _ hE (fun es W1 q => by
    split at q
    · exact ⟨q.1, q.2.1, hQ _ _ q.2.2⟩
    · exact q) q, PI.imp (pi_range1 hg hm ha.pa hs) fun σ H R q => by
    obtain ⟨G, Γ, W, E, S, q⟩ := q
    refine liftA.go ha.mono S q fun es W1 vs G1 H1 q m1 S1 r1 => ?_
    split at q
    · rename_i j
      obtain ⟨v, r, rfl, h1, h2⟩ := r1
      have e1 : v = .int j := h1
      have e2 : r = [] := h2
      subst e1 e2
      exact ⟨j, rfl, by omega, by omega, q.2.2 _ G1 H1 m1 S1.ok itd_rng (by rw [rngD_len, sizeLine_eq]; omega)⟩
    · exact q.elim⟩
theorem di_rng2 {a b : Expr} {p : Pos} {t : TDA} (hg : Gl X "range") (hm : X.mg "range" = none) (ha : DA X EX [a, b] t) (hs : starEach [a, b] X.env = [(false, eval a X.env), (false, eval b X.env)] := by rfl) (hs2 : starEach [b] X.env = [(false, eval b X.env)] := by rfl) :
    DI X EX Keep tg (.Call (.Name "range" p) [a, b] [] pos) (dRng2 t) :=
  ⟨fun E E' Γ W Q Q' hE hQ q => ha.mono _ _ _ _ _ _ hE (fun es W1 q => by
    split at q
    · exact ⟨q.1, hQ _ _ q.2⟩
    · exact q) q, PI.imp (pi_range2 hg hm ha.pa hs hs2) fun σ H R q => by
    obtain ⟨G, Γ, W, E, S, q⟩ := q
    refine liftA.go ha.mono S q fun es W1 vs G1 H1 q m1 S1 r1 => ?_
    split at q
    · rename_i i j
      obtain ⟨v, r, rfl, h1, v', r', rfl, h2, h3⟩ := r1
      have e1 : v = .int i := h1
      have e2 : v' = .int j := h2
      have e3 : r' = [] := h3
      subst e1 e2 e3
      exact ⟨i, j, rfl, by omega, q.2 _ G1 H1 m1 S1.ok itd_rng (by rw [rngD_len, sizeLine_eq]; omega)⟩
    · exact q.elim⟩

/-! ### list comprehensions -/
abbrev X0 : XD := fun _ _ _ => False
abbrev EX0 : WX := fun _ _ _ _ => False
def wipeG (Γ : Gs) : List Nat → Gs
  | [] => Γ
  | v :: vs => (wipeG Γ vs).set v .no
theorem wipeG_len (Γ : Gs) : ∀ vs, (wipeG Γ vs).length = Γ.length
  | [] => rfl
  | v :: vs => by unfold wipeG; rw [List.length_set, wipeG_len Γ vs]
theorem wipe_at (Γ : Gs) (σ : L2.St) : ∀ (vs : List Nat) (i : Nat) (x : Sl), (wipeG Γ vs)[i]? = some x → x = .no ∨ (Γ[i]? = some x ∧ (wipe σ vs)[i]? = σ[i]?)
  | [], i, x, h => .inr ⟨h, rfl⟩
  | v :: vs, i, x, h => by
    unfold wipeG at h
    by_cases e : v = i
    · subst e
      rw [List.getElem?_set_self'] at h
      cases q : (wipeG Γ vs)[v]? with
      | none => rw [q] at h; cases h
      | some z => rw [q] at h; cases h; exact .inl rfl
    · rw [List.getElem?_set_ne e] at h
      rcases wipe_at Γ σ vs i x h with q | ⟨q1, q2⟩
      · exact .inl q
      · refine .inr ⟨q1, ?_⟩
        show ((wipe σ vs).set v none)[i]? = _
        rw [List.getElem?_set_ne e]
        exact q2
theorem Sta.wipe {K : PySem.W.Frag} {G : Gh} {σ : L2.St} {H : Hp} {Γ : Gs} {W : Ws} (S : Sta K G σ H Γ W) (vs : List Nat) : Sta K G (L2.wipe σ vs) H (wipeG Γ vs) W := by
  refine S.sub (fun i xs h => ?_) (by rw [wipeG_len, wipe_length]; exact S.len) fun i x h => ?_
  · rcases wipe_at Γ σ vs i _ h with q | q
    · cases q
    · exact q
  · rcases wipe_at Γ σ vs i _ h with q | ⟨q1, q2⟩
    · subst q; trivial
    · rw [q2]; exact S.sl i x q1
/-- one item after another: the tests, the element; acc: what is made so far -/
def lcGo (g : Tgt) (c : TDT) (t : TD) (Γ : Gs) : List D → List D → Ws → (List D → Ws → Prop) → Prop
  | [], acc, W, Q => Q acc W
  | d :: r, acc, W, Q => match g.sto d Γ with
    | some Γ1 => c X0 Γ1 W fun b W1 => if b = true then t X0 Γ1 W1 fun e W2 => match e with
        | .val x => lcGo g c t Γ r (acc ++ [x]) W2 Q
        | _ => False
      else lcGo g c t Γ r acc W1 Q
    | none => False
theorem lcGo_mono {g : Tgt} {c : TDT} {t : TD} (hc : MonoE c) (ht : MonoE t) {Γ : Gs} {Q Q' : List D → Ws → Prop} (hQ : ∀ a W, Q a W → Q' a W) : ∀ (ds acc : List D) (W : Ws), lcGo g c t Γ ds acc W Q → lcGo g c t Γ ds acc W Q'
  | [], acc, W, h => hQ _ _ h
  | d :: r, acc, W, h => by
    unfold lcGo at h ⊢
    split at h
    · rename_i Γ1 _
      refine hc _ _ _ _ _ _ (fun _ _ _ h => h) (fun b W1 h => ?_) h
      by_cases e : b = true
      · rw [if_pos e] at h ⊢
        refine ht _ _ _ _ _ _ (fun _ _ _ h => h) (fun e W2 h => ?_) h
        split at h
        · exact lcGo_mono hc ht hQ r _ W2 h
        · exact h
      · rw [if_neg e] at h ⊢
        exact lcGo_mono hc ht hQ r _ W1 h
    · exact h
def dLc (wi : TDI) (g : Tgt) (c : TDT) (t : TD) (vs : List Nat) : TDF := fun E Γ W Q => wi E Γ W fun items W1 => lcGo g c t (wipeG Γ vs) items [] W1 Q
/-- tests of a clause -/
structure DTs (X : Cx) (EX : WX) (ifs : List Expr) (t : TDT) : Prop where
  mono : MonoE t
  pt : PTs X ifs (liftT X.K EX t)
def dYes : TDT := fun _ _ W Q => Q true W
theorem PTs.imp {X : Cx} {e : List Expr} {t t' : TT} (h : PTs X e t) (i : ∀ σ H Q, t' σ H Q → t σ H Q) : PTs X e t' := ⟨fun pins s σ H Q I q => h.run pins s σ H Q I (i σ H Q q)⟩
theorem dts_nil : DTs X EX [] dYes := ⟨fun _ _ _ _ _ _ hE hQ h => hQ _ _ h, PTs.imp pts_nil fun σ H Q q => by
  obtain ⟨G, Γ, W, E, S, q⟩ := q
  exact q G H .refl S.ok⟩
theorem dts_one {c : Expr} {t : TDT} (h : DT X EX c t) : DTs X EX [c] t := ⟨h.mono, pts_one h.pt⟩
/-- the heap's side of it -/
theorem lc_imp {K : PySem.W.Frag} {EX : WX} {wi : TDI} {g : Tgt} {c : TDT} {t : TD} {vs : List Nat} (hw : MonoE wi) (hc : MonoE c) (ht : MonoE t) (hv : ∀ i ∈ g.vars, i ∈ vs) (σ : L2.St) (H : Hp) (Q : VK) (h : liftF K EX (dLc wi g c t vs) σ H Q) :
    tLc (liftI K EX MvP wi) (g.g K) (liftT K EX0 c) (liftE K EX0 t) vs σ H Q := by
  obtain ⟨G, Γ, W, E, S, h⟩ := h
  refine ⟨G, Γ, W, E, S, hw _ _ _ _ _ _ (fun _ _ _ h => h) (fun items W1 h J G1 H1 m1 k1 hJ hz D nD => ?_) h⟩
  have S1 := S.toSta.mv m1 k1
  -- the state of a turn: the list at D holds acc
  refine ⟨fun i m H2 => m = items.length - i ∧ i ≤ items.length ∧ ∃ G2 W2 acc us, Mv G1 H1 G2 H2 ∧ Ok K G2 H2 W2 ∧ ¬ G2.F D ∧ D ∉ G2.ρ ∧ H2 D = some (.lst us) ∧ RepL K G2 H2 us acc ∧ acc.length ≤ i ∧
      lcGo g c t (wipeG Γ vs) (items.drop i) acc W2 (fun xs W' => ∀ p vs G' H', Mv G H G' H' → Ok K G' H' W' → H p = none → ¬ G'.F p → p ∉ G'.ρ → H' p = some (.lst vs) → RepL K G' H' vs xs → vs.length ≤ sizeLine → Q (.ref p) H'), ⟨_, rfl, Nat.zero_le _, G1, W1, [], [], Mv.fresh0 nD, k1.fresh0 nD, fun z => k1.fok D z nD, fun z => ?_, upd_same, RepL.nil, Nat.le_refl _, h⟩, ?_⟩
  · obtain ⟨us, q⟩ := k1.at z
    rw [nD] at q; cases q
  rintro i m H2 ⟨rfl, hi, G2, W2, acc, us, m2, k2, nf, nr, eD, rl, ha, q⟩
  obtain ⟨stop, go⟩ := hJ G2 H2 W2 m2 k2 i
  have dH : H D = none := m1.al D nD
  by_cases hlt : i < items.length
  · obtain ⟨gi, gx⟩ := go _ (List.getElem?_eq_getElem hlt)
    rw [List.drop_eq_getElem_cons hlt] at q
    refine .inr ⟨gi, fun H' => ∃ G2 W2 acc us, Mv G1 H1 G2 H' ∧ Ok K G2 H' W2 ∧ ¬ G2.F D ∧ D ∉ G2.ρ ∧ H' D = some (.lst us) ∧ RepL K G2 H' us acc ∧ acc.length ≤ i + 1 ∧
      lcGo g c t (wipeG Γ vs) (items.drop (i + 1)) acc W2 (fun xs W' => ∀ p vs G' H', Mv G H G' H' → Ok K G' H' W' → H p = none → ¬ G'.F p → p ∉ G'.ρ → H' p = some (.lst vs) → RepL K G' H' vs xs → vs.length ≤ sizeLine → Q (.ref p) H'), fun H' z => ⟨_, by omega, rfl, hlt, z⟩, fun x H3 y => ?_⟩
    obtain ⟨G3, m3, k3, rx⟩ := gx x H3 y
    have S3 : Sta K G3 (wipe σ vs) H3 (wipeG Γ vs) W2 := (S1.mv (m2.trans m3) k3).wipe vs
    unfold lcGo at q
    split at q
    · rename_i Γ4 hst
      refine Tgt.go g _ x _ _ Γ4 _ S3 rx hst fun σ4 S4 sb w => ⟨?_, ?_⟩
      · rw [w vs hv]
        have wipe2 : ∀ (l1 l2 : List Nat) (τ : L2.St), (∀ z ∈ l1, z ∈ l2) → wipe (wipe τ l1) l2 = wipe τ l2 := by
          intro l1
          induction l1 with
          | nil => intro l2 τ _; rfl
          | cons z zs ih =>
            intro l2 τ hz
            show wipe ((wipe τ zs).set z none) l2 = _
            rw [wipe_set (hz z List.mem_cons_self), ih l2 τ fun u hu => hz u (List.mem_cons_of_mem _ hu)]
        exact wipe2 vs vs σ fun _ h => h
      refine ⟨G3, Γ4, W2, X0, ⟨S4, XOk.no⟩, hc _ _ _ _ _ _ (fun _ _ _ h => h) (fun b W5 q G5 H5 m5 k5 => ?_) q⟩
      have S5 := S4.mv m5 k5
      have mm := m3.trans m5
      have nfD : ∀ {G' : Gh} {H' : Hp}, Mv G2 H2 G' H' → ¬ G'.F D ∧ D ∉ G'.ρ ∧ H' D = some (.lst us) := fun {G' H'} m => by
        refine ⟨fun z => ?_, fun z => ?_, m.sm D _ eD nr⟩
        · rcases m.f2 D z with z | z
          · exact nf z
          · rw [eD] at z; cases z
        · obtain ⟨more, e1, e2⟩ := m.r1
          rw [e1] at z
          rcases List.mem_append.mp z with z | z
          · exact nr z
          · rw [e2 D z] at eD; cases eD
      show if b = true then _ else _
      by_cases hb : b = true
      · rw [if_pos hb] at q ⊢
        refine ⟨G5, Γ4, W5, X0, ⟨S5, XOk.no⟩, ht _ _ _ _ _ _ (fun _ _ _ h => h) (fun e W6 q v G6 H6 m6 k6 re => ?_) q⟩
        split at q
        · rename_i d
          obtain ⟨n1, n2, n3⟩ := nfD (mm.trans m6)
          have lu := rl.length
          have r6 := RepL.mv (mm.trans m6) k2 _ _ rl
          have mu : Mv G1 H1 G6 H6 := (m2.trans mm).trans m6
          refine ⟨us, n3, by omega, G6, W6, acc ++ [d], us ++ [v], ⟨mu.f1, mu.f2, fun a o h n => ?_, mu.r1, fun a h => mu.al a ?_⟩, ?_, n1, n2, upd_same, ?_, ?_, q⟩
          · rw [upd_ne (ne_of_none h nD)]; exact mu.sm a o h n
          · by_cases ea : a = D
            · rw [ea, upd_same] at h; cases h
            · rw [upd_ne ea] at h; exact h
          · exact k6.poke n1 n2
          · exact RepL.keep (Keep.poke n1) _ _ (r6.app (RepL.one re))
          · rw [List.length_append]; show acc.length + 1 ≤ i + 1; omega
        · exact q.elim
      · rw [if_neg hb] at q ⊢
        obtain ⟨n1, n2, n3⟩ := nfD mm
        exact ⟨G5, W5, acc, us, m2.trans mm, k5, n1, n2, n3, RepL.mv mm k2 _ _ rl, Nat.le_succ_of_le ha, q⟩
    · exact q.elim
  · have e : i = items.length := by omega
    subst e
    rw [List.drop_length] at q
    unfold lcGo at q
    exact .inl ⟨stop (Nat.le_refl _), q D us G2 H2 (m1.trans m2) k2 dH nf nr eD rl (by rw [rl.length]; omega)⟩
end
section
variable {X : Cx} {EX : WX} {pos : Pos}
theorem dLc_mono {wi : TDI} {g : Tgt} {c : TDT} {t : TD} {vs : List Nat} (hw : MonoE wi) (hc : MonoE c) (ht : MonoE t) : MonoE (dLc wi g c t vs) := fun E E' Γ W Q Q' hE hQ h =>
  hw _ _ _ _ _ _ hE (fun items W1 h => lcGo_mono hc ht hQ _ _ _ h) h
/-- [elt for tg in iter if ..] -/
theorem df_lc {elt tg iter : Expr} {ifs : List Expr} {scope : Scope} {own : List (Str × Nat)} {wi : TDI} {g : Tgt} {c : TDT} {t : TD} (hc : X.calm = true) (hN : X.N.Nodup) (hi : DI X EX MvP tg iter wi) (ok : BlkOk X.N X.env.scope scope own)
    (hg : ∀ (s : Shared) (H : Hp) (C : Addr) (cl : List (Str × Addr)) (fp : List Addr), PG (X.blk s H scope (compEnvC scope cl C X.env) fp) tg (g.g X.K))
    (ht : ∀ (s : Shared) (H : Hp) (C : Addr) (cl : List (Str × Addr)) (fp : List Addr), DTs (X.blk s H scope (compEnvC scope cl C X.env) fp) EX0 ifs c)
    (he : ∀ (s : Shared) (H : Hp) (C : Addr) (cl : List (Str × Addr)) (fp : List Addr), DE (X.blk s H scope (compEnvC scope cl C X.env) fp) EX0 elt t) (hv : ∀ i ∈ g.vars, i ∈ own.map (·.2))
    (hs : ∀ x, foldedSetIterable iter X.env x = pure x := by intro _; rfl) : DF X EX (.ListComp elt [⟨tg, iter, ifs, 0⟩] scope pos) (dLc wi g c t (own.map (·.2))) :=
  have h1 := (ht {} (fun _ => none) 0 [] []).mono
  have h2 := (he {} (fun _ => none) 0 [] []).mono
  ⟨dLc_mono hi.mono h1 h2, PE.imp (pe_lc hc hN hi.pi ok hg (fun s H C cl fp => (ht s H C cl fp).pt) (fun s H C cl fp => (he s H C cl fp).pe) hs) (lc_imp hi.mono h1 h2 hv)⟩
theorem dFz_mono {t : TDF} (mo : MonoE t) : MonoE (dFz t) := fun E E' Γ W Q Q' hE hQ q => mo E E' Γ W (fun xs W' => Q (.val (.lst xs)) W') (fun xs W' => Q' (.val (.lst xs)) W') hE (fun xs W' q => hQ _ _ q) q
theorem fz_imp {K : PySem.W.Frag} {EX : WX} {t : TDF} (mo : MonoE t) {σ : L2.St} {H : Hp} {Q : VK} (q : liftE K EX (dFz t) σ H Q) : liftF K EX t σ H Q := by
  obtain ⟨G, Γ, W, E, S, q⟩ := q
  refine liftF.go mo S q fun xs W' p vs G' H' q m S' hp nf nr e r hz => ?_
  exact q (.ref p) (G'.add p) H' (m.frz hp) (S'.ok.freeze (by rw [e]; nofun) nr) ⟨p, vs, rfl, ⟨.inr rfl, e, hz⟩, RepL.wk (G' := G'.add p) (fun _ h => Or.inl h) rfl _ _ r⟩
end
end DL

set_option Elab.async false
set_option linter.all false
set_option maxRecDepth 100000
/-! DatH: statements over data. -/
namespace DL
open PySem PySem.Spec PyProof.Rows L2

/-- what is wanted behind a statement, over data -/
structure DEnds where
  nx : Gs → Ws → Prop
  rt : D → Ws → Prop
  bk : Gs → Ws → Prop := fun _ _ => False
  ct : Gs → Ws → Prop := fun _ _ => False
  xc : Addr → List (Str × D) → Gs → Ws → Prop := fun _ _ _ _ => False
structure DEnds.Le (E E' : DEnds) : Prop where
  nx : ∀ Γ W, E.nx Γ W → E'.nx Γ W
  rt : ∀ d W, E.rt d W → E'.rt d W
  bk : ∀ Γ W, E.bk Γ W → E'.bk Γ W
  ct : ∀ Γ W, E.ct Γ W → E'.ct Γ W
  xc : ∀ C fs Γ W, E.xc C fs Γ W → E'.xc C fs Γ W
abbrev TDS := DEnds → Gs → Ws → Prop
def MonoS (t : TDS) : Prop := ∀ E E' Γ W, DEnds.Le E E' → t E Γ W → t E' Γ W
/-- a state within a body that began at G0, H0: what was there then is kept, but for the tokens' things -/
structure Sto (K : PySem.W.Frag) (G0 : Gh) (H0 : Hp) (G : Gh) (σ : L2.St) (H : Hp) (Γ : Gs) (W : Ws) : Prop extends Sta K G σ H Γ W where
  m0 : Mv G0 H0 G H
  own : ∀ (i : Nat) (a : Addr) (xs : List D), Γ[i]? = some (.ow xs) → σ[i]? = some (some (.ref a)) → H0 a = none
section
variable {K : PySem.W.Frag} {G0 G G' G'' : Gh} {H0 H H' H'' : Hp} {W W' W'' : Ws} {σ σ' : L2.St} {Γ Γ' : Gs}
theorem Sto.mv (S : Sto K G0 H0 G σ H Γ W) (m : Mv G H G' H') (k : Ok K G' H' W') : Sto K G0 H0 G' σ H' Γ W' := ⟨S.toSta.mv m k, S.m0.trans m, S.own⟩
theorem Sto.sub (S : Sto K G0 H0 G σ H Γ W) (S' : Sta K G σ' H Γ' W) (s : Sub Γ σ Γ' σ') : Sto K G0 H0 G σ' H Γ' W := ⟨S', S.m0, fun i a xs h1 h2 => by
  obtain ⟨q1, q2⟩ := s i xs h1
  exact S.own i a xs q1 (by rw [← q2]; exact h2)⟩
end
/-- the ends, over the heap -/
def endsOf (K : PySem.W.Frag) (EX : WX) (G0 : Gh) (H0 : Hp) (G : Gh) (H : Hp) (D : Ends) : DEnds where
  nx := fun Γ' W' => ∀ G' σ' H', Sto K G0 H0 G' σ' H' Γ' W' → Keep G H G' H' → D.nx σ' H'
  rt := fun d W' => ∀ v G' H', Mv G0 H0 G' H' → Ok K G' H' W' → Rep K G' H' v d → D.rt v H'
  bk := fun Γ' W' => ∀ G' σ' H', Sto K G0 H0 G' σ' H' Γ' W' → Keep G H G' H' → D.bk σ' H'
  ct := fun Γ' W' => ∀ G' σ' H', Sto K G0 H0 G' σ' H' Γ' W' → Keep G H G' H' → D.ct σ' H'
  xc := fun C fs Γ' W' => ∀ d G' σ' H', Sto K G0 H0 G' σ' H' Γ' W' → Keep G H G' H' → XFld K G' H' d fs → EX (.ref C) d σ' H'
def liftS (K : PySem.W.Frag) (EX : WX) (t : TDS) : TS := fun D σ H => ∃ G0 H0 G Γ W, Sto K G0 H0 G σ H Γ W ∧ t (endsOf K EX G0 H0 G H D) Γ W
structure DS (X : Cx) (EX : WX) (st : Stmt) (t : TDS) : Prop where
  mono : MonoS t
  ps : PS X st (liftS X.K EX t)
structure DSs (X : Cx) (EX : WX) (st : List Stmt) (t : TDS) : Prop where
  mono : MonoS t
  pss : PSs X st (liftS X.K EX t)
section
variable {K : PySem.W.Frag} {EX : WX} {G0 G G' G'' : Gh} {H0 H H' H'' : Hp} {W W' W'' : Ws} {σ σ' : L2.St} {Γ Γ' : Gs} {D : Ends}
theorem endsOf.le (k : Keep G H G' H') : DEnds.Le (endsOf K EX G0 H0 G H D) (endsOf K EX G0 H0 G' H' D) :=
  ⟨fun Γ W h G' σ' H' s k' => h G' σ' H' s (k.trans k'), fun d W h => h, fun Γ W h G' σ' H' s k' => h G' σ' H' s (k.trans k'), fun Γ W h G' σ' H' s k' => h G' σ' H' s (k.trans k'),
   fun C fs Γ W h d G' σ' H' s k' x => h d G' σ' H' s (k.trans k') x⟩
/-- the wish of exceptions, where an expression stands -/
def DEnds.x (E : DEnds) (Γ : Gs) : XD := fun C fs W => E.xc C fs Γ W
theorem Sto.stx (S : Sto K G0 H0 G σ H Γ W) : Stx K EX ((endsOf K EX G0 H0 G H D).x Γ) G σ H Γ W :=
  ⟨S.toSta, fun C fs W' d G' H' e m k x => e d G' σ H' (S.mv m k) (m.keep S.ok) x⟩
theorem DEnds.Le.x {E E' : DEnds} (h : DEnds.Le E E') (Γ : Gs) : ∀ C fs W, E.x Γ C fs W → E'.x Γ C fs W := fun C fs W => h.xc C fs Γ W
end
section
variable {X : Cx} {EX : WX} {pos : Pos}
/-! ### blocks -/
def dSkip : TDS := fun E Γ W => E.nx Γ W
def dSeq (t u : TDS) : TDS := fun E Γ W => t { E with nx := fun Γ1 W1 => u E Γ1 W1 } Γ W
theorem dSeq_mono {t u : TDS} (ht : MonoS t) (hu : MonoS u) : MonoS (dSeq t u) := fun E E' Γ W l h => ht { E with nx := fun Γ1 W1 => u E Γ1 W1 } { E' with nx := fun Γ1 W1 => u E' Γ1 W1 } Γ W ⟨fun Γ1 W1 h => hu _ _ _ _ l h, l.rt, l.bk, l.ct, l.xc⟩ h
theorem dss_nil : DSs X EX [] dSkip := ⟨fun E E' Γ W l h => l.nx _ _ h, PSs.imp pss_nil fun D σ H h => by
  obtain ⟨G0, H0, G, Γ, W, S, h⟩ := h
  exact h G σ H S .refl⟩
theorem dss_cons {st : Stmt} {rest : List Stmt} {t u : TDS} (h1 : DS X EX st t) (h2 : DSs X EX rest u) : DSs X EX (st :: rest) (dSeq t u) :=
  ⟨dSeq_mono h1.mono h2.mono, PSs.imp (pss_cons h1.ps h2.pss) fun D σ H h => by
    obtain ⟨G0, H0, G, Γ, W, S, h⟩ := h
    refine ⟨G0, H0, G, Γ, W, S, h1.mono { endsOf X.K EX G0 H0 G H D with nx := fun Γ1 W1 => u (endsOf X.K EX G0 H0 G H D) Γ1 W1 } _ _ _ ⟨fun Γ1 W1 h G' σ' H' s k => ?_, fun d W h => h, fun Γ W h => h, fun Γ W h => h, fun C fs Γ W h => h⟩ h⟩
    exact ⟨G0, H0, G', Γ1, W1, s, h2.mono _ _ _ _ (endsOf.le k) h⟩⟩
theorem dss_one {st : Stmt} {t : TDS} (h : DS X EX st t) : DSs X EX [st] t := ⟨h.mono, pss_one h.ps⟩
/-- an owned list is frozen: it is no longer changed -/
def dFrz (i : Nat) (t : TDS) : TDS := fun E Γ W => match Γ[i]? with
  | some (.ow xs) => t E (Γ.set i (.fz (.lst xs))) W
  | _ => t E Γ W
theorem Sto.frz {K : PySem.W.Frag} {G0 G : Gh} {H0 H : Hp} {W : Ws} {σ : L2.St} {Γ : Gs} {i : Nat} {xs : List D} (S : Sto K G0 H0 G σ H Γ W) (h : Γ[i]? = some (.ow xs)) : ∃ G', Sto K G0 H0 G' σ H (Γ.set i (.fz (.lst xs))) W ∧ Keep G H G' H := by
  obtain ⟨a, vs, e, nf, nr, q, r, z⟩ := S.sl i _ h
  have i0 := S.own i a xs h e
  have wk : ∀ {v : V} {d : D}, Rep K G H v d → Rep K (G.add a) H v d := fun h => Rep.wk (G' := G.add a) (fun _ h => Or.inl h) rfl _ _ h
  have wkl : ∀ {v : List V} {d : List D}, RepL K G H v d → RepL K (G.add a) H v d := fun h => RepL.wk (G' := G.add a) (fun _ h => Or.inl h) rfl _ _ h
  have sb : Sub Γ σ (Γ.set i (.fz (.lst xs))) σ := fun j ys hj => by
    by_cases e : i = j
    · subst e
      rw [List.getElem?_set_self'] at hj
      rw [h] at hj
      cases hj
    · rw [List.getElem?_set_ne e] at hj
      exact ⟨hj, rfl⟩
  have ne : ∀ (j : Nat) (ys : List D) (b : Addr), j ≠ i → Γ[j]? = some (.ow ys) → σ[j]? = some (some (.ref b)) → b ≠ a := fun j ys b hj h1 h2 z => hj (S.dj j i a ys xs h1 h (by rw [← z]; exact h2) e)
  refine ⟨G.add a, ⟨⟨S.ok.freeze (by rw [q]; nofun) nr, by rw [List.length_set]; exact S.len, fun j s hj => ?_, fun j l b ys zs h1 h2 h3 h4 => ?_⟩, ?_, fun j b ys h1 h2 => ?_⟩, ⟨fun _ h => .inl h, fun _ _ => rfl, [], by simp [Gh.add]⟩⟩
  · by_cases e2 : i = j
    · subst e2
      rw [List.getElem?_set_self'] at hj
      rw [h] at hj
      have hj' : s = .fz (.lst xs) := by simpa using hj.symm
      subst hj'
      exact ⟨.ref a, e, a, vs, rfl, ⟨.inr rfl, q, z⟩, wkl r⟩
    · rw [List.getElem?_set_ne e2] at hj
      have sj := S.sl j s hj
      cases s with
      | no => trivial
      | fz d => obtain ⟨v, e3, r3⟩ := sj; exact ⟨v, e3, wk r3⟩
      | ow ys =>
        obtain ⟨b, us, e3, nf3, nr3, q3, r3, z3⟩ := sj
        exact ⟨b, us, e3, fun z => z.elim nf3 (ne j ys b (fun z => e2 z.symm) hj e3), nr3, q3, wkl r3, z3⟩
  · obtain ⟨q1, _⟩ := sb j ys h1
    obtain ⟨q2, _⟩ := sb l zs h2
    exact S.dj j l b ys zs q1 q2 h3 h4
  · exact ⟨fun b h => .inl (S.m0.f1 b h), fun b h => h.elim (S.m0.f2 b) fun e => .inr (by rw [e]; exact i0), S.m0.sm, S.m0.r1, S.m0.al⟩
  · obtain ⟨q1, _⟩ := sb j ys h1
    exact S.own j b ys q1 h2
theorem dFrz_mono {i : Nat} {t : TDS} (h : MonoS t) : MonoS (dFrz i t) := fun E E' Γ W l q => by
  unfold dFrz at q ⊢
  split at q <;> exact h _ _ _ _ l q
theorem dss_frz {sts : List Stmt} {t : TDS} (i : Nat) (h : DSs X EX sts t) : DSs X EX sts (dFrz i t) :=
  ⟨dFrz_mono h.mono, PSs.imp h.pss fun D σ H q => by
    obtain ⟨G0, H0, G, Γ, W, S, q⟩ := q
    unfold dFrz at q
    split at q
    · rename_i xs hx
      obtain ⟨G', S', k⟩ := S.frz hx
      exact ⟨G0, H0, G', _, W, S', h.mono _ _ _ _ (endsOf.le k) q⟩
    · exact ⟨G0, H0, G, Γ, W, S, q⟩⟩

/-! ### stores -/
def dSet (i : Nat) (t : TD) : TDS := fun E Γ W => t (E.x Γ) Γ W fun e W1 => match e with
  | .val d => E.nx (Γ.set i (.fz d)) W1
  | _ => False
theorem dSet_mono {i : Nat} {t : TD} (h : MonoE t) : MonoS (dSet i t) := fun E E' Γ W l q => h _ _ _ _ _ _ (l.x Γ) (fun e W1 q => by
  split at q
  · exact l.nx _ _ q
  · exact q) q
/-- name = e: hp is how the machine stores it (ps_set, or a comprehension's own way) -/
theorem ds_set' {st : Stmt} {i : Nat} {t : TD} {te : TE} (mo : MonoE t) (hp : PS X st (tAsg te (gName i))) (hi : ∀ σ H Q, liftE X.K EX t σ H Q → te σ H Q) : DS X EX st (dSet i t) :=
  ⟨dSet_mono mo, PS.imp hp fun D σ H h => by
    obtain ⟨G0, H0, G, Γ, W, S, h⟩ := h
    refine hi _ _ _ (liftE.go mo (S.stx (EX := EX) (D := D)) h fun e W1 v G1 H1 h m1 S1 r1 => ?_)
    split at h
    · rename_i d
      obtain ⟨S2, sb⟩ := S1.toSta.set (i := i) r1
      exact h G1 _ H1 ((S.mv m1 S1.ok).sub S2 sb) (m1.keep S.ok)
    · exact h.elim⟩
theorem ds_set {i : Nat} {x : Str} {e : Expr} {t : TD} {pos' : Pos} (hN : X.N.Nodup) (h : DE X EX e t) (hi : X.N[i]? = some x := by rfl) (hx : Loc X.env.scope x := by first | exact Or.inl rfl | exact Or.inr rfl) (hs : swapsWith e (some (.Name x pos')) pos.line X.env = pure false := by rfl)
    (hf : X.fn x = true ∨ X.env.scope.names.lookup x = some .local := by first | exact .inl rfl | exact .inr rfl | assumption) : DS X EX (.Assign [.Name x pos'] e pos) (dSet i t) :=
  ds_set' h.mono (ps_set hN hi hx h.pe hs hf) fun _ _ _ h => h
/-- name = a new list that is to be changed in this body -/
def dOwn (i : Nat) (t : TDF) : TDS := fun E Γ W => t (E.x Γ) Γ W fun xs W1 => E.nx (Γ.set i (.ow xs)) W1
theorem dOwn_mono {i : Nat} {t : TDF} (h : MonoE t) : MonoS (dOwn i t) := fun E E' Γ W l q => h _ _ _ _ _ _ (l.x Γ) (fun e W1 q => l.nx _ _ q) q
theorem ds_own' {st : Stmt} {i : Nat} {t : TDF} {te : TE} (mo : MonoE t) (hp : PS X st (tAsg te (gName i))) (hi : ∀ σ H Q, liftF X.K EX t σ H Q → te σ H Q) : DS X EX st (dOwn i t) :=
  ⟨dOwn_mono mo, PS.imp hp fun D σ H h => by
    obtain ⟨G0, H0, G, Γ, W, S, h⟩ := h
    refine hi _ _ _ (liftF.go mo (S.stx (EX := EX) (D := D)) h fun xs W1 p vs G1 H1 h m1 S1 hp nf nr e r z => ?_)
    have S1' := S.mv m1 S1.ok
    -- no owned list stood at p before
    have np : ∀ (j : Nat) (ys : List DL.D), Γ[j]? = some (.ow ys) → σ[j]? ≠ some (some (.ref p)) := fun j ys h1 h2 => by
      obtain ⟨a, us, e3, _, _, q3, _⟩ := S.sl j _ h1
      rw [h2] at e3
      cases e3
      rw [hp] at q3; cases q3
    refine h G1 _ H1 ⟨⟨S1.ok, by rw [List.length_set, List.length_set]; exact S.len, fun j s hj => ?_, fun j l a ys zs h1 h2 h3 h4 => ?_⟩, S1'.m0, fun j a ys h1 h2 => ?_⟩ (m1.keep S.ok)
    · by_cases e2 : i = j
      · subst e2
        by_cases hl : i < Γ.length
        · rw [List.getElem?_set_self hl] at hj
          cases hj
          exact ⟨p, vs, by show (σ.set i (some (V.ref p)))[i]? = _; rw [List.getElem?_set_self (by rw [← S.len]; exact hl)], nf, nr, e, r, z⟩
        · rw [List.getElem?_eq_none (by rw [List.length_set]; omega)] at hj
          cases hj
      · rw [List.getElem?_set_ne e2] at hj
        show SlOk X.K G1 H1 (σ.set i (some (V.ref p)))[j]? s
        rw [List.getElem?_set_ne e2]
        exact S1'.sl j s hj
    · have h3' : (σ.set i (some (V.ref p)))[j]? = some (some (.ref a)) := h3
      have h4' : (σ.set i (some (V.ref p)))[l]? = some (some (.ref a)) := h4
      by_cases e2 : i = j
      · by_cases e3 : i = l
        · rw [← e2, ← e3]
        · exfalso
          subst e2
          rw [List.getElem?_set_ne e3] at h2 h4'
          have hl : i < σ.length := by
            have := (List.getElem?_eq_some_iff.mp h3').1
            rw [List.length_set] at this
            exact this
          rw [List.getElem?_set_self hl] at h3'
          cases h3'
          exact np l zs h2 h4'
      · by_cases e3 : i = l
        · exfalso
          subst e3
          rw [List.getElem?_set_ne e2] at h1 h3'
          have hl : i < σ.length := by
            have := (List.getElem?_eq_some_iff.mp h4').1
            rw [List.length_set] at this
            exact this
          rw [List.getElem?_set_self hl] at h4'
          cases h4'
          exact np j ys h1 h3'
        · rw [List.getElem?_set_ne e2] at h1 h3'
          rw [List.getElem?_set_ne e3] at h2 h4'
          exact S.dj j l a ys zs h1 h2 h3' h4'
    · have h2' : (σ.set i (some (V.ref p)))[j]? = some (some (.ref a)) := h2
      by_cases e2 : i = j
      · subst e2
        have hl : i < σ.length := by
          have := (List.getElem?_eq_some_iff.mp h2').1
          rw [List.length_set] at this
          exact this
        rw [List.getElem?_set_self hl] at h2'
        cases h2'
        exact S.m0.al p hp
      · rw [List.getElem?_set_ne e2] at h1 h2'
        exact S.own j a ys h1 h2'⟩
theorem ds_own {i : Nat} {x : Str} {e : Expr} {t : TDF} {pos' : Pos} (hN : X.N.Nodup) (h : DF X EX e t) (hi : X.N[i]? = some x := by rfl) (hx : Loc X.env.scope x := by first | exact Or.inl rfl | exact Or.inr rfl) (hs : swapsWith e (some (.Name x pos')) pos.line X.env = pure false := by rfl)
    (hf : X.fn x = true ∨ X.env.scope.names.lookup x = some .local := by first | exact .inl rfl | exact .inr rfl | assumption) : DS X EX (.Assign [.Name x pos'] e pos) (dOwn i t) :=
  ds_own' h.mono (ps_set hN hi hx h.pe hs hf) fun _ _ _ h => h
/-- name = [.. for ..] on one line, the name a local: the machine stores it in its own way -/
theorem ps_lc {i : Nat} {y : Str} {py : Pos} {elt tg iter : Expr} {ifs : List Expr} {scope : Scope} {own : List (Str × Nat)} {pos spos : Pos} {wi : TDI} {g : Tgt} {c : TDT} {t : TD} (hc : X.calm = true) (hN : X.N.Nodup) (hi : DI X EX MvP tg iter wi) (ok : BlkOk X.N X.env.scope scope own)
    (hg : ∀ (s : Shared) (H : Hp) (C : Addr) (cl : List (Str × Addr)) (fp : List Addr), PG (X.blk s H scope (compEnvC scope cl C X.env) fp) tg (g.g X.K))
    (ht : ∀ (s : Shared) (H : Hp) (C : Addr) (cl : List (Str × Addr)) (fp : List Addr), DTs (X.blk s H scope (compEnvC scope cl C X.env) fp) EX0 ifs c)
    (he : ∀ (s : Shared) (H : Hp) (C : Addr) (cl : List (Str × Addr)) (fp : List Addr), DE (X.blk s H scope (compEnvC scope cl C X.env) fp) EX0 elt t) (hy : X.N[i]? = some y) (hyl : X.env.scope.names.lookup y = some .local)
    (hsw : swapsWith (.ListComp elt [⟨tg, iter, ifs, 0⟩] scope pos) (some (.Name y py)) spos.line X.env = pure true) (hs : ∀ x, foldedSetIterable iter X.env x = pure x) :
    PS X (.Assign [.Name y py] (.ListComp elt [⟨tg, iter, ifs, 0⟩] scope pos) spos) (tAsg (tLc (liftI X.K EX MvP wi) (g.g X.K) (liftT X.K EX0 c) (liftE X.K EX0 t) (own.map (·.2))) (gName i)) :=
  ps_setLc hc hN hy hyl hsw hi.pi ok hg (fun s H C cl fp => (ht s H C cl fp).pt) (fun s H C cl fp => (he s H C cl fp).pe) hs
theorem ds_setLc {i : Nat} {y : Str} {py : Pos} {elt tg iter : Expr} {ifs : List Expr} {scope : Scope} {own : List (Str × Nat)} {pos spos : Pos} {wi : TDI} {g : Tgt} {c : TDT} {t : TD} (hc : X.calm = true) (hN : X.N.Nodup) (hi : DI X EX MvP tg iter wi) (ok : BlkOk X.N X.env.scope scope own)
    (hg : ∀ (s : Shared) (H : Hp) (C : Addr) (cl : List (Str × Addr)) (fp : List Addr), PG (X.blk s H scope (compEnvC scope cl C X.env) fp) tg (g.g X.K))
    (ht : ∀ (s : Shared) (H : Hp) (C : Addr) (cl : List (Str × Addr)) (fp : List Addr), DTs (X.blk s H scope (compEnvC scope cl C X.env) fp) EX0 ifs c)
    (he : ∀ (s : Shared) (H : Hp) (C : Addr) (cl : List (Str × Addr)) (fp : List Addr), DE (X.blk s H scope (compEnvC scope cl C X.env) fp) EX0 elt t) (hv : ∀ i ∈ g.vars, i ∈ own.map (·.2)) (hy : X.N[i]? = some y := by rfl) (hyl : X.env.scope.names.lookup y = some .local := by rfl)
    (hsw : swapsWith (.ListComp elt [⟨tg, iter, ifs, 0⟩] scope pos) (some (.Name y py)) spos.line X.env = pure true := by exact sw_true rfl rfl rfl (by decide +kernel)) (hs : ∀ x, foldedSetIterable iter X.env x = pure x := by intro _; rfl) :
    DS X EX (.Assign [.Name y py] (.ListComp elt [⟨tg, iter, ifs, 0⟩] scope pos) spos) (dSet i (dFz (dLc wi g c t (own.map (·.2))))) :=
  have h1 := (ht {} (fun _ => none) 0 [] []).mono
  have h2 := (he {} (fun _ => none) 0 [] []).mono
  have mo := dLc_mono (vs := own.map (·.2)) (g := g) hi.mono h1 h2
  ds_set' (dFz_mono mo) (ps_lc hc hN hi ok hg ht he hy hyl hsw hs) fun σ H Q q => lc_imp hi.mono h1 h2 hv σ H Q (fz_imp mo q)
theorem ds_ownLc {i : Nat} {y : Str} {py : Pos} {elt tg iter : Expr} {ifs : List Expr} {scope : Scope} {own : List (Str × Nat)} {pos spos : Pos} {wi : TDI} {g : Tgt} {c : TDT} {t : TD} (hc : X.calm = true) (hN : X.N.Nodup) (hi : DI X EX MvP tg iter wi) (ok : BlkOk X.N X.env.scope scope own)
    (hg : ∀ (s : Shared) (H : Hp) (C : Addr) (cl : List (Str × Addr)) (fp : List Addr), PG (X.blk s H scope (compEnvC scope cl C X.env) fp) tg (g.g X.K))
    (ht : ∀ (s : Shared) (H : Hp) (C : Addr) (cl : List (Str × Addr)) (fp : List Addr), DTs (X.blk s H scope (compEnvC scope cl C X.env) fp) EX0 ifs c)
    (he : ∀ (s : Shared) (H : Hp) (C : Addr) (cl : List (Str × Addr)) (fp : List Addr), DE (X.blk s H scope (compEnvC scope cl C X.env) fp) EX0 elt t) (hv : ∀ i ∈ g.vars, i ∈ own.map (·.2)) (hy : X.N[i]? = some y := by rfl) (hyl : X.env.scope.names.lookup y = some .local := by rfl)
    (hsw : swapsWith (.ListComp elt [⟨tg, iter, ifs, 0⟩] scope pos) (some (.Name y py)) spos.line X.env = pure true := by exact sw_true rfl rfl rfl (by decide +kernel)) (hs : ∀ x, foldedSetIterable iter X.env x = pure x := by intro _; rfl) :
    DS X EX (.Assign [.Name y py] (.ListComp elt [⟨tg, iter, ifs, 0⟩] scope pos) spos) (dOwn i (dLc wi g c t (own.map (·.2)))) :=
  have h1 := (ht {} (fun _ => none) 0 [] []).mono
  have h2 := (he {} (fun _ => none) 0 [] []).mono
  ds_own' (dLc_mono hi.mono h1 h2) (ps_lc hc hN hi ok hg ht he hy hyl hsw hs) fun σ H Q q => lc_imp hi.mono h1 h2 hv σ H Q q
/-- (a, b, ..) = e -/
def dAsg (t : TD) (g : Tgt) : TDS := fun E Γ W => t (E.x Γ) Γ W fun e W1 => match e with
  | .val d => match g.sto d Γ with
    | some Γ1 => E.nx Γ1 W1
    | none => False
  | _ => False
theorem ds_asg {tg e : Expr} {t : TD} {g : Tgt} (h : DE X EX e t) (hg : PG X tg (g.g X.K)) (hs : swapsWithSole [tg] e pos.line X.env = pure false := by rfl) (hw : swappedStores [tg] e X.env = pure none := by rfl)
    (h1 : (assignEach [tg] X.env).map (·.2) = [assign tg X.env] := by rfl) : DS X EX (.Assign [tg] e pos) (dAsg t g) :=
  ⟨fun E E' Γ W l q => h.mono _ _ _ _ _ _ (l.x Γ) (fun e W1 q => by
    split at q
    · split at q
      · exact l.nx _ _ q
      · exact q
    · exact q) q, PS.imp (ps_asg h.pe hg hs hw h1) fun D σ H q => by
    obtain ⟨G0, H0, G, Γ, W, S, q⟩ := q
    refine liftE.go h.mono (S.stx (EX := EX) (D := D)) q fun e W1 v G1 H1 q m1 S1 r1 => ?_
    split at q
    · split at q
      · rename_i d _ Γ1 hst
        exact Tgt.go g d v σ Γ Γ1 _ S1.toSta r1 hst fun σ' S' sb _ => q G1 σ' H1 ((S.mv m1 S1.ok).sub S' sb) (m1.keep S.ok)
      · exact q.elim
    · exact q.elim⟩
/-! ### e; return e; if -/
def dExp (t : TD) : TDS := fun E Γ W => t (E.x Γ) Γ W fun _ W1 => E.nx Γ W1
theorem ds_exp {e : Expr} {t : TD} (h : DE X EX e t) (hs : swapsWith e none pos.line X.env = pure false := by rfl) : DS X EX (.Expr e pos) (dExp t) :=
  ⟨fun E E' Γ W l q => h.mono _ _ _ _ _ _ (l.x Γ) (fun e W1 q => l.nx _ _ q) q, PS.imp (ps_expr h.pe hs) fun D σ H q => by
    obtain ⟨G0, H0, G, Γ, W, S, q⟩ := q
    exact liftE.go h.mono (S.stx (EX := EX) (D := D)) q fun e W1 v G1 H1 q m1 S1 r1 => q G1 σ H1 (S.mv m1 S1.ok) (m1.keep S.ok)⟩
def dRet (t : TD) : TDS := fun E Γ W => t (E.x Γ) Γ W fun e W1 => match e with
  | .val d => E.rt d W1
  | _ => False
theorem ds_ret {e : Expr} {t : TD} (h : DE X EX e t) : DS X EX (.Return (some e) pos) (dRet t) :=
  ⟨fun E E' Γ W l q => h.mono _ _ _ _ _ _ (l.x Γ) (fun e W1 q => by
    split at q
    · exact l.rt _ _ q
    · exact q) q, PS.imp (ps_ret h.pe) fun D σ H q => by
    obtain ⟨G0, H0, G, Γ, W, S, q⟩ := q
    refine liftE.go h.mono (S.stx (EX := EX) (D := D)) q fun e W1 v G1 H1 q m1 S1 r1 => ?_
    split at q
    · exact q v G1 H1 (S.m0.trans m1) S1.ok r1
    · exact q.elim⟩
def dIf (c : TDT) (t u : TDS) : TDS := fun E Γ W => c (E.x Γ) Γ W fun b W1 => if b = true then t E Γ W1 else u E Γ W1
theorem ds_if {c : Expr} {a b : List Stmt} {tc : TDT} {t u : TDS} (hc : DT X EX c tc) (ha : DSs X EX a t) (hb : DSs X EX b u) : DS X EX (.If c a b pos) (dIf tc t u) :=
  ⟨fun E E' Γ W l q => hc.mono _ _ _ _ _ _ (l.x Γ) (fun b W1 q => by
    by_cases e : b = true
    · rw [if_pos e] at q ⊢; exact ha.mono _ _ _ _ l q
    · rw [if_neg e] at q ⊢; exact hb.mono _ _ _ _ l q) q, PS.imp (ps_if hc.pt ha.pss hb.pss) fun D σ H q => by
    obtain ⟨G0, H0, G, Γ, W, S, q⟩ := q
    refine liftT.go hc.mono (S.stx (EX := EX) (D := D)) q fun b W1 G1 H1 q m1 S1 => ?_
    have S1' := S.mv m1 S1.ok
    by_cases e : b = true
    · rw [if_pos e] at q ⊢
      exact ⟨G0, H0, G1, Γ, W1, S1', ha.mono _ _ _ _ (endsOf.le (m1.keep S.ok)) q⟩
    · rw [if_neg e] at q ⊢
      exact ⟨G0, H0, G1, Γ, W1, S1', hb.mono _ _ _ _ (endsOf.le (m1.keep S.ok)) q⟩⟩
theorem ds_pass : DS X EX (.Pass pos) dSkip := ⟨fun E E' Γ W l h => l.nx _ _ h, PS.imp ps_pass fun D σ H h => by
  obtain ⟨G0, H0, G, Γ, W, S, h⟩ := h
  exact h G σ H S .refl⟩
def dBrk : TDS := fun E Γ W => E.bk Γ W
def dCont : TDS := fun E Γ W => E.ct Γ W
theorem ds_break : DS X EX (.Break pos) dBrk := ⟨fun E E' Γ W l h => l.bk _ _ h, PS.imp ps_break fun D σ H h => by
  obtain ⟨G0, H0, G, Γ, W, S, h⟩ := h
  exact h G σ H S .refl⟩
theorem ds_continue : DS X EX (.Continue pos) dCont := ⟨fun E E' Γ W l h => l.ct _ _ h, PS.imp ps_continue fun D σ H h => by
  obtain ⟨G0, H0, G, Γ, W, S, h⟩ := h
  exact h G σ H S .refl⟩

/-! ### for -/
/-- the ends of a loop's body -/
def DEnds.loop (E : DEnds) (f : Gs → Ws → Prop) : DEnds := { E with nx := f, ct := f, bk := E.nx }
theorem DEnds.loop_le {E E' : DEnds} {f f' : Gs → Ws → Prop} (l : DEnds.Le E E') (h : ∀ Γ W, f Γ W → f' Γ W) : DEnds.Le (E.loop f) (E'.loop f') := ⟨h, l.rt, l.nx, h, l.xc⟩

def forGo (g : Tgt) (b : TDS) : List D → TDS
  | [], E, Γ, W => E.nx Γ W
  | d :: r, E, Γ, W => match g.sto d Γ with
    | some Γ1 => b (E.loop fun Γ2 W2 => forGo g b r E Γ2 W2) Γ1 W
    | none => False
theorem forGo_mono {g : Tgt} {b : TDS} (hb : MonoS b) : ∀ ds, MonoS (forGo g b ds)
  | [], E, E', Γ, W, l, h => l.nx _ _ h
  | d :: r, E, E', Γ, W, l, h => by
    unfold forGo at h ⊢
    split at h
    · exact hb _ _ _ _ (DEnds.loop_le l fun Γ2 W2 h => forGo_mono hb r _ _ _ _ l h) h
    · exact h
def dFor (wi : TDI) (g : Tgt) (b : TDS) : TDS := fun E Γ W => wi (E.x Γ) Γ W fun items W1 => forGo g b items E Γ W1
theorem ds_for {tg iter : Expr} {body : List Stmt} {wi : TDI} {g : Tgt} {b : TDS} (hp : PassesOwn (model X.prog X.w) X.A X.env X.xe) (hc : X.calm = true) (hi : DI X EX Keep tg iter wi) (hg : PG X tg (g.g X.K)) (hb : DSs X EX body b)
    (hs : ∀ x, foldedSetIterable iter X.env x = pure x := by intro _; rfl) : DS X EX (.For tg iter body [] pos) (dFor wi g b) :=
  ⟨fun E E' Γ W l q => hi.mono _ _ _ _ _ _ (l.x Γ) (fun items W1 q => forGo_mono hb.mono items _ _ _ _ l q) q, PS.imp (ps_for hp hc hi.pi hg hb.pss hs) fun D σ H q => by
    obtain ⟨G0, H0, G, Γ, W, S, q⟩ := q
    refine ⟨G, Γ, W, _, S.stx (EX := EX) (D := D), hi.mono _ _ _ _ _ _ (fun _ _ _ h => h) (fun items W1 q J G1 H1 m1 k1 hJ hz => ?_) q⟩
    have S1 := S.mv m1 k1
    refine ⟨fun i m σ H2 => m = items.length - i ∧ i ≤ items.length ∧ ∃ G2 Γ2 W2, Sto X.K G0 H0 G2 σ H2 Γ2 W2 ∧ Keep G1 H1 G2 H2 ∧ forGo g b (items.drop i) (endsOf X.K EX G0 H0 G H D) Γ2 W2, ⟨_, rfl, Nat.zero_le _, G1, Γ, W1, S1, .refl, q⟩, ?_⟩
    rintro i m σ2 H2 ⟨rfl, hi2, G2, Γ2, W2, S2, k2, q⟩
    obtain ⟨stop, go⟩ := hJ G2 H2 W2 k2 S2.ok i
    have k02 : Keep G H G2 H2 := (m1.keep S.ok).trans k2
    by_cases hlt : i < items.length
    · obtain ⟨gi, gx⟩ := go _ (List.getElem?_eq_getElem hlt)
      rw [List.drop_eq_getElem_cons hlt] at q
      refine .inr ⟨gi, fun σ' H' => ∃ G3 Γ3 W3, Sto X.K G0 H0 G3 σ' H' Γ3 W3 ∧ Keep G1 H1 G3 H' ∧ forGo g b (items.drop (i + 1)) (endsOf X.K EX G0 H0 G H D) Γ3 W3, fun σ' H' z => ⟨_, by omega, rfl, hlt, z⟩, fun x H3 y => ?_⟩
      obtain ⟨G3, m3, k3, rx⟩ := gx x H3 y
      have S3 := S2.mv m3 k3
      unfold forGo at q
      split at q
      · rename_i Γ4 hst
        refine Tgt.go g _ x σ2 Γ2 Γ4 _ S3.toSta rx hst fun σ4 S4 sb _ => ?_
        have k13 : Keep G1 H1 G3 H3 := k2.trans (m3.keep S2.ok)
        refine ⟨G0, H0, G3, Γ4, W2, S3.sub S4 sb, hb.mono ((endsOf X.K EX G0 H0 G H D).loop fun Γ2 W2 => forGo g b (items.drop (i + 1)) (endsOf X.K EX G0 H0 G H D) Γ2 W2) _ _ _ ⟨fun Γ5 W5 q G5 σ5 H5 S5 k5 => ⟨G5, Γ5, W5, S5, k13.trans k5, q⟩, fun d W h => h, fun Γ5 W5 q G5 σ5 H5 S5 k5 => ?_, fun Γ5 W5 q G5 σ5 H5 S5 k5 => ⟨G5, Γ5, W5, S5, k13.trans k5, q⟩, fun C fs Γ5 W5 q d G5 σ5 H5 S5 k5 x5 => ?_⟩ q⟩
        · exact q G5 σ5 H5 S5 ((k02.trans (m3.keep S2.ok)).trans k5)
        · exact q d G5 σ5 H5 S5 ((k02.trans (m3.keep S2.ok)).trans k5) x5
      · exact q.elim
    · have e : i = items.length := by omega
      subst e
      rw [List.drop_length] at q
      unfold forGo at q
      exact .inl ⟨stop (Nat.le_refl _), q G2 σ2 H2 S2 k02⟩⟩
/-! ### while -/
def dWhile (c : TDT) (b : TDS) : TDS := fun E Γ W => ∃ I : Nat → Gs → Ws → Prop, (∃ m, I m Γ W) ∧ ∀ m Γ W, I m Γ W → c (E.x Γ) Γ W fun k W1 =>
  if k = true then b (E.loop fun Γ2 W2 => ∃ m', m' < m ∧ I m' Γ2 W2) Γ W1 else E.nx Γ W1
theorem ds_while {c : Expr} {body : List Stmt} {tc : TDT} {b : TDS} (hp : PassesOwn (model X.prog X.w) X.A X.env X.xe) (hc : DT X EX c tc) (hb : DSs X EX body b) : DS X EX (.While c body [] pos) (dWhile tc b) :=
  ⟨fun E E' Γ W l q => by
    obtain ⟨I, h0, h⟩ := q
    refine ⟨I, h0, fun m Γ W hI => hc.mono _ _ _ _ _ _ (l.x Γ) (fun k W1 q => ?_) (h m Γ W hI)⟩
    by_cases e : k = true
    · rw [if_pos e] at q ⊢
      exact hb.mono _ _ _ _ (DEnds.loop_le l fun _ _ h => h) q
    · rw [if_neg e] at q ⊢
      exact l.nx _ _ q, PS.imp (ps_while hp hc.pt hb.pss) fun D σ H q => by
    obtain ⟨G0, H0, G, Γ, W, S, I, ⟨m0, h0⟩, q⟩ := q
    refine ⟨fun m σ H2 => ∃ G2 Γ2 W2, Sto X.K G0 H0 G2 σ H2 Γ2 W2 ∧ Keep G H G2 H2 ∧ I m Γ2 W2, ⟨m0, G, Γ, W, S, .refl, h0⟩, ?_⟩
    rintro m σ2 H2 ⟨G2, Γ2, W2, S2, k2, hI⟩
    have q2 := q m Γ2 W2 hI
    have st : Stx X.K EX ((endsOf X.K EX G0 H0 G H D).x Γ2) G2 σ2 H2 Γ2 W2 := ⟨S2.toSta, fun C fs W' d G' H' e mm k x => e d G' σ2 H' (S2.mv mm k) (k2.trans (mm.keep S2.ok)) x⟩
    refine liftT.go hc.mono st q2 fun k W3 G3 H3 q m3 S3 => ?_
    have S3' := S2.mv m3 S3.ok
    have k3 := k2.trans (m3.keep S2.ok)
    by_cases e : k = true
    · rw [if_pos e] at q ⊢
      refine ⟨fun σ' H' => ∃ m', m' < m ∧ ∃ G4 Γ4 W4, Sto X.K G0 H0 G4 σ' H' Γ4 W4 ∧ Keep G H G4 H' ∧ I m' Γ4 W4, fun σ' H' z => z, ⟨G0, H0, G3, Γ2, W3, S3', hb.mono ((endsOf X.K EX G0 H0 G H D).loop fun Γ2 W2 => ∃ m', m' < m ∧ I m' Γ2 W2) _ _ _ ⟨fun Γ5 W5 q G5 σ5 H5 S5 k5 => ?_, fun d W h => h, fun Γ5 W5 q G5 σ5 H5 S5 k5 => ?_, fun Γ5 W5 q G5 σ5 H5 S5 k5 => ?_, fun C fs Γ5 W5 q d G5 σ5 H5 S5 k5 x5 => ?_⟩ q⟩⟩
      · obtain ⟨m', hm, hi⟩ := q
        exact ⟨m', hm, G5, Γ5, W5, S5, k3.trans k5, hi⟩
      · exact q G5 σ5 H5 S5 (k3.trans k5)
      · obtain ⟨m', hm, hi⟩ := q
        exact ⟨m', hm, G5, Γ5, W5, S5, k3.trans k5, hi⟩
      · exact q d G5 σ5 H5 S5 (k3.trans k5) x5
    · rw [if_neg e] at q ⊢
      exact q G3 σ2 H3 S3' k3⟩
end
end DL

set_option Elab.async false
set_option linter.all false
set_option maxRecDepth 100000
/-! DatI: owned lists that change, defs' promises over data, calls. -/
namespace DL
open PySem PySem.Spec PyProof.Rows L2
section
variable {K : PySem.W.Frag} {G0 G G' : Gh} {H0 H H' : Hp} {W W' : Ws} {σ : L2.St} {Γ : Gs}
theorem ix_of_nodup {α : Type} {l : List α} (hN : l.Nodup) {i j : Nat} {x : α} (a : l[i]? = some x) (b : l[j]? = some x) : i = j := by
  obtain ⟨h1, e1⟩ := List.getElem?_eq_some_iff.mp a
  obtain ⟨h2, e2⟩ := List.getElem?_eq_some_iff.mp b
  have p := List.pairwise_iff_getElem.mp hN
  rcases Nat.lt_trichotomy i j with h | h | h
  · exact absurd (e1.trans e2.symm) (p i j h1 h2 h)
  · exact h
  · exact absurd (e2.trans e1.symm) (p j i h2 h1 h)
/-- an owned list is changed -/
theorem Sto.put (S : Sto K G0 H0 G σ H Γ W) {i : Nat} {a : Addr} {xs ys : List D} {us : List V} (h : Γ[i]? = some (.ow xs)) (e : σ[i]? = some (some (.ref a))) (r : RepL K G H us ys) (hz : us.length ≤ sizeLine) :
    Sto K G0 H0 G σ (upd H a (.lst us)) (Γ.set i (.ow ys)) W ∧ Keep G H G (upd H a (.lst us)) := by
  obtain ⟨b, vs, e', nf, nr, q, _, _⟩ := S.sl i _ h
  rw [e] at e'
  cases e'
  have kp : Keep G H G (upd H a (.lst us)) := Keep.poke nf
  have hl : i < Γ.length := (List.getElem?_eq_some_iff.mp h).1
  refine ⟨⟨⟨S.ok.poke nf nr, by rw [List.length_set]; exact S.len, fun j s hj => ?_, fun j l b ys' zs h1 h2 h3 h4 => ?_⟩, ⟨S.m0.f1, S.m0.f2, fun b o h1 h2 => ?_, S.m0.r1, fun b hb => S.m0.al b ?_⟩, fun j b ys' h1 h2 => ?_⟩, kp⟩
  · by_cases e2 : i = j
    · subst e2
      rw [List.getElem?_set_self hl] at hj
      cases hj
      exact ⟨a, us, e, nf, nr, upd_same, RepL.keep kp _ _ r, hz⟩
    · rw [List.getElem?_set_ne e2] at hj
      have sj := S.sl j s hj
      cases s with
      | no => trivial
      | fz d => obtain ⟨v, e3, r3⟩ := sj; exact ⟨v, e3, Rep.keep kp _ _ r3⟩
      | ow zs =>
        obtain ⟨b, ws, e3, nf3, nr3, q3, r3, z3⟩ := sj
        refine ⟨b, ws, e3, nf3, nr3, ?_, RepL.keep kp _ _ r3, z3⟩
        rw [upd_ne fun z => e2 (S.dj i j a xs zs h hj e (by rw [← z]; exact e3))]
        exact q3
  · have old : ∀ (j : Nat) (zs : List D), (Γ.set i (.ow ys))[j]? = some (.ow zs) → ∃ zs', Γ[j]? = some (.ow zs') := fun j zs hj => by
      by_cases e2 : i = j
      · subst e2; exact ⟨xs, h⟩
      · rw [List.getElem?_set_ne e2] at hj; exact ⟨zs, hj⟩
    obtain ⟨_, q1⟩ := old j ys' h1
    obtain ⟨_, q2⟩ := old l zs h2
    exact S.dj j l b _ _ q1 q2 h3 h4
  · have nb : b ≠ a := fun z => by
      have := S.own i a xs h e
      rw [← z, h1] at this
      cases this
    rw [upd_ne nb]
    exact S.m0.sm b o h1 h2
  · by_cases z : b = a
    · rw [z, upd_same] at hb; cases hb
    · rw [upd_ne z] at hb; exact hb
  · by_cases e2 : i = j
    · subst e2
      rw [e] at h2
      cases h2
      exact S.own i a xs h e
    · rw [List.getElem?_set_ne e2] at h1
      exact S.own j b ys' h1 h2
/-- a token's list is changed -/
theorem Mv.put {n : Nat} {a : Addr} {o : HO} (k : Ok K G H W) (h : G.ρ[n]? = some a) : Mv G H G (upd H a o) :=
  ⟨fun _ h => h, fun _ h => .inl h, fun b u h1 h2 => by rw [upd_ne fun z => h2 (by rw [z]; exact List.mem_of_getElem? h)]; exact h1, ⟨[], by simp, by simp⟩, fun b hb => by
    by_cases z : b = a
    · rw [z, upd_same] at hb; cases hb
    · rw [upd_ne z] at hb; exact hb⟩
theorem Ok.put {n : Nat} {a : Addr} {us : List V} {ys : List D} (k : Ok K G H W) (h : G.ρ[n]? = some a) (r : RepL K G H us ys) (hz : us.length ≤ sizeLine) : Ok K G (upd H a (.lst us)) (W.set n ys) := by
  have nf : ¬ G.F a := k.nf a (List.mem_of_getElem? h)
  have kp : Keep G H G (upd H a (.lst us)) := Keep.poke nf
  refine ⟨fun b hb => ?_, by rw [List.length_set]; exact k.len, k.nod, k.nf, fun m b xs h1 h2 => ?_⟩
  · rw [upd_ne fun z => nf (by rw [← z]; exact hb)]
    exact k.fok b hb
  · by_cases e : n = m
    · subst e
      rw [h] at h1
      cases h1
      have hl : n < W.length := by
        have := (List.getElem?_eq_some_iff.mp h2).1
        rw [List.length_set] at this
        exact this
      rw [List.getElem?_set_self hl] at h2
      cases h2
      exact ⟨us, upd_same, RepL.keep kp _ _ r, hz⟩
    · rw [List.getElem?_set_ne e] at h2
      obtain ⟨vs, q, r2, z⟩ := k.tk m b xs h1 h2
      have nb : b ≠ a := fun z => e (ix_of_nodup k.nod h (z ▸ h1))
      exact ⟨vs, by rw [upd_ne nb]; exact q, RepL.keep kp _ _ r2, z⟩
end
section
variable {X : Cx} {EX : WX} {pos : Pos}
/-! ### owned lists: append, extend, [i] = -/
def dApp (i : Nat) (t : TD) : TDS := fun E Γ W => match Γ[i]? with
  | some (.ow xs) => t (E.x Γ) Γ W fun e W1 => match e with
    | .val d => xs.length < sizeLine ∧ E.nx (Γ.set i (.ow (xs ++ [d]))) W1
    | _ => False
  | _ => False
theorem own_at {K : PySem.W.Frag} {G : Gh} {H : Hp} {W : Ws} {σ : L2.St} {Γ : Gs} (S : Sta K G σ H Γ W) {i : Nat} {xs : List D} (h : Γ[i]? = some (.ow xs)) : ∃ a vs, σ[i]? = some (some (.ref a)) ∧ H a = some (.lst vs) ∧ RepL K G H vs xs ∧ vs.length ≤ sizeLine := by
  obtain ⟨a, vs, e, _, _, q, r, z⟩ := S.sl i _ h
  exact ⟨a, vs, e, q, r, z⟩
theorem ds_app' {st : Stmt} {i : Nat} {t : TD} (hp : PS X st (tDrop (tBM X.K "list" rAppend (tVar i) (tCons (liftE X.K EX t) tNil)))) (mo : MonoE t) : DS X EX st (dApp i t) :=
  ⟨fun E E' Γ W l q => by
    unfold dApp at q ⊢
    split at q
    · exact mo _ _ _ _ _ _ (l.x Γ) (fun e W1 q => by
        split at q
        · exact ⟨q.1, l.nx _ _ q.2⟩
        · exact q) q
    · exact q, PS.imp hp fun D σ H q => by
    obtain ⟨G0, H0, G, Γ, W, S, q⟩ := q
    unfold dApp at q
    split at q
    · rename_i xs hx
      obtain ⟨a, vs, e, hH, r, z⟩ := own_at S.toSta hx
      refine ⟨.ref a, e, Or.inl ⟨rfl, _, Or.inl (Or.inl hH)⟩, ?_⟩
      refine liftE.go mo (S.stx (EX := EX) (D := D)) q fun e1 W1 v G1 H1 q m1 S1 r1 => ?_
      split at q
      · rename_i d
        obtain ⟨b, us, e', hH1, r2, z2⟩ := own_at S1.toSta hx
        rw [e] at e'
        cases e'
        have S1' := S.mv m1 S1.ok
        obtain ⟨S2, k2⟩ := S1'.put (ys := xs ++ [d]) (us := us ++ [v]) hx e (r2.app (RepL.one r1)) (by rw [List.length_append, r2.length]; show xs.length + 1 ≤ _; omega)
        exact ⟨a, us, v, rfl, rfl, hH1, by rw [r2.length]; exact q.1, q.2 G1 σ _ S2 ((m1.keep S.ok).trans k2)⟩
      · exact q.elim
    · exact q.elim⟩
/-- name.append(e), the name in slot i -/
theorem ds_app (i : Nat) {x : Str} {e : Expr} {npos apos cpos : Pos} {t : TD} (h : DE X EX e t) (hN : X.N[i]? = some x := by rfl) (hv : Vis X.env.scope x := by first | exact Or.inl rfl | exact Or.inr (Or.inl rfl) | exact Or.inr (Or.inr rfl)) (hd : (x == ("__debug__" : Str)) = false := by decide)
    (hcd : (x == ("__classdict__" : Str)) = false := by decide) (he : starEach (e :: []) X.env = (false, eval e X.env) :: starEach [] X.env := by rfl)
    (hfew : ((backTo cpos (starEach (e :: []) X.env)).all (fun x => !x.1) && (backToKw cpos (keywordEach [] X.env)).all (fun x => x.1.isSome)
      && decide ((e :: ([] : List Expr)).length + ([] : List Keyword).length + (if ([] : List Keyword).isEmpty then 0 else 1) < 30)) = true := by rfl)
    (hline : (apos.endLine == cpos.line) = true := by rfl) (hs : swapsWith (.Call (.Attribute (.Name x npos) "append" apos) [e] [] cpos) none pos.line X.env = pure false := by rfl) : DS X EX (.Expr (.Call (.Attribute (.Name x npos) "append" apos) [e] [] cpos) pos) (dApp i t) :=
  ds_app' (ps_expr (pe_bm PySem.F.plainAttrs_list PySem.F.slot_list_append PySem.F.type_list_append mt_append (pv i hN hv hd hcd) (pa_cons h.pe pa_nil he) rfl hfew hline he rfl) hs) h.mono
/-- name.extend(e) -/
def dExt (i : Nat) (t : TD) : TDS := fun E Γ W => match Γ[i]? with
  | some (.ow xs) => t (E.x Γ) Γ W fun e W1 => match e.r W1 with
    | .lst ys => xs.length + ys.length ≤ sizeLine ∧ E.nx (Γ.set i (.ow (xs ++ ys))) W1
    | _ => False
  | _ => False
theorem ds_ext' {st : Stmt} {i : Nat} {t : TD} (hp : PS X st (tDrop (tBM X.K "list" rExtend (tVar i) (tCons (liftE X.K EX t) tNil)))) (mo : MonoE t) : DS X EX st (dExt i t) :=
  ⟨fun E E' Γ W l q => by
    unfold dExt at q ⊢
    split at q
    · exact mo _ _ _ _ _ _ (l.x Γ) (fun e W1 q => by
        split at q
        · exact ⟨q.1, l.nx _ _ q.2⟩
        · exact q) q
    · exact q, PS.imp hp fun D σ H q => by
    obtain ⟨G0, H0, G, Γ, W, S, q⟩ := q
    unfold dExt at q
    split at q
    · rename_i xs hx
      obtain ⟨a, vs, e, hH, r, z⟩ := own_at S.toSta hx
      refine ⟨.ref a, e, Or.inl ⟨rfl, _, Or.inl (Or.inl hH)⟩, ?_⟩
      refine liftE.go mo (S.stx (EX := EX) (D := D)) q fun e1 W1 v G1 H1 q m1 S1 r1 => ?_
      split at q
      · rename_i ys hy
        obtain ⟨c, ws, rfl, hc, rc⟩ := S1.toSta.seq r1 hy
        obtain ⟨b, us, e', hH1, r2, z2⟩ := own_at S1.toSta hx
        rw [e] at e'
        cases e'
        have S1' := S.mv m1 S1.ok
        obtain ⟨S2, k2⟩ := S1'.put (ys := xs ++ ys) (us := us ++ ws) hx e (r2.app rc) (by rw [List.length_append, r2.length, rc.length]; exact q.1)
        exact ⟨a, c, us, ws, rfl, rfl, hH1, hc, by rw [r2.length, rc.length]; exact q.1, q.2 G1 σ _ S2 ((m1.keep S.ok).trans k2)⟩
      · exact q.elim
    · exact q.elim⟩
theorem ds_ext (i : Nat) {x : Str} {e : Expr} {npos apos cpos : Pos} {t : TD} (h : DE X EX e t) (hN : X.N[i]? = some x := by rfl) (hv : Vis X.env.scope x := by first | exact Or.inl rfl | exact Or.inr (Or.inl rfl) | exact Or.inr (Or.inr rfl)) (hd : (x == ("__debug__" : Str)) = false := by decide)
    (hcd : (x == ("__classdict__" : Str)) = false := by decide) (he : starEach (e :: []) X.env = (false, eval e X.env) :: starEach [] X.env := by rfl)
    (hfew : ((backTo cpos (starEach (e :: []) X.env)).all (fun x => !x.1) && (backToKw cpos (keywordEach [] X.env)).all (fun x => x.1.isSome)
      && decide ((e :: ([] : List Expr)).length + ([] : List Keyword).length + (if ([] : List Keyword).isEmpty then 0 else 1) < 30)) = true := by rfl)
    (hline : (apos.endLine == cpos.line) = true := by rfl) (hs : swapsWith (.Call (.Attribute (.Name x npos) "extend" apos) [e] [] cpos) none pos.line X.env = pure false := by rfl) : DS X EX (.Expr (.Call (.Attribute (.Name x npos) "extend" apos) [e] [] cpos) pos) (dExt i t) :=
  ds_ext' (ps_expr (pe_bm PySem.F.plainAttrs_list PySem.F.slot_list_extend PySem.F.type_list_extend mt_extend (pv i hN hv hd hcd) (pa_cons h.pe pa_nil he) rfl hfew hline he rfl) hs) h.mono
/-- name[k] = e -/
def dPut (i : Nat) (t u : TD) : TDS := fun E Γ W => match Γ[i]? with
  | some (.ow xs) => t (E.x Γ) Γ W fun e W1 => u (E.x Γ) Γ W1 fun k W2 => match e, k with
    | .val d, .val (.int k) => ∃ j, ixN xs.length k = some j ∧ E.nx (Γ.set i (.ow (xs.set j d))) W2
    | _, _ => False
  | _ => False
theorem ds_put (i : Nat) {x : Str} {e k : Expr} {npos spos : Pos} {t u : TD} (h : DE X EX e t) (hk : DE X EX k u) (hN : X.N[i]? = some x := by rfl) (hv : Vis X.env.scope x := by first | exact Or.inl rfl | exact Or.inr (Or.inl rfl) | exact Or.inr (Or.inr rfl)) (hd : (x == ("__debug__" : Str)) = false := by decide)
    (hcd : (x == ("__classdict__" : Str)) = false := by decide) (hs : swapsWithSole [.Subscript (.Name x npos) k spos] e pos.line X.env = pure false := by rfl) (hw : swappedStores [.Subscript (.Name x npos) k spos] e X.env = pure none := by rfl)
    (h1 : (assignEach [.Subscript (.Name x npos) k spos] X.env).map (·.2) = [assign (.Subscript (.Name x npos) k spos) X.env] := by rfl)
    (ha : ∀ v, assign (.Subscript (.Name x npos) k spos) X.env v = (do
      let ov ← holding [v] (eval (.Name x npos) X.env)
      let iv ← holding [v, ov] (eval k X.env)
      standAt spos
      holding [v, ov, iv] (setItem ov iv v)
      release [v, ov, iv] []) := by intro _; rfl) : DS X EX (.Assign [.Subscript (.Name x npos) k spos] e pos) (dPut i t u) :=
  ⟨fun E E' Γ W l q => by
    unfold dPut at q ⊢
    split at q
    · exact h.mono _ _ _ _ _ _ (l.x Γ) (fun e W1 q => hk.mono _ _ _ _ _ _ (l.x Γ) (fun k W2 q => by
        split at q
        · obtain ⟨j, hj, q⟩ := q
          exact ⟨j, hj, l.nx _ _ q⟩
        · exact q) q) q
    · exact q, PS.imp (ps_asg h.pe (pg_sub (pv i hN hv hd hcd) hk.pe set_list ha) hs hw h1) fun D σ H q => by
    obtain ⟨G0, H0, G, Γ, W, S, q⟩ := q
    unfold dPut at q
    split at q
    · rename_i xs hx
      obtain ⟨a, vs, e, hH, r, z⟩ := own_at S.toSta hx
      refine liftE.go h.mono (S.stx (EX := EX) (D := D)) q fun e1 W1 v G1 H1 q m1 S1 r1 => ?_
      refine ⟨.ref a, e, ?_⟩
      refine liftE.go hk.mono S1 q fun k1 W2 w G2 H2 q m2 S2 r2 => ?_
      split at q
      · rename_i d kk _
        obtain ⟨j, hj, q⟩ := q
        have e2 : w = .int kk := r2
        subst e2
        obtain ⟨b, us, e', hH1, r3, z2⟩ := own_at S2.toSta hx
        rw [e] at e'
        cases e'
        have S2' := (S.mv m1 S1.ok).mv m2 S2.ok
        obtain ⟨S3, k3⟩ := S2'.put (ys := xs.set j d) (us := us.set j v) hx e (RepL.set (Rep.mv m2 S1.ok _ _ r1) j r3) (by rw [List.length_set]; exact z2)
        exact ⟨a, us, kk, j, rfl, rfl, hH1, by rw [r3.length]; exact hj, q G2 σ _ S3 (((m1.trans m2).keep S.ok).trans k3)⟩
      · exact q.elim
    · exact q.elim⟩

/-! ### what a def promises -/
abbrev DSp := List D → Ws → (D → Ws → Prop) → XD → Prop
def toSp (K : PySem.W.Frag) (p : DSp) : Sp := fun vs H Q E => ∃ G W ds, Ok K G H W ∧ RepL K G H vs ds ∧ p ds W (fun d W' => ∀ v G' H', Mv G H G' H' → Ok K G' H' W' → Rep K G' H' v d → Q v H')
  fun C fs W' => ∀ d G' H', Mv G H G' H' → Ok K G' H' W' → XFld K G' H' d fs → E (.ref C) d H'
def MonoP (p : DSp) : Prop := ∀ ds W Q Q' E E', (∀ d W', Q d W' → Q' d W') → (∀ C fs W', E C fs W' → E' C fs W') → p ds W Q E → p ds W Q' E'
def startG (N : List Str) (ds : List D) : Gs := ds.map .fz ++ List.replicate (N.length - ds.length) .no
theorem start_ok {K : PySem.W.Frag} {G : Gh} {H : Hp} {W : Ws} {N : List Str} {vs : List V} {ds : List D} (k : Ok K G H W) (r : RepL K G H vs ds) : Sto K G H G (L2.start N vs) H (startG N ds) W := by
  have hl := r.length
  have noow : ∀ (i : Nat) (xs : List D), (startG N ds)[i]? ≠ some (.ow xs) := fun i xs h => by
    unfold startG at h
    rcases Nat.lt_or_ge i ds.length with hi | hi
    · rw [List.getElem?_append_left (by rw [List.length_map]; exact hi), List.getElem?_map] at h
      cases q : ds[i]? with
      | none => rw [q] at h; cases h
      | some d => rw [q] at h; cases h
    · rw [List.getElem?_append_right (by rw [List.length_map]; exact hi)] at h
      have := List.mem_of_getElem? h
      rw [List.mem_replicate] at this
      cases this.2
  refine ⟨⟨k, by unfold startG L2.start; simp [hl], fun i s h => ?_, fun i j a xs ys h1 => absurd h1 (noow i xs)⟩, .refl, fun i a xs h1 => absurd h1 (noow i xs)⟩
  unfold startG at h
  rcases Nat.lt_or_ge i ds.length with hi | hi
  · rw [List.getElem?_append_left (by rw [List.length_map]; exact hi), List.getElem?_map] at h
    obtain ⟨d, hd, e⟩ := Option.map_eq_some_iff.mp h
    subst e
    obtain ⟨v, hv, rv⟩ := r.get hd
    refine ⟨v, ?_, rv⟩
    unfold L2.start
    rw [List.getElem?_append_left (by rw [List.length_map, hl]; exact hi), List.getElem?_map, hv]
    rfl
  · rw [List.getElem?_append_right (by rw [List.length_map]; exact hi)] at h
    have := List.mem_of_getElem? h
    rw [List.mem_replicate] at this
    rw [this.2]
    trivial
section
variable {P : Program} {w : World} {K : PySem.W.Frag} {mg : Str → Option Value} {base : Heap}
/-- a def that raises nothing -/
theorem fn0 {x qual : Str} {st : Stmt} {f : Addr} {fd : FuncData} {N ps : List Str} {k : Nat} {p : DSp} {t : TDS} (F : Fun K x qual st f fd) (S : FnScope N ps (defScope st)) (len : ∀ ds W Q E, p ds W Q E → ds.length = ps.length)
    (body : ∀ (cdv : Value) (A : Around) (outer : List Env) (s : Shared) (H : Hp) (E : XK), Room k (A.deeper (envOfC qual (defScope st) s.heap.objs.size f cdv)) → DSs (cxOf CX0 P w K mg base N qual (defScope st) f cdv A outer s H E).nox EX0 (defBody st) t)
    (h : ∀ ds W Q E, p ds W Q E → t { nx := fun _ W' => Q .non W', rt := Q } (startG N ds) W) : FnOk P w K mg base CX0 (k + 1) f fd ps (toSp K p) := by
  refine F.ok S (fun vs H Q E q => ?_) fun cdv A outer s H vs Q E hr q => ?_
  · obtain ⟨G, W, ds, ok, r, q⟩ := q
    rw [r.length]
    exact len _ _ _ _ q
  · obtain ⟨G, W, ds, ok, r, q⟩ := q
    have b := body cdv A outer s H E hr
    have h2 := h ds W _ _ q
    refine ⟨_, b.pss, G, H, G, _, W, start_ok ok r, b.mono _ _ _ _ ?_ h2⟩
    exact (DEnds.Le.mk (fun Γ' W' q G' σ' H' S' _ => q .non G' H' S'.m0 S'.ok rfl) (fun d W' q => q) (fun _ _ q => q.elim) (fun _ _ q => q.elim) (fun _ _ _ _ q => q.elim))
/-- a def that may raise -/
theorem fnX {x qual : Str} {st : Stmt} {f : Addr} {fd : FuncData} {N ps : List Str} {k : Nat} {p : DSp} {t : TDS} (F : Fun K x qual st f fd) (S : FnScope N ps (defScope st)) (len : ∀ ds W Q E, p ds W Q E → ds.length = ps.length)
    (body : ∀ (cdv : Value) (A : Around) (outer : List Env) (s : Shared) (H : Hp) (E : XK), Room k (A.deeper (envOfC qual (defScope st) s.heap.objs.size f cdv)) → DSs (cxOf (L2.CX P w) P w K mg base N qual (defScope st) f cdv A outer s H E) (fun c d _ H => E c d H) (defBody st) t)
    (h : ∀ ds W Q E, p ds W Q E → t { nx := fun _ W' => Q .non W', rt := Q, xc := fun C fs _ W' => E C fs W' } (startG N ds) W) : FnOk P w K mg base (L2.CX P w) (k + 1) f fd ps (toSp K p) := by
  refine F.okX S (fun vs H Q E q => ?_) fun cdv A outer s H vs Q E hr q => ?_
  · obtain ⟨G, W, ds, ok, r, q⟩ := q
    rw [r.length]
    exact len _ _ _ _ q
  · obtain ⟨G, W, ds, ok, r, q⟩ := q
    have b := body cdv A outer s H E hr
    have h2 := h ds W _ _ q
    refine ⟨_, b.pss, G, H, G, _, W, start_ok ok r, b.mono _ _ _ _ ?_ h2⟩
    exact ⟨fun Γ' W' q G' σ' H' S' _ => q .non G' H' S'.m0 S'.ok rfl, fun d W' q => q, fun _ _ q => q.elim, fun _ _ q => q.elim, fun C fs Γ W' q d G' σ' H' S' _ x => q d G' H' S'.m0 S'.ok x⟩
end
/-! ### calls of defs -/
def dCal (p : DSp) (t : TDA) : TD := fun E Γ W Q => t E Γ W fun es W1 => match vals? es with
  | some ds => p ds W1 (fun d W2 => Q (.val d) W2) X0
  | none => False
def dCalX (p : DSp) (t : TDA) : TD := fun E Γ W Q => t E Γ W fun es W1 => match vals? es with
  | some ds => p ds W1 (fun d W2 => Q (.val d) W2) E
  | none => False
variable {k : Nat} {f : Addr} {fd : FuncData} {ps : List Str} {p : DSp} {x : Str} {np : Pos} {e : Expr} {es : List Expr} {t : TDA}
theorem de_cal (F : FnOk X.prog X.w X.K X.mg X.base CX0 k f fd ps (toSp X.K p)) (mp : MonoP p) (hr : Room k X.A) (hg : Gl X x) (hm : X.mg x = some (.ref f)) (hk : PySem.W.keepIn X.K (.ref f) = true) (hb : Binds X.K fd ps [])
    (ha : DA X EX (e :: es) t) (hdb : (x == ("__debug__" : Str)) = false := by decide) (he : starEach (e :: es) X.env = (false, eval e X.env) :: starEach es X.env := by rfl) (hpl : (backTo pos (starEach es X.env)).any (·.1) = false := by rfl) :
    DE X EX (.Call (.Name x np) (e :: es) [] pos) (dCal p t) :=
  ⟨fun E E' Γ W Q Q' hE hQ q => ha.mono _ _ _ _ _ _ hE (fun es W1 q => by
    split at q
    · exact mp _ _ _ _ _ _ (fun d W' q => hQ _ _ q) (fun _ _ _ q => q) q
    · exact q) q, PE.imp (pe_call F hr hg hm hk hb .nil pass0 ha.pa hdb he hpl) fun σ H Q q => by
    obtain ⟨G, Γ, W, E, S, q⟩ := q
    refine liftA.go ha.mono S q fun es W1 vs G1 H1 q m1 S1 r1 => ?_
    split at q
    · rename_i ds hds
      rw [List.append_nil]
      exact ⟨G1, W1, ds, S1.ok, r1.vals hds, mp _ _ _ _ _ _ (fun d W' q v G2 H2 m2 k2 rv => q v G2 H2 (m1.trans m2) k2 rv) (fun _ _ _ q => q.elim) q⟩
    · exact q.elim⟩
theorem de_calX {CX : CXT} (F : FnOk X.prog X.w X.K X.mg X.base CX k f fd ps (toSp X.K p)) (mp : MonoP p) (hr : Room k X.A) (hg : Gl X x) (hm : X.mg x = some (.ref f)) (hk : PySem.W.keepIn X.K (.ref f) = true) (hb : Binds X.K fd ps [])
    (hx : ∀ σ, PassesAt CX X σ (fun c d H => EX c d σ H)) (ha : DA X EX (e :: es) t) (hdb : (x == ("__debug__" : Str)) = false := by decide) (he : starEach (e :: es) X.env = (false, eval e X.env) :: starEach es X.env := by rfl) (hpl : (backTo pos (starEach es X.env)).any (·.1) = false := by rfl) :
    DE X EX (.Call (.Name x np) (e :: es) [] pos) (dCalX p t) :=
  ⟨fun E E' Γ W Q Q' hE hQ q => ha.mono _ _ _ _ _ _ hE (fun es W1 q => by
    split at q
    · exact mp _ _ _ _ _ _ (fun d W' q => hQ _ _ q) hE q
    · exact q) q, PE.imp (pe_callS F hr hg hm hk hb hx ha.pa hdb he hpl) fun σ H Q q => by
    obtain ⟨G, Γ, W, E, S, q⟩ := q
    refine liftA.go ha.mono S q fun es W1 vs G1 H1 q m1 S1 r1 => ?_
    split at q
    · rename_i ds hds
      exact ⟨G1, W1, ds, S1.ok, r1.vals hds, mp _ _ _ _ _ _ (fun d W' q v G2 H2 m2 k2 rv => q v G2 H2 (m1.trans m2) k2 rv) (fun C fs W' q d G2 H2 m2 k2 xf => S1.x C fs W' d G2 H2 q m2 k2 xf) q⟩
    · exact q.elim⟩
end
end DL

set_option Elab.async false
set_option linter.all false
set_option maxRecDepth 100000
/-! DatJ: the operators by name; built-in types as values; chains. -/
namespace DL
open PySem PySem.Spec PyProof.Rows L2
section
variable {X : Cx} {EX : WX} {pos : Pos}
abbrev fSub := fInt (fun _ _ => True) fun i j => .int (i - j)
abbrev fMul := fInt CMulW fun i j => .int (i * j)
abbrev fDiv := fInt CDivW fun i j => .int (i / j)
abbrev fMod := fInt (fun _ j => 0 < j) fun i j => .int (i % j)
abbrev fPow := fInt CPow fun i j => .int (i ^ j.toNat)
abbrev fAnd := fInt (fun _ _ => True) fun i j => .int (Builtin.bitAnd i j)
abbrev fLt := fInt (fun _ _ => True) fun i j => .bl (decide (i < j))
abbrev fLe := fInt (fun _ _ => True) fun i j => .bl (decide (i ≤ j))
abbrev fGt := fInt (fun _ _ => True) fun i j => .bl (decide (j < i))
abbrev fGe := fInt (fun _ _ => True) fun i j => .bl (decide (j ≤ i))
variable {a b : Expr} {ta tb : TD}
theorem de_add (ha : DE X EX a ta) (hb : DE X EX b tb) : DE X EX (.BinOp a .Add b pos) (dOp fAdd ta tb) := de_bin op_addD od_add ha hb
theorem de_sub (ha : DE X EX a ta) (hb : DE X EX b tb) : DE X EX (.BinOp a .Sub b pos) (dOp fSub ta tb) := de_bin op_sub od_int0 ha hb
theorem de_mul (ha : DE X EX a ta) (hb : DE X EX b tb) : DE X EX (.BinOp a .Mult b pos) (dOp fMul ta tb) := de_bin op_mulW od_int ha hb
theorem de_div (ha : DE X EX a ta) (hb : DE X EX b tb) : DE X EX (.BinOp a .FloorDiv b pos) (dOp fDiv ta tb) := de_bin op_fdivW od_int ha hb
theorem de_mod (ha : DE X EX a ta) (hb : DE X EX b tb) : DE X EX (.BinOp a .Mod b pos) (dOp fMod ta tb) := de_bin op_mod od_int ha hb
theorem de_pow (ha : DE X EX a ta) (hb : DE X EX b tb) : DE X EX (.BinOp a .Pow b pos) (dOp fPow ta tb) := de_bin op_pow od_int ha hb
theorem de_band (ha : DE X EX a ta) (hb : DE X EX b tb) : DE X EX (.BinOp a .BitAnd b pos) (dOp fAnd ta tb) := de_bin op_and od_int0 ha hb
theorem de_lt (ha : DE X EX a ta) (hb : DE X EX b tb) : DE X EX (.Compare a [.Lt] [b] pos) (dOp fLt ta tb) := de_cmp op_lt od_cmp0 ha hb (nomark _)
theorem de_le (ha : DE X EX a ta) (hb : DE X EX b tb) : DE X EX (.Compare a [.LtE] [b] pos) (dOp fLe ta tb) := de_cmp op_le od_cmp0 ha hb (nomark _)
theorem de_gt (ha : DE X EX a ta) (hb : DE X EX b tb) : DE X EX (.Compare a [.Gt] [b] pos) (dOp fGt ta tb) := de_cmp op_gt od_cmp0 ha hb (nomark _)
theorem de_ge (ha : DE X EX a ta) (hb : DE X EX b tb) : DE X EX (.Compare a [.GtE] [b] pos) (dOp fGe ta tb) := de_cmp op_ge od_cmp0 ha hb (nomark _)
theorem de_eq {k : Nat} (hr : Room k X.A) (ha : DE X EX a ta) (hb : DE X EX b tb) : DE X EX (.Compare a [.Eq] [b] pos) (dOp fEq ta tb) := de_cmp (op_eqD hr.units) od_eq ha hb (nomark _)
theorem de_ne {k : Nat} (hr : Room k X.A) (ha : DE X EX a ta) (hb : DE X EX b tb) : DE X EX (.Compare a [.NotEq] [b] pos) (dOp fNe ta tb) := de_cmp (op_neD hr.units) od_ne ha hb (nomark _)
theorem room65 {k : Nat} {A : Around} (hr : Room k A) (hk : 1 ≤ k) : A.units + 65 < cLine := by have := hr.un; omega
theorem de_in {k : Nat} (hr : Room k X.A) (ha : DE X EX a ta) (hb : DE X EX b tb) (hk : 1 ≤ k := by omega) (hm : behindInMarks .In b = false := by rfl) : DE X EX (.Compare a [.In] [b] pos) (dOp (fIn false) ta tb) := de_cmp (op_inT (room65 hr hk)) od_in ha hb hm
theorem de_nin {k : Nat} (hr : Room k X.A) (ha : DE X EX a ta) (hb : DE X EX b tb) (hk : 1 ≤ k := by omega) (hm : behindInMarks .NotIn b = false := by rfl) : DE X EX (.Compare a [.NotIn] [b] pos) (dOp (fIn true) ta tb) := de_cmp (op_notInT (room65 hr hk)) od_in ha hb hm
theorem dt_lt (ha : DE X EX a ta) (hb : DE X EX b tb) : DT X EX (.Compare a [.Lt] [b] pos) (dB (dOp fLt ta tb)) := dt_cmp op_lt od_cmp0 ha hb (nomark _)
theorem dt_le (ha : DE X EX a ta) (hb : DE X EX b tb) : DT X EX (.Compare a [.LtE] [b] pos) (dB (dOp fLe ta tb)) := dt_cmp op_le od_cmp0 ha hb (nomark _)
theorem dt_gt (ha : DE X EX a ta) (hb : DE X EX b tb) : DT X EX (.Compare a [.Gt] [b] pos) (dB (dOp fGt ta tb)) := dt_cmp op_gt od_cmp0 ha hb (nomark _)
theorem dt_ge (ha : DE X EX a ta) (hb : DE X EX b tb) : DT X EX (.Compare a [.GtE] [b] pos) (dB (dOp fGe ta tb)) := dt_cmp op_ge od_cmp0 ha hb (nomark _)
theorem dt_eq {k : Nat} (hr : Room k X.A) (ha : DE X EX a ta) (hb : DE X EX b tb) : DT X EX (.Compare a [.Eq] [b] pos) (dB (dOp fEq ta tb)) := dt_cmp (op_eqD hr.units) od_eq ha hb (nomark _)
theorem dt_ne {k : Nat} (hr : Room k X.A) (ha : DE X EX a ta) (hb : DE X EX b tb) : DT X EX (.Compare a [.NotEq] [b] pos) (dB (dOp fNe ta tb)) := dt_cmp (op_neD hr.units) od_ne ha hb (nomark _)
theorem dt_in {k : Nat} (hr : Room k X.A) (ha : DE X EX a ta) (hb : DE X EX b tb) (hk : 1 ≤ k := by omega) (hm : behindInMarks .In b = false := by rfl) : DT X EX (.Compare a [.In] [b] pos) (dB (dOp (fIn false) ta tb)) := dt_cmp (op_inT (room65 hr hk)) od_in ha hb hm
theorem dt_nin {k : Nat} (hr : Room k X.A) (ha : DE X EX a ta) (hb : DE X EX b tb) (hk : 1 ≤ k := by omega) (hm : behindInMarks .NotIn b = false := by rfl) : DT X EX (.Compare a [.NotIn] [b] pos) (dB (dOp (fIn true) ta tb)) := dt_cmp (op_notInT (room65 hr hk)) od_in ha hb hm
/-! -e -/
def dNeg (t : TD) : TD := fun E Γ W Q => t E Γ W fun e W' => match e with
  | .val (.int i) => Q (.val (.int (-i))) W'
  | _ => False
theorem de_neg (h : DE X EX a ta) : DE X EX (.UnaryOp .USub a pos) (dNeg ta) :=
  ⟨fun E E' Γ W Q Q' hE hQ q => h.mono _ _ _ _ _ _ hE (fun e W' q => by
    split at q
    · exact hQ _ _ q
    · exact q) q, PE.imp (pe_un un_neg h.pe) fun σ H Q q => by
    obtain ⟨G, Γ, W, E, S, q⟩ := q
    refine liftE.go h.mono S q fun e W1 v G1 H1 q m1 S1 r1 => ?_
    split at q
    · rename_i i
      have e : v = .int i := r1
      exact ⟨i, e, q (.int (-i)) G1 H1 m1 S1.ok rfl⟩
    · exact q.elim⟩
/-! a built-in type as a value -/
theorem de_ty {x : Str} {n : String} (hg : Gl X x) (hm : X.mg x = none) (hv : bootBuiltins x = some (.type n)) (hn : x ≠ "__name__" := by decide) (hd : (x == ("__debug__" : Str)) = false := by decide) : DE X EX (.Name x pos) (dC (.ty n)) :=
  de_c (pe_bltn (v := .ty n) hg hm hv rfl hn hd) fun _ _ => rfl
/-! is None -/
def fIsN (neg : Bool) : D → D → (D → Prop) → Prop := fun a b Q => match b with
  | .non => match a with
    | .non => Q (.bl (!neg))
    | _ => Q (.bl neg)
  | _ => False
end
end DL

set_option Elab.async false
set_option linter.all false
set_option maxRecDepth 100000
/-! DatK: calls by name. -/
namespace DL
open PySem PySem.Spec PyProof.Rows L2
/-- a def of the module that keeps a promise -/
structure DCal (P : Program) (w : World) (K : PySem.W.Frag) (mg : Str → Option Value) (base : Heap) (CX : CXT) (k : Nat) (x : Str) (p : DSp) : Prop where
  ex : ∃ (f : Addr) (fd : FuncData) (ps : List Str), FnOk P w K mg base CX k f fd ps (toSp K p) ∧ mg x = some (.ref f) ∧ PySem.W.keepIn K (.ref f) = true ∧ Binds K fd ps []
  mono : MonoP p
section
variable {X : Cx} {EX : WX} {pos np : Pos} {k j : Nat} {x : Str} {p : DSp} {e : Expr} {es : List Expr} {t : TDA}
theorem de_c0 (c : DCal X.prog X.w X.K X.mg X.base CX0 k x p) (hr : Room j X.A) (ha : DA X EX (e :: es) t) (hk : k ≤ j := by decide) (hg : Gl X x := by rfl) (hdb : (x == ("__debug__" : Str)) = false := by decide)
    (he : starEach (e :: es) X.env = (false, eval e X.env) :: starEach es X.env := by rfl) (hpl : (backTo pos (starEach es X.env)).any (·.1) = false := by rfl) : DE X EX (.Call (.Name x np) (e :: es) [] pos) (dCal p t) := by
  obtain ⟨f, fd, ps, F, hm, kp, b⟩ := c.ex
  exact de_cal F c.mono (hr.mono hk) hg hm kp b ha hdb he hpl
theorem de_cX {CX : CXT} (c : DCal X.prog X.w X.K X.mg X.base CX k x p) (hr : Room j X.A) (hx : ∀ σ, PassesAt CX X σ (fun c d H => EX c d σ H)) (ha : DA X EX (e :: es) t) (hk : k ≤ j := by decide) (hg : Gl X x := by rfl) (hdb : (x == ("__debug__" : Str)) = false := by decide)
    (he : starEach (e :: es) X.env = (false, eval e X.env) :: starEach es X.env := by rfl) (hpl : (backTo pos (starEach es X.env)).any (·.1) = false := by rfl) : DE X EX (.Call (.Name x np) (e :: es) [] pos) (dCalX p t) := by
  obtain ⟨f, fd, ps, F, hm, kp, b⟩ := c.ex
  exact de_calX F c.mono (hr.mono hk) hg hm kp b hx ha hdb he hpl
end
end DL

set_option Elab.async false
set_option linter.all false
set_option maxRecDepth 100000
/-! DatL: sorting and comparing data. -/
namespace DL
open PySem PySem.Spec PyProof.Rows L2
/-! ### order -/
def dlt (a b : D) : Bool := PySem.W.dataLt a.py b.py
def dal (a b : D) : Bool := PySem.W.alike a.py b.py
/-- Python's sorted of alike data -/
def dsort (ds : List D) : List D := ds.mergeSort fun a b => !dlt b a
/-- data that sorted takes -/
structure Sble (ds : List D) : Prop where
  fit : ∀ d ∈ ds, fit 32 d = true
  al : ∀ a ∈ ds, ∀ b ∈ ds, dal a b = true
  kd : ds.length < 2 ∨ (∀ d ∈ ds, ∃ x r, d = .tup (x :: r)) ∨ ∀ d ∈ ds, d ≠ .non ∧ ∀ xs, d ≠ .tup xs
theorem Sble.allAlike {ds : List D} (S : Sble ds) : PySem.W.AllAlike (ds.map D.py) := fun d hd d' hd' => by
  obtain ⟨a, ha, rfl⟩ := List.mem_map.mp hd
  obtain ⟨b, hb, rfl⟩ := List.mem_map.mp hd'
  exact S.al a ha b hb
theorem Sble.sortable {ds : List D} (S : Sble ds) (h2 : ¬ ds.length < 2) : PySem.W.Sortable (ds.map D.py) := by
  rcases S.kd with k | k | k
  · exact absurd k h2
  · exact .inl fun d hd => by
      obtain ⟨a, ha, rfl⟩ := List.mem_map.mp hd
      obtain ⟨x, r, rfl⟩ := k a ha
      exact ⟨x.py, D.pyL r, by simp [D.py, D.pyL]⟩
  · exact .inr fun d hd => by
      obtain ⟨a, ha, rfl⟩ := List.mem_map.mp hd
      have hf := S.fit a ha
      refine ⟨fun z => ?_, fun xs z => ?_⟩
      · cases a <;> simp [D.py] at z
        · exact (k _ ha).1 rfl
        all_goals simp [DL.fit] at hf
      · cases a <;> simp [D.py] at z
        exact (k _ ha).2 _ rfl
theorem dpAll_reads {X : Cx} {pins : List (Addr × Obj)} {s : Shared} {σ : L2.St} {H : Hp} (I : Inv X pins σ H s) : ∀ {xs : List V} {its : List Value} {ds : List D}, Vals xs its → DpAll X.K H xs (D.pyL ds) →
    PySem.W.EachIs (fun v (b : V × D) => RelV b.1 v) its (xs.zip ds) ∧ PySem.W.EachIs (fun v (b : V × D) => ∃ as, Reads s.heap v b.2.py as) its (xs.zip ds) ∧ xs.length = ds.length
  | xs, its, [], r, h => by
    simp only [D.pyL] at h
    cases h
    cases r
    exact ⟨.nil, .nil, rfl⟩
  | xs, its, d :: ds, r, h => by
    simp only [D.pyL] at h
    cases h with
    | cons h1 h2 =>
      cases r with
      | cons r1 r2 =>
        obtain ⟨a, b, c⟩ := dpAll_reads I r2 h2
        exact ⟨.cons r1 a, .cons (Dp.reads I _ _ _ h1 r1) b, by rw [List.length_cons, List.length_cons, c]⟩
/-- sorted(l), l a list of alike data: the values in the order of their data -/
def zsort (xs : List V) (ds : List D) : List (V × D) := (xs.zip ds).mergeSort fun a b => !dlt b.2 a.2
theorem zsort_eq (xs : List V) (ds : List D) : (xs.zip ds).mergeSort (PySem.W.dataLe false fun b : V × D => b.2.py) = zsort xs ds := by
  unfold zsort dlt
  rw [PySem.W.dataLe_eq]
  rfl
theorem zsort_snd {xs : List V} {ds : List D} (h : xs.length = ds.length) : (zsort xs ds).map (·.2) = dsort ds := by
  unfold zsort dsort
  rw [List.map_mergeSort (s := fun a b => !dlt b a) (fun a _ b _ => rfl)]
  congr 1
  exact List.map_snd_zip (by omega)
theorem zsort_perm (xs : List V) (ds : List D) : (zsort xs ds).Perm (xs.zip ds) := List.mergeSort_perm _ _
theorem each_vals {K : PySem.W.Frag} : ∀ {out : List Value} {zs : List (V × D)}, PySem.W.EachIs (fun v (b : V × D) => RelV b.1 v) out zs → Vals (zs.map (·.1)) out
  | _, _, .nil => .nil
  | _, _, .cons h t => .cons h (each_vals (K := K) t)
def rSortD (K : PySem.W.Frag) : List V → Hp → VK → Prop := fun vs H Q => ∃ a xs ds, vs = [V.ref a] ∧ SqL K H a xs ∧ DpAll K H xs (D.pyL ds) ∧ Sble ds ∧
  ∀ p, H p = none → Q (.ref p) (upd H p (.lst ((zsort xs ds).map (·.1))))
section
variable {X : Cx}
theorem cr_sortD (hu : X.A.units + 65 < cLine) : CallR X (.builtin "sorted") (rSortD X.K) := by
  intro pins s σ H vs us Q I r h
  obtain ⟨a, xs, ds, rfl, hs, hd, S, q⟩ := h
  obtain ⟨its, rv, hl, hz⟩ := I.list hs
  obtain ⟨u, rfl, ru⟩ := vals1 r
  obtain rfl : u = Value.ref a := ru
  obtain ⟨e1, e2, hlen⟩ := dpAll_reads I rv hd
  have hvl := rv.length
  have hzl : (xs.zip ds).length = ds.length := by rw [List.length_zip]; omega
  by_cases h2 : ds.length < 2
  · have hout : ∀ out : List Value, out.Perm its → out = its := fun out hp => by
      match its, out, hp, hvl with
      | [], out, hp, _ => exact List.perm_nil.mp hp
      | [v], out, hp, _ => exact List.perm_singleton.mp hp
      | _ :: _ :: _, _, _, hv => simp at hv; omega
    have hz1 : zsort xs ds = xs.zip ds := by
      have hp := zsort_perm xs ds
      match hq : xs.zip ds, hzl with
      | [], _ => rw [hq] at hp; exact List.perm_nil.mp hp
      | [v], _ => rw [hq] at hp; exact List.perm_singleton.mp hp
      | _ :: _ :: _, hv => simp at hv; omega
    refine SrtO.sorted_ord (ltv := fun _ _ => false) ⟨fun _ _ h => (by cases h), fun _ _ _ _ _ => rfl⟩ hl.isList (by rw [← hvl]; exact hz) (fun h3 => absurd h3 (by omega)) fun out _ hb => ?_
    obtain ⟨ep, he'⟩ := PyProof.Rows.sortedAll_at s.heap its out.toArray
    have eo := hout out hb.perm
    have q' := q (s.heap.objs.size + 1) (I.hok.fresh (Nat.le_succ _))
    rw [hz1, List.map_fst_zip (by omega)] at q'
    have he2 : (PyProof.Rows.sortedAll s.heap its out.toArray).get? (s.heap.objs.size + 1) = some (seqObj "list" its.toArray ep) := by rw [he', eo]
    exact ⟨.ref _, upd H (s.heap.objs.size + 1) (.lst xs), I.laid (t' := s.toks) (fun _ _ => PyProof.Rows.sortedAll_old) (Nat.le_succ _) ⟨hz, its, ep, rv, he2⟩, rfl, q'⟩
  · have em : (xs.zip ds).map (fun b => b.2.py) = ds.map D.py := by
      rw [show (fun b : V × D => b.2.py) = D.py ∘ (·.2) from rfl, ← List.map_map, List.map_snd_zip (by omega)]
    refine PySem.W.sorted_data (R := fun v (b : V × D) => RelV b.1 v) (enc := fun b => b.2.py) hl.isList e1 e2 (by rw [em]; exact S.allAlike) (by rw [em]; exact S.sortable h2) (by rw [hzl]; omega) (fun b hb => ?_) fun out ho hE => ?_
    · have hm : b.2 ∈ ds := (List.of_mem_zip hb).2
      have := (fit_py 32 _ (S.fit _ hm)).2
      omega
    · rw [zsort_eq] at hE
      obtain ⟨ep, he'⟩ := PyProof.Rows.sortedAll_at s.heap its out.toArray
      have hlz : ((zsort xs ds).map (·.1)).length ≤ sizeLine := by
        rw [List.length_map, (zsort_perm xs ds).length_eq, hzl]; omega
      exact ⟨.ref _, upd H (s.heap.objs.size + 1) (.lst ((zsort xs ds).map (·.1))), I.laid (t' := s.toks) (fun _ _ => PyProof.Rows.sortedAll_old) (Nat.le_succ _) ⟨hlz, out, ep, each_vals (K := X.K) hE, he'⟩, rfl, q _ (I.hok.fresh (Nat.le_succ _))⟩
end
end DL

set_option Elab.async false
set_option linter.all false
set_option maxRecDepth 100000
/-! DatM: sorted(.., key=len); calls that give a fresh list. -/
namespace DL
open PySem PySem.Spec PyProof.Rows L2
/-- a new object laid; of the frame's own object only its map is kept -/
theorem laidL {X : Cx} {pins : List (Addr × Obj)} {s : Shared} {σ : L2.St} {H : Hp} {h' : Heap} {a : Addr} {o : HO} {t' : Nat} (I : Inv X pins σ H s) (k : ∀ b u, b ≠ X.env.locals → s.heap.get? b = some u → h'.get? b = some u)
    (ns : ∀ m, s.heap.Ns X.env.locals m → h'.Ns X.env.locals m) (hp : s.heap.get? a = none) (new : ObjOk X.prog X.w (upd H a o) h' a o) : Inv X pins σ (upd H a o) { s with heap := h', toks := t' } := by
  have hn := I.hok.gone hp
  have ne : ∀ b u, s.heap.get? b = some u → b ≠ a := fun b u e z => by rw [z, hp] at e; cases e
  have nL : ∀ b u, H b = some u → b ≠ X.env.locals := fun b u e z => by rw [z, I.free] at e; cases e
  refine I.step (g' := s.gens) (d' := s.drawn) (ch := []) (fun _ z => nomatch z) (fun b o hb _ _ q z => k b o hb q) (fun b o hb _ _ q z => ⟨o.slots, k b o hb q⟩)
    (fun b o _ q z => by rw [upd_ne (ne b o q)]; exact z) (fun b o _ q => ?_) (fun b xs q => by rw [upd_ne (ne_of_none q hn)]; exact q) (fun b o u q => by rw [upd_ne (ne_of_none q hn)]; exact q)
    (fun b ps q => ⟨#[], by rw [upd_ne (ne_of_none q hn), q]; simp⟩) ns (fun b u e => ?_) I.bare
  · by_cases hb : b = X.env.locals
    · obtain ⟨m, hm, _⟩ := I.loc
      obtain ⟨o', es, ep, e', _⟩ := ns m hm
      exact ⟨o', by rw [hb]; exact e'⟩
    · exact ⟨o, k b o hb q⟩
  · by_cases hb : b = a
    · subst hb; rw [upd_same] at e; cases e; exact new
    · rw [upd_ne hb] at e
      exact (I.hok b u e).stay (fun c v hc q => k c v (by
        rcases hc with z | z
        · rw [z]; exact nL b u e
        · exact nL c _ z) q) (fun c q => by rw [upd_ne (ne_of_none q hn)]; exact q) fun c xs q => by rw [upd_ne (ne_of_none q hn)]; exact q
def dlen : D → Nat
  | .tup xs => xs.length
  | _ => 0
def lsort (ds : List D) : List D := ds.mergeSort fun a b => decide (dlen a ≤ dlen b)
def zlsort (xs : List V) (ds : List D) : List (V × D) := (xs.zip ds).mergeSort fun a b => decide (dlen a.2 ≤ dlen b.2)
theorem zlsort_snd {xs : List V} {ds : List D} (h : xs.length = ds.length) : (zlsort xs ds).map (·.2) = lsort ds := by
  unfold zlsort lsort
  rw [List.map_mergeSort (s := fun a b => decide (dlen a ≤ dlen b)) (fun a _ b _ => rfl)]
  congr 1
  exact List.map_snd_zip (by omega)
theorem zlsort_perm (xs : List V) (ds : List D) : (zlsort xs ds).Perm (xs.zip ds) := List.mergeSort_perm _ _
theorem zlsort_eq (xs : List V) (ds : List D) : (xs.zip ds).mergeSort (PySem.W.dataLe false fun b : V × D => .int (dlen b.2)) = zlsort xs ds := by
  unfold zlsort
  rw [PySem.W.dataLe_int]
  congr 1
  funext a b
  simp
/-- pairs of a value and its length -/
def LenZ (K : PySem.W.Frag) (H : Hp) (xs : List V) (ds : List D) : Prop := xs.length = ds.length ∧ ∀ p ∈ xs.zip ds, ∃ a vs, p.1 = V.ref a ∧ SqT K H a vs ∧ vs.length = dlen p.2
def rSortLen (K : PySem.W.Frag) : List V → Hp → VK → Prop := fun vs H Q => ∃ a xs ds, vs = [V.ref a] ∧ SqL K H a xs ∧ LenZ K H xs ds ∧
  ∀ p, H p = none → Q (.ref p) (upd H p (.lst ((zlsort xs ds).map (·.1))))
theorem vals_each {P : Value → V × D → Prop} : ∀ {xs : List V} {its : List Value} {ds : List D}, Vals xs its → xs.length = ds.length → (∀ p ∈ xs.zip ds, ∀ v, RelV p.1 v → P v p) → PySem.W.EachIs P its (xs.zip ds)
  | [], _, [], .nil, _, _ => .nil
  | x :: xs, _, d :: ds, .cons r t, h, k => by
    exact .cons (k (x, d) (by simp) _ r) (vals_each t (by simpa using h) fun p hp => k p (by simp [hp]))
section
variable {X : Cx}
theorem kept_all {g h h' : Heap} {L : Addr} {m : Str → Option Value} {own : List (Addr × Obj)} (k : ∀ b o, g.get? b = some o → h.get? b = some o) (F : Fr g L h' m) (N : News g L h' (allNews g h L ++ own)) :
    ∀ b o, b ≠ L → h.get? b = some o → h'.get? b = some o := fun b o h1 e => by
  cases q : g.get? b with
  | some u =>
    have := k b u q
    rw [e] at this; cases this
    exact F.keep b _ q
  | none => exact (N (b, o) (List.mem_append_left _ (mem_allNews h1 q e))).1
theorem run_sortLen {pins : List (Addr × Obj)} {s : Shared} {σ : L2.St} {H : Hp} {vs : List V} {us : List Value} {Q : VK} (hu : X.A.units + 65 < cLine) (I : Inv X pins σ H s) (r : Vals vs us) (h : rSortLen X.K vs H Q) :
    wpAny (model X.prog X.w) X.A (call (.builtin "sorted") us [(Str.ofString "key", .builtin "len")]) (EP X pins σ Q) X.xe s := by
  obtain ⟨a, xs, ds, rfl, hs, hd, q⟩ := h
  obtain ⟨its, rv, hl, hz⟩ := I.list hs
  obtain ⟨u, rfl, ru⟩ := vals1 r
  obtain rfl : u = Value.ref a := ru
  obtain ⟨m, F⟩ := I.fr
  have hvl := rv.length
  have hzl : (xs.zip ds).length = ds.length := by rw [List.length_zip]; have := hd.1; omega
  have hint : ∀ l : List (V × D), PySem.W.AllAlike (l.map fun b => .int (dlen b.2)) := fun l d hd d' hd' => by
    obtain ⟨_, _, rfl⟩ := List.mem_map.mp hd
    obtain ⟨_, _, rfl⟩ := List.mem_map.mp hd'
    simp [PySem.W.alike]
  have hE : PySem.W.EachIs (fun v (b : V × D) => RelV b.1 v ∧ b ∈ xs.zip ds) its (xs.zip ds) := vals_each rv hd.1 fun p hp v rv => ⟨rv, hp⟩
  have hn := I.hok.fresh (Nat.le_refl s.heap.objs.size)
  refine PySem.W.sorted_key_data_frame (R := fun v (b : V × D) => RelV b.1 v ∧ b ∈ xs.zip ds) (b := false) (f := .builtin "len") (fun b : V × D => .int (dlen b.2)) F (news_all (g := X.base) (h := s.heap)) hl.isList hE
    (hint _) (.inr fun d hd => ?_) (by have := hd.1; omega) (fun b hb => by simp [PyData.depth]; omega) (PyProof.Rows.ksk_s1 _ _) (fun _ => PyProof.Rows.ksk_l1 _ _) (fun _ => rfl) ?turn ?fin
  · obtain ⟨_, _, rfl⟩ := List.mem_map.mp hd
    exact ⟨nofun, nofun⟩
  case turn =>
    rintro v b ⟨rb, hb⟩ hb' h tk own F' N'
    obtain ⟨p, ws, e1, e2, e3⟩ := hd.2 b hb
    rw [e1] at rb
    obtain rfl : v = Value.ref p := rb
    obtain ⟨its', r', pl, hz'⟩ := I.tuple e2
    have keep := kept_all I.bk F' N'
    have pL : p ≠ X.env.locals := fun z => by
      rcases e2 with (e2 | ⟨_, e2⟩) | ⟨o, i2, n2, k1, _⟩
      · rw [z, I.free] at e2; cases e2
      · rw [z, I.free] at e2; cases e2
      · have z2 := I.mod.kin _ _ k1
        have z3 := Heap.lt_size z2
        have z4 := F.above
        rw [z] at z3
        exact absurd (Nat.lt_of_lt_of_le z3 z4) (Nat.lt_irrefl _)
    have pl' : IsTup h p its'.toArray := by
      obtain ⟨o, h1, h2⟩ := pl
      exact ⟨o, keep _ _ pL h1, h2⟩
    have hlen := r'.length
    have hs : sizeLine = 16777216 := sizeLine_eq
    have hl63 := line63
    refine len_tuple (s := { s with heap := h, toks := tk }) pl' (by simp only [List.size_toArray]; omega) ⟨h, tk + 1 + 1, [], rfl, ?_, by simp, F', by simpa using N'⟩
    rw [show ((its'.toArray.size : Nat) : Int) = (dlen b.2 : Int) by simp only [List.size_toArray]; rw [← e3, hlen]]
    exact PySem.W.KeyIs.int _ _
  case fin =>
    intro D out c h' tk F' N' hD ho hE'
    rw [zlsort_eq] at hE'
    have hlz : ((zlsort xs ds).map (·.1)).length ≤ sizeLine := by
      rw [List.length_map, (zlsort_perm xs ds).length_eq, hzl]; have := hd.1; omega
    have keep : ∀ b o, b ≠ X.env.locals → s.heap.get? b = some o → h'.get? b = some o := kept_all I.bk F' (own := []) fun p hp => N' p (List.mem_cons_of_mem _ (by simpa using hp))
    obtain ⟨d1, d2, d3⟩ := N' _ List.mem_cons_self
    have hDs : s.heap.get? D = none := by
      cases eo : s.heap.get? D with
      | none => rfl
      | some o => exact absurd (hD _ (mem_allNews d2 d3 eo)) (Nat.lt_irrefl _)
    refine ⟨.ref D, upd H D (.lst ((zlsort xs ds).map (·.1))), laidL (t' := tk) I keep (fun m' hm => ?_) hDs ⟨hlz, out, c, each_vals (K := X.K) (hE'.mono fun _ _ h => h.1), d1⟩, rfl, q _ (I.hok.gone hDs)⟩
    rw [SlX.ns_only hm F.ns]
    exact F'.ns
end
/-! ### calls that give a new list -/
structure CallF (X : Cx) (r : List V → Hp → VK → Prop) (f : List D → (List D → Prop) → Prop) : Prop where
  mono : ∀ a Q Q', (∀ d, Q d → Q' d) → f a Q → f a Q'
  go : ∀ {G H W σ Γ vs es R Q}, Sta X.K G σ H Γ W → EVRepL X.K G σ H Γ vs es → f (es.map (EV.r W)) R →
    (∀ ds p us, R ds → H p = none → RepL X.K G H us ds → us.length ≤ sizeLine → Q (.ref p) (upd H p (.lst us))) → r vs H Q
def dCallF (f : List D → (List D → Prop) → Prop) (t : TDA) : TDF := fun E Γ W Q => t E Γ W fun es W' => f (es.map (EV.r W')) fun ds => Q ds W'
section
variable {X : Cx} {EX : WX} {pos : Pos}
theorem Ok.freshL {K : PySem.W.Frag} {G : Gh} {H : Hp} {W : Ws} (k : Ok K G H W) {p : Addr} (hp : H p = none) : ¬ G.F p ∧ p ∉ G.ρ :=
  ⟨fun z => k.fok p z hp, fun z => by
    obtain ⟨vs, q⟩ := k.at z
    rw [hp] at q; cases q⟩
theorem dCallF_mono {f : List D → (List D → Prop) → Prop} (hf : ∀ a Q Q', (∀ d, Q d → Q' d) → f a Q → f a Q') {t : TDA} (h : MonoE t) : MonoE (dCallF f t) := fun E E' Γ W Q Q' hE hQ q => h _ _ _ _ _ _ hE (fun es W' q => hf _ _ _ (fun d q => hQ _ _ q) q) q
theorem dCallF_go {r : List V → Hp → VK → Prop} {f : List D → (List D → Prop) → Prop} {es : List Expr} {t : TDA} (o : CallF X r f) (h : DA X EX es t) : ∀ σ H Q, liftF X.K EX (dCallF f t) σ H Q → tCB r (liftA X.K EX t) σ H Q := fun σ H Q q => by
  obtain ⟨G, Γ, W, E, S, q⟩ := q
  refine liftA.go h.mono S q fun es W1 vs G1 H1 q m1 S1 r1 => ?_
  exact o.go S1.toSta r1 q fun ds p us q hp ru hz => by
    obtain ⟨nF, nr⟩ := S1.ok.freshL hp
    exact q p us G1 _ (m1.trans (Mv.fresh0 hp)) (S1.ok.fresh0 hp) (m1.al p hp) nF nr upd_same (RepL.mv (Mv.fresh0 hp) S1.ok _ _ ru) hz
theorem df_callB {id : String} {x : Str} {p : Pos} {e : Expr} {es : List Expr} {r : List V → Hp → VK → Prop} {f : List D → (List D → Prop) → Prop} {t : TDA} (hc : CallR X (.builtin id) r) (o : CallF X r f) (hg : Gl X x) (hm : X.mg x = none) (hv : bootBuiltins x = some (.builtin id))
    (ha : DA X EX (e :: es) t) (hn : x ≠ "__name__" := by decide) (hdb : (x == ("__debug__" : Str)) = false := by decide)
    (he : starEach (e :: es) X.env = (false, eval e X.env) :: starEach es X.env := by rfl) (hpl : (backTo pos (starEach es X.env)).any (·.1) = false := by rfl) : DF X EX (.Call (.Name x p) (e :: es) [] pos) (dCallF f t) :=
  ⟨dCallF_mono o.mono ha.mono, PE.imp (pe_callB hc hg hm hv ha.pa hn hdb he hpl) (dCallF_go o ha)⟩
theorem df_callTy {T : String} {x : Str} {p : Pos} {e : Expr} {es : List Expr} {r : List V → Hp → VK → Prop} {f : List D → (List D → Prop) → Prop} {t : TDA} (hc : CallR X (.type T) r) (o : CallF X r f) (hg : Gl X x) (hm : X.mg x = none) (hv : bootBuiltins x = some (.type T))
    (ha : DA X EX (e :: es) t) (hn : x ≠ "__name__" := by decide) (hdb : (x == ("__debug__" : Str)) = false := by decide)
    (he : starEach (e :: es) X.env = (false, eval e X.env) :: starEach es X.env := by rfl) (hpl : (backTo pos (starEach es X.env)).any (·.1) = false := by rfl) : DF X EX (.Call (.Name x p) (e :: es) [] pos) (dCallF f t) :=
  ⟨dCallF_mono o.mono ha.mono, PE.imp (pe_callTy hc hg hm hv ha.pa hn hdb he hpl) (dCallF_go o ha)⟩
/-! sorted(l) -/
def fSort : List D → (List D → Prop) → Prop := fun l Q => match l with
  | [.lst xs] => Sble xs ∧ Q (dsort xs)
  | _ => False
theorem zsort_rep {K : PySem.W.Frag} {G : Gh} {H : Hp} {vs : List V} {ds : List D} (r : RepL K G H vs ds) {zs : List (V × D)} (p : zs.Perm (vs.zip ds)) : RepL K G H (zs.map (·.1)) (zs.map (·.2)) := by
  have h : ∀ q ∈ zs, Rep K G H q.1 q.2 := fun q hq => by
    have hq' := p.mem_iff.mp hq
    obtain ⟨i, hi, e⟩ := List.mem_iff_getElem.mp hq'
    rw [List.getElem_zip] at e
    have hl : i < ds.length := by rw [List.length_zip] at hi; omega
    obtain ⟨v, e1, rv⟩ := r.get (i := i) (List.getElem?_eq_getElem hl)
    have hv : i < vs.length := by rw [List.length_zip] at hi; omega
    rw [List.getElem?_eq_getElem hv] at e1
    cases e1
    rw [← e]
    exact rv
  clear p
  induction zs with
  | nil => exact RepL.nil
  | cons z zs ih => exact RepL.cons (h z List.mem_cons_self) (ih fun q hq => h q (List.mem_cons_of_mem _ hq))
theorem cf_sort : CallF X (rSortD X.K) fSort :=
  ⟨fun a Q Q' hQ h => by
    unfold fSort at h ⊢
    split at h
    · exact ⟨h.1, hQ _ h.2⟩
    · exact h, fun {G H W σ Γ vs es R Q} S r h hQ => by
    unfold fSort at h
    split at h
    · rename_i xs q1
      obtain ⟨v, e, rfl, rfl, q, r1⟩ := r.one q1
      have z := S.len_of r1 q
      obtain ⟨a, us, rfl, f, l⟩ := S.seq r1 q
      refine ⟨a, us, xs, rfl, SqL.of f, RepL.dp 32 xs us (by rw [fitL_all, List.all_eq_true]; exact h.1.fit) l, h.1, fun p hp => ?_⟩
      have hl : us.length = xs.length := l.length
      refine hQ _ p _ h.2 hp (by rw [← zsort_snd hl]; exact zsort_rep l (zsort_perm us xs)) ?_
      rw [List.length_map, (zsort_perm us xs).length_eq, List.length_zip]
      omega
    · exact h.elim⟩
theorem df_sort {k : Nat} {p : Pos} {e : Expr} {t : TDA} (hr : Room k X.A) (hk : 1 ≤ k) (hg : Gl X "sorted") (hm : X.mg "sorted" = none) (ha : DA X EX [e] t) (he : starEach [e] X.env = (false, eval e X.env) :: starEach [] X.env := by rfl) : DF X EX (.Call (.Name "sorted" p) [e] [] pos) (dCallF fSort t) :=
  df_callB (cr_sortD (room65 hr hk)) cf_sort hg hm PyProof.Rows.Boot.sorted ha (by decide) (by decide) he rfl
/-! sorted(l, key=len) -/
def fSortLen : List D → (List D → Prop) → Prop := fun l Q => match l with
  | [.lst xs] => (∀ d ∈ xs, ∃ ys, d = .tup ys) ∧ Q (lsort xs)
  | _ => False
theorem cf_sortLen : CallF X (rSortLen X.K) fSortLen :=
  ⟨fun a Q Q' hQ h => by
    unfold fSortLen at h ⊢
    split at h
    · exact ⟨h.1, hQ _ h.2⟩
    · exact h, fun {G H W σ Γ vs es R Q} S r h hQ => by
    unfold fSortLen at h
    split at h
    · rename_i xs q1
      obtain ⟨v, e, rfl, rfl, q, r1⟩ := r.one q1
      have z := S.len_of r1 q
      obtain ⟨a, us, rfl, f, l⟩ := S.seq r1 q
      have hl : us.length = xs.length := l.length
      refine ⟨a, us, xs, rfl, SqL.of f, ⟨hl, fun b hb => ?_⟩, fun p hp => ?_⟩
      · obtain ⟨i, hi, e⟩ := List.mem_iff_getElem.mp hb
        rw [List.getElem_zip] at e
        have hl2 : i < xs.length := by rw [List.length_zip] at hi; omega
        obtain ⟨v, e1, rv⟩ := l.get (i := i) (List.getElem?_eq_getElem hl2)
        rw [List.getElem?_eq_getElem (by omega)] at e1
        cases e1
        obtain ⟨ys, ey⟩ := h.1 xs[i] (List.getElem_mem _)
        rw [ey] at rv
        obtain ⟨a', vs', e2, f2, r2⟩ := rv
        refine ⟨a', vs', by rw [← e]; exact e2, f2.sq, ?_⟩
        rw [← e]
        show vs'.length = dlen xs[i]
        rw [ey, r2.length]
        rfl
      · refine hQ _ p _ h.2 hp (by rw [← zlsort_snd hl]; exact zsort_rep l (zlsort_perm us xs)) ?_
        rw [List.length_map, (zlsort_perm us xs).length_eq, List.length_zip]
        omega
    · exact h.elim⟩
theorem df_sortLen {k : Nat} {p p2 kp : Pos} {e : Expr} {t : TDA} (hr : Room k X.A) (hk : 1 ≤ k) (hg : Gl X "sorted") (hm : X.mg "sorted" = none) (hg2 : Gl X "len") (hm2 : X.mg "len" = none) (ha : DA X EX [e] t)
    (he : backTo pos (starEach [e] X.env) = (false, eval e X.env) :: backTo pos (starEach [] X.env) := by rfl) (hpl : (backTo pos (starEach [e] X.env)).any (·.1) = false := by rfl) :
    DF X EX (.Call (.Name "sorted" p) [e] [⟨some "key", .Name "len" p2, kp⟩] pos) (dCallF fSortLen t) := by
  refine ⟨dCallF_mono (cf_sortLen (X := X)).mono ha.mono, PE.imp (t := tCB (rSortLen X.K) (liftA X.K EX t)) ⟨fun pins s σ H Q I h => ?_⟩ (dCallF_go cf_sortLen ha)⟩
  refine wpAny_Call_Name_kw (ld_blt I hg hm PyProof.Rows.Boot.sorted ?_ (by decide) (by decide))
  refine PyProof.Rows.callWith_kw (thn (ha.pa.run pos pins s σ H _ I h) fun us s1 ⟨vs, H1, I1, r1, q1⟩ => ?_) he hpl rfl rfl
  show wpAny _ _ (evalAll [(do let v ← eval (.Name "len" p2) X.env; standAt pos; pure v)]) _ _ s1
  refine wpAny_evalAll_cons (wpAny_bind (ld_blt I1 hg2 hm2 PyProof.Rows.Boot.len (wpAny_bind (wpAny_standAt (wpAny_pure ?_))) (by decide) (by decide)))
  refine wpAny_evalAll_nil ?_
  exact run_sortLen (room65 hr hk) I1 r1 q1
end
end DL

set_option Elab.async false
set_option linter.all false
set_option maxRecDepth 100000
/-! DatN: < of data. -/
namespace DL
open PySem PySem.Spec PyProof.Rows L2
section
variable {X : Cx} {EX : WX} {pos : Pos}
def rLtD (K : PySem.W.Frag) : R2 := fun x y H Q => ∃ a b : D, Dp K H x a.py ∧ Dp K H y b.py ∧ dal a b = true ∧ a.py ≠ .none ∧ a.py.depth ≤ 32 ∧ Q (.bl (dlt a b)) H
theorem op_ltD (hu : X.A.units + 65 < cLine) : OpR X (compareOp .Lt) (rLtD X.K) := by
  intro pins s σ H x y v u Q I rx ry h
  obtain ⟨a, b, ha, hb, al, hn, hd, q⟩ := h
  obtain ⟨as, r1⟩ := Dp.reads I _ x v ha rx
  obtain ⟨bs, r2⟩ := Dp.reads I _ y u hb ry
  have z := PySem.W.rcLt_alike a.py b.py X.A s v u as bs r1 r2 al hn (by have := Nat.min_le_left a.py.depth b.py.depth; omega)
  exact z X.prog X.w X.xe (EP X pins σ Q) ⟨.bl _, H, I, rfl, q⟩
def fLtD : D → D → (D → Prop) → Prop := fun a b Q => match a, b with
  | .int i, .int j => Q (.bl (decide (i < j)))
  | _, _ => fit 32 a = true ∧ fit 32 b = true ∧ dal a b = true ∧ a ≠ .non ∧ Q (.bl (dlt a b))
theorem dlt_int (i j : Int) : dlt (.int i) (.int j) = decide (i < j) := PySem.W.dataLt_int i j
theorem py_non {n : Nat} {a : D} (h : fit n a = true) (e : a.py = .none) : a = .non := by
  cases a <;> simp [D.py] at e
  · rfl
  all_goals (cases n <;> simp [fit] at h)
theorem od_ltD : OpD X (rLtD X.K) fLtD :=
  ⟨fun a b Q Q' hQ h => by
    unfold fLtD at h ⊢
    split at h
    · exact hQ _ h
    · exact ⟨h.1, h.2.1, h.2.2.1, h.2.2.2.1, hQ _ h.2.2.2.2⟩, fun {G H W σ Γ x y e1 e2 R Q} S r1 r2 h hQ => by
    have key : fit 32 (e1.r W) = true ∧ fit 32 (e2.r W) = true ∧ dal (e1.r W) (e2.r W) = true ∧ (e1.r W) ≠ .non ∧ R (.bl (dlt (e1.r W) (e2.r W))) := by
      unfold fLtD at h
      split at h
      · rename_i i j q1 q2
        rw [q1, q2]
        exact ⟨by simp, by simp, by simp [dal, D.py, PySem.W.alike], nofun, by rw [dlt_int]; exact h⟩
      · exact h
    obtain ⟨f1, f2, al, nn, q⟩ := key
    have dp : ∀ {v : V} {e : EV}, EVRep X.K G σ H Γ v e → fit 32 (e.r W) = true → Dp X.K H v (e.r W).py := fun {v e} r f => by
      by_cases hl : ∃ xs, e.r W = .lst xs
      · obtain ⟨xs, q⟩ := hl
        rw [q] at f ⊢
        obtain ⟨a, vs, rfl, hh, l⟩ := S.seq r q
        simp only [D.py]
        exact .lst (SqL.of hh) (RepL.dp 31 xs vs (by simpa [fit] using f) l)
      · exact Rep.dp 32 _ _ f (r.rep rfl fun xs z => hl ⟨xs, z⟩)
    exact ⟨_, _, dp r1 f1, dp r2 f2, al, fun z => nn (py_non f1 z), (fit_py 32 _ f1).2, hQ _ _ _ _ q .refl S.ok rfl⟩⟩
variable {a b : Expr} {ta tb : TD}
theorem de_ltD {k : Nat} (hr : Room k X.A) (ha : DE X EX a ta) (hb : DE X EX b tb) (hk : 1 ≤ k := by omega) : DE X EX (.Compare a [.Lt] [b] pos) (dOp fLtD ta tb) := de_cmp (op_ltD (room65 hr hk)) od_ltD ha hb (nomark _)
theorem dt_ltD {k : Nat} (hr : Room k X.A) (ha : DE X EX a ta) (hb : DE X EX b tb) (hk : 1 ≤ k := by omega) : DT X EX (.Compare a [.Lt] [b] pos) (dB (dOp fLtD ta tb)) := dt_cmp (op_ltD (room65 hr hk)) od_ltD ha hb (nomark _)
end
/-! the order in plain words -/
theorem alikeAll_all : ∀ (xs ys : List D), PySem.W.alikeAll (D.pyL xs) (D.pyL ys) = (xs.zip ys).all fun p => dal p.1 p.2
  | [], [] => by simp [D.pyL, PySem.W.alikeAll]
  | [], y :: ys => by simp [D.pyL, PySem.W.alikeAll]
  | x :: xs, [] => by simp [D.pyL, PySem.W.alikeAll]
  | x :: xs, y :: ys => by simp [D.pyL, PySem.W.alikeAll, alikeAll_all xs ys, dal]
@[simp] theorem dal_int (i j : Int) : dal (.int i) (.int j) = true := by simp [dal, D.py, PySem.W.alike]
@[simp] theorem dal_str (i j : Str) : dal (.str i) (.str j) = true := by simp [dal, D.py, PySem.W.alike]
@[simp] theorem dal_tup (xs ys : List D) : dal (.tup xs) (.tup ys) = (xs.zip ys).all fun p => dal p.1 p.2 := by
  rw [← alikeAll_all]
  simp [dal, D.py, PySem.W.alike]
end DL

set_option Elab.async false
set_option linter.all false
set_option maxRecDepth 100000
/-! DatO: sets of nested tuples of whole numbers and texts, up to 76 of them. -/
namespace NSet
open PySem PySem.Spec PyProof.Rows L2
abbrev NK := NestedKey
section
variable {P : Program} {w : World} {A : Around} {E : Value → Shared → Prop} {s : Shared}
/-! ### what a search and an adding ask of the keys -/
mutual
theorem cls_key : ∀ (k : NK) (v : Value) (n : Nat), NestedIs s.heap k v → k.depth ≤ n → ∀ Q : Bool → Shared → Prop, Q false s → wpAny (model P w) A (ofAClassStatement n v) Q E s
  | .none, _, n, x, _, Q, h => by cases x; cases n <;> exact wpAny_pure h
  | .num i, _, n, x, _, Q, h => by cases x <;> cases n <;> exact wpAny_pure h
  | .text y, _, n, x, _, Q, h => by cases x; cases n <;> exact wpAny_pure h
  | .tup ks, _, n, x, hn, Q, h => by
    cases x with
    | @tup a o vs m _ hg hc hd hk =>
      simp only [NestedKey.depth] at hn
      cases n with
      | zero => omega
      | succ n =>
        have hT : s.TypeIs (.ref a) "tuple" := ⟨o, hg, hc⟩
        unfold ofAClassStatement
        refine wpAny_bind (wpAny_typeOf hT ?_)
        dsimp only
        have e : (("tuple" : String) == "tuple") = true := by decide
        simp only [e, if_true, Bool.not_true, Bool.false_eq_true, if_false]
        show wpAny _ _ (seqItems? (.ref a) >>= _) _ _ s
        refine wpAny_bind (wpAny_seqItems hg hd ?_)
        dsimp only
        refine wpAny_bind ?_
        show wpAny _ _ (forIn vs _ _) _ _ s
        rw [← Array.forIn_toList]
        have hall := cls_keys ks vs.toList n hk (by omega)
        refine wpAny_forIn_list _ (fun rest r s' => r.1 = none ∧ s' = s ∧ ∀ v ∈ rest, ∀ Q : Bool → Shared → Prop, Q false s → wpAny (model P w) A (ofAClassStatement n v) Q E s) _ ?_ ?_ _ _ ⟨rfl, rfl, hall⟩
        · rintro v rest r s' ⟨hr, rfl, hall⟩
          refine wpAny_bind (hall v List.mem_cons_self _ ?_)
          simp only [Bool.false_eq_true, if_false]
          exact wpAny_pure ⟨rfl, rfl, fun u hu => hall u (List.mem_cons_of_mem _ hu)⟩
        · rintro ⟨r1, r2⟩ s' ⟨hr, rfl, _⟩
          simp only at hr
          subst hr
          exact wpAny_pure h
theorem cls_keys : ∀ (ks : List NK) (vs : List Value) (n : Nat), NestedAll s.heap ks vs → NestedKey.depthAll ks ≤ n → ∀ v ∈ vs, ∀ Q : Bool → Shared → Prop, Q false s → wpAny (model P w) A (ofAClassStatement n v) Q E s
  | [], _, n, x, _, v, hv => by cases x; cases hv
  | k :: ks, _, n, x, hn, v, hv => by
    cases x with
    | cons x1 x2 =>
      simp only [NestedKey.depthAll] at hn
      rcases List.mem_cons.mp hv with e | hv
      · rw [e]; exact cls_key k _ n x1 (by omega)
      · exact cls_keys ks _ n x2 (by omega) v hv
end
/-! does hash(k) come from the value alone -/
mutual
def hbv : NK → Bool
  | .none => true
  | .num _ => true
  | .text _ => false
  | .tup ks => hbvs ks
def hbvs : List NK → Bool
  | [] => true
  | k :: ks => hbv k && hbvs ks
end
mutual
theorem hbv_key : ∀ (k : NK) (v : Value) (n : Nat), NestedIs s.heap k v → k.depth ≤ n → ∀ Q : Bool → Shared → Prop, Q (hbv k) s → wpAny (model P w) A (hashByValue n v) Q E s
  | .none, _, n, x, _, Q, h => by cases x; cases n <;> exact wpAny_pure h
  | .num i, _, n, x, _, Q, h => by cases x <;> cases n <;> exact wpAny_pure h
  | .text y, _, n, x, _, Q, h => by cases x; cases n <;> exact wpAny_pure h
  | .tup ks, _, n, x, hn, Q, h => by
    cases x with
    | @tup a o vs m _ hg hc hd hk =>
      simp only [NestedKey.depth] at hn
      cases n with
      | zero => omega
      | succ n =>
        have hT : s.TypeIs (.ref a) "tuple" := ⟨o, hg, hc⟩
        unfold hashByValue
        refine wpAny_bind (wpAny_specialOf hT F.slot_tuple_hash.lookup ?_)
        show wpAny _ _ (seqItems? (.ref a) >>= _) _ _ s
        refine wpAny_bind (wpAny_seqItems hg hd ?_)
        refine wpAny_bind ?_
        show wpAny _ _ (forIn vs _ _) _ _ s
        rw [← Array.forIn_toList]
        refine hbv_keys ks vs.toList n hk (by omega) _ ?_
        rw [hbv] at h
        cases q : hbvs ks with
        | true =>
          rw [q] at h
          exact wpAny_pure h
        | false =>
          rw [q] at h
          exact wpAny_pure h
theorem hbv_keys : ∀ (ks : List NK) (vs : List Value) (n : Nat), NestedAll s.heap ks vs → NestedKey.depthAll ks ≤ n → ∀ Q : Option Bool × PUnit → Shared → Prop, Q (if hbvs ks = true then (none, ⟨⟩) else (some false, ⟨⟩)) s →
    wpAny (model P w) A (forIn vs ((none, ⟨⟩) : Option Bool × PUnit) fun x r => do
      if (!(← hashByValue n x)) = true then pure (ForInStep.done (some false, ⟨⟩)) else do pure ⟨⟩; pure (ForInStep.yield (none, ⟨⟩))) Q E s
  | [], _, n, x, _, Q, h => by cases x; rw [List.forIn_nil]; exact wpAny_pure h
  | k :: ks, _, n, x, hn, Q, h => by
    cases x with
    | cons x1 x2 =>
      simp only [NestedKey.depthAll] at hn
      rw [List.forIn_cons]
      refine wpAny_bind (wpAny_bind (hbv_key k _ n x1 (by omega) _ ?_))
      rw [hbvs] at h
      cases q : hbv k with
      | true =>
        rw [q, Bool.true_and] at h
        simp only [Bool.not_true, Bool.false_eq_true, if_false]
        refine wpAny_bind (wpAny_pure (wpAny_pure ?_))
        exact hbv_keys ks _ n x2 (by omega) Q h
      | false =>
        rw [q, Bool.false_and] at h
        simp only [Bool.not_false, if_true]
        exact wpAny_pure (wpAny_pure h)
end
end
end NSet

set_option Elab.async false
set_option linter.all false
set_option maxRecDepth 100000
/-! DatP: searching such a set, adding to it. -/
namespace NSet
open PySem PySem.Spec PyProof.Rows L2
/-- members: where each stands, and its key -/
abbrev Mem := List (Addr × NK)
def KeyAt (h : Heap) (p : Addr × NK) : Prop := NestedIs h p.2 (.ref p.1) ∧ p.2.depth ≤ 8
def rowsN (w : World) (L : Mem) : List (Int × Value) := L.map fun p => (p.2.hash w, Value.ref p.1)
def hashN (w : World) (L : Mem) : List Int := L.map fun p => p.2.hash w
structure SetN (w : World) (h : Heap) (a : Addr) (L : Mem) (es : Array (Int × Value)) (ep : Nat) (t : SetTable) : Prop where
  ob : ∃ o, h.get? a = some o ∧ o.ExactSet ∧ o.data = .set es ep t
  rows : es.toList = rowsN w L
  tab : TabOk t (hashN w L)
  nd : (L.map (·.2)).Nodup
  led : w.params.followText "set-order" = true ∨ t.led = true
  room : L.length * 5 < t.mask * 3
section
variable {P : Program} {w : World} {A : Around} {E : Value → Shared → Prop} {s : Shared} {a : Addr} {L : Mem} {es : Array (Int × Value)} {ep : Nat} {t : SetTable}
theorem rowsN_size {L : Mem} {es : Array (Int × Value)} (h : es.toList = rowsN w L) : es.size = L.length := by
  rw [← Array.length_toList, h, rowsN, List.length_map]
theorem hashN_len (L : Mem) : (hashN w L).length = L.length := by rw [hashN, List.length_map]
theorem SetN.mask (R : SetN w s.heap a L es ep t) : t.mask ≤ 127 := by
  rcases R.tab.mok with e | e | e <;> omega
theorem SetN.psz (R : SetN w s.heap a L es ep t) : t.place.size = L.length := by rw [R.tab.sz, hashN_len]
theorem SetN.fits (R : SetN w s.heap a L es ep t) : t.fits es.size = true := by
  have h1 := R.psz
  have h2 := rowsN_size R.rows
  have h3 := R.room
  unfold SetTable.fits SetTable.fill
  rw [R.tab.dm, Bool.and_eq_true, beq_iff_eq, decide_eq_true_eq]
  exact ⟨by omega, by show t.place.size + 0 ≤ t.mask; omega⟩
theorem SetN.at (R : SetN w s.heap a L es ep t) {i : Nat} {p : Addr × NK} (h : L[i]? = some p) : es[i]? = some (p.2.hash w, Value.ref p.1) := by
  rw [← Array.getElem?_toList, R.rows, rowsN, List.getElem?_map, h]; rfl
theorem nth_nodummy (m : Nat) : ∀ (n : Nat) (p : SetTable.Probe), p.dummy = none → (nth m p n).dummy = none
  | 0, _, h => h
  | n + 1, p, h => nth_nodummy m n (adv m p) (by unfold adv; split <;> exact h)
/-- a search among such keys shows nothing -/
theorem seenN {k : NK} {x : Addr} {Q : Bool → Shared → Prop} (hx : KeyAt s.heap (x, k)) {ys : List Value} (hy : ∀ y ∈ ys, ∃ q, y = Value.ref q.1 ∧ KeyAt s.heap q) (h : Q false s) : wpAny (model P w) A (searchCouldBeSeen (.ref x) ys) Q E s := by
  unfold searchCouldBeSeen
  refine wpAny_bind ?_
  refine wpAny_forIn_list _ (fun rest r s' => r.1 = none ∧ s' = s ∧ ∀ y ∈ rest, ∃ q, y = Value.ref q.1 ∧ KeyAt s.heap q) _ ?_ ?_ _ _ ⟨rfl, rfl, hy⟩
  · rintro v rest r s' ⟨hr, rfl, hall⟩
    obtain ⟨q, rfl, hq⟩ := hall v List.mem_cons_self
    have more : ∀ y ∈ rest, ∃ q, y = Value.ref q.1 ∧ KeyAt s'.heap q := fun u hu => hall u (List.mem_cons_of_mem _ hu)
    dsimp only
    by_cases hv : (x == q.1 || (carriedByValue (.ref x) && carriedByValue (.ref q.1))) = true
    · exact wp_if_pos hv (wpAny_pure ⟨rfl, rfl, more⟩)
    · refine wp_if_neg hv ?_
      refine wpAny_bind (quiet_key k _ 8 s' hx.1 hx.2 _ _ _ ?_)
      simp only [Bool.not_true, Bool.false_eq_true, if_false]
      refine wpAny_bind (quiet_key q.2 _ 8 s' hq.1 hq.2 _ _ _ ?_)
      simp only [Bool.not_true, Bool.false_eq_true, if_false]
      refine wpAny_bind (cls_key k _ 8 hx.1 hx.2 _ ?_)
      simp only [Bool.false_eq_true, if_false]
      refine wpAny_bind (cls_key q.2 _ 8 hq.1 hq.2 _ ?_)
      simp only [Bool.false_eq_true, if_false]
      exact wpAny_pure ⟨rfl, rfl, more⟩
  · rintro ⟨r1, r2⟩ s' ⟨hr, rfl, _⟩
    simp only at hr
    subst hr
    exact wpAny_pure h
/-- the search for k, c steps done: it ends at an equal member or at the K-th step's free slot -/
theorem searchN (R : SetN w s.heap a L es ep t) (KA : ∀ p ∈ L, KeyAt s.heap p) {x : Addr} {k : NK} (hx : KeyAt s.heap (x, k)) (hu : A.units + 9 < cLine) {K : Nat} (hKf : K < 10 * SetTable.turns t.mask)
    (hK : way t.mask (k.hash w) K ∉ t.place.toList) (hKb : ∀ c, c < K → way t.mask (k.hash w) c ∈ t.place.toList) {Q : SetFound → Shared → Prop}
    (hin : k ∈ L.map (·.2) → Q (.there none) s) (hout : k ∉ L.map (·.2) → Q (.free (way t.mask (k.hash w) K) false) s) :
    ∀ (f c : Nat) (stand : Option SetTable.Probe), stand.getD (t.probeStart (k.hash w)) = nth t.mask (runAt t.mask (SetTable.bits (k.hash w) % (t.mask + 1)) (SetTable.bits (k.hash w))) c → c ≤ K → K - c < f →
      (∀ (i : Nat) p, L[i]? = some p → p.2 = k → ∃ c', c ≤ c' ∧ c' < K ∧ t.place.toList[i]? = some (way t.mask (k.hash w) c')) →
      wpAny (model P w) A (setSearchFrom a (.ref x) (k.hash w) true f stand) Q E s
  | 0, _, _, _, _, hf, _ => absurd hf (Nat.not_lt_zero _)
  | f + 1, c, stand, hst, hc, hf, hre => by
    obtain ⟨o, ho, hex, hd⟩ := R.ob
    generalize hH : k.hash w = H at *
    generalize hS : runAt t.mask (SetTable.bits H % (t.mask + 1)) (SetTable.bits H) = S at *
    have hway : ∀ q, way t.mask H q = (nth t.mask S q).j := fun q => by rw [← hS]
    have shift : ∀ q, nth t.mask (nth t.mask S c) q = nth t.mask S (c + q) := fun q => (nth_add t.mask c S q).symm
    have nodum : (nth t.mask S c).dummy = none := nth_nodummy _ _ _ (by rw [← hS]; rfl)
    have gw : ¬ t.gaveWay = true := by
      unfold SetTable.gaveWay
      rw [mask_odd R.tab.mok]
      decide
    have stored : ∀ (i : Nat) (p : Addr × NK), L[i]? = some p → (es[i]?.map (·.1)).getD 0 = p.2.hash w := fun i p hp => by rw [R.at hp]; rfl
    -- an equal member ahead is met
    have met : ∀ c', c ≤ c' → ∀ (i : Nat) (p : Addr × NK), L[i]? = some p → p.2 = k → t.place.toList[i]? = some (way t.mask H c') → (∀ k' (i' : Nat), k' < c' - c + 1 → t.place.toList[i']? = some (nth t.mask (nth t.mask S c) k').j → (es[i']?.map (·.1)).getD 0 ≠ H) → False := fun c' h1 i p h2 h3 h4 h5 => by
      refine h5 (c' - c) i (by omega) (by rw [shift, show c + (c' - c) = c' by omega, ← hway]; exact h4) ?_
      rw [stored i p h2, h3, hH]
    rw [setSearchFrom_succ]
    refine wpAny_bind (wpAny_setState_of ho hd R.fits ?_)
    dsimp only
    refine wp_if_neg gw ?_
    try refine wpAny_bind (wpAny_pure ?_)
    rcases go_spec t R.tab.ris R.tab.dm (fun i => (es[i]?.map (·.1)).getD 0) H (10 * SetTable.turns t.mask) (K - c) _ nodum (by omega)
      (fun q hq => by rw [shift, ← hway]; exact hKb (c + q) (by omega)) (by rw [shift, ← hway, show c + (K - c) = K by omega]; exact hK) with ⟨q, i, hq, hi, hh, hno, hpr⟩ | ⟨hno, hpr⟩
    · have hp : t.probe (fun i => (es[i]?.map (·.1)).getD 0) H (stand.getD (t.probeStart H)) = some (.candidate (nth t.mask S (c + q)).j i (nth t.mask S (c + (q + 1)))) := by
        rw [hst, ← shift q, ← shift (q + 1)]
        exact hpr
      rw [hp]
      dsimp only
      rw [shift] at hi
      have hil : i < L.length := by
        have := (List.getElem?_eq_some_iff.mp hi).1
        rw [Array.length_toList, R.psz] at this
        exact this
      obtain ⟨p, hLp⟩ : ∃ p, L[i]? = some p := ⟨_, List.getElem?_eq_getElem hil⟩
      have hm : p ∈ L := List.mem_of_getElem? hLp
      have rest : wpAny (model P w) A (searchRest a (.ref x) H true f es t (nth t.mask S (c + q)).j i (nth t.mask S (c + (q + 1)))) Q E s := by
        unfold searchRest
        rw [R.at hLp]
        dsimp only
        refine wpAny_bind (wpAny_holding ((nestedKind P w).eqBool (x := p.2) (y := k) (by show A.units + 8 < cLine; omega) (KA p hm) hx ?_))
        refine wpAny_bind (wpAny_setState_of ho hd R.fits ?_)
        dsimp only
        by_cases hk : p.2 = k
        · refine wp_if_pos (by simp [hk]) (wpAny_pure (hin (List.mem_map.mpr ⟨p, hm, hk⟩)))
        · refine wp_if_neg (by simp [hk]) ?_
          try refine wpAny_bind (wpAny_pure ?_)
          rw [sameMem]
          dsimp only
          have hsl : t.slot (nth t.mask S (c + q)).j = .live i := slot_live R.tab.ris hi
          simp only [if_true, hsl, R.at hLp]
          refine wpAny_bind (wpAny_isSame_ref_self (wpAny_bind (wpAny_pure ?_)))
          simp only [if_true]
          refine wp_if_neg (by simp [hk]) ?_
          subst hH
          refine searchN R KA hx hu hKf hK hKb hin hout f (c + (q + 1)) _ (by rw [hS]; rfl) (by omega) (by omega) fun i0 p0 h0 hk0 => ?_
          obtain ⟨c', a1, a2, a3⟩ := hre i0 p0 h0 hk0
          refine ⟨c', ?_, a2, a3⟩
          rcases Nat.lt_trichotomy c' (c + q) with z | z | z
          · exact (met c' a1 i0 p0 h0 hk0 a3 fun k' i' hk' => hno k' i' (by omega)).elim
          · rw [z, hway] at a3
            have s0 := slot_live R.tab.ris a3
            rw [hsl] at s0
            injection s0 with s0
            rw [← s0, hLp] at h0
            exact absurd ((congrArg Prod.snd (Option.some.inj h0)).trans hk0) hk
          · omega
      by_cases hl : t.led = true
      · refine wp_if_neg (by simp [hl]) ?_
        try refine wpAny_bind (wpAny_pure ?_)
        exact rest
      · refine wp_if_pos (by simp [hl]) ?_
        refine wpAny_bind (seenN hx (fun y hy => ?_) ?_)
        · obtain ⟨e, he, rfl⟩ := List.mem_map.mp hy
          have he1 : e ∈ es ∧ e.1 = H := by simpa using he
          have he2 : e ∈ es.toList := by simpa using he1.1
          rw [R.rows] at he2
          obtain ⟨p2, hp2, e2⟩ := List.mem_map.mp he2
          exact ⟨p2, by rw [← e2], KA p2 hp2⟩
        · refine wp_if_neg (by decide) ?_
          try refine wpAny_bind (wpAny_pure ?_)
          exact rest
    · have hp : t.probe (fun i => (es[i]?.map (·.1)).getD 0) H (stand.getD (t.probeStart H)) = some (.empty (way t.mask H K) none) := by
        rw [hst, hway, show K = c + (K - c) by omega, ← shift]
        exact hpr
      rw [hp]
      dsimp only
      refine wpAny_pure (hout fun hm => ?_)
      obtain ⟨p0, h0, hk0⟩ := List.mem_map.mp hm
      obtain ⟨i0, hi0, e0⟩ := List.getElem_of_mem h0
      have h00 : L[i0]? = some p0 := by rw [List.getElem?_eq_getElem hi0, e0]
      obtain ⟨c', a1, a2, a3⟩ := hre i0 p0 h00 hk0
      exact met c' a1 i0 p0 h00 hk0 a3 fun k' i' hk' => hno k' i' (by omega)
end
end NSet

set_option Elab.async false
set_option linter.all false
set_option maxRecDepth 100000
/-! DatQ: adding to a set of nested tuples. -/
namespace NSet
open PySem PySem.Spec PyProof.Rows L2
section
variable {P : Program} {w : World} {A : Around} {E : Value → Shared → Prop} {s : Shared} {a : Addr} {L : Mem} {es : Array (Int × Value)} {ep : Nat} {t : SetTable}
theorem range_pick {α : Type} : ∀ L : List α, (List.range L.length).filterMap (fun i => L[i]?) = L
  | [] => rfl
  | x :: L => by
    rw [List.length_cons, List.range_succ_eq_map, List.filterMap_cons]
    simp only [List.getElem?_cons_zero, List.filterMap_map]
    congr 1
    exact range_pick L
theorem orderN (L : Mem) (es : Array (Int × Value)) (order : Array Nat) (hr : es.toList = rowsN w L) (hp : order.toList.Perm (List.range L.length)) :
    ∃ L2 : Mem, (order.filterMap (es[·]?)).toList = rowsN w L2 ∧ L2.Perm L ∧ hashN w L2 = order.toList.map fun i => (es.map (·.1)).getD i 0 := by
  have at_ : ∀ i : Nat, es[i]? = (L[i]?).map fun p => (p.2.hash w, Value.ref p.1) := fun i => by
    rw [← Array.getElem?_toList, hr, rowsN, List.getElem?_map]
  refine ⟨order.toList.filterMap (L[·]?), ?_, ?_, ?_⟩
  · rw [Array.toList_filterMap, rowsN, List.map_filterMap]
    exact congrArg (fun f => List.filterMap f order.toList) (funext at_)
  · have h := hp.filterMap (L[·]?)
    rw [range_pick] at h
    exact h
  · have hlt : ∀ i ∈ order.toList, i < L.length := fun i hi => List.mem_range.mp (hp.mem_iff.mp hi)
    revert hlt
    generalize order.toList = l
    intro hlt
    induction l with
    | nil => rfl
    | cons i l ih =>
      have hi := hlt i List.mem_cons_self
      rw [List.filterMap_cons_some (List.getElem?_eq_getElem hi), hashN, List.map_cons, List.map_cons]
      have ih' := ih fun j hj => hlt j (List.mem_cons_of_mem _ hj)
      rw [hashN] at ih'
      rw [ih']
      congr 1
      rw [Array.getD_eq_getD_getElem?, Array.getElem?_map, at_, List.getElem?_eq_getElem hi]
      rfl
/-- laid anew -/
theorem relayN {o : Obj} (ho : s.heap.get? a = some o) (hex : o.ExactSet) (hd : o.data = .set es ep t) (rows : es.toList = rowsN w L) (psz : t.place.size = es.size) (dm : t.dummies = #[]) (le : es.size ≤ t.mask) (nd : (L.map (·.2)).Nodup)
    (led : w.params.followText "set-order" = true ∨ t.led = true) {wanted M : Nat} (hw : SetTable.sizeAbove wanted - 1 = M) (hM : MaskOk M) (hw2 : SetTable.sizeAbove wanted ≤ 128) (hn : L.length * 5 < M * 3) {Q : Unit → Shared → Prop}
    (hQ : ∀ h' L' es' ep' t', Heap.SameBut a s.heap h' → SetN w h' a L' es' ep' t' → L'.Perm L → Q () { s with heap := h' }) : wpAny (model P w) A (setRelay a wanted) Q E s := by
  have hsl := rowsN_size rows
  have fits : t.fits es.size = true := by
    unfold SetTable.fits SetTable.fill
    rw [dm, Bool.and_eq_true, beq_iff_eq, decide_eq_true_eq]
    exact ⟨psz, by show t.place.size + 0 ≤ t.mask; omega⟩
  have hM127 : M ≤ 127 := by rcases hM with e | e | e <;> omega
  obtain ⟨t', order, e, hp, T, em, el, _, _⟩ := relaid_ok t (hs := es.map (·.1)) (wanted := wanted) hw hM (by rw [Array.size_map, hsl]; omega)
  rw [Array.size_map, hsl] at hp
  obtain ⟨L2, r1, r2, r3⟩ := orderN L es order rows hp
  rw [← r3] at T
  have hs2 : (order.filterMap (es[·]?)).size = es.size := by rw [rowsN_size r1, r2.length_eq, hsl]
  rw [setRelay_eq]
  refine wpAny_bind (wpAny_setState_of ho hd fits ?_)
  dsimp only
  refine wp_if_neg (by rw [sizeLine_eq]; omega) ?_
  try refine wpAny_bind (wpAny_pure ?_)
  rw [e]
  dsimp only
  refine wpAny_bind ?_
  refine wp_if_neg (by rw [hs2]; simp) ?_
  try refine wpAny_bind (wpAny_pure ?_)
  refine wpAny_pure ?_
  dsimp only
  refine wpAny_storeSet_of ho hd ?_ (by rw [hs2, hsl, sizeLine_eq]; omega)
  exact hQ _ L2 (order.filterMap (es[·]?)) (ep + 1) t' (Heap.SameBut.update ..)
    ⟨⟨_, store_at ho hd, ⟨hex.1, hex.2.1, hex.2.2⟩, rfl⟩, r1, T, (r2.map (·.2)).nodup_iff.mpr nd, by rw [el]; exact led, by rw [r2.length_eq, em]; exact hn⟩ r2
/-- ADDING -/
theorem addN (R : SetN w s.heap a L es ep t) (KA : ∀ p ∈ L, KeyAt s.heap p) {x : Addr} {k : NK} (hx : KeyAt s.heap (x, k)) (hu : A.units + 9 < cLine) (few : L.length + 1 ≤ 76) {Q : Bool → Shared → Prop}
    (hQ : ∀ b h' L' es' ep' t', Heap.SameBut a s.heap h' → SetN w h' a L' es' ep' t' → (k ∈ L.map (·.2) → L' = L) → (k ∉ L.map (·.2) → L'.Perm ((x, k) :: L)) → Q b { s with heap := h' }) :
    wpAny (model P w) A (setAddHashed a (.ref x) (k.hash w)) Q E s := by
  obtain ⟨o, ho, hex, hd⟩ := R.ob
  have hsl := rowsN_size R.rows
  have room := R.room
  have m127 := R.mask
  unfold setAddHashed
  refine wpAny_holding ?_
  rw [show (100000 : Nat) = 99999 + 1 from rfl, setAddHashedIn_succ]
  refine wpAny_bind (wpAny_setState_of ho hd R.fits ?_)
  dsimp only
  refine wp_if_neg (by simp [byScan, Value.scannable]) ?_
  try refine wpAny_bind (wpAny_pure ?_)
  obtain ⟨K, hKf, hK, hKb⟩ := R.tab.first (by rw [hashN_len]; omega) (k.hash w)
  have turns : 10 * SetTable.turns t.mask ≤ 1420 := by unfold SetTable.turns; rcases R.tab.mok with e | e | e <;> omega
  refine wpAny_bind (show wpAny _ _ (setSearch a (.ref x) (k.hash w) true) _ _ _ from ?_)
  unfold setSearch
  refine searchN R KA hx hu hKf hK hKb (fun hm => ?_) (fun hm => ?_) 100000 0 none rfl (Nat.zero_le _) (by omega) fun i p hp hk => ?_
  · exact wpAny_pure (hQ false s.heap L es ep t (Heap.SameBut.refl a s.heap) R (fun _ => rfl) fun z => absurd hm z)
  · dsimp only
    refine wpAny_bind (wpAny_setState_of ho hd R.fits ?_)
    dsimp only
    obtain ⟨q1, q2, q3, q4, q5, _, _, _, q9⟩ := R.tab.put hK hKb
    generalize hpt : t.put (way t.mask (k.hash w) K) = pt at q1 q3 q4 q5 q9 ⊢
    obtain ⟨t1, p⟩ := pt
    dsimp only at q1 q3 q4 q5 q9 ⊢
    subst q1
    generalize SetTable.below t.place (way t.mask (k.hash w) K) = p at q2 q3 ⊢
    have rows1 : (SetTable.insertAt es p (k.hash w, Value.ref x)).toList = rowsN w (L.take p ++ (x, k) :: L.drop p) := by
      rw [SetTable.toList_insertAt, R.rows, rowsN, rowsN, List.map_append, List.map_cons, List.map_take, List.map_drop]
    have pm := put_perm L p (x, k)
    have len1 : (L.take p ++ (x, k) :: L.drop p).length = L.length + 1 := pm.length_eq
    have tab1 : TabOk t1 (hashN w (L.take p ++ (x, k) :: L.drop p)) := by
      rw [show hashN w (L.take p ++ (x, k) :: L.drop p) = (hashN w L).take p ++ k.hash w :: (hashN w L).drop p by
        rw [hashN, hashN, List.map_append, List.map_cons, List.map_take, List.map_drop]]
      exact q3
    have nd1 : ((L.take p ++ (x, k) :: L.drop p).map (·.2)).Nodup := (pm.map (·.2)).nodup_iff.mpr (by rw [List.map_cons]; exact List.nodup_cons.mpr ⟨hm, R.nd⟩)
    have sz1 := rowsN_size rows1
    rw [len1] at sz1
    generalize SetTable.insertAt es p (k.hash w, Value.ref x) = es1 at rows1 sz1 ⊢
    generalize L.take p ++ (x, k) :: L.drop p = L1 at pm len1 tab1 nd1 rows1
    have led1 : w.params.followText "set-order" = true ∨ t1.led = true := by rw [q5]; exact R.led
    rw [hashN_len] at q9
    have tail : ∀ t2 : SetTable, t2.place = t1.place → t2.dummies = t1.dummies → t2.mask = t1.mask → t2.led = t1.led → t2.fill = t1.fill → t2.tooFull = t1.tooFull → TabOk t2 (hashN w L1) →
        wpAny (model P w) A (do
          storeSet a es1 t2
          if (!false && t2.tooFull) = true then do
            setRelay a (SetTable.grown (es.size + 1))
            pure true
          else pure true) Q E s := fun t2 e1 e2 e3 e4 e5 e6 T2 => by
      refine wpAny_bind (wpAny_storeSet_of ho hd ?_ (by rw [sz1, sizeLine_eq]; omega))
      have sb : Heap.SameBut a s.heap (s.heap.update a (Obj.putSet es1 t2)) := Heap.SameBut.update ..
      have ho1 := store_at (es' := es1) (t' := t2) ho hd
      generalize s.heap.update a (Obj.putSet es1 t2) = h1 at sb ho1 ⊢
      by_cases hf : t2.tooFull = true
      · refine wp_if_pos (by simp [hf]) (wpAny_bind ?_)
        have full : (L.length + 1) * 5 ≥ t.mask * 3 := by
          have h := hf
          unfold SetTable.tooFull at h
          rw [decide_eq_true_eq, e5, q9, e3, q4] at h
          exact h
        have dm2 : t2.dummies = #[] := T2.dm
        have psz2 : t2.place.size = es1.size := by rw [T2.sz, hashN_len, len1, sz1]
        have two : (t.mask = 7 ∧ L.length = 4) ∨ (t.mask = 31 ∧ L.length = 18) := by
          rcases R.tab.mok with e | e | e
          · left; rw [e] at full room; exact ⟨e, by omega⟩
          · right; rw [e] at full room; exact ⟨e, by omega⟩
          · exfalso; rw [e] at full room; omega
        have go : ∀ M, SetTable.sizeAbove (SetTable.grown (L.length + 1)) - 1 = M → MaskOk M → SetTable.sizeAbove (SetTable.grown (L.length + 1)) ≤ 128 → (L.length + 1) * 5 < M * 3 →
            wpAny (model P w) A (setRelay a (SetTable.grown (es.size + 1))) (fun _ s' => wpAny (model P w) A (pure true) Q E s') E { s with heap := h1 } := fun M k1 k2 k3 k4 => by
          rw [hsl]
          refine relayN (s := { s with heap := h1 }) ho1 ⟨hex.1, hex.2.1, hex.2.2⟩ rfl rows1 psz2 dm2 (by rw [sz1, e3, q4]; omega) nd1 (by rw [e4]; exact led1) k1 k2 k3 (by rw [len1]; exact k4) fun h2 L2 es2 ep2 t2 sb2 R2 pm2 => ?_
          exact wpAny_pure (hQ true h2 L2 es2 ep2 t2 (sb.trans sb2) R2 (fun z => absurd z hm) fun _ => pm2.trans pm)
        rcases two with ⟨_, e⟩ | ⟨_, e⟩
        · exact go 31 (by rw [e, size_20]) (.inr (.inl rfl)) (by rw [e, size_20]; decide) (by omega)
        · exact go 127 (by rw [e, size_76]) (.inr (.inr rfl)) (by rw [e, size_76]; decide) (by omega)
      · refine wp_if_neg (by simp [hf]) ?_
        refine wpAny_pure (hQ true h1 L1 es1 (ep + 1) t2 sb ⟨⟨_, ho1, ⟨hex.1, hex.2.1, hex.2.2⟩, rfl⟩, rows1, T2, nd1, by rw [e4]; exact led1, ?_⟩ (fun z => absurd z hm) fun _ => pm)
        have h := hf
        unfold SetTable.tooFull at h
        rw [decide_eq_true_eq, e5, q9, e3, q4] at h
        rw [len1, e3, q4]
        omega
    have plainOff : TabOk { t1 with plain := false } (hashN w L1) := ⟨tab1.ris, tab1.dm, tab1.sz, tab1.mok, tab1.bd, tab1.reach⟩
    by_cases hpl : t1.plain = true
    · first
        | (refine wpAny_bind ?_; refine wp_if_pos hpl ?_; refine hbv_key k _ 8 hx.1 hx.2 _ ?_)
        | refine wp_if_pos hpl (wpAny_bind (hbv_key k _ 8 hx.1 hx.2 _ ?_))
      cases hbv k with
      | true =>
        simp only [if_true]
        exact tail t1 rfl rfl rfl rfl rfl rfl tab1
      | false =>
        simp only [Bool.false_eq_true, if_false]
        exact tail _ rfl rfl rfl rfl rfl rfl plainOff
    · first
        | (refine wpAny_bind ?_; refine wp_if_neg hpl ?_; refine wpAny_pure ?_)
        | refine wp_if_neg hpl (wpAny_bind (wpAny_pure ?_))
      simp only [if_true]
      exact tail t1 rfl rfl rfl rfl rfl rfl tab1
  · have hi : (hashN w L)[i]? = some (k.hash w) := by rw [hashN, List.getElem?_map, hp, ← hk]; rfl
    have hil : i < t.place.toList.length := by
      have h1 : i < L.length := (List.getElem?_eq_some_iff.mp hp).1
      rw [Array.length_toList, R.psz]
      exact h1
    have hj := List.getElem?_eq_getElem hil
    obtain ⟨c, hc, e⟩ := R.tab.before hK hi hj
    exact ⟨c, Nat.zero_le _, hc, by rw [hj, e]⟩
end
end NSet

set_option Elab.async false
set_option linter.all false
set_option maxRecDepth 100000
set_option maxHeartbeats 1000000
/-! DatR: set comprehensions, whatever the new set is told as and whatever adding asks. -/
namespace NSet
open PySem PySem.Spec PyProof.Rows L2
abbrev emptySet (w : World) : Obj := { cls := .type "set", dict := none, data := .set #[] 0 (.fresh 0 0 (!w.params.followText "set-order")) }
/-- how a set is told (new: when empty), what adding asks -/
structure SetTell where
  new : Addr → HO
  add : Addr → V → Hp → (Hp → Prop) → Prop
structure TellOk (X : Cx) (T : SetTell) : Prop where
  new : ∀ (H : Hp) (h : Heap) (D : Addr), h.get? D = some (emptySet X.w) → ObjOk X.prog X.w (upd H D (T.new D)) h D (T.new D)
  add : ∀ {pins : List (Addr × Obj)} {s : Shared} {σ : L2.St} {H : Hp} {D : Addr} {y : V} {u : Value} {N : Hp → Prop} {Q : Value → Shared → Prop} {E : Value → Shared → Prop}, Inv X pins σ H s → RelV y u → T.add D y H N →
    (∀ s' H', Inv X pins σ H' s' → N H' → Q .none s') → wpAny (model X.prog X.w) X.A (call (.builtin "set.add") [.ref D, u]) Q E s
def tSetC (T : SetTell) (wi : TI) (g : TG) (tt : TT) (te : TE) (vs : List Nat) : TE := fun σ H Q => wi σ H fun J H1 => ∀ D, H1 D = none → ∃ W : Nat → Nat → Hp → Prop, (∃ m, W 0 m (upd H1 D (T.new D))) ∧ ∀ i m H, W i m H →
  (J.stop i H ∧ Q (.ref D) H) ∨ (J.go i H ∧ ∃ Nx : Hp → Prop, (∀ H', Nx H' → ∃ m', m' < m ∧ W (i + 1) m' H') ∧ ∀ x H', J.yld i H x H' → g x (wipe σ vs) H' fun σ2 H2 => wipe σ2 vs = wipe σ vs ∧ tt σ2 H2 fun b H3 =>
    if b = true then te σ2 H3 fun y H4 => T.add D y H4 Nx else Nx H3)
section
variable {X : Cx}
theorem pe_setC {T : SetTell} {elt tg iter : Expr} {ifs : List Expr} {scope : Scope} {own : List (Str × Nat)} {pos : Pos} {wi : TI} {g : TG} {tt : TT} {te : TE} (hT : TellOk X T) (hTb : ∀ (s : Shared) (H : Hp) (C : Addr) (cl : List (Str × Addr)) (fp : List Addr), TellOk (X.blk s H scope (compEnvC scope cl C X.env) fp) T)
    (hc : X.calm = true) (hN : X.N.Nodup) (hi : PI X tg iter wi) (ok : BlkOk X.N X.env.scope scope own)
    (hg : ∀ (s : Shared) (H : Hp) (C : Addr) (cl : List (Str × Addr)) (fp : List Addr), PG (X.blk s H scope (compEnvC scope cl C X.env) fp) tg g) (ht : ∀ (s : Shared) (H : Hp) (C : Addr) (cl : List (Str × Addr)) (fp : List Addr), PTs (X.blk s H scope (compEnvC scope cl C X.env) fp) ifs tt)
    (he : ∀ (s : Shared) (H : Hp) (C : Addr) (cl : List (Str × Addr)) (fp : List Addr), PE (X.blk s H scope (compEnvC scope cl C X.env) fp) elt te) (hs : ∀ x, foldedSetIterable iter X.env x = pure x := by intro _; rfl) :
    PE X (.SetComp elt [⟨tg, iter, ifs, 0⟩] scope pos) (tSetC T wi g tt te (own.map (·.2))) := by
  refine ⟨fun pins s σ H Q I h => ?_⟩
  rw [PpSet.eval_SetComp]
  refine wpAny_comprehension_free (use := none) rfl hs (closure_ok fun y hy e => (ok.free y hy e).elim (fun k => I.ok.has _ (.inl k)) fun k => I.ok.has _ (.inr k)) ok.kind (fun y hy e => by rw [ok.uniq y hy, e])
    (thn (hi.run pins s σ H _ I h) fun _ _ hx => thn hx fun _ s2 h2 => ?_)
  obtain ⟨it, fp, tn, J, H2, rfl, I2, W, st, fpo, q⟩ := h2
  refine PpSet.newSet_ok (newEnv_comp ?_)
  obtain ⟨D, hD⟩ : ∃ D, D = s2.heap.objs.size := ⟨_, rfl⟩
  obtain ⟨s3, hs3⟩ : ∃ s3 : Shared, s3 = { s2 with heap := s2.heap.push (emptySet X.w) } := ⟨_, rfl⟩
  obtain ⟨H3, hH3⟩ : ∃ H3 : Hp, H3 = upd H2 D (T.new D) := ⟨_, rfl⟩
  obtain ⟨Wd, ⟨m0, w0⟩, turn⟩ := q D (I2.hok.fresh (Nat.le_of_eq hD.symm))
  rw [← hH3] at w0
  have old : ∀ b o, s2.heap.get? b = some o → s3.heap.get? b = some o := fun b o e => by rw [hs3]; exact Heap.get?_push_of_some _ e
  have I3 : Inv X pins σ H3 s3 := by
    rw [hH3, hs3]
    refine I2.laid (t' := s2.toks) (fun b o e => Heap.get?_push_of_some _ e) (Nat.le_of_eq hD.symm) (hT.new _ _ _ ?_)
    rw [hD]
    exact Heap.get?_push_size _ rfl
  have fp3 : ∀ b ∈ fp, FpOk X pins H3 b ∧ b < s3.heap.objs.size := fun b hb => by
    obtain ⟨o, e, _⟩ := W.obj _ _ st b hb
    refine ⟨⟨?_, (fpo b hb).2⟩, Heap.lt_size (old b o e)⟩
    rw [hH3, upd_ne (by rw [hD]; exact Nat.ne_of_lt (Heap.lt_size e))]
    exact (fpo b hb).1
  have st3 : tn 0 s3.heap := W.keep _ _ _ st fun b _ o e => old b o e
  have I4 := block_start I3 ok hN fp3
  rw [← hD]
  change codeAny _ _ (.compStart (.SetComp elt [⟨tg, iter, ifs, 0⟩] scope pos) 0 (.ref it) (.ref D) (compEnvC scope (cellsFrom ((s2.heap.push (emptySet X.w)).objs.size + 1) scope.names (cloFrom X.env.cells scope.names [])) (s2.heap.push (emptySet X.w)).objs.size X.env))
    (compPost (model X.prog X.w) X.A X.xe none _ (.ref D) (s2.heap.push (emptySet X.w)).objs.size) { s2 with heap := pushCells ((s2.heap.push (emptySet X.w)).push { cls := .type "dict", data := .dict #[] }) scope.names }
  have eh : s2.heap.push (emptySet X.w) = s3.heap := by rw [hs3]
  have es4 : ({ s2 with heap := pushCells ((s2.heap.push (emptySet X.w)).push { cls := .type "dict", data := .dict #[] }) scope.names } : Shared) = { s3 with heap := pushCells (s3.heap.push { cls := .type "dict", data := .dict #[] }) scope.names } := by rw [hs3]
  rw [es4, eh]
  obtain ⟨cl, hcl⟩ : ∃ cl, cl = cellsFrom (s3.heap.objs.size + 1) scope.names (cloFrom X.env.cells scope.names []) := ⟨_, rfl⟩
  rw [← hcl] at I4 ⊢
  have PGb := hg s3 H3 s3.heap.objs.size cl fp
  have PTb := ht s3 H3 s3.heap.objs.size cl fp
  have PEb := he s3 H3 s3.heap.objs.size cl fp
  have TOb := hTb s3 H3 s3.heap.objs.size cl fp
  obtain ⟨ce, hce⟩ : ∃ ce, ce = compEnvC scope cl s3.heap.objs.size X.env := ⟨_, rfl⟩
  have cloc : ce.locals = s3.heap.objs.size := by rw [hce]; rfl
  rw [← hce] at I4 PGb PTb PEb TOb ⊢
  obtain ⟨s4, hs4⟩ : ∃ s4 : Shared, s4 = { s3 with heap := pushCells (s3.heap.push { cls := .type "dict", data := .dict #[] }) scope.names } := ⟨_, rfl⟩
  rw [← hs4] at I4 ⊢
  have st4 : tn 0 s4.heap := W.keep _ _ _ st3 fun b _ o e => by rw [hs4]; exact pushCells_keeps _ _ _ _ (Heap.get?_push_of_some _ e)
  -- what is walked stays apart from the block
  have apart : ∀ {σ' : L2.St} {H' : Hp} {s' : Shared}, Inv (X.blk s3 H3 scope ce fp) [] σ' H' s' → (∀ b ∈ fp, H' b = none) → ∀ b ∈ fp, FpOk (X.blk s3 H3 scope ce fp) [] H' b := fun I' hn b hb =>
    ⟨hn b hb, (I'.ok.exf b hb).1, I'.ok.exfs b hb, .inl hb, fun x c e => (I'.ok.exf b hb).2 x c e, fun p hp => absurd (show p ∈ ([] : List (Addr × Obj)) ++ [] from hp) (by simp)⟩
  have loop : codeAny (model X.prog X.w) X.A (.compLoop (.SetComp elt [⟨tg, iter, ifs, 0⟩] scope pos) 0 (.ref it) (.ref D) ce) (compPost (model X.prog X.w) X.A X.xe none (EP X pins σ Q) (.ref D) s3.heap.objs.size) s4 := by
    refine PpSet.compLoopS_any (fun n s' => ∃ i H', Inv (X.blk s3 H3 scope ce fp) [] (wipe σ (own.map (·.2))) H' s' ∧ tn i s'.heap ∧ (∀ b ∈ fp, H' b = none) ∧ Wd i n H') ?_ m0 ⟨0, H3, I4, st4, fun b hb => (fp3 b hb).1.1, w0⟩
    rintro n s5 ⟨i, H5, I5, st5, n5, w5⟩
    rcases turn i n H5 w5 with ⟨stop, qq⟩ | ⟨go, Nx, hNx, step⟩
    · refine thnF (W.done (X.blk s3 H3 scope ce fp) rfl rfl rfl hc i [] s5 _ H5 (fun _ _ => False) I5 (apart I5 n5) st5 stop) fun r s6 ⟨hr, I6⟩ => ?_
      subst hr
      have I7 : Inv X pins σ H5 s6 := I3.call' (ch := fp) I6.os I6.base I6.hok I6.bare fun b hb => ⟨(fp3 b hb).1.2.2.2.1, (fp3 b hb).1.2.1, (fp3 b hb).1.2.2.2.2.1, (fp3 b hb).1.2.2.2.2.2⟩
      have nC : H5 s3.heap.objs.size = none := by
        have z : H5 ce.locals = none := I6.free
        rw [cloc] at z
        exact z
      obtain ⟨m, hn, _⟩ := I6.loc
      have hn : s6.heap.Ns ce.locals m := hn
      rw [cloc] at hn
      obtain ⟨f0, f1, _, f3, f4, f5⟩ := I3.fpOk (Nat.le_refl _) nC
      exact ⟨m, hn, fun h'' sb => ⟨.ref D, H5, I7.turned (t' := s6.toks) (fun b o hb e => (sb.2 b hb).trans e) f0 f1 f3 f4 f5, rfl, qq⟩⟩
    · refine thnF (W.item (X.blk s3 H3 scope ce fp) rfl rfl rfl hc i [] s5 _ H5 (fun _ _ => False) I5 (apart I5 n5) st5 go) fun r s6 ⟨u, hr, h6⟩ => ?_
      subst hr
      refine thnF h6 fun _ s7 ⟨x, H7, I7, r7, y7, st7, n7⟩ => ?_
      refine thnF (PGb.run _ s7 _ H7 x u _ (I7.pinned (apart I7 n7) (W.obj _ _ st7)) r7 (step x H7 y7)) fun _ s8 ⟨σ8, H8, I8, hw8, q8⟩ => ?_
      refine thnF (PTb.run _ s8 σ8 H8 _ I8 q8) fun b s9 ⟨H9, I9, q9⟩ => ?_
      have next : ∀ {s' : Shared} {H' : Hp}, Inv (X.blk s3 H3 scope ce fp) ([] ++ pinsAt fp s7.heap) σ8 H' s' → Nx H' → ∃ m, m < n ∧ ∃ i H', Inv (X.blk s3 H3 scope ce fp) [] (wipe σ (own.map (·.2))) H' s' ∧ tn i s'.heap ∧ (∀ b ∈ fp, H' b = none) ∧ Wd i m H' := fun {s' H'} I' nx => by
        obtain ⟨m', hm, w'⟩ := hNx H' nx
        have pinned : ∀ b ∈ fp, ∀ o, s7.heap.get? b = some o → s'.heap.get? b = some o ∧ H' b = none := fun b hb o e =>
          let z := I'.pin (b, o) (List.mem_append_right _ (List.mem_append_right _ (mem_pinsAt hb e)))
          ⟨z.1, z.2.1⟩
        refine ⟨m', hm, i + 1, H', (I'.unpinned (pins := [])).weak (by rw [← hw8, wipe_length]) (fun j v e => by rw [← hw8] at e; exact (wipe_some e).1), W.keep _ _ _ st7 fun b hb o e => (pinned b hb o e).1, fun b hb => ?_, w'⟩
        obtain ⟨o, e, _⟩ := W.obj _ _ st7 b hb
        exact (pinned b hb o e).2
      cases b with
      | false =>
        simp only [Bool.false_eq_true, if_false] at q9 ⊢
        exact next I9 q9
      | true =>
        simp only [if_true] at q9 ⊢
        refine thnF (PEb.run _ s9 σ8 H9 _ I9 q9) fun z s10 ⟨yv, H10, I10, r10, q10⟩ => ?_
        exact TOb.add I10 r10 q10 fun s11 H11 I11 nx => next I11 nx
  exact PpSet.codeAny_compStart_set loop (W.self X.A 0 _ _ _ st4 loop)
end
end NSet

set_option Elab.async false
set_option linter.all false
set_option maxRecDepth 100000
/-! DatS: sorted({x for x in ..}) over tuples of data. -/
namespace DL
open PySem PySem.Spec PyProof.Rows L2 NSet
/-! ### data as keys -/
mutual
def D.nk : D → NK
  | .int i => .num i
  | .str z => .text z
  | .tup ds => .tup (D.nks ds)
  | _ => .none
def D.nks : List D → List NK
  | [] => []
  | d :: ds => D.nk d :: D.nks ds
end
mutual
def kok : Nat → D → Bool
  | _, .non => true
  | _, .int _ => true
  | _, .str _ => true
  | n + 1, .tup ds => koks n ds
  | _, _ => false
def koks : Nat → List D → Bool
  | _, [] => true
  | n, d :: ds => kok n d && koks n ds
end
theorem koks_all : ∀ (n : Nat) (ds : List D), koks n ds = ds.all (kok n)
  | n, [] => by simp [koks]
  | n, d :: ds => by simp [koks, koks_all n ds]
@[simp] theorem kok_tup (n : Nat) (ds : List D) : kok (n + 1) (.tup ds) = ds.all (kok n) := by rw [← koks_all]; simp [kok]
@[simp] theorem kok_int (n : Nat) (i : Int) : kok n (.int i) = true := by simp [kok]
@[simp] theorem kok_str (n : Nat) (i : Str) : kok n (.str i) = true := by simp [kok]
mutual
theorem nk_inj : ∀ (n : Nat) (a b : D), kok n a = true → kok n b = true → a.nk = b.nk → a = b
  | n, a, b, ha, hb, h => by
    cases a with
    | tup xs =>
      cases b with
      | tup ys =>
        cases n with
        | zero => simp [kok] at ha
        | succ n =>
          simp only [D.nk, NestedKey.tup.injEq] at h
          rw [nks_inj n xs ys (by simpa [kok] using ha) (by simpa [kok] using hb) h]
      | _ => simp [D.nk] at h
    | non => cases b <;> first | rfl | (simp [D.nk] at h; done) | (cases n <;> simp [kok] at hb)
    | int i => cases b <;> first | (simp only [D.nk, NestedKey.num.injEq] at h; rw [h]; done) | (simp [D.nk] at h; done)
    | str i => cases b <;> first | (simp only [D.nk, NestedKey.text.injEq] at h; rw [h]; done) | (simp [D.nk] at h; done)
    | _ => cases n <;> simp [kok] at ha
theorem nks_inj : ∀ (n : Nat) (a b : List D), koks n a = true → koks n b = true → D.nks a = D.nks b → a = b
  | n, [], [], _, _, _ => rfl
  | n, [], b :: bs, _, _, h => by simp [D.nks] at h
  | n, a :: as, [], _, _, h => by simp [D.nks] at h
  | n, a :: as, b :: bs, ha, hb, h => by
    have ha' : kok n a = true ∧ koks n as = true := by simpa [koks] using ha
    have hb' : kok n b = true ∧ koks n bs = true := by simpa [koks] using hb
    simp only [D.nks, List.cons.injEq] at h
    rw [nk_inj n a b ha'.1 hb'.1 h.1, nks_inj n as bs ha'.2 hb'.2 h.2]
end
mutual
theorem nk_depth : ∀ (n : Nat) (d : D), kok n d = true → d.nk.depth ≤ n
  | n, d, h => by
    cases d with
    | tup ds =>
      cases n with
      | zero => simp [kok] at h
      | succ n =>
        have := nks_depth n ds (by simpa [kok] using h)
        simp only [D.nk, NestedKey.depth]
        omega
    | _ => simp [D.nk, NestedKey.depth]
theorem nks_depth : ∀ (n : Nat) (ds : List D), koks n ds = true → NestedKey.depthAll (D.nks ds) ≤ n
  | n, [], _ => by simp [D.nks, NestedKey.depthAll]
  | n, d :: ds, h => by
    have h' : kok n d = true ∧ koks n ds = true := by simpa [koks] using h
    have a := nk_depth n d h'.1
    have b := nks_depth n ds h'.2
    simp only [D.nks, NestedKey.depthAll]
    omega
end
section
variable {X : Cx} {pins : List (Addr × Obj)} {s : Shared} {σ : L2.St} {H : Hp} {G : Gh}
mutual
theorem Rep.nk (I : Inv X pins σ H s) : ∀ (n : Nat) (d : D) (v : V) (u : Value), kok n d = true → Rep X.K G H v d → RelV v u → NestedIs s.heap d.nk u
  | n, d, v, u, h, r, rv => by
    cases d with
    | tup ds =>
      cases n with
      | zero => simp [kok] at h
      | succ n =>
        obtain ⟨a, vs, rfl, f, l⟩ := r
        obtain rfl : u = Value.ref a := rv
        obtain ⟨its, r2, ⟨o, ho, hc, m, hd⟩, _⟩ := I.tuple f.sq
        simp only [D.nk]
        exact .tup ho hc hd (by simpa using RepL.nk I n ds vs its (by simpa [kok] using h) l r2)
    | non =>
      obtain rfl : v = .non := r
      obtain rfl : u = Value.none := rv
      simp only [D.nk]; exact .none
    | int i =>
      obtain rfl : v = .int i := r
      obtain ⟨t, rfl⟩ := rv
      simp only [D.nk]; exact .int _ _
    | str z =>
      obtain rfl : v = .str z := r
      obtain ⟨t, rfl⟩ := rv
      simp only [D.nk]; exact .text _ _
    | _ => cases n <;> simp [kok] at h
theorem RepL.nk (I : Inv X pins σ H s) : ∀ (n : Nat) (ds : List D) (vs : List V) (us : List Value), koks n ds = true → RepL X.K G H vs ds → Vals vs us → NestedAll s.heap (D.nks ds) us
  | n, [], vs, us, h, r, rv => by
    have e : vs = [] := r
    subst e
    cases rv
    simp only [D.nks]; exact .nil
  | n, d :: ds, vs, us, h, r, rv => by
    have h' : kok n d = true ∧ koks n ds = true := by simpa [koks] using h
    obtain ⟨v, r', e, h1, h2⟩ := r
    subst e
    cases rv with
    | cons rv1 rv2 =>
      simp only [D.nks]
      exact .cons (Rep.nk I n d v _ h'.1 h1 rv1) (RepL.nk I n ds r' _ h'.2 h2 rv2)
end
end
/-! ### the set as a tracked thing -/
abbrev MemD := List (Addr × D)
def nkm (M : MemD) : Mem := M.map fun p => (p.1, p.2.nk)
def SetDO (w : World) (a : Addr) (M : MemD) : HO := .ext fun h => ∃ es ep t, SetN w h a (nkm M) es ep t
def MemOk (K : PySem.W.Frag) (G : Gh) (H : Hp) (p : Addr × D) : Prop := kok 8 p.2 = true ∧ Rep K G H (.ref p.1) p.2
theorem setDO_ok {P : Program} {w : World} {H : Hp} {h : Heap} {a : Addr} {M : MemD} {es : Array (Int × Value)} {ep : Nat} {t : SetTable} (R : SetN w h a (nkm M) es ep t) : ObjOk P w H h a (SetDO w a M) := by
  obtain ⟨o, ho, hx, hd⟩ := id R.ob
  refine ⟨⟨es, ep, t, R⟩, ⟨o, ho⟩, fun h1 h2 p k => ?_⟩
  obtain ⟨es, ep, t, R⟩ := p
  obtain ⟨o, ho, r⟩ := R.ob
  exact ⟨es, ep, t, ⟨o, k o ho, r⟩, R.rows, R.tab, R.nd, R.led, R.room⟩
theorem emptyN {w : World} {h : Heap} {a : Addr} (ho : h.get? a = some (emptySet w)) : SetN w h a [] #[] 0 (.fresh 0 0 (!w.params.followText "set-order")) where
  ob := ⟨_, ho, ⟨rfl, rfl, rfl⟩, rfl⟩
  rows := rfl
  tab := ⟨List.Pairwise.nil, rfl, rfl, .inl rfl, fun x hx => (by cases hx), fun i h j hi => (by simp [hashN] at hi)⟩
  nd := List.nodup_nil
  led := by
    show _ ∨ (!w.params.followText "set-order") = true
    cases w.params.followText "set-order"
    · exact .inr rfl
    · exact .inl rfl
  room := by show 0 * 5 < 7 * 3; decide
theorem perm_of_map {α β : Type} {f : α → β} {l : List β} {m : List α} (h : l.Perm (m.map f)) : ∃ m' : List α, m'.Perm m ∧ m'.map f = l := by
  generalize hx : m.map f = x at h
  induction h generalizing m with
  | nil => 
    have : m = [] := by simpa using hx
    subst this
    exact ⟨[], .refl _, rfl⟩
  | @cons b l1 l2 p ih =>
    cases m with
    | nil => simp at hx
    | cons a m =>
      simp only [List.map_cons, List.cons.injEq] at hx
      obtain ⟨m', p', e'⟩ := ih hx.2
      exact ⟨a :: m', p'.cons a, by rw [List.map_cons, e', hx.1]⟩
  | swap b c l =>
    match m, hx with
    | a :: a' :: m, hx =>
      simp only [List.map_cons, List.cons.injEq] at hx
      exact ⟨a' :: a :: m, .swap _ _ _, by rw [List.map_cons, List.map_cons, hx.1, hx.2.1, hx.2.2]⟩
  | trans p1 p2 ih1 ih2 =>
    obtain ⟨m2, q2, e2⟩ := ih2 hx
    obtain ⟨m1, q1, e1⟩ := ih1 e2
    exact ⟨m1, q1.trans q2, e1⟩
def tellD (K : PySem.W.Frag) (w : World) : SetTell where
  new := fun D => SetDO w D []
  add := fun D y H N => ∃ G M x d, y = .ref x ∧ H D = some (SetDO w D M) ∧ MemOk K G H (x, d) ∧ (∀ p ∈ M, MemOk K G H p) ∧ M.length ≤ 75 ∧
    ∀ M', (d ∈ M.map (·.2) → M' = M) → (d ∉ M.map (·.2) → M'.Perm ((x, d) :: M)) → N (upd H D (SetDO w D M'))
theorem tellD_ok {X : Cx} (hu : X.A.units + 65 < cLine) : TellOk X (tellD X.K X.w) where
  new := fun H h D ho => setDO_ok (M := []) (emptyN ho)
  add := fun {pins s σ H D₀ y u N Q E} I ry h hQ => by
    obtain ⟨G, M, x, d, rfl, hD, ⟨hk, hr⟩, hM, hl, h⟩ := h
    obtain rfl : u = Value.ref x := ry
    obtain ⟨es, ep, t, R⟩ := (I.hok D₀ _ hD).1
    have key : ∀ p : Addr × D, MemOk X.K G H p → KeyAt s.heap (p.1, p.2.nk) := fun p hp => ⟨Rep.nk I 8 p.2 _ _ hp.1 hp.2 rfl, nk_depth 8 _ hp.1⟩
    obtain ⟨o, ho, hex, hd⟩ := id R.ob
    have hx : KeyAt s.heap (x, d.nk) := key (x, d) ⟨hk, hr⟩
    refine wpAny_call_entry F.slot_set_add ⟨o, ho, hex.1⟩ F.entry_set_add ?_ (F.args_set_add_2 _ _)
    unfold Builtin.«set.add» Builtin.Frozenset.oneOther
    simp only [List.isEmpty_nil, bind_assoc]
    unfold Builtin.Frozenset.addrOf setAdd
    refine wpAny_bind (wpAny_pure ?_)
    try dsimp only
    refine wpAny_bind (wpAny_pure ?_)
    try dsimp only
    refine wpAny_bind ?_
    refine wpAny_holding ?_
    have hdep : d.nk.depth ≤ 8 := hx.2
    refine wpAny_bind (pyHash_key d.nk _ _ _ _ hx.1 (by simp only [Around.in1_units]; omega) ?_)
    refine addN (s := { s with toks := s.toks + d.nk.draws }) R (fun p hp => ?_) hx (by simp only [Around.in1_units]; omega) (by simp only [nkm, List.length_map]; omega) fun b h' L' es' ep' t' sb R' c1 c2 => ?_
    · obtain ⟨q, hq, rfl⟩ := List.mem_map.mp hp
      exact key q (hM q hq)
    show wpAny _ _ (ret Value.none) _ _ _
    have mem_iff : d.nk ∈ (nkm M).map (·.2) ↔ d ∈ M.map (·.2) := by
      simp only [nkm, List.map_map, List.mem_map, Function.comp_apply]
      constructor
      · rintro ⟨q, hq, e⟩
        exact ⟨q, hq, nk_inj 8 _ _ (hM q hq).1 hk e⟩
      · rintro ⟨q, hq, e⟩
        exact ⟨q, hq, by rw [e]⟩
    obtain ⟨M', eM, k1, k2⟩ : ∃ M' : MemD, nkm M' = L' ∧ (d ∈ M.map (·.2) → M' = M) ∧ (d ∉ M.map (·.2) → M'.Perm ((x, d) :: M)) := by
      by_cases hm : d ∈ M.map (·.2)
      · exact ⟨M, (c1 (mem_iff.mpr hm)).symm, fun _ => rfl, fun z => absurd hm z⟩
      · have pm := c2 fun z => hm (mem_iff.mp z)
        have pm2 : L'.Perm (((x, d) :: M).map fun p => (p.1, p.2.nk)) := pm
        obtain ⟨m', p', e'⟩ := perm_of_map pm2
        exact ⟨m', e', fun z => absurd z hm, fun _ => p'⟩
    rw [← eM] at R'
    have he : ∃ u, h'.get? D₀ = some u := by
      obtain ⟨o', ho', _⟩ := R'.ob
      exact ⟨o', ho'⟩
    exact wpAny_pure ⟨_, rfl, hQ _ _ (I.write (e := D₀) (t' := s.toks + d.nk.draws) (by rw [hD]; trivial) (.inl rfl) (fun b u hb hu => (sb.2 b hb).trans hu) he (setDO_ok R')) (h M' k1 k2)⟩
end DL

set_option Elab.async false
set_option linter.all false
set_option maxRecDepth 100000
/-! DatT: sorted of such a set, as a rule over data. -/
namespace DL
open PySem PySem.Spec PyProof.Rows L2 NSet
/-- list.sort, of values that stand for alike data -/
theorem wp_sort {prog : Program} {w : World} {A : Around} {E : Value → Shared → Prop} {s : Shared} {h0 : Heap} {a : Addr} {vs : List Value} {n : Nat} {P : PySem.Fin → Shared → Prop} {β : Type} {R : Value → β → Prop} {bs : List β} {f : β → D} (ho : s.heap.get? a = some (seqObj "list" vs.toArray n))
    (hk : ∀ b o, h0.get? b = some o → b ≠ a ∧ s.heap.get? b = some o) (hE : PySem.W.EachIs R vs bs) (hr : PySem.W.EachIs (fun v b => ∃ as, Reads h0 v (f b).py as) vs bs) (S : Sble (bs.map f)) (hL : bs.length ≤ sizeLine) (hu : A.units + 32 < cLine)
    (h : ∀ out, PySem.W.EachIs R out (bs.mergeSort fun a b => !dlt (f b) (f a)) → P (.done (.ret .none)) { s with heap := sortedHeap s.heap a vs out.toArray }) :
    wpAny (model prog w) A (Builtin.«list.sort» ⟨[.ref a], []⟩) P E s := by
  have hl := hE.length
  have em : bs.map (fun b => (f b).py) = (bs.map f).map D.py := by rw [List.map_map]; rfl
  by_cases h2 : bs.length < 2
  · refine SrtO.list_sort_ord (ltv := fun _ _ => false) ⟨fun _ _ h => (by cases h), fun _ _ _ _ _ => rfl⟩ ho (by omega) (fun h3 => absurd h3 (by omega)) fun out _ hb => ?_
    have eo : out = vs := by
      match vs, out, hb.perm, hl with
      | [], out, hp, _ => exact List.perm_nil.mp hp
      | [v], out, hp, _ => exact List.perm_singleton.mp hp
      | _ :: _ :: _, _, _, hv => simp at hv; omega
    have e2 : bs.mergeSort (fun a b => !dlt (f b) (f a)) = bs := by
      have hp := List.mergeSort_perm bs (fun a b => !dlt (f b) (f a))
      match bs, h2, hp with
      | [], _, hp => exact List.perm_nil.mp hp
      | [b], _, hp => exact List.perm_singleton.mp hp
      | _ :: _ :: _, hv, _ => simp at hv; omega
    exact h out (by rw [e2, eo]; exact hE)
  · have er : PySem.W.EachIs (fun v b => ∃ as, Reads (PySem.W.sortingHeap s.heap a vs) v (f b).py as) vs bs := hr.mono fun v b ⟨as, r⟩ => ⟨as, PyProof.Rows.Reads.keeps (fun b o e => PySem.W.sortingHeap_old (hk b o e).1 (hk b o e).2) r⟩
    have hal : PySem.W.AllAlike (bs.map fun b => (f b).py) := by rw [em]; exact S.allAlike
    refine PySem.W.list_sort_vals (κ := PySem.W.dataKind (PySem.W.sortingHeap s.heap a vs) (bs.map fun b => (f b).py)) ho (PySem.W.SortsAt.data (s := { s with heap := PySem.W.sortingHeap s.heap a vs }) (PySem.W.each_map (R := fun v d => ∃ as, Reads (PySem.W.sortingHeap s.heap a vs) v d as) (fun b => (f b).py) er) hal (by rw [em]; exact S.sortable (by rw [List.length_map]; exact h2)) fun d hd => ?_) (by omega) (h _ ?_)
    · rw [em] at hd
      obtain ⟨x, hx, rfl⟩ := List.mem_map.mp hd
      have := (fit_py 32 x (S.fit x hx)).2
      omega
    · have z := PySem.W.sortVals_data (enc := fun b => (f b).py) false hE er hal
      rw [PySem.W.dataLe_eq] at z
      exact z
def msort (N : MemD) : MemD := N.mergeSort fun a b => !dlt b.2 a.2
def rSortN (K : PySem.W.Frag) (w : World) : List V → Hp → VK → Prop := fun vs H Q => ∃ G a M, vs = [V.ref a] ∧ H a = some (SetDO w a M) ∧ (∀ p ∈ M, MemOk K G H p) ∧ (M.map (·.2)).Nodup ∧ M.length ≤ 76 ∧ (∀ p ∈ M, fit 32 p.2 = true) ∧ (∀ N : MemD, N.Perm M → Sble (N.map (·.2))) ∧
  ∀ (N : MemD) (p : Addr), N.Perm M → H p = none → Q (.ref p) (upd H p (.lst ((msort N).map fun q => V.ref q.1)))
theorem pyAll_reads {X : Cx} {pins : List (Addr × Obj)} {s : Shared} {σ : L2.St} {H : Hp} {G : Gh} (I : Inv X pins σ H s) : ∀ {N : MemD}, (∀ p ∈ N, Rep X.K G H (.ref p.1) p.2 ∧ fit 32 p.2 = true) → PySem.W.EachIs (fun v (b : Addr × D) => ∃ as, Reads s.heap v b.2.py as) (N.map fun q => Value.ref q.1) N
  | [], _ => .nil
  | q :: N, h => by
    obtain ⟨h1, h2⟩ := h q List.mem_cons_self
    exact .cons (Dp.reads I _ _ _ (Rep.dp 32 _ _ h2 h1) rfl) (pyAll_reads I fun p hp => h p (List.mem_cons_of_mem _ hp))
theorem refAll : ∀ N : MemD, PySem.W.EachIs (fun v (b : Addr × D) => v = Value.ref b.1) (N.map fun q => Value.ref q.1) N
  | [] => .nil
  | q :: N => .cons rfl (refAll N)
theorem ref_each : ∀ {out : List Value} {N : MemD}, PySem.W.EachIs (fun v (b : Addr × D) => v = Value.ref b.1) out N → out = N.map fun q => Value.ref q.1
  | _, _, .nil => rfl
  | _, _, .cons h t => by rw [List.map_cons, ← h, ← ref_each t]
theorem ref_vals : ∀ N : MemD, Vals (N.map fun q => V.ref q.1) (N.map fun q => Value.ref q.1)
  | [] => .nil
  | q :: N => .cons rfl (ref_vals N)
section
variable {X : Cx}
theorem cr_sortN (hc : X.calm = true) (hu : X.A.units + 65 < cLine) : CallR X (.builtin "sorted") (rSortN X.K X.w) := by
  intro pins s σ H vs us Q I r h
  obtain ⟨G, a, M, rfl, ha, hM, nd, few, hfit, hS, q⟩ := h
  obtain ⟨es, ep, t, R⟩ := (I.hok a _ ha).1
  rw [Vals.ref1 r]
  obtain ⟨o, ho, hex, hd⟩ := id R.ob
  have hsz := rowsN_size R.rows
  have hml : (nkm M).length = M.length := by simp [nkm]
  refine Calls.call_function_entry kind_sorted plain_sorted entry_sorted (args_sorted1 _) ?_
  unfold Builtin.«sorted»
  refine wpAny_bind (m := checkCount "sorted" 1 1 _) (wpAny_pure ?_)
  refine wpAny_bind (collect_set (A := X.A.in1) (I.ok.hd hc) ⟨o, ho, hex.1, hd⟩ R.fits (by unfold scanBound; omega) R.tab.ris R.led fun s1 vs k1 hz g1 o1 pm => ?_)
  have hes : es.toList.map (·.2) = M.map fun q => Value.ref q.1 := by
    rw [R.rows, rowsN, nkm, List.map_map, List.map_map]; rfl
  rw [hes] at pm
  obtain ⟨N, pN, rfl⟩ := perm_of_map pm
  have hvl : N.length = M.length := pN.length_eq
  refine wpAny_bind (wpAny_newList ?_ (by rw [List.length_map, sizeLine_eq]; omega))
  have hoL : (s1.heap.push (seqObj "list" (N.map fun q => Value.ref q.1).toArray 0)).get? s1.heap.objs.size = some (seqObj "list" (N.map fun q => Value.ref q.1).toArray 0) := Heap.get?_push_size _ rfl
  refine wpAny_bind (wpAny_holding (wpAny_call_entry slot_list_sort ⟨_, hoL, rfl⟩ entry_list_sort (wp_sort (h0 := s.heap) (s := { s1 with heap := s1.heap.push (seqObj "list" (N.map fun q => Value.ref q.1).toArray 0) }) (R := fun v (b : Addr × D) => v = Value.ref b.1) (f := (·.2)) hoL (fun b u e => ?_) (refAll N) (pyAll_reads (G := G) I fun p hp => ?_) (hS N pN) (by rw [hvl, sizeLine_eq]; omega) (by simp only [Around.in1_units]; omega) fun out hout => ⟨_, rfl, ?_⟩) (args_list_sort _)))
  · have hlt := Heap.lt_size (k1 b u e)
    exact ⟨Nat.ne_of_lt hlt, Heap.get?_push_of_some _ (k1 b u e)⟩
  · have hp' := pN.mem_iff.mp hp
    exact ⟨(hM p hp').2, hfit p hp'⟩
  · have eo := ref_each hout
    obtain ⟨c, hc'⟩ := sortedHeap_at (vs := N.map fun q => Value.ref q.1) (out := out.toArray) hoL
    have old : ∀ b u, s.heap.get? b = some u → (sortedHeap (s1.heap.push (seqObj "list" (N.map fun q => Value.ref q.1).toArray 0)) s1.heap.objs.size (N.map fun q => Value.ref q.1) out.toArray).get? b = some u := fun b u e => by
      have hlt := Heap.lt_size (k1 b u e)
      rw [sortedHeap_old (Nat.ne_of_lt hlt) (by rw [size_push']; exact Nat.lt_succ_of_lt hlt)]
      exact Heap.get?_push_of_some _ (k1 b u e)
    have hn : H s1.heap.objs.size = none := I.hok.fresh hz
    have eo2 : out = (msort N).map fun q => Value.ref q.1 := eo
    have hlen : ((msort N).map fun q => V.ref q.1).length ≤ sizeLine := by
      rw [List.length_map, msort, (List.mergeSort_perm _ _).length_eq, hvl, sizeLine_eq]; omega
    have J : Inv X pins σ (upd H s1.heap.objs.size (.lst ((msort N).map fun q => V.ref q.1))) { s with heap := sortedHeap (s1.heap.push (seqObj "list" (N.map fun q => Value.ref q.1).toArray 0)) s1.heap.objs.size (N.map fun q => Value.ref q.1) out.toArray, gens := s1.gens, drawn := s1.drawn, toks := s1.toks } :=
      I.call (ch := []) (Un.laid old hz hn) (I.hok.laid old hz ⟨hlen, out, c, by rw [eo2]; exact ref_vals _, hc'⟩) (by rw [g1]; exact I.bare) (fun _ z => nomatch z)
    refine wpAny_pure ⟨_, rfl, ?_⟩
    have e : ({ s1 with heap := sortedHeap (s1.heap.push (seqObj "list" (N.map fun q => Value.ref q.1).toArray 0)) s1.heap.objs.size (N.map fun q => Value.ref q.1) out.toArray } : Shared) = { s with heap := sortedHeap (s1.heap.push (seqObj "list" (N.map fun q => Value.ref q.1).toArray 0)) s1.heap.objs.size (N.map fun q => Value.ref q.1) out.toArray, gens := s1.gens, drawn := s1.drawn, toks := s1.toks } := by
      cases s1
      cases s
      cases o1
      rfl
    exact ⟨.ref _, _, by rw [← e] at J; exact J, rfl, q N _ pN hn⟩
end
end DL

set_option Elab.async false
set_option linter.all false
set_option maxRecDepth 100000
/-! DatU: sorted({elt for tg in iter if ..}) over data. -/
namespace DL
open PySem PySem.Spec PyProof.Rows L2 NSet
/-- what may be put in behind acc -/
def PutOk (acc : List D) (x : D) : Prop := kok 8 x = true ∧ fit 32 x = true ∧ (∃ ys, x = .tup ys) ∧ ∃ B : List D, B.length ≤ 75 ∧ ∀ d ∈ acc ++ [x], d ∈ B
def scGo (g : Tgt) (c : TDT) (t : TD) (Γ : Gs) : List D → List D → Ws → (List D → Ws → Prop) → Prop
  | [], acc, W, Q => Q acc W
  | d :: r, acc, W, Q => match g.sto d Γ with
    | some Γ1 => c X0 Γ1 W fun b W1 => if b = true then t X0 Γ1 W1 fun e W2 => match e with
        | .val x => PutOk acc x ∧ scGo g c t Γ r (acc ++ [x]) W2 Q
        | _ => False
      else scGo g c t Γ r acc W1 Q
    | none => False
theorem scGo_mono {g : Tgt} {c : TDT} {t : TD} (hc : MonoE c) (ht : MonoE t) {Γ : Gs} {Q Q' : List D → Ws → Prop} (hQ : ∀ a W, Q a W → Q' a W) : ∀ (ds acc : List D) (W : Ws), scGo g c t Γ ds acc W Q → scGo g c t Γ ds acc W Q'
  | [], acc, W, h => hQ _ _ h
  | d :: r, acc, W, h => by
    unfold scGo at h ⊢
    split at h
    · refine hc _ _ _ _ _ _ (fun _ _ _ h => h) (fun b W1 h => ?_) h
      by_cases e : b = true
      · rw [if_pos e] at h ⊢
        refine ht _ _ _ _ _ _ (fun _ _ _ h => h) (fun e W2 h => ?_) h
        split at h
        · exact ⟨h.1, scGo_mono hc ht hQ r _ W2 h.2⟩
        · exact h
      · rw [if_neg e] at h ⊢
        exact scGo_mono hc ht hQ r _ W1 h
    · exact h
/-- the distinct ones, sorted -/
def SSet (xs : List D) (Q : List D → Prop) : Prop := ∀ L : List D, L.Nodup → (∀ d, d ∈ L ↔ d ∈ xs) → Sble L ∧ Q (dsort L)
def dSetSort (wi : TDI) (g : Tgt) (c : TDT) (t : TD) (vs : List Nat) : TDF := fun E Γ W Q => wi E Γ W fun items W1 => scGo g c t (wipeG Γ vs) items [] W1 fun xs W2 => SSet xs fun L => Q L W2
theorem nodup_sub {α : Type} : ∀ {l B : List α}, l.Nodup → (∀ x ∈ l, x ∈ B) → l.length ≤ B.length
  | [], _, _, _ => Nat.zero_le _
  | x :: l, B, hn, hs => by
    obtain ⟨h1, h2⟩ := List.nodup_cons.mp hn
    obtain ⟨A, C, rfl⟩ := List.append_of_mem (hs x List.mem_cons_self)
    have ih := nodup_sub (B := A ++ C) h2 fun y hy => by
      have hy' := hs y (List.mem_cons_of_mem _ hy)
      rcases List.mem_append.mp hy' with z | z
      · exact List.mem_append_left _ z
      · rcases List.mem_cons.mp z with e | z
        · exact absurd (e ▸ hy) h1
        · exact List.mem_append_right _ z
    simp only [List.length_cons, List.length_append] at ih ⊢
    omega
theorem msort_snd (N : MemD) : (msort N).map (·.2) = dsort (N.map (·.2)) := by
  unfold msort dsort
  rw [List.map_mergeSort (s := fun a b => !dlt b a) (fun a _ b _ => rfl)]
theorem memRep {K : PySem.W.Frag} {G : Gh} {H : Hp} : ∀ {N : MemD}, (∀ p ∈ N, Rep K G H (.ref p.1) p.2) → RepL K G H (N.map fun q => V.ref q.1) (N.map (·.2))
  | [], _ => RepL.nil
  | q :: N, h => RepL.cons (h q List.mem_cons_self) (memRep fun p hp => h p (List.mem_cons_of_mem _ hp))
/-- the heap's side -/
theorem sc_imp {K : PySem.W.Frag} {w : World} {EX : WX} {wi : TDI} {g : Tgt} {c : TDT} {t : TD} {vs : List Nat} (hw : MonoE wi) (hc : MonoE c) (ht : MonoE t) (hv : ∀ i ∈ g.vars, i ∈ vs) (σ : L2.St) (H : Hp) (Q : VK) (h : liftF K EX (dSetSort wi g c t vs) σ H Q) :
    tCB (rSortN K w) (tCons (tSetC (tellD K w) (liftI K EX MvP wi) (g.g K) (liftT K EX0 c) (liftE K EX0 t) vs) tNil) σ H Q := by
  obtain ⟨G, Γ, W, E, S, h⟩ := h
  refine ⟨G, Γ, W, E, S, hw _ _ _ _ _ _ (fun _ _ _ h => h) (fun items W1 h J G1 H1 m1 k1 hJ hz D₀ nD => ?_) h⟩
  have S1 := S.toSta.mv m1 k1
  have dH : H D₀ = none := m1.al D₀ nD
  -- at D stands a set of acc's
  let Good : List D → Ws → Nat → Hp → Prop := fun rest W2 i H2 => ∃ G2 acc M, Mv G1 H1 G2 H2 ∧ Ok K G2 H2 W2 ∧ ¬ G2.F D₀ ∧ D₀ ∉ G2.ρ ∧ H2 D₀ = some (SetDO w D₀ M) ∧ (∀ p ∈ M, MemOk K G2 H2 p ∧ fit 32 p.2 = true) ∧ (M.map (·.2)).Nodup ∧ (∀ d, d ∈ M.map (·.2) ↔ d ∈ acc) ∧ M.length ≤ 75 ∧
      scGo g c t (wipeG Γ vs) rest acc W2 (fun xs W' => SSet xs fun xs => ∀ p vs G' H', Mv G H G' H' → Ok K G' H' W' → H p = none → ¬ G'.F p → p ∉ G'.ρ → H' p = some (.lst vs) → RepL K G' H' vs xs → vs.length ≤ sizeLine → Q (.ref p) H')
  refine ⟨fun i m H2 => m = items.length - i ∧ i ≤ items.length ∧ ∃ W2, Good (items.drop i) W2 i H2, ⟨_, rfl, Nat.zero_le _, W1, G1, [], [], Mv.fresh0 nD, k1.fresh0 nD, fun z => k1.fok D₀ z nD, fun z => ?_, upd_same, fun p hp => (by cases hp), List.nodup_nil, fun d => Iff.rfl, Nat.zero_le _, h⟩, ?_⟩
  · obtain ⟨us, q⟩ := k1.at z
    rw [nD] at q; cases q
  rintro i m H2 ⟨rfl, hi, W2, G2, acc, M, m2, k2, nf, nr, eD, hM, nd, mem, hl, q⟩
  obtain ⟨stop, go⟩ := hJ G2 H2 W2 m2 k2 i
  have nfD : ∀ {G' : Gh} {H' : Hp}, Mv G2 H2 G' H' → ¬ G'.F D₀ ∧ D₀ ∉ G'.ρ ∧ H' D₀ = some (SetDO w D₀ M) := fun {G' H'} m => by
    refine ⟨fun z => ?_, fun z => ?_, m.sm D₀ _ eD nr⟩
    · rcases m.f2 D₀ z with z | z
      · exact nf z
      · rw [eD] at z; cases z
    · obtain ⟨more, e1, e2⟩ := m.r1
      rw [e1] at z
      rcases List.mem_append.mp z with z | z
      · exact nr z
      · rw [e2 D₀ z] at eD; cases eD
  by_cases hlt : i < items.length
  · obtain ⟨gi, gx⟩ := go _ (List.getElem?_eq_getElem hlt)
    rw [List.drop_eq_getElem_cons hlt] at q
    refine .inr ⟨gi, fun H' => ∃ W2, Good (items.drop (i + 1)) W2 (i + 1) H', fun H' z => ⟨_, by omega, rfl, hlt, z⟩, fun x H3 y => ?_⟩
    obtain ⟨G3, m3, k3, rx⟩ := gx x H3 y
    have S3 : Sta K G3 (wipe σ vs) H3 (wipeG Γ vs) W2 := (S1.mv (m2.trans m3) k3).wipe vs
    unfold scGo at q
    split at q
    · rename_i Γ4 hst
      refine Tgt.go g _ x _ _ Γ4 _ S3 rx hst fun σ4 S4 sb wp => ⟨?_, ?_⟩
      · rw [wp vs hv]
        have wipe2 : ∀ (l1 l2 : List Nat) (τ : L2.St), (∀ z ∈ l1, z ∈ l2) → wipe (wipe τ l1) l2 = wipe τ l2 := by
          intro l1
          induction l1 with
          | nil => intro l2 τ _; rfl
          | cons z zs ih =>
            intro l2 τ hz
            show wipe ((wipe τ zs).set z none) l2 = _
            rw [wipe_set (hz z List.mem_cons_self), ih l2 τ fun u hu => hz u (List.mem_cons_of_mem _ hu)]
        exact wipe2 vs vs σ fun _ h => h
      refine ⟨G3, Γ4, W2, X0, ⟨S4, XOk.no⟩, hc _ _ _ _ _ _ (fun _ _ _ h => h) (fun b W5 q G5 H5 m5 k5 => ?_) q⟩
      have S5 := S4.mv m5 k5
      have mm := m3.trans m5
      show if b = true then _ else _
      by_cases hb : b = true
      · rw [if_pos hb] at q ⊢
        refine ⟨G5, Γ4, W5, X0, ⟨S5, XOk.no⟩, ht _ _ _ _ _ _ (fun _ _ _ h => h) (fun e W6 q v G6 H6 m6 k6 re => ?_) q⟩
        split at q
        · rename_i d
          obtain ⟨⟨pk, pf, ⟨ys, py⟩, B, hB, pB⟩, q⟩ := q
          obtain ⟨n1, n2, n3⟩ := nfD (mm.trans m6)
          have mu : Mv G1 H1 G6 H6 := (m2.trans mm).trans m6
          have rd : Rep K G6 H6 v d := re
          obtain ⟨a, ev⟩ : ∃ a, v = V.ref a := by
            rw [py] at rd
            obtain ⟨a, us, e, _⟩ := rd
            exact ⟨a, e⟩
          have hM6 : ∀ p ∈ M, MemOk K G6 H6 p := fun p hp => ⟨(hM p hp).1.1, Rep.mv (mm.trans m6) k2 _ _ (hM p hp).1.2⟩
          refine ⟨G6, M, a, d, ev, n3, ⟨pk, by rw [← ev]; exact rd⟩, hM6, hl, fun M' c1 c2 => ?_⟩
          have poke : Keep G6 H6 G6 (upd H6 D₀ (SetDO w D₀ M')) := Keep.poke n1
          refine ⟨W6, G6, acc ++ [d], M', ⟨mu.f1, mu.f2, fun b o h n => ?_, mu.r1, fun b h => mu.al b ?_⟩, k6.poke n1 n2, n1, n2, upd_same, ?_, ?_, ?_, ?_, q⟩
          · rw [upd_ne (ne_of_none h nD)]; exact mu.sm b o h n
          · by_cases ea : b = D₀
            · rw [ea, upd_same] at h; cases h
            · rw [upd_ne ea] at h; exact h
          · intro p hp
            have key : ∀ p, (p ∈ M ∨ p = (a, d)) → MemOk K G6 (upd H6 D₀ (SetDO w D₀ M')) p ∧ fit 32 p.2 = true := fun p hp => by
              rcases hp with hp | rfl
              · exact ⟨⟨(hM6 p hp).1, Rep.keep poke _ _ (hM6 p hp).2⟩, (hM p hp).2⟩
              · exact ⟨⟨pk, Rep.keep poke _ _ (by rw [← ev]; exact rd)⟩, pf⟩
            by_cases hm : d ∈ M.map (·.2)
            · rw [c1 hm] at hp
              exact key p (.inl hp)
            · rcases List.mem_cons.mp ((c2 hm).mem_iff.mp hp) with e | hp
              · exact key p (.inr e)
              · exact key p (.inl hp)
          · by_cases hm : d ∈ M.map (·.2)
            · rw [c1 hm]; exact nd
            · refine ((c2 hm).map (·.2)).nodup_iff.mpr ?_
              rw [List.map_cons]
              exact List.nodup_cons.mpr ⟨hm, nd⟩
          · intro z
            by_cases hm : d ∈ M.map (·.2)
            · rw [c1 hm, mem, List.mem_append, List.mem_singleton]
              constructor
              · exact .inl
              · rintro (h | rfl)
                · exact h
                · exact (mem _).mp hm
            · rw [((c2 hm).map (·.2)).mem_iff, List.map_cons, List.mem_cons, mem, List.mem_append, List.mem_singleton]
              exact Or.comm
          · have nd' : (M'.map (·.2)).Nodup ∧ ∀ z ∈ M'.map (·.2), z ∈ B := by
              by_cases hm : d ∈ M.map (·.2)
              · rw [c1 hm]
                exact ⟨nd, fun z hz => pB z (List.mem_append_left _ ((mem z).mp hz))⟩
              · refine ⟨((c2 hm).map (·.2)).nodup_iff.mpr (by rw [List.map_cons]; exact List.nodup_cons.mpr ⟨hm, nd⟩), fun z hz => ?_⟩
                rw [((c2 hm).map (·.2)).mem_iff, List.map_cons, List.mem_cons, mem] at hz
                exact pB z (List.mem_append.mpr (hz.elim (fun e => .inr (List.mem_singleton.mpr e)) .inl))
            have z := nodup_sub nd'.1 nd'.2
            rw [List.length_map] at z
            omega
        · exact q.elim
      · rw [if_neg hb] at q ⊢
        obtain ⟨n1, n2, n3⟩ := nfD mm
        exact ⟨W5, G5, acc, M, m2.trans mm, k5, n1, n2, n3, fun p hp => ⟨⟨(hM p hp).1.1, Rep.mv mm k2 _ _ (hM p hp).1.2⟩, (hM p hp).2⟩, nd, mem, hl, q⟩
    · exact q.elim
  · have e : i = items.length := by omega
    subst e
    rw [List.drop_length] at q
    unfold scGo at q
    refine .inl ⟨stop (Nat.le_refl _), ?_⟩
    show rSortN K w [V.ref D₀] H2 Q
    have perm : ∀ N : MemD, N.Perm M → (N.map (·.2)).Nodup ∧ ∀ d, d ∈ N.map (·.2) ↔ d ∈ acc := fun N pN => ⟨(pN.map (·.2)).nodup_iff.mpr nd, fun d => (pN.map (·.2)).mem_iff.trans (mem d)⟩
    refine ⟨G2, D₀, M, rfl, eD, fun p hp => (hM p hp).1, nd, by omega, fun p hp => (hM p hp).2, fun N pN => (q _ (perm N pN).1 (perm N pN).2).1, fun N p pN hp => ?_⟩
    obtain ⟨_, q⟩ := q _ (perm N pN).1 (perm N pN).2
    have pms : (msort N).Perm M := (List.mergeSort_perm N _).trans pN
    have nF : ¬ G2.F p := fun z => k2.fok p z hp
    have nR : p ∉ G2.ρ := fun z => by
      obtain ⟨us, q⟩ := k2.at z
      rw [hp] at q; cases q
    refine q p _ G2 _ ((m1.trans m2).trans (Mv.fresh0 hp)) (k2.fresh0 hp) ((m1.trans m2).al p hp) nF nR upd_same ?_ ?_
    · rw [← msort_snd]
      exact memRep fun z hz => Rep.mv (Mv.fresh0 hp) k2 _ _ (hM z (pms.mem_iff.mp hz)).1.2
    · rw [List.length_map, pms.length_eq, sizeLine_eq]; omega
section
variable {X : Cx} {EX : WX} {pos : Pos}
theorem dSetSort_mono {wi : TDI} {g : Tgt} {c : TDT} {t : TD} {vs : List Nat} (hw : MonoE wi) (hc : MonoE c) (ht : MonoE t) : MonoE (dSetSort wi g c t vs) := fun E E' Γ W Q Q' hE hQ h =>
  hw _ _ _ _ _ _ hE (fun items W1 h => scGo_mono hc ht (fun a W h L h1 h2 => ⟨(h L h1 h2).1, hQ _ _ (h L h1 h2).2⟩) _ _ _ h) h
/-- sorted({elt for tg in iter if ..}) -/
theorem df_sortSet {k : Nat} {elt tg iter : Expr} {ifs : List Expr} {scope : Scope} {own : List (Str × Nat)} {wi : TDI} {g : Tgt} {c : TDT} {t : TD} {p sp : Pos} (hr : Room k X.A) (hk : 1 ≤ k) (hc : X.calm = true) (hN : X.N.Nodup) (hgl : Gl X "sorted") (hm : X.mg "sorted" = none) (hi : DI X EX MvP tg iter wi) (ok : BlkOk X.N X.env.scope scope own)
    (hg : ∀ (s : Shared) (H : Hp) (C : Addr) (cl : List (Str × Addr)) (fp : List Addr), PG (X.blk s H scope (compEnvC scope cl C X.env) fp) tg (g.g X.K))
    (ht : ∀ (s : Shared) (H : Hp) (C : Addr) (cl : List (Str × Addr)) (fp : List Addr), DTs (X.blk s H scope (compEnvC scope cl C X.env) fp) EX0 ifs c)
    (he : ∀ (s : Shared) (H : Hp) (C : Addr) (cl : List (Str × Addr)) (fp : List Addr), DE (X.blk s H scope (compEnvC scope cl C X.env) fp) EX0 elt t) (hv : ∀ i ∈ g.vars, i ∈ own.map (·.2))
    (hs : ∀ x, foldedSetIterable iter X.env x = pure x := by intro _; rfl) (hse : starEach [Expr.SetComp elt [⟨tg, iter, ifs, 0⟩] scope sp] X.env = (false, eval (.SetComp elt [⟨tg, iter, ifs, 0⟩] scope sp) X.env) :: starEach [] X.env := by rfl) :
    DF X EX (.Call (.Name "sorted" p) [.SetComp elt [⟨tg, iter, ifs, 0⟩] scope sp] [] pos) (dSetSort wi g c t (own.map (·.2))) :=
  have h1 := (ht {} (fun _ => none) 0 [] []).mono
  have h2 := (he {} (fun _ => none) 0 [] []).mono
  ⟨dSetSort_mono hi.mono h1 h2, PE.imp (pe_callB (cr_sortN hc (room65 hr hk)) hgl hm PyProof.Rows.Boot.sorted (pa_cons (pe_setC (tellD_ok (room65 hr hk)) (fun s H C cl fp => tellD_ok (X := X.blk s H scope (compEnvC scope cl C X.env) fp) (room65 hr hk)) hc hN hi.pi ok hg (fun s H C cl fp => (ht s H C cl fp).pt) (fun s H C cl fp => (he s H C cl fp).pe) hs) pa_nil hse) (by decide) (by decide) hse rfl)
    (sc_imp hi.mono h1 h2 hv)⟩
end
end DL

set_option Elab.async false
set_option linter.all false
set_option maxRecDepth 100000
/-! DatV: defs whose bodies know that no repr is under way. -/
namespace DL
open PySem PySem.Spec PyProof.Rows L2
structure RoomG (k : Nat) (A : Around) : Prop extends Room k A where
  gu : A.guards = some []
theorem RoomG.deeper {k : Nat} {A : Around} (r : RoomG (k + 1) A) (env : Env) : RoomG k (A.deeper env) := ⟨r.toRoom.deeper env, r.gu⟩
theorem RoomG.mono {j k : Nat} {A : Around} (r : RoomG k A) (h : j ≤ k) : RoomG j A := ⟨r.toRoom.mono h, r.gu⟩
/-- a def's promise where no repr is under way -/
structure FnG (P : Program) (w : World) (K : PySem.W.Frag) (mg : Str → Option Value) (base : Heap) (CX : CXT) (k : Nat) (f : Addr) (fd : FuncData) (ps : List Str) (sp : Sp) : Prop where
  len : ∀ vs H Q E, sp vs H Q E → vs.length = ps.length
  run : ∀ (A : Around) (outer : List Env) (s : Shared) (H : Hp) (args : Args) (us : List Value) (vs : List V) (Q : VK) (E : XK), RoomG k A → Env0 P w K mg base A outer s H → BindsTo s fd args (ps.zip us) → Vals vs us → sp vs H Q E →
    codeAny (model P w) A (.call (.ref f) args) (CR CX outer P w H s Q E) s
theorem FnG.of {P : Program} {w : World} {K : PySem.W.Frag} {mg : Str → Option Value} {base : Heap} {CX : CXT} {k : Nat} {f : Addr} {fd : FuncData} {ps : List Str} {sp : Sp} (F : FnOk P w K mg base CX k f fd ps sp) : FnG P w K mg base CX k f fd ps sp :=
  ⟨F.len, fun A outer s H args us vs Q E hr => F.run A outer s H args us vs Q E hr.toRoom⟩
section
variable {P : Program} {w : World} {K : PySem.W.Frag} {mg : Str → Option Value} {base : Heap}
/-- a def by its body -/
theorem fnG_of {CX : CXT} {x qual : Str} {st : Stmt} {f : Addr} {fd : FuncData} {N ps : List Str} {k : Nat} {sp : Sp} (F : Fun K x qual st f fd) (S : FnScope N ps (defScope st)) (len : ∀ vs H Q E, sp vs H Q E → vs.length = ps.length)
    (hbody : ∀ (cdv : Value) (A : Around) (outer : List Env) (s : Shared) (H : Hp) (vs : List V) (Q : VK) (E : XK), RoomG k (A.deeper (envOfC qual (defScope st) s.heap.objs.size f cdv)) → sp vs H Q E →
      ∃ t, PSs (cxOf CX P w K mg base N qual (defScope st) f cdv A outer s H E) (defBody st) t ∧ t { nx := fun _ H' => Q .non H', rt := Q } (L2.start N vs) H) : FnG P w K mg base CX (k + 1) f fd ps sp := by
  obtain ⟨oc, od, kV, doc, pm, an, cdv, ct, osl, rfl, lk, hcd⟩ := F.ex
  refine ⟨len, fun A outer s H args us vs Q E hr e0 hb r hsp => ?_⟩
  have hl := len _ _ _ _ hsp
  have old : ∀ b o, base.get? b = some o → s.heap.get? b = some o := fun b o e => (e0.bs b o e).1
  have KX : K.In s.heap := e0.mod.kin.keeps old
  refine codeAny_call_function hr.toRoom.depth (KX _ _ lk) rfl S.co S.gen rfl (PySem.W.codeRec_of KX hcd) (hb _ _ _ _ ?_)
  refine wpAny_newFunctionEnv_cells S.kind (fun ⟨n, v⟩ hy => ?_) fun env he s1 x => ?_
  · rcases S.par n (List.of_mem_zip hy).1 with q | q
    · exact .inl q
    · exact .inr ⟨q, PySem.W.cellsFrom_some _ _ _ (.inl q)⟩
  subst he
  refine ⟨(e0.mod.nolimit.keeps old).keeps x.toInCall.keep, codeAny_func ?_⟩
  obtain ⟨t, ht, hq⟩ := hbody cdv A outer s H vs Q E (hr.deeper _) hsp
  refine wpAny_mono (ht.run [] s1 (L2.start N vs) H _ (inv_start S hr.hd e0 hl r x) hq) (fun fl s' hs => ?_) fun e s' hs => hs
  cases fl with
  | ret u =>
    obtain ⟨v, σ', H', J, rv, q⟩ := hs
    exact ⟨v, H', J.os, J.bare, J.base, J.hok, rv, q⟩
  | next =>
    obtain ⟨σ', H', J, q⟩ := hs
    exact ⟨.non, H', J.os, J.bare, J.base, J.hok, rfl, q⟩
  | brk =>
    obtain ⟨_, _, _, q⟩ := hs
    exact q.elim
  | cont =>
    obtain ⟨_, _, _, q⟩ := hs
    exact q.elim
/-- a def that raises nothing, over data -/
theorem fn0G {x qual : Str} {st : Stmt} {f : Addr} {fd : FuncData} {N ps : List Str} {k : Nat} {p : DSp} {t : TDS} (F : Fun K x qual st f fd) (S : FnScope N ps (defScope st)) (len : ∀ ds W Q E, p ds W Q E → ds.length = ps.length)
    (body : ∀ (cdv : Value) (A : Around) (outer : List Env) (s : Shared) (H : Hp) (E : XK), RoomG k (A.deeper (envOfC qual (defScope st) s.heap.objs.size f cdv)) → DSs (cxOf CX0 P w K mg base N qual (defScope st) f cdv A outer s H E).nox EX0 (defBody st) t)
    (h : ∀ ds W Q E, p ds W Q E → t { nx := fun _ W' => Q .non W', rt := Q } (startG N ds) W) : FnG P w K mg base CX0 (k + 1) f fd ps (toSp K p) := by
  refine fnG_of F S (fun vs H Q E q => ?_) fun cdv A outer s H vs Q E hr q => ?_
  · obtain ⟨G, W, ds, ok, r, q⟩ := q
    rw [r.length]
    exact len _ _ _ _ q
  · obtain ⟨G, W, ds, ok, r, q⟩ := q
    have b := body cdv A outer s H E hr
    have h2 := h ds W _ _ q
    refine ⟨_, b.pss.nox, G, H, G, _, W, start_ok ok r, b.mono _ _ _ _ ?_ h2⟩
    exact (DEnds.Le.mk (fun Γ' W' q G' σ' H' S' _ => q .non G' H' S'.m0 S'.ok rfl) (fun d W' q => q) (fun _ _ q => q.elim) (fun _ _ q => q.elim) (fun _ _ _ _ q => q.elim))
end
section
variable {X : Cx} {EX : WX} {pos : Pos} {k : Nat} {f : Addr} {fd : FuncData} {ps : List Str} {p : DSp} {x : Str} {np : Pos} {e : Expr} {es : List Expr} {t : TDA}
theorem run_fnG {CX : CXT} {E : XK} {pins : List (Addr × Obj)} {σ : L2.St} {H : Hp} {s : Shared} {Q : VK} {us : List Value} {vs : List V} {sp : Sp} (F : FnG X.prog X.w X.K X.mg X.base CX k f fd ps sp) (hr : RoomG k X.A) (hb : Binds X.K fd ps []) (hx : PassesAt CX X σ E)
    (I : Inv X pins σ H s) (r : Vals vs us) (h : sp vs H Q E) : wpAny (model X.prog X.w) X.A (call (.ref f) us) (EP X pins σ Q) X.xe s := by
  have b := hb s us I.kIn (by rw [List.append_nil, ← r.length]; exact F.len _ _ _ _ h)
  rw [List.append_nil] at b
  refine wpAny_call (codeAny_mono (F.run X.A X.stack s H ⟨us, []⟩ us vs Q E hr I.env0 b r h) fun r s' hq => ?_)
  cases r with
  | error e => exact hx pins H s e s' I hq
  | ok fl =>
    cases fl with
    | ret u => exact I.after hq
    | next => exact False.elim hq
    | brk => exact False.elim hq
    | cont => exact False.elim hq
/-- a call of such a def -/
theorem de_calG {CX : CXT} (F : FnG X.prog X.w X.K X.mg X.base CX k f fd ps (toSp X.K p)) (mp : MonoP p) (hr : RoomG k X.A) (hg : Gl X x) (hm : X.mg x = some (.ref f)) (hk : PySem.W.keepIn X.K (.ref f) = true) (hb : Binds X.K fd ps [])
    (hx : ∀ σ, PassesAt CX X σ (fun c d H => EX c d σ H)) (ha : DA X EX (e :: es) t) (hdb : (x == ("__debug__" : Str)) = false := by decide) (he : starEach (e :: es) X.env = (false, eval e X.env) :: starEach es X.env := by rfl) (hpl : (backTo pos (starEach es X.env)).any (·.1) = false := by rfl) :
    DE X EX (.Call (.Name x np) (e :: es) [] pos) (dCalX p t) := by
  refine ⟨fun E E' Γ W Q Q' hE hQ q => ha.mono _ _ _ _ _ _ hE (fun es W1 q => ?_) q, PE.imp (t := fun σ H Q => liftA X.K EX t σ H fun vs H1 => toSp X.K p vs H1 Q fun c d H => EX c d σ H) ⟨fun pins s σ H Q I h => ?_⟩ fun σ H Q q => ?_⟩
  · split at q
    · exact mp _ _ _ _ _ _ (fun d W' q => hQ _ _ q) hE q
    · exact q
  · refine wpAny_Call_Name_kw (ld_glob I hg hm ?_ hdb)
    refine PySem.W.callWith_K (h₀ := X.base) I.ok.mod.kin hk (thn (ha.pa.run pos pins s σ H _ I h) fun us s1 ⟨vs, H1, I1, r, q⟩ => ⟨I1.kIn, ?_⟩) he hpl
    exact run_fnG F hr hb (hx σ) I1 r q
  · obtain ⟨G, Γ, W, E, S, q⟩ := q
    refine liftA.go ha.mono S q fun es W1 vs G1 H1 q m1 S1 r1 => ?_
    split at q
    · rename_i ds hds
      exact ⟨G1, W1, ds, S1.ok, r1.vals hds, mp _ _ _ _ _ _ (fun d W' q v G2 H2 m2 k2 rv => q v G2 H2 (m1.trans m2) k2 rv) (fun C fs W' q d G2 H2 m2 k2 xf => S1.x C fs W' d G2 H2 q m2 k2 xf) q⟩
    · exact q.elim
/-! ### repr -/
def fRepr : List D → (D → Prop) → Prop := fun l Q => match l with
  | [.tup xs] => fit 32 (.tup xs) = true ∧ (D.py (.tup xs)).showable = true ∧ (D.py (.tup xs)).shown.length ≤ sizeLine ∧ Q (.str (D.py (.tup xs)).shown)
  | [.lst xs] => fit 32 (.lst xs) = true ∧ (D.py (.lst xs)).showable = true ∧ (D.py (.lst xs)).shown.length ≤ sizeLine ∧ Q (.str (D.py (.lst xs)).shown)
  | _ => False
mutual
theorem py_nodict : ∀ d : D, (d.py).hasDict = false
  | .tup ds => by simp only [D.py, PyData.hasDict]; exact py_nodicts ds
  | .lst ds => by simp only [D.py, PyData.hasDict]; exact py_nodicts ds
  | .non => rfl
  | .bl _ => rfl
  | .int _ => rfl
  | .str _ => rfl
  | .tok _ => rfl
  | .ins _ _ _ => rfl
  | .scr _ => rfl
  | .ty _ => rfl
  | .cls _ => rfl
theorem py_nodicts : ∀ ds : List D, PyData.hasDictAll (D.pyL ds) = false
  | [] => rfl
  | d :: ds => by simp only [D.pyL, PyData.hasDictAll, py_nodict d, py_nodicts ds, Bool.or_self]
end
def rRepr (K : PySem.W.Frag) : List V → Hp → VK → Prop := fun vs H Q => ∃ a d, vs = [V.ref a] ∧ Dp K H (.ref a) d ∧ d.showable = true ∧ d.hasDict = false ∧ d.depth ≤ 40 ∧ d.shown.length ≤ sizeLine ∧ Q (.str d.shown) H
theorem cr_repr (hu : X.A.units + 65 < cLine) (hg : X.A.guards = some []) : CallR X (.builtin "repr") (rRepr X.K) := by
  intro pins s σ H vs us Q I r h
  obtain ⟨a, d, rfl, hd, hs, hn, hdp, hz, q⟩ := h
  rw [Vals.ref1 r]
  obtain ⟨as, rd⟩ := Dp.reads I _ _ _ hd rfl
  exact repr_of_reads' rd hs (fun z => by rw [hn] at z; cases z) hg (by omega) (fun _ _ e => e) (fun h' u tk hk => ⟨.str _, H, I.kept (t' := tk) hk, ⟨u, rfl⟩, q⟩) hz
theorem cd_repr : CallD X (rRepr X.K) fRepr :=
  ⟨fun a Q Q' hQ h => by
    unfold fRepr at h ⊢
    split at h
    · exact ⟨h.1, h.2.1, h.2.2.1, hQ _ h.2.2.2⟩
    · exact ⟨h.1, h.2.1, h.2.2.1, hQ _ h.2.2.2⟩
    · exact h, fun {G H W σ Γ vs es R Q} S r h hQ => by
    unfold fRepr at h
    split at h
    · rename_i xs q1
      obtain ⟨v, e, rfl, rfl, q, r1⟩ := r.one q1
      have rr := r1.rep q fun _ z => by cases z
      obtain ⟨h1, h2, h3, h4⟩ := h
      have dp := Rep.dp 32 _ _ h1 rr
      obtain ⟨a, us, rfl, f, l⟩ := rr
      exact ⟨a, _, rfl, dp, h2, py_nodict _, by have := (fit_py 32 _ h1).2; omega, h3, hQ _ _ _ _ h4 .refl S.ok rfl⟩
    · rename_i xs q1
      obtain ⟨v, e, rfl, rfl, q, r1⟩ := r.one q1
      obtain ⟨h1, h2, h3, h4⟩ := h
      obtain ⟨a, us, rfl, f, l⟩ := S.seq r1 q
      have dp : Dp X.K H (.ref a) (D.py (.lst xs)) := by
        simp only [D.py]
        exact .lst (SqL.of f) (RepL.dp 31 xs us (by simpa [fit] using h1) l)
      exact ⟨a, _, rfl, dp, h2, py_nodict _, by have := (fit_py 32 _ h1).2; omega, h3, hQ _ _ _ _ h4 .refl S.ok rfl⟩
    · exact h.elim⟩
theorem de_repr {j : Nat} {p : Pos} {e : Expr} {t : TDA} (hr : RoomG j X.A) (hk : 1 ≤ j) (hgl : Gl X "repr") (hm : X.mg "repr" = none) (ha : DA X EX [e] t) (he : starEach [e] X.env = (false, eval e X.env) :: starEach [] X.env := by rfl) : DE X EX (.Call (.Name "repr" p) [e] [] pos) (dCall fRepr t) :=
  de_callB (cr_repr (room65 hr.toRoom hk) hr.gu) cd_repr hgl hm PyProof.Rows.Boot.repr ha (by decide) (by decide) he rfl
end
end DL

set_option Elab.async false
set_option linter.all false
set_option maxRecDepth 100000
/-! DatW: tokens (made, changed), pairs stored, list(text), join. -/
namespace DL
open PySem PySem.Spec PyProof.Rows L2
section
variable {K : PySem.W.Frag} {G0 G G' : Gh} {H0 H H' : Hp} {W W' : Ws} {σ : L2.St} {Γ : Gs}
/-- a list in no other hands becomes a token's -/
def Gh.tok (G : Gh) (p : Addr) : Gh := ⟨G.F, G.ρ ++ [p]⟩
theorem Keep.tokd {p : Addr} : Keep G H (G.tok p) H := ⟨fun _ h => h, fun _ _ => rfl, [p], rfl⟩
theorem Mv.tokd {p : Addr} (m : Mv G0 H0 G H) (hp : H0 p = none) : Mv G0 H0 (G.tok p) H := by
  obtain ⟨more, e, n⟩ := m.r1
  refine ⟨m.f1, m.f2, m.sm, ⟨more ++ [p], by show G.ρ ++ [p] = _; rw [e, List.append_assoc], fun a ha => ?_⟩, m.al⟩
  rcases List.mem_append.mp ha with z | z
  · exact n a z
  · rw [List.mem_singleton.mp z]; exact hp
theorem Ok.tokd {p : Addr} {us : List V} {xs : List D} (k : Ok K G H W) (nf : ¬ G.F p) (nr : p ∉ G.ρ) (e : H p = some (.lst us)) (r : RepL K G H us xs) (hz : us.length ≤ sizeLine) : Ok K (G.tok p) H (W ++ [xs]) := by
  refine ⟨k.fok, by show (G.ρ ++ [p]).length = _; rw [List.length_append, List.length_append, k.len]; rfl, ?_, fun a ha h => ?_, fun n a ys h1 h2 => ?_⟩
  · show (G.ρ ++ [p]).Nodup
    rw [List.nodup_append]
    exact ⟨k.nod, by simp, fun a ha b hb => by rw [List.mem_singleton.mp hb]; rintro rfl; exact nr ha⟩
  · rcases List.mem_append.mp (show a ∈ G.ρ ++ [p] from ha) with z | z
    · exact k.nf a z h
    · rw [List.mem_singleton.mp z] at h; exact nf h
  · have h1' : (G.ρ ++ [p])[n]? = some a := h1
    by_cases hn : n < G.ρ.length
    · rw [List.getElem?_append_left hn] at h1'
      rw [List.getElem?_append_left (by rw [← k.len]; exact hn)] at h2
      obtain ⟨vs, q, r2, z⟩ := k.tk n a ys h1' h2
      exact ⟨vs, q, RepL.keep Keep.tokd _ _ r2, z⟩
    · have hle : n = G.ρ.length := by
        have := (List.getElem?_eq_some_iff.mp h1').1
        rw [List.length_append] at this
        simp at this
        omega
      subst hle
      rw [List.getElem?_append_right (Nat.le_refl _), Nat.sub_self] at h1'
      rw [k.len, List.getElem?_append_right (Nat.le_refl _), Nat.sub_self] at h2
      cases h1'
      cases h2
      exact ⟨us, e, RepL.keep Keep.tokd _ _ r, hz⟩
theorem vals?_rep {vs : List V} {es : List EV} {ds : List D} (r : EVRepL K G σ H Γ vs es) (h : vals? es = some ds) : RepL K G H vs ds := r.vals h
end
section
variable {X : Cx} {EX : WX} {pos : Pos}
/-- a new list handed on as a token -/
def dTok (t : TDF) : TD := fun E Γ W Q => t E Γ W fun xs W' => Q (.val (.tok W'.length)) (W' ++ [xs])
theorem de_tok {e : Expr} {t : TDF} (h : DF X EX e t) : DE X EX e (dTok t) :=
  ⟨fun E E' Γ W Q Q' hE hQ q => h.mono _ _ _ _ _ _ hE (fun xs W' q => hQ _ _ q) q, PE.imp h.pe fun σ H Q q => by
    obtain ⟨G, Γ, W, E, S, q⟩ := q
    refine liftF.go h.mono S q fun xs W' p vs G' H' q m S' hp nf nr e r hz => ?_
    refine q (.ref p) (G'.tok p) H' (m.tokd hp) (S'.ok.tokd nf nr e r hz) ⟨p, rfl, ?_⟩
    show (G'.ρ ++ [p])[W'.length]? = some p
    rw [← S'.ok.len, List.getElem?_append_right (Nat.le_refl _), Nat.sub_self]
    rfl⟩
/-! ### methods of a token's list -/
structure MtTok (r : V → List V → Hp → VK → Prop) (f : List D → List D → (D → List D → Prop) → Prop) : Prop where
  mono : ∀ xs ds Q Q', (∀ d ys, Q d ys → Q' d ys) → f xs ds Q → f xs ds Q'
  go : ∀ {K G H a xs vs us ds R Q}, H a = some (.lst vs) → RepL K G H vs xs → vs.length ≤ sizeLine → RepL K G H us ds → f xs ds R →
    (∀ d v ys ws, R d ys → Rep K G H v d → RepL K G H ws ys → ws.length ≤ sizeLine → Q v (upd H a (.lst ws))) → r (.ref a) us H Q
def dMt (f : List D → List D → (D → List D → Prop) → Prop) (to : TD) (ta : TDA) : TD := fun E Γ W Q => to E Γ W fun e W1 => match e with
  | .val (.tok n) => ta E Γ W1 fun es W2 => match W2[n]?, vals? es with
    | some xs, some ds => f xs ds fun d ys => Q (.val d) (W2.set n ys)
    | _, _ => False
  | _ => False
theorem dMt_mono {f : List D → List D → (D → List D → Prop) → Prop} (hf : ∀ xs ds Q Q', (∀ d ys, Q d ys → Q' d ys) → f xs ds Q → f xs ds Q') {to : TD} {ta : TDA} (ho : MonoE to) (ha : MonoE ta) : MonoE (dMt f to ta) := fun E E' Γ W Q Q' hE hQ q =>
  ho _ _ _ _ _ _ hE (fun e W1 q => by
    split at q
    · refine ha _ _ _ _ _ _ hE (fun es W2 q => ?_) q
      split at q
      · exact hf _ _ _ _ (fun d ys q => hQ _ _ q) q
      · exact q
    · exact q) q
theorem de_mt {e : Expr} {o : Expr} {es : List Expr} {r : V → List V → Hp → VK → Prop} {f : List D → List D → (D → List D → Prop) → Prop} {to : TD} {ta : TDA} (M : MtTok r f) (ho : DE X EX o to) (ha : DA X EX es ta) (hp : PE X e (tBM X.K "list" r (liftE X.K EX to) (liftA X.K EX ta))) : DE X EX e (dMt f to ta) :=
  ⟨dMt_mono M.mono ho.mono ha.mono, PE.imp hp fun σ H Q q => by
    obtain ⟨G, Γ, W, E, S, q⟩ := q
    refine liftE.go ho.mono S q fun e W1 v G1 H1 q m1 S1 r1 => ?_
    split at q
    · rename_i n
      obtain ⟨a, rfl, hn⟩ := r1
      refine ⟨?_, ?_⟩
      · have hl : n < W1.length := by rw [← S1.ok.len]; exact (List.getElem?_eq_some_iff.mp hn).1
        obtain ⟨vs, q, _, _⟩ := S1.ok.tk n a _ hn (List.getElem?_eq_getElem hl)
        exact Or.inl ⟨rfl, _, Or.inl (Or.inl q)⟩
      refine liftA.go ha.mono S1 q fun es W2 us G2 H2 q m2 S2 r2 => ?_
      have hn2 := m2.tok hn
      split at q
      · rename_i xs ds hx hd
        obtain ⟨vs, q1, r3, z⟩ := S2.ok.tk n a xs hn2 hx
        have m := m1.trans m2
        exact M.go q1 r3 z (r2.vals hd) q fun d v ys ws q rv rw' hz => q v G2 _ (m.trans (Mv.put S2.ok hn2)) (S2.ok.put hn2 rw' hz) (Rep.keep (Keep.poke (S2.ok.nf a (List.mem_of_getElem? hn2))) _ _ rv)
      · exact q.elim
    · exact q.elim⟩
def fMtPop : List D → List D → (D → List D → Prop) → Prop := fun xs ds Q => match ds with
  | [.int i] => 0 ≤ i ∧ ∃ d, xs[i.toNat]? = some d ∧ Q d (xs.eraseIdx i.toNat)
  | _ => False
theorem mk_pop : MtTok rPopAt fMtPop :=
  ⟨fun xs ds Q Q' hQ h => by
    unfold fMtPop at h ⊢
    split at h
    · obtain ⟨h0, d, e, q⟩ := h; exact ⟨h0, d, e, hQ _ _ q⟩
    · exact h, fun {K G H a xs vs us ds R Q} hH r z ru h hQ => by
    unfold fMtPop at h
    split at h
    · rename_i i
      obtain ⟨h0, d, e, q⟩ := h
      obtain ⟨u, t, eu, r1, r2⟩ := ru
      have e1 : u = .int i := r1
      have e2 : t = [] := r2
      subst e1 e2 eu
      obtain ⟨v, ev, rv⟩ := r.get e
      have hl : i.toNat < vs.length := (List.getElem?_eq_some_iff.mp ev).1
      have hz : sizeLine = 16777216 := sizeLine_eq
      refine ⟨a, vs, i, i.toNat, v, rfl, rfl, hH, by omega, by omega, ?_, ev, hQ d v _ _ q rv (RepL.erase i.toNat r) (by have := List.length_eraseIdx_le vs i.toNat; omega)⟩
      unfold seqIndex?
      have hneg : ¬ i < 0 := by omega
      simp only [hneg, if_false]
      rw [if_pos (by rw [Bool.and_eq_true, decide_eq_true_eq, decide_eq_true_eq]; omega)]
    · exact h.elim⟩
def fMtIns : List D → List D → (D → List D → Prop) → Prop := fun xs ds Q => match ds with
  | [.int i, d] => 0 ≤ i ∧ i < 2 ^ 63 ∧ xs.length < sizeLine ∧ Q .non (xs.take i.toNat ++ [d] ++ xs.drop i.toNat)
  | _ => False
abbrev rInsert : V → List V → Hp → VK → Prop := fun x vs H Q => ∃ (l : Addr) (xs : List V) (i : Int) (y : V), x = .ref l ∧ vs = [.int i, y] ∧ H l = some (.lst xs) ∧ xs.length < sizeLine ∧ 0 ≤ i ∧ i < 2 ^ 63 ∧
    Q .non (upd H l (.lst (xs.take i.toNat ++ [y] ++ xs.drop i.toNat)))
theorem mk_ins : MtTok rInsert fMtIns :=
  ⟨fun xs ds Q Q' hQ h => by
    unfold fMtIns at h ⊢
    split at h
    · exact ⟨h.1, h.2.1, h.2.2.1, hQ _ _ h.2.2.2⟩
    · exact h, fun {K G H a xs vs us ds R Q} hH r z ru h hQ => by
    unfold fMtIns at h
    split at h
    · rename_i i d
      obtain ⟨h0, h1, h2, q⟩ := h
      obtain ⟨u, t, eu, r1, u2, t2, et, r2, r3⟩ := ru
      have e1 : u = .int i := r1
      have e2 : t2 = [] := r3
      subst e1 e2 et eu
      refine ⟨a, vs, i, u2, rfl, rfl, hH, by rw [r.length]; exact h2, h0, h1, hQ .non .non _ _ q rfl (((r.take _).app (RepL.one r2)).app (r.drop _)) ?_⟩
      have := r.length
      rw [List.length_append, List.length_append, List.length_take, List.length_drop]
      simp only [List.length_cons, List.length_nil]
      omega
    · exact h.elim⟩
def fMtApp : List D → List D → (D → List D → Prop) → Prop := fun xs ds Q => match ds with
  | [d] => xs.length < sizeLine ∧ Q .non (xs ++ [d])
  | _ => False
theorem mk_app : MtTok rAppend fMtApp :=
  ⟨fun xs ds Q Q' hQ h => by
    unfold fMtApp at h ⊢
    split at h
    · exact ⟨h.1, hQ _ _ h.2⟩
    · exact h, fun {K G H a xs vs us ds R Q} hH r z ru h hQ => by
    unfold fMtApp at h
    split at h
    · rename_i d
      obtain ⟨u, t, eu, r1, r2⟩ := ru
      have e2 : t = [] := r2
      subst e2 eu
      have := r.length
      exact ⟨a, vs, u, rfl, rfl, hH, by rw [r.length]; exact h.1, hQ .non .non _ _ h.2 rfl (r.app (RepL.one r1)) (by rw [List.length_append]; show vs.length + 1 ≤ _; omega)⟩
    · exact h.elim⟩
variable {o e : Expr} {es : List Expr} {to : TD} {ta : TDA} {apos cpos : Pos}
theorem de_tpop (ho : DE X EX o to) (ha : DA X EX (e :: es) ta) (hbase : attributeBase o "pop" X.env (eval o X.env) = eval o X.env := by rfl)
    (hfew : ((backTo cpos (starEach (e :: es) X.env)).all (fun x => !x.1) && (backToKw cpos (keywordEach [] X.env)).all (fun x => x.1.isSome)
      && decide ((e :: es).length + ([] : List Keyword).length + (if ([] : List Keyword).isEmpty then 0 else 1) < 30)) = true := by rfl)
    (hline : (apos.endLine == cpos.line) = true := by rfl) (hs : starEach (e :: es) X.env = (false, eval e X.env) :: starEach es X.env := by rfl) (hplain : (backTo cpos (starEach es X.env)).any (·.1) = false := by rfl) :
    DE X EX (.Call (.Attribute o "pop" apos) (e :: es) [] cpos) (dMt fMtPop to ta) :=
  de_mt mk_pop ho ha (pe_bm PySem.F.plainAttrs_list PySem.F.slot_list_pop PySem.F.type_list_pop mt_popAt ho.pe ha.pa hbase hfew hline hs hplain)
theorem de_tins (ho : DE X EX o to) (ha : DA X EX (e :: es) ta) (hbase : attributeBase o "insert" X.env (eval o X.env) = eval o X.env := by rfl)
    (hfew : ((backTo cpos (starEach (e :: es) X.env)).all (fun x => !x.1) && (backToKw cpos (keywordEach [] X.env)).all (fun x => x.1.isSome)
      && decide ((e :: es).length + ([] : List Keyword).length + (if ([] : List Keyword).isEmpty then 0 else 1) < 30)) = true := by rfl)
    (hline : (apos.endLine == cpos.line) = true := by rfl) (hs : starEach (e :: es) X.env = (false, eval e X.env) :: starEach es X.env := by rfl) (hplain : (backTo cpos (starEach es X.env)).any (·.1) = false := by rfl) :
    DE X EX (.Call (.Attribute o "insert" apos) (e :: es) [] cpos) (dMt fMtIns to ta) :=
  de_mt mk_ins ho ha (pe_bm PySem.F.plainAttrs_list PySem.F.slot_list_insert PySem.F.type_list_insert mt_insert ho.pe ha.pa hbase hfew hline hs hplain)
theorem de_tapp (ho : DE X EX o to) (ha : DA X EX (e :: es) ta) (hbase : attributeBase o "append" X.env (eval o X.env) = eval o X.env := by rfl)
    (hfew : ((backTo cpos (starEach (e :: es) X.env)).all (fun x => !x.1) && (backToKw cpos (keywordEach [] X.env)).all (fun x => x.1.isSome)
      && decide ((e :: es).length + ([] : List Keyword).length + (if ([] : List Keyword).isEmpty then 0 else 1) < 30)) = true := by rfl)
    (hline : (apos.endLine == cpos.line) = true := by rfl) (hs : starEach (e :: es) X.env = (false, eval e X.env) :: starEach es X.env := by rfl) (hplain : (backTo cpos (starEach es X.env)).any (·.1) = false := by rfl) :
    DE X EX (.Call (.Attribute o "append" apos) (e :: es) [] cpos) (dMt fMtApp to ta) :=
  de_mt mk_app ho ha (pe_bm PySem.F.plainAttrs_list PySem.F.slot_list_append PySem.F.type_list_append mt_append ho.pe ha.pa hbase hfew hline hs hplain)
/-! o[k] = e, o a token -/
def dPutT (t to u : TD) : TDS := fun E Γ W => t (E.x Γ) Γ W fun e W1 => to (E.x Γ) Γ W1 fun o W2 => u (E.x Γ) Γ W2 fun k W3 => match e, o, k with
  | .val d, .val (.tok n), .val (.int k) => ∃ xs j, W3[n]? = some xs ∧ ixN xs.length k = some j ∧ E.nx Γ (W3.set n (xs.set j d))
  | _, _, _ => False
theorem Sto.tokset {K : PySem.W.Frag} {G0 G : Gh} {H0 H : Hp} {W : Ws} {σ : L2.St} {Γ : Gs} {n : Nat} {a : Addr} {us : List V} {ys : List D} (S : Sto K G0 H0 G σ H Γ W) (h : G.ρ[n]? = some a) (r : RepL K G H us ys) (hz : us.length ≤ sizeLine) :
    Sto K G0 H0 G σ (upd H a (.lst us)) Γ (W.set n ys) ∧ Keep G H G (upd H a (.lst us)) :=
  ⟨S.mv (Mv.put S.ok h) (S.ok.put h r hz), (Mv.put S.ok h).keep S.ok⟩
theorem ds_putT {oe k : Expr} {spos : Pos} {t to u : TD} (h : DE X EX e t) (ho : DE X EX oe to) (hk : DE X EX k u) (hs : swapsWithSole [.Subscript oe k spos] e pos.line X.env = pure false := by rfl) (hw : swappedStores [.Subscript oe k spos] e X.env = pure none := by rfl)
    (h1 : (assignEach [.Subscript oe k spos] X.env).map (·.2) = [assign (.Subscript oe k spos) X.env] := by rfl)
    (ha : ∀ v, assign (.Subscript oe k spos) X.env v = (do
      let ov ← holding [v] (eval oe X.env)
      let iv ← holding [v, ov] (eval k X.env)
      standAt spos
      holding [v, ov, iv] (setItem ov iv v)
      release [v, ov, iv] []) := by intro _; rfl) : DS X EX (.Assign [.Subscript oe k spos] e pos) (dPutT t to u) :=
  ⟨fun E E' Γ W l q => h.mono _ _ _ _ _ _ (l.x Γ) (fun e W1 q => ho.mono _ _ _ _ _ _ (l.x Γ) (fun o W2 q => hk.mono _ _ _ _ _ _ (l.x Γ) (fun k W3 q => by
      split at q
      · obtain ⟨xs, j, hx, hj, q⟩ := q
        exact ⟨xs, j, hx, hj, l.nx _ _ q⟩
      · exact q) q) q) q, PS.imp (ps_asg h.pe (pg_sub ho.pe hk.pe set_list ha) hs hw h1) fun D σ H q => by
    obtain ⟨G0, H0, G, Γ, W, S, q⟩ := q
    refine liftE.go h.mono (S.stx (EX := EX) (D := D)) q fun e1 W1 v G1 H1 q m1 S1 r1 => ?_
    refine liftE.go ho.mono S1 q fun o1 W2 w G2 H2 q m2 S2 r2 => ?_
    refine liftE.go hk.mono S2 q fun k1 W3 z G3 H3 q m3 S3 r3 => ?_
    split at q
    · rename_i d n kk _ _
      obtain ⟨xs, j, hx, hj, q⟩ := q
      obtain ⟨a, rfl, hn⟩ := r2
      have e3 : z = .int kk := r3
      subst e3
      have hn3 := m3.tok hn
      obtain ⟨vs, q1, rl, hz⟩ := S3.ok.tk n a xs hn3 hx
      have S3' := ((S.mv m1 S1.ok).mv m2 S2.ok).mv m3 S3.ok
      obtain ⟨S4, k4⟩ := S3'.tokset (ys := xs.set j d) (us := vs.set j v) hn3 (RepL.set (Rep.mv m3 S2.ok _ _ (Rep.mv m2 S1.ok _ _ r1)) j rl) (by rw [List.length_set]; exact hz)
      exact ⟨a, vs, kk, j, rfl, rfl, q1, by rw [rl.length]; exact hj, q G3 σ _ S4 ((((m1.trans m2).trans m3).keep S.ok).trans k4)⟩
    · exact q.elim⟩
end
/-! ### a, b = x, y -/
/-- a new list is stored as the slot's own -/
theorem Sto.own' {K : PySem.W.Frag} {G0 G : Gh} {H0 H : Hp} {W : Ws} {σ : L2.St} {Γ : Gs} {i : Nat} {p : Addr} {vs : List V} {xs : List D} (S : Sto K G0 H0 G σ H Γ W) (np : ∀ (j : Nat) (ys : List D), Γ[j]? = some (.ow ys) → σ[j]? ≠ some (some (.ref p)))
    (h0 : H0 p = none) (nf : ¬ G.F p) (nr : p ∉ G.ρ) (e : H p = some (.lst vs)) (r : RepL K G H vs xs) (z : vs.length ≤ sizeLine) : Sto K G0 H0 G (σ.set i (some (.ref p))) H (Γ.set i (.ow xs)) W := by
  have at_ : ∀ {j : Nat} {ys : List D}, (Γ.set i (.ow xs))[j]? = some (.ow ys) → (i = j ∧ (σ.set i (some (V.ref p)))[j]? = some (some (V.ref p)) ∧ ys = xs) ∨ (i ≠ j ∧ Γ[j]? = some (.ow ys) ∧ (σ.set i (some (V.ref p)))[j]? = σ[j]?) := fun {j ys} hj => by
    by_cases e2 : i = j
    · subst e2
      have hl : i < Γ.length := by
        have := (List.getElem?_eq_some_iff.mp hj).1
        rw [List.length_set] at this
        exact this
      rw [List.getElem?_set_self hl] at hj
      cases hj
      exact .inl ⟨rfl, List.getElem?_set_self (by rw [← S.len]; exact hl), rfl⟩
    · rw [List.getElem?_set_ne e2] at hj
      exact .inr ⟨e2, hj, List.getElem?_set_ne e2⟩
  refine ⟨⟨S.ok, by rw [List.length_set, List.length_set]; exact S.len, fun j s hj => ?_, fun j l a ys zs h1 h2 h3 h4 => ?_⟩, S.m0, fun j a ys h1 h2 => ?_⟩
  · by_cases e2 : i = j
    · subst e2
      by_cases hl : i < Γ.length
      · rw [List.getElem?_set_self hl] at hj
        cases hj
        exact ⟨p, vs, List.getElem?_set_self (by rw [← S.len]; exact hl), nf, nr, e, r, z⟩
      · rw [List.getElem?_eq_none (by rw [List.length_set]; omega)] at hj
        cases hj
    · rw [List.getElem?_set_ne e2] at hj ⊢
      exact S.sl j s hj
  · rcases at_ h1 with ⟨e1, q1, _⟩ | ⟨e1, q1, w1⟩
    · rcases at_ h2 with ⟨e2, q2, _⟩ | ⟨e2, q2, w2⟩
      · rw [← e1, ← e2]
      · rw [w2] at h4
        rw [q1] at h3
        cases h3
        exact absurd h4 (np l _ q2)
    · rcases at_ h2 with ⟨e2, q2, _⟩ | ⟨e2, q2, w2⟩
      · rw [w1] at h3
        rw [q2] at h4
        cases h4
        exact absurd h3 (np j _ q1)
      · rw [w1] at h3
        rw [w2] at h4
        exact S.dj j l a ys zs q1 q2 h3 h4
  · rcases at_ h1 with ⟨e1, q1, _⟩ | ⟨e1, q1, w1⟩
    · rw [q1] at h2
      cases h2
      exact h0
    · rw [w1] at h2
      exact S.own j a ys q1 h2
section
variable {X : Cx} {EX : WX} {pos : Pos}
def dPar (i j : Nat) (t u : TD) : TDS := fun E Γ W => t (E.x Γ) Γ W fun e W1 => u (E.x Γ) Γ W1 fun e2 W2 => match e, e2 with
  | .val d, .val d2 => E.nx ((Γ.set i (.fz d)).set j (.fz d2)) W2
  | _, _ => False
def dParO (i j : Nat) (t : TD) (u : TDF) : TDS := fun E Γ W => t (E.x Γ) Γ W fun e W1 => u (E.x Γ) Γ W1 fun xs W2 => match e with
  | .val d => E.nx ((Γ.set i (.fz d)).set j (.ow xs)) W2
  | _ => False
theorem ds_par {i j : Nat} {x y : Str} {a b : Expr} {t u : TD} {px py pt : Pos} {kt k2 pt2} (hc : X.calm = true) (hN : X.N.Nodup) (ha : DE X EX a t) (hb : DE X EX b u) (hi : X.N[i]? = some x := by rfl) (hj : X.N[j]? = some y := by rfl) (hij : i ≠ j := by decide)
    (hx : X.env.scope.names.lookup x = some .local := by rfl) (hy : X.env.scope.names.lookup y = some .local := by rfl)
    (hw : swappedStores [.Tuple [.Name x px, .Name y py] kt pt] (.Tuple [a, b] k2 pt2) X.env = pure (some [x, y]) := by rfl) (hs : swapsWithSole [.Tuple [.Name x px, .Name y py] kt pt] (.Tuple [a, b] k2 pt2) pos.line X.env = pure false := by rfl)
    (h1 : starEach [a, b] X.env = (false, eval a X.env) :: starEach [b] X.env := by rfl) (h2 : starEach [b] X.env = (false, eval b X.env) :: starEach [] X.env := by rfl) :
    DS X EX (.Assign [.Tuple [.Name x px, .Name y py] kt pt] (.Tuple [a, b] k2 pt2) pos) (dPar i j t u) :=
  ⟨fun E E' Γ W l q => ha.mono _ _ _ _ _ _ (l.x Γ) (fun e W1 q => hb.mono _ _ _ _ _ _ (l.x Γ) (fun e2 W2 q => by
    split at q
    · exact l.nx _ _ q
    · exact q) q) q, PS.imp (ps_par hc hN hi hj hij hx hy (pa_cons ha.pe (pa_cons hb.pe pa_nil h2) h1) hw hs) fun D σ H q => by
    obtain ⟨G0, H0, G, Γ, W, S, q⟩ := q
    refine liftE.go ha.mono (S.stx (EX := EX) (D := D)) q fun e W1 v G1 H1 q m1 S1 r1 => ?_
    refine liftE.go hb.mono S1 q fun e2 W2 w G2 H2 q m2 S2 r2 => ?_
    split at q
    · rename_i d d2
      have S2' := (S.mv m1 S1.ok).mv m2 S2.ok
      obtain ⟨T1, sb1⟩ := S2.toSta.set (i := i) (Rep.mv m2 S1.ok _ _ r1)
      obtain ⟨T2, sb2⟩ := T1.set (i := j) r2
      exact ⟨v, w, rfl, q G2 _ H2 ((S2'.sub T1 sb1).sub T2 sb2) ((m1.trans m2).keep S.ok)⟩
    · exact q.elim⟩
theorem ds_parO {i j : Nat} {x y : Str} {a b : Expr} {t : TD} {u : TDF} {px py pt : Pos} {kt k2 pt2} (hc : X.calm = true) (hN : X.N.Nodup) (ha : DE X EX a t) (hb : DF X EX b u) (hi : X.N[i]? = some x := by rfl) (hj : X.N[j]? = some y := by rfl) (hij : i ≠ j := by decide)
    (hx : X.env.scope.names.lookup x = some .local := by rfl) (hy : X.env.scope.names.lookup y = some .local := by rfl)
    (hw : swappedStores [.Tuple [.Name x px, .Name y py] kt pt] (.Tuple [a, b] k2 pt2) X.env = pure (some [x, y]) := by rfl) (hs : swapsWithSole [.Tuple [.Name x px, .Name y py] kt pt] (.Tuple [a, b] k2 pt2) pos.line X.env = pure false := by rfl)
    (h1 : starEach [a, b] X.env = (false, eval a X.env) :: starEach [b] X.env := by rfl) (h2 : starEach [b] X.env = (false, eval b X.env) :: starEach [] X.env := by rfl) :
    DS X EX (.Assign [.Tuple [.Name x px, .Name y py] kt pt] (.Tuple [a, b] k2 pt2) pos) (dParO i j t u) :=
  ⟨fun E E' Γ W l q => ha.mono _ _ _ _ _ _ (l.x Γ) (fun e W1 q => hb.mono _ _ _ _ _ _ (l.x Γ) (fun e2 W2 q => by
    split at q
    · exact l.nx _ _ q
    · exact q) q) q, PS.imp (ps_par hc hN hi hj hij hx hy (pa_cons ha.pe (pa_cons hb.pe pa_nil h2) h1) hw hs) fun D σ H q => by
    obtain ⟨G0, H0, G, Γ, W, S, q⟩ := q
    refine liftE.go ha.mono (S.stx (EX := EX) (D := D)) q fun e W1 v G1 H1 q m1 S1 r1 => ?_
    refine liftF.go hb.mono S1 q fun xs W2 p vs G2 H2 q m2 S2 hp nf nr e2 r2 hz => ?_
    split at q
    · rename_i d
      have S1' := S.mv m1 S1.ok
      have S2' := S1'.mv m2 S2.ok
      obtain ⟨T1, sb1⟩ := S2.toSta.set (i := i) (Rep.mv m2 S1.ok _ _ r1)
      have U1 := S2'.sub T1 sb1
      refine ⟨v, .ref p, rfl, q G2 _ H2 (U1.own' (i := j) (fun l ys h1 h2 => ?_) (S1'.m0.al p hp) nf nr e2 r2 hz) ((m1.trans m2).keep S.ok)⟩
      obtain ⟨q1, q2⟩ := sb1 l ys h1
      have h2' : (σ.set i (some v))[l]? = some (some (.ref p)) := h2
      rw [q2] at h2'
      obtain ⟨a', us, e3, _, _, q3, _⟩ := S1'.sl l _ q1
      rw [h2'] at e3
      cases e3
      rw [hp] at q3; cases q3
    · exact q.elim⟩
/-! ### list(..), sep.join(..) -/
def chars (z : Str) : List D := z.cps.toList.map fun c => .str ⟨#[c]⟩
def fList : List D → (List D → Prop) → Prop := fun l Q => match l with
  | [.str z] => z.length ≤ sizeLine ∧ Q (chars z)
  | [.lst xs] => Q xs
  | [.tup xs] => Q xs
  | _ => False
def rList (K : PySem.W.Frag) : List V → Hp → VK → Prop := fun vs H Q => (∃ z, vs = [V.str z] ∧ z.length ≤ sizeLine ∧ ∀ p, H p = none → Q (.ref p) (upd H p (.lst (z.cps.toList.map fun c => V.str ⟨#[c]⟩)))) ∨
  ∃ p ys, vs = [V.ref p] ∧ (SqL K H p ys ∨ SqT K H p ys) ∧ ∀ l, H l = none → Q (.ref l) (upd H l (.lst ys))
theorem chars_vals (w : Array Nat) : ∀ (acc : Array Value), ItemsOf (SignAt ⟨w⟩) acc w.size → Vals (w.toList.map fun c => V.str ⟨#[c]⟩) acc.toList := fun acc h => by
  obtain ⟨h1, h2⟩ := h
  have key : ∀ (l : List Nat) (us : List Value), l.length = us.length → (∀ (i : Nat) (c : Nat) (u : Value), l[i]? = some c → us[i]? = some u → ∃ t, u = .str ⟨#[c]⟩ t) → Vals (l.map fun c => V.str ⟨#[c]⟩) us := by
    intro l
    induction l with
    | nil => intro us hl _; cases us with | nil => exact .nil | cons _ _ => simp at hl
    | cons c l ih =>
      intro us hl h
      cases us with
      | nil => simp at hl
      | cons u us => exact .cons (h 0 c u rfl rfl) (ih us (by simpa using hl) fun i c u a b => h (i + 1) c u (by simpa using a) (by simpa using b))
  refine key _ _ (by simp [h1]) fun i c u e1 e2 => ?_
  obtain ⟨c', t, e3, e4⟩ := h2 i u (by rw [← Array.getElem?_toList]; exact e2)
  have e5 : w[i]? = some c' := e3
  rw [← Array.getElem?_toList, e1] at e5
  cases e5
  exact ⟨t, e4⟩
theorem cr_list (hc : X.calm = true) : CallR X (.type "list") (rList X.K) := by
  intro pins s σ H vs us Q I r h
  rcases h with ⟨z, rfl, hz, q⟩ | h
  · obtain ⟨u, rfl, ru⟩ := vals1 r
    obtain ⟨t, rfl⟩ := ru
    refine call_list_str (I.ok.hd hc) z t (fun h' tk acc c hk hS hI => ?_) hz
    have hn := I.hok.fresh (Nat.le_refl s.heap.objs.size)
    have new : ObjOk X.prog X.w (upd H s.heap.objs.size (.lst (z.cps.toList.map fun c => V.str ⟨#[c]⟩))) h' s.heap.objs.size (.lst (z.cps.toList.map fun c => V.str ⟨#[c]⟩)) :=
      ⟨by rw [List.length_map]; exact hz, acc.toList, c, chars_vals _ acc hI, by simpa [seqObj] using hS⟩
    exact ⟨.ref _, _, I.laid (t' := tk) hk (Nat.le_refl _) new, rfl, q _ hn⟩
  · exact call_list_of pins s σ H vs us Q I r h
end
end DL

set_option Elab.async false
set_option linter.all false
set_option maxRecDepth 100000
/-! DatX: enumerate over a list or a tuple; list(..); join. -/
namespace DL
open PySem PySem.Spec PyProof.Rows L2
open PySem.AutoSeq1 (wpAny_loadPart')
set_option maxHeartbeats 1000000 in
/-- enumerate(v), v of any kind that begins an iterator -/
theorem meets_enum1 {a : Addr} {o : Obj} {Hq : Heap → Prop} (B : Begins (.ref a) o Hq) :
    Meets (Builtin.«enumerate.__new__» ⟨[.type "enumerate", .ref a], []⟩) (fun _ R s => Hq s.heap ∧
      R (.ok (.ret (.ref (s.heap.push o).objs.size))) { s with heap := (s.heap.push o).push { cls := .type "enumerate", data := .fields #[.none, .bool false, .ref s.heap.objs.size, rawInt 0, .none, .none] } }) :=
  .of_wp fun prog w A R s h => by
    obtain ⟨hp, g, d, tk, os⟩ := s; obtain ⟨h1, h⟩ := h
    have hsub := sub_enumerate
    have q1 : ∀ {A' : Around} {E : Value → Shared → Prop} {Q : Value → Shared → Prop}, Q (.ref hp.objs.size) ⟨hp.push o, g, d, tk, os⟩ → wpAny (model prog w) A' (pyIter (.ref a)) Q E ⟨hp, g, d, tk, os⟩ :=
      fun q => B.iter prog w _ _ ⟨hp, g, d, tk, os⟩ _ h1 q
    wp_walk using q1
    refine wpAny_stack_any fun st => wpAny_pure ?_
    split
    · rename_i c _ _ _ _ _
      cases (c == Value.type "enumerate")
      · wp_walk using q1
        exact ⟨_, rfl, h⟩
      · wp_walk using q1
        exact ⟨_, rfl, h⟩
    · wp_walk using q1
      exact ⟨_, rfl, h⟩
section
variable {prog : Program} {w : World} {A : Around} {E : Value → Shared → Prop} {s : Shared}
theorem call_enum1 {a : Addr} {o : Obj} {Hq : Heap → Prop} {Q : Value → Shared → Prop} (B : Begins (.ref a) o Hq) (h1 : Hq s.heap)
    (h : ∀ h', IsEnum h' (s.heap.objs.size + 1) s.heap.objs.size 0 .none → h'.get? s.heap.objs.size = some o → h'.objs.size = s.heap.objs.size + 2 →
      (∀ b o, s.heap.get? b = some o → h'.get? b = some o) → Q (.ref (s.heap.objs.size + 1)) { s with heap := h' }) :
    wpAny (model prog w) A (call (.type "enumerate") [.ref a]) Q E s := by
  refine callType_new F.called_enumerate (by decide) (F.typeCall_enumerate_1 _) (F.newCall_enumerate_1 _) (fun obj => F.args_object_init_2 obj _) F.entry_enumerate_new (meets_enum1 B) ⟨h1, ?_⟩
  have hz : (s.heap.push o).objs.size = s.heap.objs.size + 1 := Heap.size_push ..
  show _ ∧ _
  rw [hz]
  have he : IsEnum ((s.heap.push o).push { cls := .type "enumerate", data := .fields #[.none, .bool false, .ref s.heap.objs.size, rawInt 0, .none, .none] }) (s.heap.objs.size + 1) s.heap.objs.size 0 .none := by
    have := Heap.get?_push_size (s.heap.push o) (o := { cls := .type "enumerate", data := .fields #[.none, .bool false, .ref s.heap.objs.size, rawInt 0, .none, .none] }) rfl
    rw [hz] at this; exact this
  exact ⟨⟨_, he, rfl⟩, h _ he (Heap.get?_push_of_some _ (Heap.get?_push_size _ B.free)) (by rw [Heap.size_push, hz]) fun b o x => Heap.get?_push_of_some _ (Heap.get?_push_of_some _ x)⟩
end
/-- enumerate over the tuple at a: each item in a new pair -/
def ItE (K : PySem.W.Frag) (a : Addr) : It :=
  ⟨fun i H => ∃ (xs : List V) (x : V), SqT K H a xs ∧ xs[i]? = some x, fun i H v H' => ∃ T x, v = .ref T ∧ H T = none ∧ H' = upd H T (.tup [.int (i : Nat), x]) ∧ ∀ xs, SqT K H a xs → xs[i]? = some x, fun i H => ∃ xs : List V, SqT K H a xs ∧ xs.length ≤ i⟩
theorem turn_enumT {P : Program} {w : World} {K : PySem.W.Frag} {elts : List Expr} {kk : Nat} {tpos : Pos} (a e it : Addr) :
    Turn P w K (.Tuple elts kk tpos) (ItE K a) [e, it] e (fun i h => (∃ old, IsEnum h e it ((i : Nat) : Int) old) ∧ h.IsTupleIter it a i ∧ e ≠ it) where
  mem := by simp
  obj := fun i h st b hb => by
    obtain ⟨⟨old, he⟩, ⟨o, ho, hc, hd⟩, _⟩ := st
    have e' : b = e ∨ b = it := by simpa using hb
    rcases e' with z | z
    · rw [z]; exact ⟨_, he, fun v q => nomatch q⟩
    · rw [z]; exact ⟨o, ho, fun v q => by rw [hd] at q; cases q⟩
  keep := fun i h h' st k => let ⟨⟨old, he⟩, hi, hne⟩ := st; ⟨⟨old, k e (by simp) _ he⟩, hi.at fun o q => k it (by simp) o q, hne⟩
  item := by
    intro X hP hw hK hc i pins s σ H E I hf st hg
    subst hP hw hK
    obtain ⟨⟨old, he⟩, hit, hne⟩ := st
    obtain ⟨xs, x, hq, hx⟩ := hg
    obtain ⟨its, rv, p, hz⟩ := I.tuple hq
    obtain ⟨u, hu, ru⟩ := rv.get hx
    have hel : e < s.heap.objs.size := Heap.lt_size he
    have hil : it < s.heap.objs.size := by obtain ⟨_, q, _⟩ := hit; exact Heap.lt_size q
    have hl : i < its.toArray.size := by
      have := (List.getElem?_eq_some_iff.mp hu).1
      simpa using this
    have na : a ≠ it := fun z => by
      obtain ⟨o, ho, hc1, _⟩ := hit
      obtain ⟨o', ho', hc2, _⟩ := p
      rw [z, ho] at ho'
      cases ho'
      rw [hc1] at hc2
      exact absurd (Value.type.inj hc2) (by decide)
    have ne' : e ≠ a := fun z => by
      obtain ⟨o', ho', hc2, _⟩ := p
      rw [← z, he] at ho'
      cases ho'
      exact absurd (Value.type.inj hc2) (by decide)
    refine wpAny_pyNext_enum_itemC (Draws.tuple (A := X.A.in1) (I.ok.hd hc) it a na its.toArray) he ⟨hit, p⟩ hl hne (by simp [hne, ne']) fun u' h' tk hu' ho st' hT hsz hk => ?_
    have eu : u' = u := by
      have e1 : its.toArray[i]? = some u' := hu'
      rw [← Array.getElem?_toList] at e1
      have e2 : its[i]? = some u' := e1
      rw [hu] at e2
      exact (Option.some.inj e2).symm
    subst eu
    refine ⟨_, rfl, wpAny_letOwnedTupleGo_enum (s := { s with heap := h', toks := tk + 1 }) ho fun h'' he' sb => ?_⟩
    have hT2 : h''.get? s.heap.objs.size = some { cls := .type "tuple", data := .seq #[.int i tk, u'] } := (sb.2 _ (Nat.ne_of_gt hel)).trans hT
    have new : ObjOk X.prog X.w (upd H s.heap.objs.size (.tup [.int (i : Nat), x])) h'' s.heap.objs.size (.tup [.int (i : Nat), x]) :=
      ⟨by show 2 ≤ sizeLine; decide, [.int i tk, u'], .cons ⟨_, rfl⟩ (.cons ru .nil), ⟨_, hT2, rfl, _, rfl⟩⟩
    have I1 : Inv X pins σ (upd H s.heap.objs.size (.tup [.int (i : Nat), x])) { s with heap := h'', toks := tk + 1 } :=
      I.turnedNew (ch := [e, it]) (fun b ob hb q => (sb.2 b (fun z => hb (by simp [z]))).trans (hk b ob (fun z => hb (by simp [z])) (fun z => hb (by simp [z])) q)) hf (Nat.le_refl _) new
    refine ⟨.ref s.heap.objs.size, _, I1, rfl, ⟨_, x, rfl, I.hok.fresh (Nat.le_refl _), rfl, fun ys hy => by rw [I.tuple_inj hy hq]; exact hx⟩, ⟨⟨u', ?_⟩, st'.1.at fun o q => (sb.2 it (Ne.symm hne)).trans q, hne⟩, fun b hb => ?_⟩
    · have e1 : ((i + 1 : Nat) : Int) = (i : Int) + 1 := by omega
      rw [e1]; exact he'
    · have hb' : b < s.heap.objs.size := by
        have e' : b = e ∨ b = it := by simpa using hb
        rcases e' with z | z
        · rw [z]; exact hel
        · rw [z]; exact hil
      rw [upd_ne (Nat.ne_of_lt hb')]
      exact (hf b hb).1
  done := by
    intro X hP hw hK hc i pins s σ H E I hf st hg
    subst hP hw hK
    obtain ⟨⟨old, he⟩, hit, hne⟩ := st
    obtain ⟨xs, hq, hx⟩ := hg
    obtain ⟨its, rv, p, hz⟩ := I.tuple hq
    obtain ⟨f0, f1, f2, f3, f4, f5⟩ := hf it (by simp)
    have hl := rv.length
    have hT : s.TypeIs (.ref e) "enumerate" := ⟨_, he, rfl⟩
    unfold pyNext
    refine wpAny_bind (wpAny_attempt (wpAny_callSpecial?_slot (name := Str.ofString "__next__") hT F.slot_enumerate_next
      (wpAny_call_entry F.slot_enumerate_next hT F.entry_enumerate_next ?_ (F.args_enumerate_next_1 _))))
    show wpAny _ _ (field (.ref e) 2 >>= _) _ _ _
    refine wpAny_bind (wpAny_field he rfl (x := .ref it) rfl ?_)
    refine wpAny_bind (wpAny_nextOf_tuple_end (I.ok.hd hc) hit p (by simp; omega) fun h' x he' hx' => ?_)
    obtain ⟨o, ho, hc'⟩ := hx'
    refine wpAny_bind (wpAny_isInstance (T := "StopIteration") (b := true) ⟨o, ho, hc'⟩ isSubtype_stop ?_)
    exact wpAny_pure ⟨rfl, I.turned (t' := s.toks) (fun b o hb q => he' b o hb q) f0 f1 f3 f4 f5⟩
  self := fun A i s Q E st h => let ⟨⟨_, he⟩, _⟩ := st; wpAny_pyIter_enum he h
/-! ### as a rule over data -/
def enumD : Nat → List D → List D
  | _, [] => []
  | i, x :: xs => .tup [.int i, x] :: enumD (i + 1) xs
theorem enumD_get : ∀ (xs : List D) (k i : Nat), (enumD k xs)[i]? = (xs[i]?).map fun x => .tup [.int ((k + i : Nat) : Int), x]
  | [], k, i => by simp [enumD]
  | x :: xs, k, 0 => by simp [enumD]
  | x :: xs, k, i + 1 => by
    unfold enumD
    rw [List.getElem?_cons_succ, List.getElem?_cons_succ, enumD_get xs (k + 1) i, show k + 1 + i = k + (i + 1) by omega]
theorem enumD_len : ∀ (xs : List D) (k : Nat), (enumD k xs).length = xs.length
  | [], _ => rfl
  | x :: xs, k => by unfold enumD; rw [List.length_cons, List.length_cons, enumD_len xs]
section
variable {K : PySem.W.Frag} {P : Gh → Hp → Gh → Hp → Prop} {G : Gh} {H : Hp}
theorem rep_pair {G : Gh} {H : Hp} {W : Ws} {T : Addr} {v : V} {d : D} {i : Int} (k : Ok K G H W) (hT : H T = none) (r : Rep K G H v d) : Mv G H (G.add T) (upd H T (.tup [.int i, v])) ∧ Ok K (G.add T) (upd H T (.tup [.int i, v])) W ∧ Rep K (G.add T) (upd H T (.tup [.int i, v])) (.ref T) (.tup [.int i, d]) :=
  ⟨Mv.fresh hT, k.fresh hT, Rep.newT (ds := [.int i, d]) k hT (RepL.cons rfl (RepL.one r)) (by show 2 ≤ sizeLine; rw [sizeLine_eq]; omega)⟩
theorem itd_enumL {a : Addr} {xs : List D} (h : ∀ G' H' W', P G H G' H' → Ok K G' H' W' → ∃ vs, SqL K H' a vs ∧ RepL K G' H' vs xs) : ItD K P G H (Ite K a) (enumD 0 xs) := by
  intro G' H' W' p k i
  obtain ⟨vs, q, r⟩ := h G' H' W' p k
  refine ⟨fun hi => ⟨vs, q, by rw [r.length]; rw [enumD_len] at hi; exact hi⟩, fun d hd => ?_⟩
  rw [enumD_get] at hd
  obtain ⟨x, hx, rfl⟩ := Option.map_eq_some_iff.mp hd
  obtain ⟨v, e, rv⟩ := r.get hx
  refine ⟨⟨vs, v, q, e⟩, fun y H'' z => ?_⟩
  obtain ⟨T, x', rfl, hT, rfl, hz⟩ := z
  have e2 := hz vs q
  rw [e] at e2
  cases e2
  rw [Nat.zero_add]
  obtain ⟨a1, a2, a3⟩ := rep_pair (i := (i : Nat)) k hT rv
  exact ⟨_, a1, a2, a3⟩
theorem itd_enumT {a : Addr} {xs : List D} (h : ∀ G' H' W', P G H G' H' → Ok K G' H' W' → ∃ vs, SqT K H' a vs ∧ RepL K G' H' vs xs) : ItD K P G H (ItE K a) (enumD 0 xs) := by
  intro G' H' W' p k i
  obtain ⟨vs, q, r⟩ := h G' H' W' p k
  refine ⟨fun hi => ⟨vs, q, by rw [r.length]; rw [enumD_len] at hi; exact hi⟩, fun d hd => ?_⟩
  rw [enumD_get] at hd
  obtain ⟨x, hx, rfl⟩ := Option.map_eq_some_iff.mp hd
  obtain ⟨v, e, rv⟩ := r.get hx
  refine ⟨⟨vs, v, q, e⟩, fun y H'' z => ?_⟩
  obtain ⟨T, x', rfl, hT, rfl, hz⟩ := z
  have e2 := hz vs q
  rw [e] at e2
  cases e2
  rw [Nat.zero_add]
  obtain ⟨a1, a2, a3⟩ := rep_pair (i := (i : Nat)) k hT rv
  exact ⟨_, a1, a2, a3⟩
end
section
variable {X : Cx} {EX : WX} {pos : Pos}
def iEnum2 (K : PySem.W.Frag) (ta : TA) : TI := fun σ H R => ta σ H fun vs H1 => ∃ a, vs = [.ref a] ∧ ((∃ xs, SqL K H1 a xs ∧ R (Ite K a) H1) ∨ ∃ xs, SqT K H1 a xs ∧ R (ItE K a) H1)
theorem pi_enum2 {e : Expr} {ta : TA} {p tpos : Pos} {elts : List Expr} {kk : Nat} (hg : Gl X "enumerate") (hm : X.mg "enumerate" = none) (ha : PA X [e] ta) (hs : starEach [e] X.env = [(false, eval e X.env)] := by rfl) :
    PI X (.Tuple elts kk tpos) (.Call (.Name "enumerate" p) [e] [] pos) (iEnum2 X.K ta) := by
  refine ⟨fun pins s σ H R I h => ?_⟩
  refine Call_ (ld_blt I hg hm boot_enumerate (PyProof.Rows.callWith_type1 (thn (ha.run pos pins s σ H _ I h) fun us s1 ⟨vs, H1, I1, r1, q1⟩ => ?_) hs rfl))
  obtain ⟨a, rfl, q⟩ := q1
  rw [Vals.ref1 r1]
  have fp : ∀ b ∈ [s1.heap.objs.size + 1, s1.heap.objs.size], FpOk X pins H1 b := fun b hb => by
    have e' : b = s1.heap.objs.size + 1 ∨ b = s1.heap.objs.size := by simpa using hb
    have hle : s1.heap.objs.size ≤ b := by rcases e' with z | z <;> omega
    exact I1.fpOk hle (I1.hok.fresh hle)
  rcases q with ⟨xs, hq, q⟩ | ⟨xs, hq, q⟩
  · obtain ⟨its, rv, p', hz⟩ := I1.list hq
    refine call_enum1 (begins_list a its.toArray) p'.isList fun h' he hit hsz hk => wpAny_pyIter_enum he ?_
    exact ⟨s1.heap.objs.size + 1, [s1.heap.objs.size + 1, s1.heap.objs.size], _, _, H1, rfl, I1.kept (t' := s1.toks) hk, turn_enum a (s1.heap.objs.size + 1) s1.heap.objs.size, ⟨⟨.none, he⟩, ⟨_, hit, rfl, rfl⟩, Nat.succ_ne_self _⟩, fp, q⟩
  · obtain ⟨its, rv, p', hz⟩ := I1.tuple hq
    refine call_enum1 (begins_tuple a its.toArray) p' fun h' he hit hsz hk => wpAny_pyIter_enum he ?_
    exact ⟨s1.heap.objs.size + 1, [s1.heap.objs.size + 1, s1.heap.objs.size], _, _, H1, rfl, I1.kept (t' := s1.toks) hk, turn_enumT a (s1.heap.objs.size + 1) s1.heap.objs.size, ⟨⟨.none, he⟩, ⟨_, hit, rfl, rfl⟩, Nat.succ_ne_self _⟩, fp, q⟩
def dEnum (t : TDA) : TDI := fun E Γ W Q => t E Γ W fun es W1 => match es with
  | [.val (.lst xs)] => Q (enumD 0 xs) W1
  | [.val (.tup xs)] => Q (enumD 0 xs) W1
  | _ => False
theorem di_enum {e : Expr} {t : TDA} {p tpos : Pos} {elts : List Expr} {kk : Nat} (hg : Gl X "enumerate") (hm : X.mg "enumerate" = none) (ha : DA X EX [e] t) (hs : starEach [e] X.env = [(false, eval e X.env)] := by rfl) :
    DI X EX Keep (.Tuple elts kk tpos) (.Call (.Name "enumerate" p) [e] [] pos) (dEnum t) :=
  ⟨fun E E' Γ W Q Q' hE hQ q => ha.mono _ _ _ _ _ _ hE (fun es W1 q => by
    split at q
    · exact hQ _ _ q
    · exact hQ _ _ q
    · exact q) q, PI.imp (pi_enum2 hg hm ha.pa hs) fun σ H R q => by
    obtain ⟨G, Γ, W, E, S, q⟩ := q
    refine liftA.go ha.mono S q fun es W1 vs G1 H1 q m1 S1 r1 => ?_
    split at q
    · rename_i xs
      obtain ⟨v, t, rfl, r2, r3⟩ := r1
      have e3 : t = [] := r3
      subst e3
      obtain ⟨a, us, rfl, f, l⟩ := (show Rep X.K G1 H1 v (.lst xs) from r2)
      refine ⟨a, rfl, .inl ⟨us, SqL.of f.2.1, q _ G1 H1 m1 S1.ok (itd_enumL fun G' H' W' m k' => ⟨us, SqL.of ((m.kf a f.1).trans f.2.1), RepL.keep m _ _ l⟩) ?_⟩⟩
      rw [enumD_len, ← l.length]; exact f.2.2
    · rename_i xs
      obtain ⟨v, t, rfl, r2, r3⟩ := r1
      have e3 : t = [] := r3
      subst e3
      obtain ⟨a, us, rfl, f, l⟩ := (show Rep X.K G1 H1 v (.tup xs) from r2)
      refine ⟨a, rfl, .inr ⟨us, f.sq, q _ G1 H1 m1 S1.ok (itd_enumT fun G' H' W' m k' => ⟨us, (f.keep m).sq, RepL.keep m _ _ l⟩) ?_⟩⟩
      rw [enumD_len, ← l.length]; exact f.len
    · exact q.elim⟩
/-! ### list(x) -/
theorem chars_rep {K : PySem.W.Frag} {G : Gh} {H : Hp} : ∀ l : List Nat, RepL K G H (l.map fun c => V.str ⟨#[c]⟩) (l.map fun c => D.str ⟨#[c]⟩)
  | [] => RepL.nil
  | c :: l => RepL.cons rfl (chars_rep l)
theorem cf_list : CallF X (rList X.K) fList :=
  ⟨fun a Q Q' hQ h => by
    unfold fList at h ⊢
    split at h
    · exact ⟨h.1, hQ _ h.2⟩
    · exact hQ _ h
    · exact hQ _ h
    · exact h, fun {G H W σ Γ vs es R Q} S r h hQ => by
    unfold fList at h
    split at h
    · rename_i z q1
      obtain ⟨v, e, rfl, rfl, q, r1⟩ := r.one q1
      refine .inl ⟨z, by rw [r1.str q], h.1, fun p hp => hQ _ p _ h.2 hp (chars_rep _) (by rw [List.length_map]; exact h.1)⟩
    · rename_i xs q1
      obtain ⟨v, e, rfl, rfl, q, r1⟩ := r.one q1
      have z := S.len_of r1 q
      obtain ⟨a, us, rfl, f, l⟩ := S.seq r1 q
      exact .inr ⟨a, us, rfl, .inl (SqL.of f), fun p hp => hQ _ p _ h hp l (by rw [l.length]; exact z)⟩
    · rename_i xs q1
      obtain ⟨v, e, rfl, rfl, q, r1⟩ := r.one q1
      obtain ⟨a, us, rfl, f, l⟩ := r1.tup q
      exact .inr ⟨a, us, rfl, .inr f.sq, fun p hp => hQ _ p _ h hp l f.len⟩
    · exact h.elim⟩
theorem df_list {p : Pos} {e : Expr} {t : TDA} (hc : X.calm = true) (hg : Gl X "list") (hm : X.mg "list" = none) (ha : DA X EX [e] t) (he : starEach [e] X.env = (false, eval e X.env) :: starEach [] X.env := by rfl) : DF X EX (.Call (.Name "list" p) [e] [] pos) (dCallF fList t) :=
  df_callTy (cr_list hc) cf_list hg hm PyProof.Rows.Boot.list ha (by decide) (by decide) he rfl
/-! ### sep.join(x) -/
def strs? : List D → Option (List Str)
  | [] => some []
  | .str z :: r => (strs? r).map (z :: ·)
  | _ => none
theorem strs_rep {K : PySem.W.Frag} {G : Gh} {H : Hp} : ∀ {ds : List D} {vs : List V} {ys : List Str}, RepL K G H vs ds → strs? ds = some ys → vs = ys.map V.str
  | [], vs, ys, r, h => by
    have e : ys = [] := by simpa [strs?] using h.symm
    rw [e]; exact r
  | d :: ds, vs, ys, r, h => by
    obtain ⟨v, t, rfl, h1, h2⟩ := r
    cases d with
    | str z =>
      simp only [strs?] at h
      obtain ⟨ys', e1, rfl⟩ := Option.map_eq_some_iff.mp h
      rw [strs_rep h2 e1, show v = .str z from h1]
      rfl
    | _ => simp [strs?] at h
def fJoin : D → D → (D → Prop) → Prop := fun a b Q => match a, b with
  | .str a, .lst xs => ∃ ys, strs? xs = some ys ∧ (ys.map (·.length)).sum + ys.length * a.length ≤ 16777216 ∧ Q (.str (Txt.join a ys))
  | .str a, .tup xs => ∃ ys, strs? xs = some ys ∧ (ys.map (·.length)).sum + ys.length * a.length ≤ 16777216 ∧ Q (.str (Txt.join a ys))
  | _, _ => False
theorem fJoin_mono (a b : D) (Q Q' : D → Prop) (hQ : ∀ d, Q d → Q' d) (h : fJoin a b Q) : fJoin a b Q' := by
  unfold fJoin at h ⊢
  split at h
  · obtain ⟨ys, e, z, q⟩ := h; exact ⟨ys, e, z, hQ _ q⟩
  · obtain ⟨ys, e, z, q⟩ := h; exact ⟨ys, e, z, hQ _ q⟩
  · exact h
theorem de_join {o e : Expr} {to t : TD} {apos : Pos} (ho : DE X EX o to) (he : DE X EX e t) (hstr : ∀ E Γ W Q, to E Γ W Q → to E Γ W fun e W1 => (∃ a, e = .val (.str a)) ∧ Q e W1) (hs : starEach [e] X.env = [(false, eval e X.env)] := by rfl) (hbase : attributeBase o "join" X.env (eval o X.env) = eval o X.env := by rfl)
    (hline : (apos.endLine == pos.line) = true := by rfl) : DE X EX (.Call (.Attribute o "join" apos) [e] [] pos) (dOp fJoin to t) :=
  ⟨dOp_mono fJoin_mono ho.mono he.mono, PE.imp (pe_join ho.pe he.pe hs hbase hline) fun σ H Q q => by
    obtain ⟨G, Γ, W, E, S, q⟩ := q
    refine liftE.go ho.mono S (hstr _ _ _ _ q) fun e1 W1 v G1 H1 q m1 S1 r1 => ?_
    obtain ⟨⟨a, rfl⟩, q⟩ := q
    have ev : v = .str a := r1
    subst ev
    refine ⟨⟨a, rfl⟩, ?_⟩
    refine liftE.go he.mono S1 q fun e2 W2 u G2 H2 q m2 S2 r2 => ?_
    unfold fJoin at q
    split at q
    · rename_i a' xs e1 e3
      obtain ⟨ys, e, z, q⟩ := q
      have ea : a = a' := by simpa [EV.r] using e1
      subst ea
      obtain ⟨b, us, rfl, f, l⟩ := S2.toSta.seq r2 e3
      exact ⟨a, b, ys, rfl, rfl, .inl (by rw [← strs_rep l e]; exact SqL.of f), z, q _ G2 H2 (m1.trans m2) S2.ok rfl⟩
    · rename_i a' xs e1 e3
      obtain ⟨ys, e, z, q⟩ := q
      have ea : a = a' := by simpa [EV.r] using e1
      subst ea
      obtain ⟨b, us, rfl, f, l⟩ := r2.tup e3
      exact ⟨a, b, ys, rfl, rfl, .inr (by rw [← strs_rep l e]; exact f.sq), z, q _ G2 H2 (m1.trans m2) S2.ok rfl⟩
    · exact q.elim⟩
end
end DL

set_option Elab.async false
set_option linter.all false
set_option maxRecDepth 100000
set_option maxHeartbeats 2000000
/-! DatY: an own error two classes under Exception: class C(L): def __init__(self, F): super().__init__(T); self.F = F. -/
namespace PySem
namespace ErrY
open PySem.W PySem.Calls PyProof.Rows PySem.HandSPX PySem.ESX
def iA (F : Str) (p1 p2 : Pos) : Arguments := { posonlyargs := [], args := [{ arg := "self", annotation := none, pos := p1 }, { arg := F, annotation := none, pos := p2 }], vararg := none, kwonlyargs := [], kw_defaults := [], kwarg := none, defaults := [] }
def iB (F T : Str) (j : Nat) (a1 a2 a3 a4 a5 a6 q1 q2 q3 q4 : Pos) : List Stmt :=
  [.Expr (.Call (.Attribute (.Call (.Name "super" a1) [] [] a2) "__init__" a3) [.Constant (.str T) j a4] [] a5) a6, .Assign [.Attribute (.Name "self" q1) F q2] (.Name F q3) q4]
def iS (F : Str) : Scope := { kind := .function, names := [(PySem.Str.ofString "self", .local), (F, .local), (PySem.Str.ofString "__class__", .free), (PySem.Str.ofString "super", .globalImplicit)], isGenerator := false, isCoroutine := false, more := [] }
/-- where the two texts stand on one line -/
def LineOk (T : Str) (j : Nat) (a1 a2 a3 a4 a5 : Pos) : Prop := ∀ env : Env, ∃ pl : Sem Bool, eval (.Call (.Attribute (.Call (.Name "super" a1) [] [] a2) "__init__" a3) [.Constant (.str T) j a4] [] a5) env = (do
  let ov ← attributeBase (.Call (.Name "super" a1) [] [] a2) "__init__" env (eval (.Call (.Name "super" a1) [] [] a2) env)
  standAt a3.atName
  let (f, first) ← holding [ov] (getMethod ov "__init__" pl)
  callWith a5 f first (backTo a5 (starEach [.Constant (.str T) j a4] env)) [])
/-- what the written part says of the class N, at C, its base at L, its __init__ at fI -/
structure Txt (prog : Program) (K : Frag) (mg : Str → Option Value) (N F T : Str) (C L fI : Addr) : Prop where
  gC : mg N = some (.ref C)
  cls : ∃ nm q Ns bs sn sub ab col dd k0 k1 k2 k3 k5, K.lookup C = some (excClassObj nm q C Ns bs (.ref L :: exTail) true sn sub ab col dd k0 k1 k2 k3 k5 "Exception.__new__")
  sa : findIn K (.ref C) "__setattr__" = some (some (.builtin "object.__setattr__"))
  ga : findIn K (.ref C) "__getattribute__" = some (some (.builtin "BaseException.__getattribute__"))
  gg : findIn K (.ref C) "__getattr__" = some none
  noN : findIn K (.ref C) F = some none
  iC : findIn K (.ref C) "__init__" = some (some (.ref fI))
  tC : typeIn K (.ref fI) = some (.type "function")
  kC : keepIn K (.ref C) = true
  exC : subIn K (.ref C) (.type "BaseException") = some true
  exE : subIn K (.ref C) (.type "Exception") = some true
  tyC : typeIn K (.ref C) = some (.type "type")
  hdC : hasDictIn K C = true
  te : exmOne K (.ref C) (.ref C) = some true
  mC : mroIn K C (.ref C) = some true
  noP : nsIn K cStatics "thirdparty.any" = some none
  along : alongIn K "__init__" (.ref L :: exTail) = some (some (.builtin "Exception.__init__"))
  noS : mg "super" = none
  top : (prog.main.scope.names.lookup ("super" : Str)).isSome = false
  fn : ∃ (oc : Value) (od : Option Addr) (kV doc pm : Value) (an : Option Addr) (cda cc : Addr) (ct : Value) (osl : Array (Option Value)) (j : Nat) (p1 p2 a1 a2 a3 a4 a5 a6 q1 q2 q3 q4 : Pos) (q : Str) (cdO : Value) (cdD : Option Addr) (vs : Array Value) (cdS : Array (Option Value)) (file : Str) (tf : Tok) (clO : Value) (clD : Option Addr) (clS : Array (Option Value)),
    K.lookup fI = some ⟨oc, od, .func (fnX "__init__" q (iA F p1 p2) (iB F T j a1 a2 a3 a4 a5 a6 q1 q2 q3 q4) (iS F) [("__class__", cc)] .none kV doc pm an (.ref cda) ct), osl⟩ ∧ codeIn K (.ref cda) q = true ∧
    K.lookup cda = some ⟨cdO, cdD, .fields vs, cdS⟩ ∧ vs[2]? = some (.str file tf) ∧ ((prog.main.file : Str) == file) = true ∧ K.lookup cc = some ⟨clO, clD, .cell (some (.ref C)), clS⟩ ∧ LineOk T j a1 a2 a3 a4 a5
theorem one_size (v : Value) : [v].length ≤ sizeLine := by rw [sizeLine_eq]; exact (by decide : 1 ≤ 16777216)
/-- what __init__ leaves of a fresh exception at x -/
structure InitEnd (F : Str) (h h' : Heap) (x C dx t1 : Addr) (v : Value) : Prop where
  keep : ∀ b o, b ≠ x → h.get? b = some o → h'.get? b = some o
  obj : h'.get? x = some { cls := .ref C, dict := some dx, data := .fields #[.ref t1, .none, .none, .none, .bool false, .none] }
  dbig : h.objs.size ≤ dx
  dne : dx ≠ x
  ns : h'.Ns1 dx (fun y => if y = F then some v else none)
/-- a made one -/
structure OwnMade (F : Str) (h h' : Heap) (e C d : Addr) (v : Value) : Prop where
  keep : ∀ b o, h.get? b = some o → h'.get? b = some o
  new : h.objs.size ≤ e
  obj : ∃ oe vs, h'.get? e = some oe ∧ oe.cls = .ref C ∧ oe.dict = some d ∧ oe.data = .fields vs ∧ vs[1]? = some .none
  dbig : h.objs.size ≤ d
  dne : d ≠ e
  ns : h'.Ns1 d (fun y => if y = F then some v else none)
section
open Builtin Builtin.ObjectAttr
variable {prog : Program} {w : World} {A : Around} {E : Value → Shared → Prop} {R : Result → Shared → Prop} {hp : Heap} {g : Array GenState} {d : Drawn} {t : Nat} {os : OsState}
/-- self.F = v on such an exception without a dict -/
theorem osa_two {K : W.Frag} {name : Str} {tk : Tok} {v : Value} {x C L : Addr} {fv : Array Value} {cd : ClassData}
    (X : K.In hp) (hx : hp.get? x = some { cls := .ref C, data := .fields fv }) (hcd : W.clsIn K C = some cd) (hm : cd.mro = .ref C :: .ref L :: exTail) (hh : cd.hasDict = true) (ha : W.findIn K (.ref C) name = some none)
    (hq : ∀ h' tk' dx, (∀ b o, b ≠ x → hp.get? b = some o → h'.get? b = some o) → hp.objs.size ≤ dx → dx ≠ x → h'.get? x = some { cls := .ref C, dict := some dx, data := .fields fv } →
      h'.Ns1 dx (fun y => if y = name then some v else none) → R (.ok (.ret .none)) ⟨h', g, d, tk', os⟩) :
    codeAny (model prog w) A (.call (.builtin "object.__setattr__") ⟨[.ref x, .str name tk, v], []⟩) R ⟨hp, g, d, t, os⟩ := by
  have I : W.InstAt hp x { cls := .ref C, data := .fields fv } C none := ⟨hx, rfl, rfl, trivial⟩
  have SF := F.store_object
  have hxs : x ≠ hp.objs.size := Nat.ne_of_lt (Heap.lt_size hx)
  have hob : W.mroIn K C (.type "object") = some true := by
    unfold W.mroIn
    rw [hcd, Option.bind_some, hm, if_neg (show ¬ (List.isEmpty (Value.ref C :: .ref L :: exTail) = true) from Bool.false_ne_true), List.contains_cons, tail_has "object" (by decide +kernel), Bool.or_true]
  have sub : W.Looks (model prog w) hp (isInstance (.ref x) (.type "object")) true := I.type.andThen (W.looks_mroIn X hob)
  refine codeAny_call_builtin SF.slot.plain SF.entry (@W.check_slot (model prog w) _ _ ⟨hp, g, d, t, os⟩ "object.__setattr__" "object" "__setattr__" (.ref x) [.str name tk, v] [] _ SF.kind SF.split sub (SF.args (.ref x) (.str name tk) v) ?_)
  have hmr : W.Looks (model prog w) hp (mroOf (.ref C)) cd.mro := (W.looks_clsIn X hcd).andThen .now
  have L3 : W.Looks (model prog w) hp (storeTaker? none) none := .now
  have hcls : W.Looks (model prog w) hp (classData C) cd := W.looks_clsIn X hcd
  have hpass : refuseLoop (.ref x) "__setattr__" cd.mro = pure () := by
    rw [hm, refuseLoop_ref, refuseLoop_ref]
    exact F.store_Exception.passes _
  rw [W.osa_eq, refuse_eq]
  refine wpAny_bind (wpAny_bind (I.type.at (wpAny_bind (hmr.at ?_))))
  rw [hpass]
  refine wpAny_pure (wpAny_bind (I.type.at (wpAny_bind ((W.looks_findIn X ha).at (wpAny_bind (L3.at ?_))))))
  show wpAny _ _ (Builtin.ObjectAttr.storeInOwnDict (.ref x) (.ref C) (.str name tk) name v false) _ _ _
  obtain ⟨nm, bs, mro, ns, qn, hd, sn, sb, ab, col, del⟩ := cd
  dsimp only at hh
  subst hh
  unfold Builtin.ObjectAttr.storeInOwnDict Builtin.ObjectAttr.ownDictForStores
  repeat (first | with_reducible refine HandSPX.store_in_new ?_ ?_ | with_reducible refine wpAny_loadPart_at hx ?_ | with_reducible refine hcls.at ?_ | wp_step)
  · exact ⟨_, #[], _, (Heap.get?_update_ne _ _ _ _ hxs.symm).trans (Heap.get?_push_at rfl rfl), rfl, fun e he => absurd he (by simp), fun _ => rfl⟩
  · intro h' tk' hn' hs
    have hx₁ : (hp.push { cls := .type "dict", data := .dict #[] }).get? x = some { cls := .ref C, data := .fields fv } := Heap.get?_push_of_some _ hx
    refine hq h' tk' hp.objs.size (fun b o hb ho => ?_) (Nat.le_refl _) hxs.symm ?_ hn'
    · exact (hs.2 b (Nat.ne_of_lt (Heap.lt_size ho))).trans ((Heap.get?_update_ne _ _ _ _ hb).trans (Heap.get?_push_of_some _ ho))
    · exact (hs.2 x hxs).trans (Heap.get?_update_self _ hx₁ rfl)
end
section
variable {prog : Program} {w : World} {A : Around} {E : Value → Shared → Prop} {R : Result → Shared → Prop} {s : Shared} {K : Frag} {mg mb : Str → Option Value} {N Fd T : Str} {C L fI : Addr}
theorem clsIn_of (X : Txt prog K mg N Fd T C L fI) : ∃ cd, clsIn K C = some cd ∧ cd.mro = .ref C :: .ref L :: exTail ∧ cd.hasDict = true := by
  obtain ⟨nm, q, Ns, bs, sn, sub, ab, col, dd, k0, k1, k2, k3, k5, hC⟩ := X.cls
  exact ⟨{ name := nm, bases := bs, mro := .ref C :: .ref L :: exTail, ns := Ns, qualname := q, hasDict := true, slotNames := sn, subclasses := sub, abstract := ab, collection := col, hasDel := false }, by unfold clsIn; rw [hC] <;> rfl, rfl, rfl⟩
/-- what is asked of the field's name -/
structure FldOk (Fd : Str) : Prop where
  bind : ∀ (q : Str) (p1 p2 : Pos) (body : List Stmt) (cl : List (Str × Addr)) (kV doc pm : Value) (an : Option Addr) (cdv ct u v : Value), bindArgs (fnX "__init__" q (iA Fd p1 p2) body (iS Fd) cl .none kV doc pm an cdv ct) ⟨[u, v], []⟩ = pure ([(("self" : Str), u), (Fd, v)] : List (Str × Value))
  loc : (iS Fd).names.lookup Fd = some .local
  slf : (iS Fd).names.lookup ("self" : Str) = some .local
  sup : (iS Fd).names.lookup ("super" : Str) = some .globalImplicit
  cls : (iS Fd).names.lookup ("__class__" : Str) = some .free
  ne : (("self" : Str) == Fd) = false
  dbg : (Fd == ("__debug__" : Str)) = false
  sw : ∀ (q1 q2 q3 q4 : Pos) (env : Env), swapsWith (.Name Fd q3) (some (.Attribute (.Name "self" q1) Fd q2)) q4.line env = pure false
theorem init_run (X : Txt prog K mg N Fd T C L fI) (FO : FldOk Fd) {x t0 : Addr} {v : Value} (KX : K.In s.heap) (hg : s.heap.Ns mainGlobals mg) (hb : s.heap.Ns builtinsNs mb) (hbs : mb "super" = some (.type "super")) (hlim : s.heap.NoLimit) (hx : s.heap.get? x = some (excO C t0)) (hxC : x ≠ C) (hnx : K.lookup x = none) (hroom : A.depth < recursionLimit)
    (hq : ∀ h' tk dx t1, InitEnd Fd s.heap h' x C dx t1 v → R (.ok (.ret .none)) { s with heap := h', toks := tk }) :
    codeAny (model prog w) A (.call (.ref fI) ⟨[.ref x, v], []⟩) R s := by
  obtain ⟨oc, od, kV, doc, pm, an, cda, cc, ct, osl, j, p1, p2, a1, a2, a3, a4, a5, a6, q1, q2, q3, q4, q, cdO, cdD, vs, cdS, file, tf, clO, clD, clS, ho, hcd, hcda, hvs, hfile, hcell, hline⟩ := X.fn
  obtain ⟨cd, hcl, hmro, hdd⟩ := clsIn_of X
  obtain ⟨nm, qn, Ns, bs, sn, sub, ab, col, dd, k0, k1, k2, k3, k5, hC⟩ := X.cls
  refine ks_codeAny_call_defAt (fd := fnX "__init__" q (iA Fd p1 p2) (iB Fd T j a1 a2 a3 a4 a5 a6 q1 q2 q3 q4) (iS Fd) [("__class__", cc)] .none kV doc pm an (.ref cda) ct) (binds := [("self", .ref x), (Fd, v)]) hroom (KX _ _ ho) rfl hlim (codeRec_of KX hcd) rfl
    (BindsTo.of_eq (FO.bind q p1 p2 _ _ kV doc pm an _ ct _ _)) ?_ ?_ (fun h₁ hns k => ?_) rfl rfl rfl
  · intro y hy
    have hy' : y ∈ (iS Fd).names := hy
    simp only [iS, List.mem_cons, List.not_mem_nil, or_false] at hy'
    rcases hy' with rfl | rfl | rfl | rfl <;> nofun
  · intro y hy
    simp only [List.mem_cons, List.not_mem_nil, or_false] at hy
    rcases hy with rfl | rfl
    · exact FO.slf
    · exact FO.loc
  have KX1 : K.In h₁ := KX.keeps k
  have hx1 := k _ _ hx
  have v1 : ([("self", Value.ref x), (Fd, v)] : List (Str × Value)).reverse.lookup ("self" : Str) = some (.ref x) := by
    simp only [List.reverse_cons, List.reverse_nil, List.nil_append, List.cons_append, List.lookup]
    rw [FO.ne]
    simp
  have v2 : ([("self", Value.ref x), (Fd, v)] : List (Str × Value)).reverse.lookup Fd = some v := by simp [List.lookup]
  have env_eq : callEnv (fnX "__init__" q (iA Fd p1 p2) (iB Fd T j a1 a2 a3 a4 a5 a6 q1 q2 q3 q4) (iS Fd) [("__class__", cc)] .none kV doc pm an (.ref cda) ct) s.heap.objs.size fI = ksEnv q (iS Fd) s.heap.objs.size fI (.ref cda) cc := rfl
  rw [env_eq]
  have hC1 : h₁.get? C = some (excClassObj nm qn C Ns bs (.ref L :: exTail) true sn sub ab col dd k0 k1 k2 k3 k5 "Exception.__new__") := KX1 _ _ hC
  have hsz : s.heap.objs.size < h₁.objs.size := hns.lt
  -- super().__init__(T)
  obtain ⟨pl, hev⟩ := hline (ksEnv q (iS Fd) s.heap.objs.size fI (.ref cda) cc)
  refine ks_wpAt_execs_cons (ks_wpAt_Expr_any (ks_wpAt_MethodCall (name := "__init__") (pl := pl) ?_ hev) (by rfl) (by rfl))
  refine ks_wpAt_super_base (env := ksEnv q (iS Fd) s.heap.objs.size fI (.ref cda) cc) FO.sup FO.cls (by decide) rfl (KX1 _ _ ho) rfl (ar := { arg := "self", annotation := none, pos := p1 }) rfl rfl (KX1 _ _ hcda) rfl hvs hfile X.top ?_
  refine ks_loadName_global rfl FO.sup (Calls.loadGlobal_builtin (env := ksEnv q (iS Fd) s.heap.objs.size fI (.ref cda) cc) (hg.keeps k) X.noS (hb.keeps k) hbs ⟨rfl, ?_⟩)
  refine wpAny_loadName_free rfl FO.cls rfl ⟨_, KX1 _ _ hcell, rfl⟩ ?_
  refine wpAny_loadName_local rfl FO.slf hns v1 ?_
  have hDt : (excClassObj nm qn C Ns bs (.ref L :: exTail) true sn sub ab col dd k0 k1 k2 k3 k5 "Exception.__new__").data = .cls cd := by
    have e1 := hcl
    unfold clsIn at e1
    rw [hC] at e1
    cases e1
    rfl
  refine ks_wpAny_isType_cls hC1 hDt ⟨rfl, ?_⟩
  refine ks_wpAny_call_super hC1 hDt hx1 rfl (fun c e => by cases e) (looks_mroIn KX1 X.mC) (fun h2 e2 k2' => ?_)
  have KX2 : K.In h2 := KX1.keeps k2'
  have hx2 := k2' _ _ hx1
  have I2 : W.InstAt h2 x (excO C t0) C none := ⟨hx2, rfl, rfl, trivial⟩
  refine getMethod_super (l := .ref L :: exTail) (l₀ := cd.mro) e2 (looks_opaque KX2 X.noP) ((W.looks_clsIn KX2 hcl).andThen .now) (by rw [hmro]; exact drop_own C _) KX2 X.along hxC (by decide) (I2.type.andThen (looks_subIn KX2 X.exE)) ?_
  have hu : (h2.push (bw x)).get? h2.objs.size = some (bw x) := Heap.get?_push_size _ rfl
  have k3' : ∀ b o, h2.get? b = some o → (h2.push (bw x)).get? b = some o := fun b o e => Heap.get?_push_of_some _ e
  refine callWith_bound (x := x) ?_ rfl rfl
  show wpAny _ _ (spliced ((false, eval (.Constant (.str T) j a4) (ksEnv q (iS Fd) s.heap.objs.size fI (.ref cda) cc)) :: [])) _ _ _
  refine Calls.spliced_cons (wpAny_Constant_str (Calls.spliced_nil ?_))
  refine ⟨hu, ?_⟩
  refine call_bw (k3' _ _ (k2' _ _ hC1)) (k3' _ _ hx2) hu (one_size _) fun h4 t1 k4 hx4 => ?_
  -- self.F = F
  have k14 : ∀ b o, b ≠ x → h₁.get? b = some o → h4.get? b = some o := fun b o hb e => k4 b o hb (k3' b o (k2' b o e))
  have xL : s.heap.objs.size ≠ x := Nat.ne_of_gt (Heap.lt_size hx)
  have hns4 : h4.Ns s.heap.objs.size (fun y => ([("self", Value.ref x), (Fd, v)] : List (Str × Value)).reverse.lookup y) := by
    obtain ⟨o, es, ep, e, r⟩ := hns
    exact ⟨o, es, ep, k14 _ _ xL e, r⟩
  have KX4 : K.In h4 := fun a o e => k14 a o (fun z => by rw [z, hnx] at e; cases e) (KX1 _ _ e)
  refine ks_wpAt_execs_cons (PySem.wpAt_of_wpAny (plainObj_wpAny_Assign_Attribute ?_ (FO.sw q1 q2 q3 q4 _)))
  refine wpAny_Name (wpAny_loadName_local rfl FO.loc hns4 v2 ?_) FO.dbg
  refine wpAny_Name (wpAny_loadName_local rfl FO.slf hns4 v1 ?_) (by decide)
  refine set_plain KX4 (ox := excO C t1) (od := none) ⟨hx4, rfl, rfl, trivial⟩ X.sa ?_
  refine osa_two KX4 hx4 hcl hmro hdd X.noN (fun h5 tk5 dx k5' dn dne hx5 hn5 => ?_)
  have kk : ∀ b o, b ≠ x → s.heap.get? b = some o → h5.get? b = some o := fun b o hb e => k5' b o hb (k14 b o hb (k b o e))
  exact PySem.wpAt_of_wpAny (wpAny_execs_nil (hq h5 tk5 dx t1 ⟨kk, hx5, Nat.le_trans (Nat.le_of_lt (hns4.lt)) dn, dne, hn5⟩))
theorem err_made (X : Txt prog K mg N Fd T C L fI) (FO : FldOk Fd) {v : Value} (KX : K.In s.heap) (hg : s.heap.Ns mainGlobals mg) (hb : s.heap.Ns builtinsNs mb) (hbs : mb "super" = some (.type "super")) (hlim : s.heap.NoLimit) (hroom : A.depth + 1 < recursionLimit)
    (hq : ∀ h' tk e d, OwnMade Fd s.heap h' e C d v → R (.ok (.ret (.ref e))) { s with heap := h', toks := tk }) :
    codeAny (model prog w) A (.call (.ref C) ⟨[v], []⟩) R s := by
  obtain ⟨nm, qn, Ns, bs, sn, sub, ab, col, dd, k0, k1, k2, k3, k5, hC⟩ := X.cls
  obtain ⟨hp, g, dr, tk, os⟩ := s
  have k : ∀ b o, hp.get? b = some o → ((hp.push (kdv_tup [v])).push (excO C hp.objs.size)).get? b = some o := fun b o e => Heap.get?_push_of_some _ (Heap.get?_push_of_some _ e)
  have hget : ((hp.push (kdv_tup [v])).push (excO C hp.objs.size)).get? (hp.objs.size + 1) = some (excO C hp.objs.size) := by heap_get
  have fresh : ∀ b o, hp.get? b = some o → b < hp.objs.size + 1 := fun b o e => Nat.lt_succ_of_lt (Heap.lt_size e)
  have hnx : K.lookup (hp.objs.size + 1) = none := by
    cases e : K.lookup (hp.objs.size + 1) with
    | none => rfl
    | some o => exact absurd (fresh _ _ (KX _ _ e)) (Nat.lt_irrefl _)
  have hxC : hp.objs.size + 1 ≠ C := fun z => by
    have := fresh _ _ (KX _ _ hC)
    rw [← z] at this
    exact absurd this (Nat.lt_irrefl _)
  refine call_own F.excBase_Exception (fun X => by rw [List.contains_cons]; rfl) (KX _ _ hC) (looks_findIn KX X.iC) (fun self => bind_fn KX self X.tC) (one_size v) ?_
  refine init_run (s := ⟨(hp.push (kdv_tup [v])).push (excO C hp.objs.size), g, dr, tk, os⟩) X FO (KX.keeps k) (hg.keeps k) (hb.keeps k) hbs (hlim.keeps k) hget hxC hnx ?_ fun h' tk' dx t1 ⟨k', hx, dn, dne, hns⟩ => ?_
  · show A.depth + 1 < recursionLimit
    exact hroom
  · have old : ∀ b o, hp.get? b = some o → h'.get? b = some o := fun b o e => k' b o (Nat.ne_of_lt (fresh b o e)) (k b o e)
    have z : hp.objs.size + 1 + 1 ≤ dx := by
      first
        | (simpa only [Heap.size_push] using dn)
        | exact dn
        | (have q := dn; rw [Heap.size_push, Heap.size_push] at q; exact q)
    exact ⟨rfl, hq h' tk' (hp.objs.size + 1) dx ⟨old, Nat.le_succ _, ⟨_, _, hx, rfl, rfl, rfl, rfl⟩, Nat.le_trans (Nat.le_trans (Nat.le_succ _) (Nat.le_succ _)) z, dne, hns⟩⟩
end
end ErrY
end PySem

set_option Elab.async false
set_option linter.all false
set_option maxRecDepth 100000
/-! DatZ: raise and try over data. -/
namespace L2
open PySem PySem.Spec PyProof.Rows
theorem relO_fld {Fd : Str} {v : V} {v' : Value} (r : RelV v v') (f : Str) : RelO (List.lookup f [(Fd, v)]) (if f = Fd then some v' else none) := by
  by_cases hw : f = Fd
  · subst hw
    rw [if_pos rfl]
    have q : List.lookup f [(f, v)] = some v := by simp [List.lookup]
    rw [q]
    exact r
  · rw [if_neg hw]
    have qw : (f == Fd) = false := by simpa using hw
    have q2 : List.lookup f [(Fd, v)] = none := by simp [List.lookup, qw]
    rw [q2]
    trivial
section
variable {X : Cx} {N Fd T : Str} {C L fI : Addr}
/-- N(e) -/
def tMkErr (C : Addr) (Fd : Str) (ta : TA) : St → Hp → XK → Prop := fun σ H Q => ta σ H fun vs H1 => ∃ v, vs = [v] ∧ ∀ d, H1 d = none → Q (.ref C) (some d) (upd H1 d (.xd [(Fd, v)]))
theorem pmk_err {a : Expr} {ta : TA} {p pos : Pos} {k : Nat} (Tx : PySem.ErrY.Txt X.prog X.K X.mg N Fd T C L fI) (FO : PySem.ErrY.FldOk Fd) (hr : Room k X.A) (hk : 1 ≤ k) (ha : PA X [a] ta) (hg : Gl X N) (hdb : (N == ("__debug__" : Str)) = false)
    (he : starEach (a :: []) X.env = (false, eval a X.env) :: starEach [] X.env := by rfl) (hpl : (backTo pos (starEach [] X.env)).any (·.1) = false := by rfl) :
    PMk X (.Call (.Name N p) [a] [] pos) (tMkErr C Fd ta) := by
  intro pins s σ H Q I h
  refine wpAny_Call_Name_kw (ld_glob I hg Tx.gC ?_ hdb)
  refine PySem.W.callWith_K (h₀ := X.base) I.ok.mod.kin Tx.kC (thn (ha.run pos pins s σ H _ I h) fun us s1 hh => ?_) he hpl
  obtain ⟨vs, H1, I1, r1, v, ev, q1⟩ := hh
  subst ev
  refine ⟨I1.kIn, ?_⟩
  cases r1 with
  | cons rv rn =>
    rename_i v' us'
    cases rn
    show wpAny _ _ (call (.ref C) [v']) _ _ _
    have hlim := I1.nolimit
    obtain ⟨mb, b1, b2⟩ := I1.mod.blt
    have hgl := I1.mod.glob.keeps I1.bk
    have hbl := b1.keeps I1.bk
    have hbs : mb "super" = some (.type "super") := (b2 _ (by decide)).trans PyProof.Rows.Boot.super
    obtain ⟨hp, g, dr, tk, os⟩ := s1
    refine wpAny_call (PySem.ErrY.err_made Tx FO I1.kIn hgl hbl hbs hlim (by have := hr.dp; omega) fun h' tk' e d M => ?_)
    show MkP X pins σ Q (.ref e) ⟨h', g, dr, tk', os⟩
    obtain ⟨oe, fv, hoe, hc, hd, hdat, h1⟩ := M.obj
    have hns := M.ns
    obtain ⟨G', g1, g2⟩ := restrict h' fun b => decide (b ≠ e)
    have gk : ∀ b, b ≠ e → G'.get? b = h'.get? b := fun b hb => g1 b (decide_eq_true hb)
    have ge : G'.get? e = none := g2 e (by simp)
    have old : ∀ b o, hp.get? b = some o → G'.get? b = some o := fun b o q => (gk b (Nat.ne_of_lt (Nat.lt_of_lt_of_le (Heap.lt_size q) M.new))).trans (M.keep b o q)
    have ob : ObjOk X.prog X.w (upd H1 d (.xd [(Fd, v)])) G' d (.xd [(Fd, v)]) := ⟨_, hns.at (fun o q => (gk d M.dne).trans q), fun f => relO_fld rv f⟩
    have J : Inv X pins σ (upd H1 d (.xd [(Fd, v)])) ⟨G', g, dr, tk', os⟩ := I1.laid (t' := tk') old M.dbig ob
    refine ⟨e, oe, fv, ⟨G', g, dr, tk', os⟩, _, .ref C, some d, rfl, J, fun b o q => ?_, ge, hoe, ⟨hc, hd⟩, hdat, h1, ?_, rfl, I1.bare, raises_own Tx.exC Tx.tyC, q1 d (I1.hok.fresh M.dbig)⟩
    · by_cases hb : b = e
      · have q' : G'.get? b = some o := q
        rw [hb, ge] at q'; cases q'
      · exact (gk b hb).symm.trans q
    · rw [upd_ne (Ne.symm M.dne)]
      exact I1.hok.fresh M.new
/-- e.F, e the exception that the suite holds -/
def tByErr (C : Addr) (Fd : Str) (a : Addr) (cls : Value) (d : Option Addr) (te : TE) : TE := fun σ H Q => te σ H fun x H1 => x = .ref a ∧ cls = .ref C ∧ ∃ (dd : Addr) (v : V), d = some dd ∧ H1 dd = some (.xd [(Fd, v)]) ∧ Q v H1
theorem pe_byErr {a : Addr} {oe : Obj} {cls : Value} {d : Option Addr} {pn : List (Addr × Obj)} {e : Expr} {te : TE} {pos : Pos} (Tx : PySem.ErrY.Txt X.prog X.K X.mg N Fd T C L fI) (hz : Zc cls d oe) (hf : ∃ vs, oe.data = .fields vs) (he : PE (X.suite a ((a, oe) :: pn)) e te)
    (hb : attributeBase e Fd X.env (eval e X.env) = eval e X.env) :
    PE (X.suite a ((a, oe) :: pn)) (.Attribute e Fd pos) (tByErr C Fd a cls d te) := by
  refine ⟨fun pins s σ H Q I h => ?_⟩
  refine attr_of hb (thn (he.run pins s σ H _ I h) fun u s1 hh => ?_)
  obtain ⟨x, H1, I1, rx, ex, ec, dd, v, ed, ea, q⟩ := hh
  subst ex
  obtain rfl : u = Value.ref a := rx
  subst ec
  subst ed
  obtain ⟨ha, _⟩ := I1.pin (a, oe) (List.mem_append_left _ List.mem_cons_self)
  obtain ⟨vs, hd⟩ := hf
  have hx : ObjOk X.prog X.w H1 s1.heap dd (.xd [(Fd, v)]) := I1.hok dd _ ea
  obtain ⟨mA, hns, hr⟩ := hx
  obtain ⟨od, ho, hl⟩ := lookIn_ns hns
  have l : List.lookup Fd [(Fd, v)] = some v := by simp [List.lookup]
  obtain ⟨u, hu, ru⟩ := RelO.some_of (v := v) (o := mA Fd) (by rw [← l]; exact hr Fd)
  have J : PySem.W.InstAt s1.heap a oe C (some od) := ⟨ha, hz.1, by unfold PySem.W.notCls; rw [hd] <;> rfl, by rw [hz.2]; exact ho⟩
  exact HandSPX.exc_get I1.kIn J Tx.ga Tx.gg Tx.exC (PySem.W.findObj_own Tx.hdC Tx.noN rfl (by rw [hl, hu])) (handed_of ru) ⟨v, H1, I1.tok _, ru, q⟩
end
end L2
namespace DL
open PySem PySem.Spec PyProof.Rows L2
section
variable {X : Cx} {EX : WX} {pos : Pos} {N Fd T : Str} {C L fI : Addr}
/-- raise N(e) -/
def dRaise (C : Addr) (Fd : Str) (t : TDA) : TDS := fun E Γ W => t (E.x Γ) Γ W fun es W1 => match es with
  | [.val d] => E.xc C [(Fd, d)] Γ W1
  | _ => False
theorem ds_raise {a : Expr} {t : TDA} {p cp : Pos} {k : Nat} (hc : X.calm = true) (tk : Takes X EX) (Tx : PySem.ErrY.Txt X.prog X.K X.mg N Fd T C L fI) (FO : PySem.ErrY.FldOk Fd) (hr : Room k X.A) (hk : 1 ≤ k) (ha : DA X EX [a] t) (hg : Gl X N := by rfl) (hdb : (N == ("__debug__" : Str)) = false := by decide)
    (he : starEach (a :: []) X.env = (false, eval a X.env) :: starEach [] X.env := by rfl) (hpl : (backTo cp (starEach [] X.env)).any (·.1) = false := by rfl) :
    DS X EX (.Raise (some (.Call (.Name N p) [a] [] cp)) none pos) (dRaise C Fd t) :=
  ⟨fun E E' Γ W l q => ha.mono _ _ _ _ _ _ (l.x Γ) (fun es W1 q => by
    split at q
    · exact l.xc _ _ _ _ q
    · exact q) q, PS.imp (ps_raise hc tk (pmk_err Tx FO hr hk ha.pa hg hdb he hpl)) fun D σ H q => by
    obtain ⟨G0, H0, G, Γ, W, S, q⟩ := q
    refine liftA.go ha.mono (S.stx (EX := EX) (D := D)) q fun es W1 vs G1 H1 q m1 S1 r1 => ?_
    split at q
    · rename_i d
      obtain ⟨v, t, rfl, r2, r3⟩ := r1
      have e3 : t = [] := r3
      subst e3
      refine ⟨v, rfl, fun dd hdd => ?_⟩
      have m2 : Mv G1 H1 G1 (upd H1 dd (.xd [(Fd, v)])) := Mv.fresh0 hdd
      exact q (some dd) G1 σ _ ((S.mv m1 S1.ok).mv m2 (S1.ok.fresh0 hdd)) ((m1.trans m2).keep S.ok) ⟨[(Fd, v)], upd_same, rfl, RepL.one (Rep.mv m2 S1.ok _ _ r2)⟩
    · exact q.elim⟩
/-- try: .. except N as e: return .. of e.F -/
def dTry (i : Nat) (C : Addr) (Fd : Str) (mk : D → D) (b : TDS) : TDS := fun E Γ W => b { E with xc := fun C' fs Γ' W' => C' = C ∧ i < Γ'.length ∧ ∃ d, fs = [(Fd, d)] ∧ E.rt (mk d) W' } Γ W
theorem dTry_mono {i : Nat} {mk : D → D} {b : TDS} (hb : MonoS b) : MonoS (dTry i C Fd mk b) := fun E E' Γ W l q =>
  hb { E with xc := fun C' fs Γ' W' => C' = C ∧ i < Γ'.length ∧ ∃ d, fs = [(Fd, d)] ∧ E.rt (mk d) W' } _ _ _ ⟨l.nx, l.rt, l.bk, l.ct, fun C' fs Γ' W' (h : C' = C ∧ i < Γ'.length ∧ ∃ d, fs = [(Fd, d)] ∧ E.rt (mk d) W') => ⟨h.1, h.2.1, h.2.2.imp fun d hd => ⟨hd.1, l.rt _ _ hd.2⟩⟩⟩ q
/-- what a suite's return gives of the field -/
structure SuiteOk (X : Cx) (N Fd T : Str) (C L fI : Addr) (i : Nat) (ret : Expr) (mk : D → D) : Prop where
  tr : (a : Addr) → (cls : Value) → (d : Option Addr) → ∃ te : TE, (∀ (oe : Obj) (pn : List (Addr × Obj)), Zc cls d oe → (∃ vs, oe.data = .fields vs) → PE (X.suite a ((a, oe) :: pn)) ret te) ∧
    ∀ {G : Gh} {σ : L2.St} {H : Hp} {W : Ws} {dd : Addr} {v : V} {dat : D} {Q : VK}, σ[i]? = some (some (.ref a)) → cls = .ref C → d = some dd → H dd = some (.xd [(Fd, v)]) → Ok X.K G H W → Rep X.K G H v dat →
      (∀ u G' H', Mv G H G' H' → Ok X.K G' H' W → Rep X.K G' H' u (mk dat) → Q u H') → te σ H Q
theorem ds_try {n : Str} {i : Nat} {body : List Stmt} {ret : Expr} {mk : D → D} {b : TDS} {np rp hp : Pos} (hs : X.stack = X.env :: X.outer) (hf : X.env.frame = some X.env.locals) (hN : X.N.Nodup) (Tx : PySem.ErrY.Txt X.prog X.K X.mg N Fd T C L fI) (hnm : Names X N (.ref C)) (tk : Takes X EX)
    (hb : ∀ (W : WX) (pn : List (Addr × Obj)) (xe : Value → Shared → Prop), Takes (X.tr pn xe) W → PassesOwn (model X.prog X.w) X.A X.env xe → DSs (X.tr pn xe) W body b) (su : SuiteOk X N Fd T C L fI i ret mk)
    (hi : X.N[i]? = some n := by rfl) (hln : X.env.kindOf n = some .local := by rfl) :
    DS X EX (.Try body [.ExceptHandler (some (.Name N np)) (some n) [.Return (some ret) rp] hp] [] [] pos) (dTry i C Fd mk b) :=
  ⟨dTry_mono (hb (fun _ _ _ _ => False) [] (fun _ _ => False) takes0 PassesOwn.never).mono, by
    have key : PS X (.Try body [.ExceptHandler (some (.Name N np)) (some n) [.Return (some ret) rp] hp] [] [] pos) (fun D σ H => liftS X.K (wAs X.K (.ref C) i (fun a cls d => tRet (su.tr a cls d).choose) EX D) b D σ H) :=
      ps_try_as (tb := fun W => liftS X.K W b) (ts := fun a cls d => tRet (su.tr a cls d).choose) hs hf hN hi hln hnm tk (fun W pn xe tk po => (hb W pn xe tk po).pss) fun a oe cls d pn hz hfl => pss_one (ps_ret ((su.tr a cls d).choose_spec.1 oe pn hz hfl))
    refine PS.imp key fun D σ H q => ?_
    obtain ⟨G0, H0, G, Γ, W, S, q⟩ := q
    have mb := (hb (fun _ _ _ _ => False) [] (fun _ _ => False) takes0 PassesOwn.never).mono
    refine ⟨G0, H0, G, Γ, W, S, mb { endsOf X.K EX G0 H0 G H D with xc := fun C' fs Γ' W' => C' = C ∧ i < Γ'.length ∧ ∃ d, fs = [(Fd, d)] ∧ (endsOf X.K EX G0 H0 G H D).rt (mk d) W' } _ _ _ ⟨fun _ _ h => h, fun _ _ h => h, fun _ _ h => h, fun _ _ h => h, fun C' fs Γ' W' h d G' σ' H' S' k x => ?_⟩ q⟩
    obtain ⟨rfl, hl, dat, rfl, h⟩ := h
    refine ⟨true, Tx.te, fun _ a ha => ?_, fun z => by cases z⟩
    cases d with
    | none => cases (show [(Fd, dat)] = [] from x)
    | some dd =>
      obtain ⟨vfs, e1, e2, e3⟩ := x
      obtain ⟨v, rfl⟩ : ∃ v, vfs = [(Fd, v)] := by
        match vfs, e2 with
        | [(f, v)], e2 =>
          have : f = Fd := by simpa using e2
          exact ⟨v, by rw [this]⟩
      obtain ⟨v', t, e4, r, e5⟩ := e3
      have e6 : v = v' := by
        have := e4
        simp only [List.map_cons, List.map_nil, List.cons.injEq] at this
        exact this.1
      subst e6
      refine (su.tr a (.ref C') (some dd)).choose_spec.2 (G := G') (dat := dat) (List.getElem?_set_self (by rw [← S'.len]; exact hl)) rfl rfl e1 S'.ok r fun u G2 H2 m k2 r2 => ?_
      exact h u G2 H2 (S'.m0.trans m) k2 r2⟩
/-- return (e.F,) -/
theorem suite_one {i : Nat} {n : Str} {p q : Pos} {k : Nat} {np : Pos} (Tx : PySem.ErrY.Txt X.prog X.K X.mg N Fd T C L fI) (hN : X.N[i]? = some n := by rfl) (hv : Vis X.env.scope n := by first | exact Or.inl rfl | exact Or.inr (Or.inl rfl) | exact Or.inr (Or.inr rfl)) (hd : (n == ("__debug__" : Str)) = false := by decide)
    (hcd : (n == ("__classdict__" : Str)) = false := by decide) (hb : attributeBase (.Name n np) Fd X.env (eval (.Name n np) X.env) = eval (.Name n np) X.env := by rfl) (hse : starEach [Expr.Attribute (.Name n np) Fd p] X.env = (false, eval (.Attribute (.Name n np) Fd p) X.env) :: starEach [] X.env := by rfl) :
    SuiteOk X N Fd T C L fI i (.Tuple [.Attribute (.Name n np) Fd p] k q) (fun d => .tup [d]) :=
  ⟨fun a cls d => ⟨tTup (tCons (tByErr C Fd a cls d (tVar i)) tNil), fun oe pn hz hfl => pe_tup (pa_cons (pe_byErr Tx hz hfl (pv (X := X.suite a ((a, oe) :: pn)) i hN hv hd hcd) hb) pa_nil hse), fun {G σ H W dd v dat Q} h1 h2 h3 h4 ok r hQ => by
    refine ⟨_, h1, rfl, h2, dd, v, h3, h4, ?_⟩
    exact ⟨by show 1 ≤ sizeLine; rw [sizeLine_eq]; omega, fun p hp => hQ (.ref p) (G.add p) _ (Mv.fresh hp) (ok.fresh hp) (Rep.newT (ds := [dat]) ok hp (RepL.one r) (by show 1 ≤ sizeLine; rw [sizeLine_eq]; omega))⟩⟩⟩
end
end DL

set_option Elab.async false
set_option linter.all false
set_option maxRecDepth 100000
/-! DbtA: the law's end, where the law knows that no repr is under way. -/
namespace DL
open PySem PySem.Spec PyProof.Rows L2
theorem law_callG {P : Program} {w : World} {K : PySem.W.Frag} {mg mb : Str → Option Value} {k : Nat} {fa a : Addr} {fd : FuncData} {x : Str} {p : DSp} {s₁ : Shared} {vs : List Value} {ns : List Int}
    (KX : K.In s₁.heap) (hns : s₁.heap.Ns mainGlobals mg) (hb : s₁.heap.Ns builtinsNs mb) (hbb : ∀ x : Str, x ≠ "__name__" → mb x = bootBuiltins x) (hlim : s₁.heap.NoLimit) (hg : s₁.gens = #[])
    (ha : s₁.heap.get? a = some { cls := .type "list", data := .seq vs.toArray }) (hi : IntsAre vs ns) (hl : ns.length ≤ sizeLine) (hr : Room k callerA)
    (F : ∀ base : Heap, K.In base → base.Ns mainGlobals mg → FnG P w K mg base CX0 k fa fd [x] (toSp K p)) (hbind : ∀ (s : Shared) (u : Value), BindsTo s fd ⟨[u], []⟩ [(x, u)])
    (mp : MonoP p) (hp : p [.scr ns] [] (fun d _ => d = .bl true) fun _ _ _ => False) :
    codeAny (model P w) callerA (.call (.ref fa) ⟨[.ref a], []⟩) (fun r s' => r = .ok (.ret (.bool true)) ∧ OldK s₁.heap s'.heap ∧ s'.os = s₁.os ∧ AllBare s'.gens) s₁ := by
  have rv := vals_ints hi
  have lenV := hi.length
  have core : ∀ H : Hp, Only H → FzS K ⟨fun b => H b ≠ none, []⟩ H a (ns.map V.int) → HOk P w H s₁.heap → (∀ b, H b ≠ none → b = a) → (H a ≠ none → K.lookup a = none) →
      codeAny (model P w) callerA (.call (.ref fa) ⟨[.ref a], []⟩) (fun r s' => r = .ok (.ret (.bool true)) ∧ OldK s₁.heap s'.heap ∧ s'.os = s₁.os ∧ AllBare s'.gens) s₁ := by
    intro H hO hS hok hA hK
    have keepB : ∀ {b : Addr} {o : Obj}, s₁.heap.get? b = some o → H b = none → (hidT s₁.heap H).get? b = some o := fun e n => hidT_get e n
    have notDict : ∀ {b : Addr} {o : Obj} {es : Array DictEntry} {ep : Nat}, s₁.heap.get? b = some o → o.data = .dict es ep → H b = none := fun {b o es ep} e d => by
      cases q : H b with
      | none => rfl
      | some u =>
        have e' : b = a := hA b (by rw [q]; simp)
        subst e'
        rw [ha] at e; cases e
        exact nomatch (show Data.seq vs.toArray _ = Data.dict es ep from d)
    have nsK : ∀ {b : Addr} {m : Str → Option Value}, s₁.heap.Ns b m → (hidT s₁.heap H).Ns b m := fun {b m} ⟨o, es, ep, e, d, r⟩ => ⟨o, es, ep, keepB e (notDict e d), d, r⟩
    have hKb : K.In (hidT s₁.heap H) := fun b o e => keepB (KX b o e) (by
      cases q : H b with
      | none => rfl
      | some u =>
        have e' : b = a := hA b (by rw [q]; simp)
        subst e'
        rw [hK (by rw [q]; simp)] at e; cases e)
    have hM : Mod K mg (hidT s₁.heap H) := ⟨hKb, nsK hns, ⟨mb, nsK hb, hbb⟩, let ⟨mc, h1, h2⟩ := hlim; ⟨mc, nsK h1, h2⟩⟩
    have e0 : Env0 P w K mg (hidT s₁.heap H) callerA [] s₁ H := ⟨rfl, hM, fun b o e => of_hidT e, Nat.le_of_eq (hidT_size _ _), trivial, fun b hb => absurd (show b ∈ ([] : List Addr) from hb) (by simp), hok, .of_eq hg⟩
    have hsp : toSp K p [.ref a] H (fun v _ => v = .bl true) fun _ _ _ => False := by
      refine ⟨⟨fun b => H b ≠ none, []⟩, [], [.scr ns], ⟨fun _ h => h, rfl, List.nodup_nil, fun a ha => (by cases ha), fun n a xs h => by simp at h⟩, RepL.one ⟨a, rfl, hS, hl⟩, ?_⟩
      refine mp _ _ _ _ _ _ (fun d W' hd v G' H' _ _ rv => ?_) (fun _ _ _ h => h.elim) hp
      rw [hd] at rv
      exact rv
    refine codeAny_mono ((F _ hKb (nsK hns)).run callerA [] s₁ H ⟨[.ref a], []⟩ [.ref a] [.ref a] _ _ ⟨hr, rfl⟩ e0 (hbind s₁ (.ref a)) (.cons rfl .nil) hsp) fun r s' h => ?_
    cases r with
    | error e => exact h.elim
    | ok fl =>
      cases fl with
      | next => exact False.elim h
      | brk => exact False.elim h
      | cont => exact False.elim h
      | ret u =>
        obtain ⟨v, H', os, bare, un, hok', r', q⟩ := h
        have q' : v = .bl true := q
        subst q'
        obtain rfl : u = Value.bool true := r'
        refine ⟨rfl, OldK.of_keep fun b o e => ?_, os, bare⟩
        cases q : H b with
        | none => exact un.keep b o e q (by intro z; exact absurd (show b ∈ ([] : List Addr) from z) (by simp)) (by simp)
        | some u =>
          rcases hO b with z | ⟨ob, xs, z⟩
          · rw [q] at z; cases z
          · have z2 := un.frzs b ob _ z
            obtain ⟨e1, _⟩ := hok b _ z
            obtain ⟨e2, _⟩ := hok' b _ z2
            rw [e] at e1; cases e1
            exact e2
  cases hk : K.lookup a with
  | some o =>
    have e := KX a o hk
    rw [ha] at e
    cases e
    exact core (fun _ => none) (fun _ => .inl rfl) (.inr ⟨_, vs.toArray, _, hk, rfl, rfl, rfl, by rw [List.size_toArray, lenV]; exact hl, by simpa using rv⟩) (fun b u z => nomatch (show (none : Option HO) = some u from z)) (fun b z => absurd rfl z) fun z => absurd rfl z
  | none =>
    have at_ : (fun b => if b = a then some (HO.frz { cls := .type "list", data := .seq vs.toArray } (.lst (ns.map V.int))) else none) a = some (HO.frz { cls := .type "list", data := .seq vs.toArray } (.lst (ns.map V.int))) := if_pos rfl
    refine core (fun b => if b = a then some (.frz { cls := .type "list", data := .seq vs.toArray } (.lst (ns.map V.int))) else none) (fun b => ?_) (.inl ⟨fun z => (by rw [show (if a = a then some (HO.frz { cls := .type "list", data := .seq vs.toArray } (.lst (ns.map V.int))) else none) = _ from at_] at z; cases z), .inr ⟨_, at_⟩⟩) (fun b u z => ?_) (fun b z => ?_) fun _ => hk
    · by_cases hb : b = a
      · exact .inr ⟨_, _, if_pos hb⟩
      · exact .inl (if_neg hb)
    · by_cases hb : b = a
      · have z' := (if_pos hb).symm.trans z
        cases z'
        subst hb
        exact ⟨ha, by rw [List.length_map]; exact hl, vs, _, rv, ha⟩
      · have z' := (if_neg hb).symm.trans z
        cases z'
    · by_cases hb : b = a
      · exact hb
      · exact absurd (if_neg hb) z
/-- the goal that k_head leaves, from the law's promise over data -/
theorem walk_ofG {l : PySem.W.OpenLaw} {n k : Nat} {q : Program} {loose : List Str} {XP : (Str → Option Value) → Heap → Prop} {YP : World → Heap → Prop} {d : DefRec} {K : Params → PySem.W.Frag} {p : DSp} {x : Str}
    (hn : l.most = some n) (hn2 : n ≤ sizeLine) (hdf : d.params.defaults = []) (hr : Room k callerA)
    (hY : ∀ (w : World) (h : Heap), YP w h → (K w.params).In h)
    (F : ∀ (w : World) (mg : Str → Option Value) (fa : Addr) (h : Heap), (K w.params).In h → h.Ns mainGlobals mg → mg d.name = some (.ref fa) →
      ∃ fd : FuncData, (∀ (s : Shared) (u : Value), BindsTo s fd ⟨[u], []⟩ [(x, u)]) ∧
        ∀ base : Heap, (K w.params).In base → base.Ns mainGlobals mg → FnG l.prog w (K w.params) mg base CX0 k fa fd [x] (toSp (K w.params) p))
    (mp : MonoP p) (hsp : ∀ ns : List Int, ns.length ≤ n → p [.scr ns] [] (fun d _ => d = .bl true) fun _ _ _ => False) :
    PySem.W.WalkO q loose XP YP l.row.toRowW d [] (fun f vs => PySem.call f vs) := by
  refine Att.attach_call hn hdf fun w s₀ s₁ mg mb fa o pm cd doc a vs ns G Y ho hd hcd hmg hobj hints hlen hg => ?_
  have KX := hY w _ Y
  obtain ⟨fd, hb, hF⟩ := F w mg fa _ KX G.T.g hmg
  exact law_callG KX G.T.g G.T.b G.T.builtins G.T.nolimit hg hobj hints (Nat.le_trans hlen hn2) hr hF hb mp (hsp ns hlen)
end DL

set_option Elab.async false
set_option linter.all false
set_option maxRecDepth 100000
/-! DbtB: the order of data: sorted lists are unique. -/
namespace DL
open PySem PySem.Spec PyProof.Rows L2
open PySem.W (keyToks)
theorem dlt_irrefl (a : D) : dlt a a = false := lex_irrefl _
theorem dlt_trans {a b c : D} (h : dlt a b = true) (g : dlt b c = true) : dlt a c = true := lex_trans _ _ _ h g
theorem dlt_neg {a b c : D} (h : dlt a b = false) (g : dlt b c = false) : dlt a c = false := by
  cases e : dlt a c with
  | false => rfl
  | true =>
    rcases lex_negTrans (O := itemOrd) (keyToks a.py) (keyToks b.py) (keyToks c.py) e with z | z
    · exact absurd (show dlt a b = true from z) (by rw [h]; decide)
    · exact absurd (show dlt b c = true from z) (by rw [g]; decide)
theorem dlt_asymm {a b : D} (h : dlt a b = true) : dlt b a = false := by
  cases e : dlt b a with
  | false => rfl
  | true => exact absurd (dlt_trans h e) (by rw [dlt_irrefl]; decide)
/-- neither is less: equal -/
theorem dlt_anti {n : Nat} {a b : D} (hal : dal a b = true) (ha : fit n a = true) (hb : fit n b = true) (na : nb a = true) (nb' : nb b = true) (h : dlt a b = false) (g : dlt b a = false) : a = b := by
  refine (deq_iff a b na nb').mp ?_
  rw [← deq_py n a b ha hb]
  have e := lex_total (O := itemOrd) (keyToks a.py) (keyToks b.py) h g
  obtain ⟨_, t⟩ := PySem.W.toks_eqv a.py b.py hal
  cases q : PyData.eqv a.py b.py with
  | true => rfl
  | false =>
    exfalso
    have z := t q [] [.inl 0]
    rw [← e] at z
    rw [PySem.W.lex_pre, lex_irrefl] at z
    exact absurd z (by decide)
theorem dlt_conn {n : Nat} {a b : D} (hal : dal a b = true) (ha : fit n a = true) (hb : fit n b = true) (na : nb a = true) (nb' : nb b = true) (h : a ≠ b) (g : dlt b a = false) : dlt a b = true := by
  cases e : dlt a b with
  | true => rfl
  | false => exact absurd (dlt_anti hal ha hb na nb' e g) h
theorem dsort_perm (L : List D) : (dsort L).Perm L := List.mergeSort_perm _ _
theorem dsort_pw (L : List D) : (dsort L).Pairwise fun a b => dlt b a = false := by
  have h := List.pairwise_mergeSort (le := fun a b : D => !dlt b a) (fun a b c h g => by
    have h' : dlt b a = false := by simpa using h
    have g' : dlt c b = false := by simpa using g
    simpa using dlt_neg g' h') (fun a b => by
    cases e : dlt a b with
    | false => simp
    | true => simp [dlt_asymm e]) L
  exact h.imp fun h => by simpa using h
/-- data whose order is strict -/
structure Cls (P : D → Prop) : Prop where
  al : ∀ a b, P a → P b → dal a b = true
  ft : ∀ a, P a → fit 32 a = true
  nb : ∀ a, P a → nb a = true
theorem Cls.anti {P : D → Prop} (C : Cls P) {a b : D} (ha : P a) (hb : P b) (h : dlt a b = false) (g : dlt b a = false) : a = b := dlt_anti (C.al a b ha hb) (C.ft a ha) (C.ft b hb) (C.nb a ha) (C.nb b hb) h g
theorem sorted_eq {P : D → Prop} (C : Cls P) : ∀ {l m : List D}, (∀ a ∈ l, P a) → l.Perm m → l.Pairwise (fun a b => dlt b a = false) → m.Pairwise (fun a b => dlt b a = false) → l = m := fun {l m} h p hl hm => by
  refine List.Perm.eq_of_pairwise (le := fun a b => dlt b a = false) (fun a b ha hb h1 h2 => ?_) hl hm p
  exact C.anti (h a ha) (h b (p.mem_iff.mpr hb)) h2 h1
theorem dsort_eq {P : D → Prop} (C : Cls P) {L l : List D} (h : ∀ a ∈ L, P a) (p : l.Perm L) (hl : l.Pairwise fun a b => dlt b a = false) : dsort L = l :=
  sorted_eq C (fun a ha => h a ((dsort_perm L).mem_iff.mp ha)) ((dsort_perm L).trans p.symm) (dsort_pw L) hl
theorem dsort_congr {P : D → Prop} (C : Cls P) {L M : List D} (h : ∀ a ∈ L, P a) (p : L.Perm M) : dsort L = dsort M :=
  dsort_eq C h ((dsort_perm M).trans p.symm) (dsort_pw M)
theorem Cls.sble {P : D → Prop} (C : Cls P) {L : List D} (h : ∀ a ∈ L, P a) (k : L.length < 2 ∨ (∀ a ∈ L, ∃ x xs, a = .tup (x :: xs)) ∨ ∀ a ∈ L, (∀ xs, a ≠ .tup xs) ∧ a ≠ .non) : True := trivial
/-- strictly ascending -/
def Asc (l : List D) : Prop := l.Pairwise fun a b => dlt a b = true
theorem Asc.nodup {l : List D} (h : Asc l) : l.Nodup := List.Pairwise.imp (fun {a b} h e => by rw [e, dlt_irrefl] at h; cases h) h
theorem Asc.le {l : List D} (h : Asc l) : l.Pairwise fun a b => dlt b a = false := List.Pairwise.imp (fun h => dlt_asymm h) h
theorem asc_of {P : D → Prop} (C : Cls P) {l : List D} (hP : ∀ a ∈ l, P a) (hn : l.Nodup) (h : l.Pairwise fun a b => dlt b a = false) : Asc l := by
  have h2 : l.Pairwise fun a b => dlt b a = false ∧ a ≠ b := List.pairwise_and_iff.mpr ⟨h, hn⟩
  refine List.Pairwise.imp_of_mem (fun {a b} ha hb h => ?_) h2
  exact dlt_conn (C.al a b (hP a ha) (hP b hb)) (C.ft a (hP a ha)) (C.ft b (hP b hb)) (C.nb a (hP a ha)) (C.nb b (hP b hb)) h.2 h.1
theorem dsort_asc {P : D → Prop} (C : Cls P) {L : List D} (h : ∀ a ∈ L, P a) (hn : L.Nodup) : Asc (dsort L) :=
  asc_of C (fun a ha => h a ((dsort_perm L).mem_iff.mp ha)) ((dsort_perm L).nodup_iff.mpr hn) (dsort_pw L)
end DL

set_option Elab.async false
set_option linter.all false
set_option maxRecDepth 100000
/-! DbtC: small helps of the printed texts. -/
namespace DL
open PySem PySem.Spec PyProof.Rows L2
theorem lookup_relab (f : Str → NameKind → NameKind) : ∀ (l : List (Str × NameKind)) (x : Str), (l.map fun (n, k) => (n, f n k)).lookup x = (l.lookup x).map (f x)
  | [], x => rfl
  | (n, k) :: r, x => by
    simp only [List.map_cons, List.lookup_cons]
    by_cases h : x = n
    · subst h
      simp
    · have h' : (x == n) = false := by simpa using h
      simp only [h']
      exact lookup_relab f r x
/-- a block inside of a block -/
theorem blkOk_in {N : List Str} {sc0 scope : Scope} {own : List (Str × Nat)} {cl : List (Str × Addr)} {C : Addr} {env : Env} (h : blkC N sc0 scope own = true) : BlkOk N (compEnvC sc0 cl C env).scope scope own := by
  have b := blkOk_by h
  refine ⟨b.kind, b.uniq, b.ix, fun y hy e => ?_, b.own⟩
  have q := b.free y hy e
  have lk : (compEnvC sc0 cl C env).scope.names.lookup y.1 = (sc0.names.lookup y.1).map fun k => if (k == NameKind.free && env.scope.kind == ScopeKind.function && env.kindOf y.1 == some NameKind.cell) then NameKind.cell else k := by
    have z := lookup_relab (fun n k => if (k == NameKind.free && env.scope.kind == ScopeKind.function && env.kindOf n == some NameKind.cell) then NameKind.cell else k) sc0.names y.1
    have e : (compEnvC sc0 cl C env).scope.names = sc0.names.map fun (n, k) => (n, if (k == NameKind.free && env.scope.kind == .function && env.kindOf n == some .cell) then NameKind.cell else k) := by
      show sc0.names.map (fun (n, k) => if (k == NameKind.free && env.scope.kind == ScopeKind.function && env.kindOf n == some NameKind.cell) then (n, NameKind.cell) else (n, k)) = _
      refine List.map_congr_left fun p _ => ?_
      obtain ⟨n, k⟩ := p
      by_cases c : (k == NameKind.free && env.scope.kind == ScopeKind.function && env.kindOf n == some NameKind.cell) = true
      · simp only [if_pos c]
      · simp only [if_neg c]
    rw [e, z]
  rw [lk]
  rcases q with q | q
  · rw [q]
    exact .inl rfl
  · rw [q]
    simp only [Option.map_some]
    by_cases c : (NameKind.free == NameKind.free && env.scope.kind == .function && env.kindOf y.1 == some .cell) = true
    · rw [if_pos c]; exact .inl rfl
    · rw [if_neg c]; exact .inr rfl
theorem passNo {X : Cx} (σ : L2.St) : PassesAt (L2.CX X.prog X.w) X σ (fun c d H => EX0 c d σ H) := fun pins H s e s' I h => by
  obtain ⟨_, _, _, _, _, _, _, _, _, _, _, _, hE⟩ := h
  exact hE.elim
/-- a def that keeps a promise where no repr is under way -/
structure DCalG (P : Program) (w : World) (K : PySem.W.Frag) (mg : Str → Option Value) (base : Heap) (CX : CXT) (k : Nat) (x : Str) (p : DSp) : Prop where
  ex : ∃ (f : Addr) (fd : FuncData) (ps : List Str), FnG P w K mg base CX k f fd ps (toSp K p) ∧ mg x = some (.ref f) ∧ PySem.W.keepIn K (.ref f) = true ∧ Binds K fd ps []
  mono : MonoP p
section
variable {X : Cx} {EX : WX} {pos np : Pos} {k j : Nat} {x : Str} {p : DSp} {e : Expr} {es : List Expr} {t : TDA}
theorem de_cG {CX : CXT} (c : DCalG X.prog X.w X.K X.mg X.base CX k x p) (hr : RoomG j X.A) (hx : ∀ σ, PassesAt CX X σ (fun c d H => EX c d σ H)) (ha : DA X EX (e :: es) t) (hk : k ≤ j := by decide) (hg : Gl X x := by rfl) (hdb : (x == ("__debug__" : Str)) = false := by decide)
    (he : starEach (e :: es) X.env = (false, eval e X.env) :: starEach es X.env := by rfl) (hpl : (backTo pos (starEach es X.env)).any (·.1) = false := by rfl) : DE X EX (.Call (.Name x np) (e :: es) [] pos) (dCalX p t) := by
  obtain ⟨f, fd, ps, F, hm, kp, b⟩ := c.ex
  exact de_calG F c.mono (hr.mono hk) hg hm kp b hx ha hdb he hpl
end
theorem passC0 {X : Cx} {EX : WX} (σ : L2.St) : PassesAt CX0 X σ (fun c d H => EX c d σ H) := fun pins H s e s' I h => h.elim
/-- where a def stands -/
structure DAt (K : PySem.W.Frag) (mg : Str → Option Value) (x : Str) (f : Addr) (fd : FuncData) (ps : List Str) : Prop where
  hm : mg x = some (.ref f)
  kp : PySem.W.keepIn K (.ref f) = true
  bd : Binds K fd ps []
section
variable {P : Program} {w : World} {K : PySem.W.Frag} {mg : Str → Option Value} {base : Heap} {CX : CXT} {x : Str} {f : Addr} {fd : FuncData} {ps : List Str} {p : DSp} {k : Nat}
theorem DAt.cal (a : DAt K mg x f fd ps) (F : FnOk P w K mg base CX k f fd ps (toSp K p)) (m : MonoP p) : DCal P w K mg base CX k x p := ⟨⟨f, fd, ps, F, a.hm, a.kp, a.bd⟩, m⟩
theorem DAt.calG (a : DAt K mg x f fd ps) (F : FnG P w K mg base CX k f fd ps (toSp K p)) (m : MonoP p) : DCalG P w K mg base CX k x p := ⟨⟨f, fd, ps, F, a.hm, a.kp, a.bd⟩, m⟩
/-- a promise of nothing -/
theorem DAt.none (a : DAt K mg x f fd ps) : DCal P w K mg base CX k x (fun _ _ _ _ => False) :=
  a.cal ⟨fun vs H Q E q => (by obtain ⟨_, _, _, _, _, q⟩ := q; exact q.elim), fun A outer s H args us vs Q E hr e0 hb r q => (by obtain ⟨_, _, _, _, _, q⟩ := q; exact q.elim)⟩ fun _ _ _ _ _ _ _ _ h => h
end
theorem str_c (x : Str) : ∀ E Γ W Q, dC (.str x) E Γ W Q → dC (.str x) E Γ W fun e W1 => (∃ a, e = .val (.str a)) ∧ Q e W1 := fun E Γ W Q h => ⟨⟨x, rfl⟩, h⟩
end DL

set_option Elab.async false
set_option linter.all false
set_option maxRecDepth 100000
/-! DbtD: == of texts; loops and comprehensions by what stays true. -/
namespace DL
open PySem PySem.Spec PyProof.Rows L2
def fEqS : D → D → (D → Prop) → Prop := fun a b Q => match a, b with
  | .str x, .str y => Q (.bl (decide (x = y)))
  | _, _ => False
def fNeS : D → D → (D → Prop) → Prop := fun a b Q => match a, b with
  | .str x, .str y => Q (.bl (!decide (x = y)))
  | _, _ => False
section
variable {X : Cx} {EX : WX} {pos : Pos} {a b : Expr} {ta tb : TD}
theorem dec_strV {i j : Str} : decide (V.str i = V.str j) = decide (i = j) := by
  rw [Bool.eq_iff_iff]
  simp
theorem od_eqS : OpD X rEq fEqS :=
  ⟨fun a b Q Q' hQ h => by unfold fEqS at h ⊢; split at h <;> first | exact hQ _ h | exact h, fun {G H W σ Γ x y e1 e2 R Q} S r1 r2 h hQ => by
    unfold fEqS at h
    split at h
    · rename_i u v q1 q2
      rw [r1.str q1, r2.str q2]
      exact ⟨rfl, by rw [dec_strV]; exact hQ _ _ _ _ h .refl S.ok rfl⟩
    · exact h.elim⟩
theorem od_neS : OpD X rNe fNeS :=
  ⟨fun a b Q Q' hQ h => by unfold fNeS at h ⊢; split at h <;> first | exact hQ _ h | exact h, fun {G H W σ Γ x y e1 e2 R Q} S r1 r2 h hQ => by
    unfold fNeS at h
    split at h
    · rename_i u v q1 q2
      rw [r1.str q1, r2.str q2]
      exact ⟨rfl, by rw [dec_strV]; exact hQ _ _ _ _ h .refl S.ok rfl⟩
    · exact h.elim⟩
theorem de_eqS (ha : DE X EX a ta) (hb : DE X EX b tb) : DE X EX (.Compare a [.Eq] [b] pos) (dOp fEqS ta tb) := de_cmp op_eq od_eqS ha hb (nomark _)
theorem de_neS (ha : DE X EX a ta) (hb : DE X EX b tb) : DE X EX (.Compare a [.NotEq] [b] pos) (dOp fNeS ta tb) := de_cmp op_ne od_neS ha hb (nomark _)
theorem dt_eqS (ha : DE X EX a ta) (hb : DE X EX b tb) : DT X EX (.Compare a [.Eq] [b] pos) (dB (dOp fEqS ta tb)) := dt_cmp op_eq od_eqS ha hb (nomark _)
theorem dt_neS (ha : DE X EX a ta) (hb : DE X EX b tb) : DT X EX (.Compare a [.NotEq] [b] pos) (dB (dOp fNeS ta tb)) := dt_cmp op_ne od_neS ha hb (nomark _)
end
/-! ### what stays true -/
theorem forGo_inv {g : Tgt} {b : TDS} {E : DEnds} (I : List D → Gs → Ws → Prop) (step : ∀ d r Γ W (J : Gs → Ws → Prop), I (d :: r) Γ W → (∀ Γ2 W2, I r Γ2 W2 → J Γ2 W2) → ∃ Γ1, g.sto d Γ = some Γ1 ∧ b (E.loop J) Γ1 W) (fin : ∀ Γ W, I [] Γ W → E.nx Γ W) :
    ∀ (items : List D) (Γ : Gs) (W : Ws), I items Γ W → forGo g b items E Γ W
  | [], Γ, W, h => fin Γ W h
  | d :: r, Γ, W, h => by
    obtain ⟨Γ1, e, q⟩ := step d r Γ W (fun Γ2 W2 => forGo g b r E Γ2 W2) h fun Γ2 W2 h2 => forGo_inv I step fin r Γ2 W2 h2
    unfold forGo
    rw [e]
    exact q
theorem lcGo_inv {g : Tgt} {c : TDT} {t : TD} {Γ : Gs} {Q : List D → Ws → Prop} (I : List D → List D → Ws → Prop)
    (step : ∀ d r acc W (J : List D → Ws → Prop), I (d :: r) acc W → (∀ acc2 W2, I r acc2 W2 → J acc2 W2) → ∃ Γ1, g.sto d Γ = some Γ1 ∧ c X0 Γ1 W fun b W1 => if b = true then t X0 Γ1 W1 fun e W2 => match e with
        | .val x => J (acc ++ [x]) W2
        | _ => False
      else J acc W1) (fin : ∀ acc W, I [] acc W → Q acc W) :
    ∀ (items acc : List D) (W : Ws), I items acc W → lcGo g c t Γ items acc W Q
  | [], acc, W, h => fin acc W h
  | d :: r, acc, W, h => by
    obtain ⟨Γ1, e, q⟩ := step d r acc W (fun acc2 W2 => lcGo g c t Γ r acc2 W2 Q) h fun acc2 W2 h2 => lcGo_inv I step fin r acc2 W2 h2
    unfold lcGo
    rw [e]
    exact q
/-- a comprehension that changes nothing: its items by f and h -/
theorem lcGo_fm {g : Tgt} {c : TDT} {t : TD} {Γ : Gs} {Q : List D → Ws → Prop} (f : D → Bool) (h : D → D) {W : Ws} :
    ∀ (items acc : List D), (∀ d ∈ items, ∃ Γ1, g.sto d Γ = some Γ1 ∧ (∀ R, R (f d) W → c X0 Γ1 W R) ∧ (f d = true → ∀ R, R (.val (h d)) W → t X0 Γ1 W R)) → Q (acc ++ (items.filter f).map h) W → lcGo g c t Γ items acc W Q
  | [], acc, _, q => by
    rw [List.filter_nil, List.map_nil, List.append_nil] at q
    exact q
  | d :: r, acc, hs, q => by
    obtain ⟨Γ1, e, h1, h2⟩ := hs d List.mem_cons_self
    unfold lcGo
    rw [e]
    refine h1 _ ?_
    cases fd : f d with
    | true =>
      rw [if_pos rfl]
      refine h2 fd _ ?_
      refine lcGo_fm f h r _ (fun x hx => hs x (List.mem_cons_of_mem _ hx)) ?_
      rw [List.filter_cons_of_pos fd] at q
      rw [List.append_assoc]
      exact q
    | false =>
      rw [if_neg Bool.false_ne_true]
      refine lcGo_fm f h r _ (fun x hx => hs x (List.mem_cons_of_mem _ hx)) ?_
      rw [List.filter_cons_of_neg (by rw [fd]; decide)] at q
      exact q
theorem lcGo_map {g : Tgt} {t : TD} {Γ : Gs} {Q : List D → Ws → Prop} (h : D → D) {W : Ws} (items : List D) (hs : ∀ d ∈ items, ∃ Γ1, g.sto d Γ = some Γ1 ∧ ∀ R, R (.val (h d)) W → t X0 Γ1 W R) (q : Q (items.map h) W) : lcGo g dYes t Γ items [] W Q := by
  refine lcGo_fm (fun _ => true) h items [] (fun d hd => ?_) (by rw [List.nil_append, List.filter_eq_self.mpr (fun _ _ => rfl)]; exact q)
  obtain ⟨Γ1, e, k⟩ := hs d hd
  exact ⟨Γ1, e, fun R r => r, fun _ => k⟩
theorem scGo_all {g : Tgt} {Γ : Gs} {t : TD} {Q : List D → Ws → Prop} (h : D → D) {W : Ws} : ∀ (items acc : List D), (∀ d ∈ items, ∃ Γ1, g.sto d Γ = some Γ1 ∧ ∀ R, R (.val (h d)) W → t X0 Γ1 W R) →
    (∀ x ∈ items.map h, kok 8 x = true ∧ fit 32 x = true ∧ ∃ ys, x = .tup ys) → (∃ B : List D, B.length ≤ 75 ∧ ∀ x ∈ acc ++ items.map h, x ∈ B) → Q (acc ++ items.map h) W → scGo g dYes t Γ items acc W Q
  | [], acc, _, _, _, q => by
    rw [List.map_nil, List.append_nil] at q
    exact q
  | d :: r, acc, hs, hk, hB, q => by
    obtain ⟨Γ1, e, k⟩ := hs d List.mem_cons_self
    obtain ⟨k1, k2, k3⟩ := hk (h d) (List.mem_map.mpr ⟨d, List.mem_cons_self, rfl⟩)
    obtain ⟨B, b1, b2⟩ := hB
    unfold scGo
    rw [e]
    refine k _ (show PutOk acc (h d) ∧ _ from ⟨⟨k1, k2, k3, B, b1, fun x hx => b2 x ?_⟩, ?_⟩)
    · rcases List.mem_append.mp hx with z | z
      · exact List.mem_append_left _ z
      · exact List.mem_append_right _ (by rw [List.mem_singleton.mp z]; exact List.mem_cons_self)
    · refine scGo_all h r _ (fun x hx => hs x (List.mem_cons_of_mem _ hx)) (fun x hx => hk x (List.mem_cons_of_mem _ hx)) ⟨B, b1, fun x hx => b2 x ?_⟩ ?_
      · rw [List.append_assoc] at hx
        exact hx
      · rw [List.append_assoc]
        exact q
end DL

set_option Elab.async false
set_option linter.all false
set_option maxRecDepth 100000
/-! K47M: least lots and their crossings, with no program in sight. -/
namespace K47
open PySem PySem.Spec PyProof.Rows L2 DL
open Classical
section
variable {α : Type}
noncomputable def nub : List α → List α
  | [] => []
  | x :: xs => if x ∈ xs then nub xs else x :: nub xs
theorem mem_nub : ∀ {l : List α} {a : α}, a ∈ nub l ↔ a ∈ l
  | [], a => Iff.rfl
  | x :: xs, a => by
    unfold nub
    split
    · rename_i h
      rw [mem_nub, List.mem_cons]
      exact ⟨.inr, fun q => q.elim (fun e => e ▸ h) id⟩
    · rw [List.mem_cons, List.mem_cons, mem_nub]
theorem nodup_nub : ∀ l : List α, (nub l).Nodup
  | [] => List.nodup_nil
  | x :: xs => by
    unfold nub
    split
    · exact nodup_nub xs
    · rename_i h
      exact List.nodup_cons.mpr ⟨fun q => h (mem_nub.mp q), nodup_nub xs⟩
/-- the least of some lots -/
def isMin (L : List (List α)) (a : List α) : Prop := a ∈ L ∧ ∀ b ∈ L, (∀ x ∈ b, x ∈ a) → b = a
noncomputable def minL (L : List (List α)) : List (List α) := (nub L).filter fun a => decide (isMin L a)
theorem mem_minL {L : List (List α)} {a : List α} : a ∈ minL L ↔ isMin L a := by
  unfold minL
  rw [List.mem_filter, decide_eq_true_eq, mem_nub]
  exact ⟨fun h => h.2, fun h => ⟨h.1, h⟩⟩
theorem nodup_minL (L : List (List α)) : (minL L).Nodup := (nodup_nub L).sublist List.filter_sublist
theorem isMin_congr {L M : List (List α)} (h : ∀ a, a ∈ L ↔ a ∈ M) (a : List α) : isMin L a ↔ isMin M a := by
  unfold isMin
  rw [h a]
  refine and_congr_right fun _ => ⟨fun k b hb => k b ((h b).mpr hb), fun k b hb => k b ((h b).mp hb)⟩
theorem minL_perm {L M : List (List α)} (h : ∀ a, isMin L a ↔ isMin M a) : (minL L).Perm (minL M) :=
  (List.perm_ext_iff_of_nodup (nodup_minL L) (nodup_minL M)).mpr fun a => by rw [mem_minL, mem_minL, h a]
/-! sublists of one list of different things -/
variable {U a b : List α}
theorem sub_filter (hU : U.Nodup) (h : a.Sublist U) : a = U.filter fun x => decide (x ∈ a) := by
  induction h with
  | slnil => rfl
  | @cons l₁ l₂ x s ih =>
    obtain ⟨h1, h2⟩ := List.nodup_cons.mp hU
    rw [List.filter_cons_of_neg (by simpa using fun z => h1 (s.subset z))]
    exact ih h2
  | @cons_cons l₁ l₂ x s ih =>
    obtain ⟨h1, h2⟩ := List.nodup_cons.mp hU
    rw [List.filter_cons_of_pos (by simp)]
    congr 1
    rw [ih h2]
    refine List.filter_congr fun y hy => ?_
    have : y ≠ x := fun e => h1 (e ▸ hy)
    have e := ih h2
    rw [← e]
    simp [this]
theorem sub_ext (hU : U.Nodup) (ha : a.Sublist U) (hb : b.Sublist U) (h : ∀ x, x ∈ a ↔ x ∈ b) : a = b := by
  rw [sub_filter hU ha, sub_filter hU hb]
  exact List.filter_congr fun x _ => by simp only [h x]
theorem sub_of (hU : U.Nodup) (ha : a.Sublist U) (hb : b.Sublist U) (h : ∀ x ∈ a, x ∈ b) : a.Sublist b := by
  rw [sub_filter hU ha, sub_filter hU hb]
  have : (U.filter fun x => decide (x ∈ a)) = (U.filter fun x => decide (x ∈ b)).filter fun x => decide (x ∈ a) := by
    rw [List.filter_filter]
    refine List.filter_congr fun x _ => ?_
    by_cases hx : x ∈ a
    · simp [hx, h x hx]
    · simp [hx]
  rw [this]
  exact List.filter_sublist
theorem exists_min (hU : U.Nodup) {L : List (List α)} (hL : ∀ l ∈ L, l.Sublist U) : ∀ (n : Nat) (a : List α), a.length ≤ n → a ∈ L → ∃ b, isMin L b ∧ ∀ x ∈ b, x ∈ a := by
  intro n
  induction n with
  | zero =>
    intro a h ha
    have e : a = [] := List.length_eq_zero_iff.mp (Nat.le_zero.mp h)
    subst e
    refine ⟨[], ⟨ha, fun b hb h => ?_⟩, fun x h => h⟩
    cases b with
    | nil => rfl
    | cons y ys => exact absurd (h y List.mem_cons_self) (by simp)
  | succ n ih =>
    intro a h ha
    by_cases m : isMin L a
    · exact ⟨a, m, fun x h => h⟩
    · have : ∃ b ∈ L, (∀ x ∈ b, x ∈ a) ∧ b ≠ a := by
        by_cases q : ∃ b ∈ L, (∀ x ∈ b, x ∈ a) ∧ b ≠ a
        · exact q
        · refine absurd ⟨ha, fun b hb hs => ?_⟩ m
          by_cases e : b = a
          · exact e
          · exact absurd ⟨b, hb, hs, e⟩ q
      obtain ⟨b, hb, hs, ne⟩ := this
      have s := sub_of hU (hL b hb) (hL a ha) hs
      have lt : b.length < a.length := by
        rcases Nat.lt_or_ge b.length a.length with q | q
        · exact q
        · exact absurd (s.eq_of_length_le q) ne
      obtain ⟨c, hc, hcs⟩ := ih b (by omega) hb
      exact ⟨c, hc, fun x hx => hs x (hcs x hx)⟩
/-! all sublists -/
def subs (U : List α) : List (List α) := U.foldl (fun f g => f ++ f.map fun l => l ++ [g]) [[]]
theorem subs_snoc (U : List α) (g : α) : subs (U ++ [g]) = subs U ++ (subs U).map fun l => l ++ [g] := by
  unfold subs
  rw [List.foldl_append]
  rfl
theorem sub_snoc {g : α} : ∀ {U a : List α}, a.Sublist (U ++ [g]) ↔ a.Sublist U ∨ ∃ c, c.Sublist U ∧ a = c ++ [g] := fun {U a} => by
  rw [List.sublist_append_iff]
  constructor
  · rintro ⟨l1, l2, rfl, h1, h2⟩
    rcases List.sublist_cons_iff.mp h2 with z | ⟨r, rfl, z⟩
    · have e : l2 = [] := List.sublist_nil.mp z
      subst e
      rw [List.append_nil]
      exact .inl h1
    · have e : r = [] := List.sublist_nil.mp z
      subst e
      exact .inr ⟨l1, h1, rfl⟩
  · rintro (h | ⟨c, h, rfl⟩)
    · exact ⟨a, [], by rw [List.append_nil], h, List.nil_sublist _⟩
    · exact ⟨c, [g], rfl, h, List.Sublist.refl _⟩
theorem mem_subs_rev : ∀ (V : List α) {a : List α}, a ∈ subs V.reverse ↔ a.Sublist V.reverse
  | [], a => by
    show a ∈ [[]] ↔ _
    rw [List.mem_singleton, List.reverse_nil, List.sublist_nil]
  | g :: V, a => by
    rw [List.reverse_cons, subs_snoc, List.mem_append, mem_subs_rev V, sub_snoc, List.mem_map]
    refine or_congr_right ⟨?_, ?_⟩
    · rintro ⟨c, hc, rfl⟩
      exact ⟨c, (mem_subs_rev V).mp hc, rfl⟩
    · rintro ⟨c, hc, rfl⟩
      exact ⟨c, (mem_subs_rev V).mpr hc, rfl⟩
theorem mem_subs {U a : List α} : a ∈ subs U ↔ a.Sublist U := by
  have := mem_subs_rev U.reverse (a := a)
  rwa [List.reverse_reverse] at this
theorem length_subs_rev : ∀ V : List α, (subs V.reverse).length = 2 ^ V.length
  | [] => rfl
  | g :: V => by
    rw [List.reverse_cons, subs_snoc, List.length_append, List.length_map, length_subs_rev V, List.length_cons, Nat.pow_succ]
    omega
theorem length_subs (U : List α) : (subs U).length = 2 ^ U.length := by
  have := length_subs_rev U.reverse
  rwa [List.reverse_reverse, List.length_reverse] at this
/-! crossings -/
def Hits (lots : List (List α)) (a : List α) : Prop := ∀ lot ∈ lots, ∃ x ∈ a, x ∈ lot
noncomputable def hit (U : List α) (lots : List (List α)) : List (List α) := (subs U).filter fun a => decide (Hits lots a)
theorem mem_hit {lots : List (List α)} : a ∈ hit U lots ↔ a.Sublist U ∧ Hits lots a := by
  unfold hit
  rw [List.mem_filter, mem_subs, decide_eq_true_eq]
/-- a lot and one mark more -/
noncomputable def put (U one : List α) (m : α) : List α := U.filter fun x => decide (x ∈ one ∨ x = m)
theorem mem_put {one : List α} {m x : α} : x ∈ put U one m ↔ x ∈ U ∧ (x ∈ one ∨ x = m) := by
  unfold put
  rw [List.mem_filter, decide_eq_true_eq]
theorem put_sub {one : List α} {m : α} : (put U one m).Sublist U := List.filter_sublist
noncomputable def longer (U : List α) (F : List (List α)) (lot : List α) : List (List α) := F.flatMap fun one => if ∃ x ∈ one, x ∈ lot then [one] else lot.map fun m => put U one m
theorem mem_longer {F : List (List α)} {lot : List α} : a ∈ longer U F lot ↔ ∃ one ∈ F, ((∃ x ∈ one, x ∈ lot) ∧ a = one) ∨ ((¬ ∃ x ∈ one, x ∈ lot) ∧ ∃ m ∈ lot, a = put U one m) := by
  unfold longer
  rw [List.mem_flatMap]
  refine exists_congr fun one => and_congr_right fun _ => ?_
  split
  · rename_i h
    simp [h]
  · rename_i h
    simp only [h, false_and, not_false_eq_true, true_and, false_or, List.mem_map]
    exact exists_congr fun m => and_congr_right fun _ => eq_comm
/-- one lot more -/
theorem step_min (hU : U.Nodup) {F lots : List (List α)} {lot : List α} (hF : ∀ a, a ∈ F ↔ isMin (hit U lots) a) (hl : lot.Sublist U) (a : List α) : isMin (longer U F lot) a ↔ isMin (hit U (lots ++ [lot])) a := by
  have hitU : ∀ l ∈ hit U lots, l.Sublist U := fun l h => (mem_hit.mp h).1
  have Hsnoc : ∀ b, Hits (lots ++ [lot]) b ↔ Hits lots b ∧ ∃ x ∈ b, x ∈ lot := fun b => by
    unfold Hits
    simp [List.mem_append, or_imp, forall_and]
  -- each hits
  have l1 : ∀ c ∈ longer U F lot, c ∈ hit U (lots ++ [lot]) := by
    intro c hc
    obtain ⟨one, h1, h2⟩ := mem_longer.mp hc
    obtain ⟨m1, m2⟩ := (hF one).mp h1
    obtain ⟨s1, s2⟩ := mem_hit.mp m1
    rcases h2 with ⟨x, rfl⟩ | ⟨_, m, hm, rfl⟩
    · exact mem_hit.mpr ⟨s1, (Hsnoc c).mpr ⟨s2, x⟩⟩
    · refine mem_hit.mpr ⟨put_sub, (Hsnoc _).mpr ⟨fun l hl' => ?_, m, mem_put.mpr ⟨hl.subset hm, .inr rfl⟩, hm⟩⟩
      obtain ⟨x, hx, hx2⟩ := s2 l hl'
      exact ⟨x, mem_put.mpr ⟨s1.subset hx, .inl hx⟩, hx2⟩
  -- each that hits contains one of them
  have l2 : ∀ c ∈ hit U (lots ++ [lot]), ∃ b ∈ longer U F lot, ∀ x ∈ b, x ∈ c := by
    intro c hc
    obtain ⟨s1, s2⟩ := mem_hit.mp hc
    obtain ⟨s3, m, hm, hm2⟩ := (Hsnoc c).mp s2
    obtain ⟨one, mi, sb⟩ := exists_min hU hitU _ c (Nat.le_refl _) (mem_hit.mpr ⟨s1, s3⟩)
    by_cases q : ∃ x ∈ one, x ∈ lot
    · exact ⟨one, mem_longer.mpr ⟨one, (hF one).mpr mi, .inl ⟨q, rfl⟩⟩, sb⟩
    · refine ⟨put U one m, mem_longer.mpr ⟨one, (hF one).mpr mi, .inr ⟨q, m, hm2, rfl⟩⟩, fun x hx => ?_⟩
      rcases (mem_put.mp hx).2 with z | rfl
      · exact sb x z
      · exact hm
  constructor
  · rintro ⟨h1, h2⟩
    refine ⟨l1 a h1, fun b hb hs => ?_⟩
    obtain ⟨c, hc, hcs⟩ := l2 b hb
    have e := h2 c hc fun x hx => hs x (hcs x hx)
    subst e
    exact sub_ext hU (mem_hit.mp hb).1 (mem_hit.mp (l1 c h1)).1 fun x => ⟨hs x, hcs x⟩
  · rintro ⟨h1, h2⟩
    obtain ⟨c, hc, hcs⟩ := l2 a h1
    have e := h2 c (l1 c hc) hcs
    subst e
    exact ⟨hc, fun b hb hs => h2 b (l1 b hb) hs⟩
theorem hit_nil_min (hU : U.Nodup) (a : List α) : isMin (hit U []) a ↔ a = [] := by
  constructor
  · rintro ⟨_, h2⟩
    exact (h2 [] (mem_hit.mpr ⟨List.nil_sublist _, fun l hl => by cases hl⟩) fun x hx => by cases hx).symm
  · rintro rfl
    refine ⟨mem_hit.mpr ⟨List.nil_sublist _, fun l hl => by cases hl⟩, fun b _ hs => ?_⟩
    cases b with
    | nil => rfl
    | cons y ys => exact absurd (hs y List.mem_cons_self) (by simp)
/-- twice turned -/
theorem dual (hU : U.Nodup) {lots M : List (List α)} (hl : ∀ l ∈ lots, l.Sublist U) (hM : ∀ a, a ∈ M ↔ isMin (hit U lots) a) (a : List α) : isMin (hit U M) a ↔ isMin lots a := by
  have hitU : ∀ l ∈ hit U lots, l.Sublist U := fun l h => (mem_hit.mp h).1
  have key : ∀ c : List α, c ∈ hit U M ↔ c.Sublist U ∧ ∃ l ∈ lots, ∀ x ∈ l, x ∈ c := by
    intro c
    rw [mem_hit]
    refine and_congr_right fun hc => ⟨fun h => ?_, ?_⟩
    · by_cases q : ∃ l ∈ lots, ∀ x ∈ l, x ∈ c
      · exact q
      · exfalso
        have hco : (U.filter fun x => decide (x ∉ c)) ∈ hit U lots := by
          refine mem_hit.mpr ⟨List.filter_sublist, fun l hl' => ?_⟩
          by_cases z : ∃ x ∈ l, x ∉ c
          · obtain ⟨x, hx, hx2⟩ := z
            exact ⟨x, List.mem_filter.mpr ⟨(hl l hl').subset hx, by simpa using hx2⟩, hx⟩
          · exact absurd ⟨l, hl', fun x hx => by
              by_cases y : x ∈ c
              · exact y
              · exact absurd ⟨x, hx, y⟩ z⟩ q
        obtain ⟨t, ht, hts⟩ := exists_min hU hitU _ _ (Nat.le_refl _) hco
        obtain ⟨x, hx, hx2⟩ := h t ((hM t).mpr ht)
        have := (List.mem_filter.mp (hts x hx2)).2
        exact absurd hx (by simpa using this)
    · rintro ⟨l, hl', hs⟩ t ht
      obtain ⟨x, hx, hx2⟩ := (mem_hit.mp ((hM t).mp ht).1).2 l hl'
      exact ⟨x, hs x hx2, hx⟩
  constructor
  · rintro ⟨h1, h2⟩
    obtain ⟨s, l, hl', hs⟩ := (key a).mp h1
    have e := h2 l ((key l).mpr ⟨hl l hl', l, hl', fun x hx => hx⟩) hs
    subst e
    exact ⟨hl', fun b hb hbs => h2 b ((key b).mpr ⟨hl b hb, b, hb, fun x hx => hx⟩) hbs⟩
  · rintro ⟨h1, h2⟩
    refine ⟨(key a).mpr ⟨hl a h1, a, h1, fun x hx => hx⟩, fun b hb hs => ?_⟩
    obtain ⟨s, l, hl', hls⟩ := (key b).mp hb
    have e := h2 l hl' fun x hx => hs x (hls x hx)
    subst e
    exact sub_ext hU s (hl l hl') fun x => ⟨hs x, hls x⟩
end
end K47

set_option Elab.async false
set_option linter.all false
set_option maxRecDepth 100000
/-! K47N: few lots, none within another. -/
namespace K47
open PySem PySem.Spec PyProof.Rows L2 DL
open Classical
/-- the subsets of seven marks in 35 chains -/
def chainTab : List Nat := [0, 0, 1, 0, 2, 2, 1, 0, 3, 3, 4, 3, 5, 2, 1, 0, 6, 6, 7, 6, 8, 8, 7, 6, 9, 9, 4, 3, 5, 2, 1, 0, 10, 10, 11, 10, 12, 12, 11, 10, 13, 13, 14, 13, 15, 12, 11, 10, 16, 16, 17, 16, 18, 8, 7, 6, 19, 9, 4, 3, 5, 2, 1, 0, 20, 20, 21, 20, 22, 22, 21, 20, 23, 23, 24, 23, 25, 22, 21, 20, 26, 26, 27, 26, 28, 28, 27, 26, 29, 29, 24, 23, 25, 22, 21, 20, 30, 30, 31, 30, 32, 32, 31, 30, 33, 33, 14, 13, 15, 12, 11, 10, 34, 34, 17, 16, 18, 8, 7, 6, 19, 9, 4, 3, 5, 2, 1, 0]
def leb : Nat → Nat → Nat → Bool
  | 0, _, _ => true
  | n + 1, a, b => decide (a % 2 ≤ b % 2) && leb n (a / 2) (b / 2)
theorem chain_ok : (List.range 128).all (fun a => (List.range 128).all fun b => decide (chainTab.getD a 0 ≠ chainTab.getD b 0) || leb 7 a b || leb 7 b a) = true := by decide +kernel
theorem chain_lt : (List.range 128).all (fun a => decide (chainTab.getD a 0 < 35)) = true := by decide +kernel
section
variable {α : Type}
noncomputable def msk : List α → List α → Nat
  | [], _ => 0
  | u :: us, l => (if u ∈ l then 1 else 0) + 2 * msk us l
theorem msk_lt : ∀ (us l : List α), msk us l < 2 ^ us.length
  | [], l => by simp [msk]
  | u :: us, l => by
    have := msk_lt us l
    unfold msk
    rw [List.length_cons, Nat.pow_succ]
    split <;> omega
theorem leb_sub : ∀ (us a b : List α) (n : Nat), us.length ≤ n → leb n (msk us a) (msk us b) = true → ∀ u ∈ us, u ∈ a → u ∈ b
  | [], a, b, n, _, _, u, hu, _ => by cases hu
  | v :: us, a, b, 0, h, _, u, hu, _ => by simp at h
  | v :: us, a, b, n + 1, hn, h, u, hu, ha => by
    unfold leb at h
    rw [Bool.and_eq_true, decide_eq_true_eq] at h
    obtain ⟨h1, h2⟩ := h
    have e : ∀ l : List α, msk (v :: us) l % 2 = (if v ∈ l then 1 else 0) ∧ msk (v :: us) l / 2 = msk us l := fun l => by
      have q : msk (v :: us) l = (if v ∈ l then 1 else 0) + 2 * msk us l := rfl
      rw [q]
      split <;> omega
    rw [(e a).1, (e b).1] at h1
    rw [(e a).2, (e b).2] at h2
    rcases List.mem_cons.mp hu with rfl | hu
    · by_cases q : u ∈ b
      · exact q
      · rw [if_pos ha, if_neg q] at h1
        exact absurd h1 (by decide)
    · exact leb_sub us a b n (by simpa using hn) h2 u hu ha
theorem nodup_map_on {β : Type} {f : α → β} : ∀ {l : List α}, l.Nodup → (∀ a ∈ l, ∀ b ∈ l, f a = f b → a = b) → (l.map f).Nodup
  | [], _, _ => List.nodup_nil
  | x :: xs, h, g => by
    obtain ⟨h1, h2⟩ := List.nodup_cons.mp h
    rw [List.map_cons]
    refine List.nodup_cons.mpr ⟨fun z => ?_, nodup_map_on h2 fun a ha b hb => g a (List.mem_cons_of_mem _ ha) b (List.mem_cons_of_mem _ hb)⟩
    obtain ⟨y, hy, e⟩ := List.mem_map.mp z
    exact h1 (g y (List.mem_cons_of_mem _ hy) x List.mem_cons_self e ▸ hy)
theorem anti_le {U : List α} (hU : U.Nodup) (h7 : U.length ≤ 7) {A : List (List α)} (nd : A.Nodup) (sub : ∀ a ∈ A, a.Sublist U) (anti : ∀ a ∈ A, ∀ b ∈ A, (∀ x ∈ a, x ∈ b) → a = b) : A.length ≤ 35 := by
  have lt : ∀ a : List α, msk U a < 128 := fun a => by
    have h1 := msk_lt U a
    have h2 : 2 ^ U.length ≤ 2 ^ 7 := Nat.pow_le_pow_right (by decide) h7
    exact Nat.lt_of_lt_of_le h1 h2
  have nd2 : (A.map fun a => chainTab.getD (msk U a) 0).Nodup := by
    refine nodup_map_on nd fun a ha b hb e => ?_
    have c := List.all_eq_true.mp (List.all_eq_true.mp chain_ok (msk U a) (List.mem_range.mpr (lt a))) (msk U b) (List.mem_range.mpr (lt b))
    rw [Bool.or_eq_true, Bool.or_eq_true, decide_eq_true_eq] at c
    rcases c with (c | c) | c
    · exact absurd e c
    · exact anti a ha b hb fun x hx => leb_sub U a b 7 h7 c x ((sub a ha).subset hx) hx
    · exact (anti b hb a ha fun x hx => leb_sub U b a 7 h7 c x ((sub b hb).subset hx) hx).symm
  have := nodup_sub (B := List.range 35) nd2 fun x hx => by
    obtain ⟨a, ha, rfl⟩ := List.mem_map.mp hx
    have c := List.all_eq_true.mp chain_lt (msk U a) (List.mem_range.mpr (lt a))
    exact List.mem_range.mpr (by simpa using c)
  rw [List.length_map, List.length_range] at this
  exact this
/-- the lots of one round: at most seventy -/
theorem longer_few {U : List α} (hU : U.Nodup) (h7 : U.length ≤ 7) {F lots : List (List α)} {lot : List α} (hF : ∀ a, a ∈ F ↔ isMin (hit U lots) a) (hl : lot.Sublist U) : ∃ B : List (List α), B.length ≤ 75 ∧ ∀ a ∈ longer U F lot, a ∈ B := by
  have sF : ∀ a ∈ F, a.Sublist U := fun a ha => (mem_hit.mp ((hF a).mp ha).1).1
  have aF : ∀ a ∈ F, ∀ b ∈ F, (∀ x ∈ a, x ∈ b) → a = b := fun a ha b hb h => ((hF b).mp hb).2 a ((hF a).mp ha).1 h
  let A1 := (nub F).filter fun one => decide (∃ x ∈ one, x ∈ lot)
  let A2 := nub ((F.filter fun one => decide (¬ ∃ x ∈ one, x ∈ lot)).flatMap fun one => lot.map fun m => put U one m)
  have h1 : A1.length ≤ 35 := by
    refine anti_le hU h7 ((nodup_nub F).sublist List.filter_sublist) (fun a ha => sF a (mem_nub.mp (List.mem_filter.mp ha).1)) fun a ha b hb h => aF a (mem_nub.mp (List.mem_filter.mp ha).1) b (mem_nub.mp (List.mem_filter.mp hb).1) h
  have m2 : ∀ a, a ∈ A2 ↔ ∃ one ∈ F, (¬ ∃ x ∈ one, x ∈ lot) ∧ ∃ m ∈ lot, a = put U one m := fun a => by
    show a ∈ nub _ ↔ _
    rw [mem_nub, List.mem_flatMap]
    constructor
    · rintro ⟨one, h, q⟩
      obtain ⟨m, hm, rfl⟩ := List.mem_map.mp q
      exact ⟨one, (List.mem_filter.mp h).1, by simpa using (List.mem_filter.mp h).2, m, hm, rfl⟩
    · rintro ⟨one, h, q, m, hm, rfl⟩
      exact ⟨one, List.mem_filter.mpr ⟨h, by simpa using q⟩, List.mem_map.mpr ⟨m, hm, rfl⟩⟩
  have h2 : A2.length ≤ 35 := by
    refine anti_le hU h7 (nodup_nub _) (fun a ha => ?_) fun a ha b hb h => ?_
    · obtain ⟨one, _, _, m, _, rfl⟩ := (m2 a).mp ha
      exact put_sub
    · obtain ⟨o1, f1, n1, k1, hk1, rfl⟩ := (m2 a).mp ha
      obtain ⟨o2, f2, n2, k2, hk2, rfl⟩ := (m2 b).mp hb
      have e : k1 = k2 := by
        rcases (mem_put.mp (h k1 (mem_put.mpr ⟨hl.subset hk1, .inr rfl⟩))).2 with z | z
        · exact absurd ⟨k1, z, hk1⟩ n2
        · exact z
      subst e
      have e2 : o1 = o2 := by
        refine aF o1 f1 o2 f2 fun x hx => ?_
        rcases (mem_put.mp (h x (mem_put.mpr ⟨(sF o1 f1).subset hx, .inl hx⟩))).2 with z | z
        · exact z
        · exact absurd ⟨x, hx, z ▸ hk1⟩ n1
      rw [e2]
  refine ⟨A1 ++ A2, by rw [List.length_append]; omega, fun a ha => ?_⟩
  obtain ⟨one, hone, q⟩ := mem_longer.mp ha
  rcases q with ⟨q, rfl⟩ | ⟨q, m, hm, rfl⟩
  · exact List.mem_append_left _ (List.mem_filter.mpr ⟨mem_nub.mpr hone, by simpa using q⟩)
  · exact List.mem_append_right _ ((m2 _).mpr ⟨one, hone, q, m, hm, rfl⟩)
end
end K47

set_option Elab.async false
set_option linter.all false
set_option maxRecDepth 100000
/-! K47P: marks and lots as data. -/
namespace K47
open PySem PySem.Spec PyProof.Rows L2 DL
open Classical
theorem rv_int (W : Ws) (i : Int) : EV.r W (.val (.int i)) = .int i := rfl
theorem rv_bl (W : Ws) (i : Bool) : EV.r W (.val (.bl i)) = .bl i := rfl
theorem rv_str (W : Ws) (i : Str) : EV.r W (.val (.str i)) = .str i := rfl
theorem rv_non (W : Ws) : EV.r W (.val .non) = .non := rfl
theorem rv_tup (W : Ws) (xs : List D) : EV.r W (.val (.tup xs)) = .tup xs := rfl
theorem rv_lst (W : Ws) (xs : List D) : EV.r W (.val (.lst xs)) = .lst xs := rfl
theorem rv_scr (W : Ws) (xs : List Int) : EV.r W (.val (.scr xs)) = .scr xs := rfl
theorem rv_ty (W : Ws) (n : String) : EV.r W (.val (.ty n)) = .ty n := rfl
theorem rv_bor (W : Ws) (i : Nat) (xs : List D) : EV.r W (.bor i xs) = .lst xs := rfl
theorem rv_tok {W : Ws} {n : Nat} {xs : List D} (h : W[n]? = some xs) : EV.r W (.val (.tok n)) = .lst xs := by simp [EV.r, h]
theorem rv_fit {W : Ws} {n : Nat} {d : D} (h : fit n d = true) : EV.r W (.val d) = d := by
  cases d <;> first | rfl | (cases n <;> simp [fit] at h)
theorem atI_k {α : Type} (xs : List α) (k : Nat) : L2.atI xs (k : Int) = xs[k]? := by
  unfold L2.atI L2.ixN
  rw [if_pos (Int.natCast_nonneg k), Int.toNat_natCast]
  split
  · rfl
  · rename_i h
    rw [Option.bind_none, List.getElem?_eq_none (by omega)]
theorem atI_0 {α : Type} (x : α) (xs : List α) : L2.atI (x :: xs) 0 = some x := atI_k (x :: xs) 0
def MkOk (m : D) : Prop := ∃ (w : Str) (ns : List Int), m = .tup (.str w :: ns.map .int) ∧ PyData.strOk w = true ∧ w.length ≤ 4 ∧ (ns.length = 1 ∨ ns.length = 2) ∧ ∀ n ∈ ns, 0 ≤ n ∧ n < 1000000000000
theorem MkOk.ft {m : D} (h : MkOk m) (n : Nat) : fit (n + 1) m = true := by
  obtain ⟨w, ns, rfl, h1, _⟩ := h
  rw [fit_tup]
  simp [h1]
theorem MkOk.nb {m : D} (h : MkOk m) : nb m = true := by
  obtain ⟨w, ns, rfl, h1, _⟩ := h
  simp
theorem MkOk.kok {m : D} (h : MkOk m) (n : Nat) : kok (n + 1) m = true := by
  obtain ⟨w, ns, rfl, h1, _⟩ := h
  simp
theorem dal_tup (xs ys : List D) : dal (.tup xs) (.tup ys) = (xs.zip ys).all fun p => dal p.1 p.2 := by
  rw [← alikeAll_all]
  show PySem.W.alike (D.py (.tup xs)) (D.py (.tup ys)) = _
  simp only [D.py, PySem.W.alike]
theorem dal_ints : ∀ ns ms : List Int, ((ns.map D.int).zip (ms.map D.int)).all (fun p => dal p.1 p.2) = true
  | [], _ => rfl
  | _ :: _, [] => rfl
  | n :: ns, m :: ms => by
    rw [List.map_cons, List.map_cons, List.zip_cons_cons, List.all_cons, dal_ints ns ms]
    rfl
theorem mk_al {a b : D} (h : MkOk a) (g : MkOk b) : dal a b = true := by
  obtain ⟨w, ns, rfl, _⟩ := h
  obtain ⟨v, ms, rfl, _⟩ := g
  rw [dal_tup, List.zip_cons_cons, List.all_cons, dal_ints]
  rfl
def clsM : Cls MkOk := ⟨fun a b h g => mk_al h g, fun a h => h.ft _, fun a h => h.nb⟩
def LotD (d : D) : Prop := ∃ l, d = .tup l ∧ ∀ m ∈ l, MkOk m
theorem lot_ft {l : List D} (h : ∀ m ∈ l, MkOk m) (n : Nat) : fit (n + 2) (.tup l) = true := by
  rw [fit_tup]
  exact List.all_eq_true.mpr fun m hm => (h m hm).ft n
theorem lot_nb {l : List D} (h : ∀ m ∈ l, MkOk m) : nb (.tup l) = true := by
  rw [nb_tup]
  exact List.all_eq_true.mpr fun m hm => (h m hm).nb
theorem lot_kok {l : List D} (h : ∀ m ∈ l, MkOk m) (n : Nat) : kok (n + 2) (.tup l) = true := by
  rw [kok_tup]
  exact List.all_eq_true.mpr fun m hm => (h m hm).kok n
theorem lot_al {l k : List D} (h : ∀ m ∈ l, MkOk m) (g : ∀ m ∈ k, MkOk m) : dal (.tup l) (.tup k) = true := by
  rw [dal_tup]
  refine List.all_eq_true.mpr fun p hp => ?_
  obtain ⟨a, b⟩ := p
  have := List.of_mem_zip hp
  exact mk_al (h a this.1) (g b this.2)
def clsL : Cls LotD := ⟨fun a b h g => by
    obtain ⟨l, rfl, h⟩ := h
    obtain ⟨k, rfl, g⟩ := g
    exact lot_al h g, fun a h => by
    obtain ⟨l, rfl, h⟩ := h
    exact lot_ft h _, fun a h => by
    obtain ⟨l, rfl, h⟩ := h
    exact lot_nb h⟩
/-- the marks of a turn -/
structure UOk (U : List D) : Prop where
  asc : Asc U
  mo : ∀ m ∈ U, MkOk m
  few : U.length ≤ 7
theorem UOk.nd {U : List D} (h : UOk U) : U.Nodup := h.asc.nodup
/-- lots of these marks -/
def LU (U : List D) (Ls : List (List D)) : Prop := ∀ l ∈ Ls, l.Sublist U
section
variable {U : List D} {Ls : List (List D)}
theorem UOk.sub (h : UOk U) {l : List D} (s : l.Sublist U) : ∀ m ∈ l, MkOk m := fun m hm => h.mo m (s.subset hm)
theorem lots_D (h : UOk U) (s : LU U Ls) : ∀ d ∈ Ls.map D.tup, LotD d := fun d hd => by
  obtain ⟨l, hl, rfl⟩ := List.mem_map.mp hd
  exact ⟨l, rfl, h.sub (s l hl)⟩
theorem deq_mk {a b : D} (h : MkOk a) (g : MkOk b) : deq a b = true ↔ a = b := deq_iff a b h.nb g.nb
theorem deq_lot {l k : List D} (h : ∀ m ∈ l, MkOk m) (g : ∀ m ∈ k, MkOk m) : deq (.tup l) (.tup k) = true ↔ l = k := by
  rw [deq_iff _ _ (lot_nb h) (lot_nb g)]
  exact ⟨fun e => by injection e, fun e => by rw [e]⟩
/-- a in l -/
theorem in_mk {l : List D} (h : ∀ m ∈ l, MkOk m) {a : D} (ha : MkOk a) : (l.any fun z => deq z a) = decide (a ∈ l) := by
  rw [Bool.eq_iff_iff, List.any_eq_true, decide_eq_true_eq]
  constructor
  · rintro ⟨z, hz, e⟩
    exact (deq_mk (h z hz) ha).mp e ▸ hz
  · intro hz
    exact ⟨a, hz, (deq_mk ha ha).mpr rfl⟩
theorem in_lot {l : List (List D)} (h : ∀ k ∈ l, ∀ m ∈ k, MkOk m) {a : List D} (ha : ∀ m ∈ a, MkOk m) : ((l.map D.tup).any fun z => deq z (.tup a)) = decide (a ∈ l) := by
  rw [Bool.eq_iff_iff, List.any_eq_true, decide_eq_true_eq]
  constructor
  · rintro ⟨z, hz, e⟩
    obtain ⟨k, hk, rfl⟩ := List.mem_map.mp hz
    exact (deq_lot (h k hk) ha).mp e ▸ hk
  · intro hz
    exact ⟨.tup a, List.mem_map.mpr ⟨a, hz, rfl⟩, (deq_lot ha ha).mpr rfl⟩
theorem tup_inj {l k : List D} (h : D.tup l = D.tup k) : l = k := by injection h
theorem nodup_of_map {β γ : Type} {f : β → γ} : ∀ {l : List β}, (l.map f).Nodup → l.Nodup
  | [], _ => List.nodup_nil
  | x :: xs, h => by
    rw [List.map_cons] at h
    obtain ⟨h1, h2⟩ := List.nodup_cons.mp h
    exact List.nodup_cons.mpr ⟨fun z => h1 (List.mem_map.mpr ⟨x, z, rfl⟩), nodup_of_map h2⟩
theorem map_tup_nodup (h : Ls.Nodup) : (Ls.map D.tup).Nodup := nodup_map_on h fun a _ b _ e => tup_inj e
theorem of_tup : ∀ {ds : List D}, (∀ d ∈ ds, ∃ l, d = .tup l) → ∃ ls : List (List D), ds = ls.map D.tup
  | [], _ => ⟨[], rfl⟩
  | d :: ds, h => by
    obtain ⟨l, rfl⟩ := h d List.mem_cons_self
    obtain ⟨ls, e⟩ := of_tup fun x hx => h x (List.mem_cons_of_mem _ hx)
    exact ⟨l :: ls, by rw [e]; rfl⟩
theorem mem_map_tup {l : List D} : D.tup l ∈ Ls.map D.tup ↔ l ∈ Ls := by
  rw [List.mem_map]
  exact ⟨fun ⟨k, hk, e⟩ => tup_inj e ▸ hk, fun h => ⟨l, h, rfl⟩⟩
/-- sorting marks -/
theorem sort_marks (h : UOk U) {L : List D} (nd : L.Nodup) (s : ∀ x ∈ L, x ∈ U) : dsort L = U.filter fun x => decide (x ∈ L) := by
  refine dsort_eq clsM (fun a ha => h.mo a (s a ha)) ?_ (h.asc.le.sublist List.filter_sublist)
  refine (List.perm_ext_iff_of_nodup (h.nd.sublist List.filter_sublist) nd).mpr fun a => ?_
  rw [List.mem_filter, decide_eq_true_eq]
  exact ⟨fun z => z.2, fun z => ⟨s a z, z⟩⟩
/-- the told ones -/
noncomputable def res (Ls : List (List D)) : List D := dsort ((minL Ls).map D.tup)
theorem res_of (h : UOk U) (s : LU U Ls) {M : List (List D)} (nd : M.Nodup) (m : ∀ a, a ∈ M ↔ isMin Ls a) : dsort (M.map D.tup) = res Ls := by
  have p : M.Perm (minL Ls) := (List.perm_ext_iff_of_nodup nd (nodup_minL Ls)).mpr fun a => by rw [m a, mem_minL]
  exact dsort_congr clsL (lots_D h fun l hl => s l ((m l).mp hl).1) (p.map D.tup)
theorem res_congr (h : UOk U) (s : LU U Ls) {Ms : List (List D)} (e : ∀ a, isMin Ls a ↔ isMin Ms a) : res Ms = res Ls :=
  res_of h s (nodup_minL Ms) fun a => by rw [mem_minL, e a]
theorem mem_res (d : D) : d ∈ res Ls ↔ ∃ a, d = .tup a ∧ isMin Ls a := by
  unfold res
  rw [(dsort_perm _).mem_iff, List.mem_map]
  exact ⟨fun ⟨a, h, e⟩ => ⟨a, e.symm, mem_minL.mp h⟩, fun ⟨a, e, h⟩ => ⟨a, mem_minL.mpr h, e.symm⟩⟩
theorem res_tup : ∃ ls : List (List D), res Ls = ls.map D.tup ∧ ls.Nodup ∧ ∀ a, a ∈ ls ↔ isMin Ls a := by
  obtain ⟨ls, e⟩ := of_tup (ds := res Ls) fun d hd => (by obtain ⟨a, ea, _⟩ := (mem_res d).mp hd; exact ⟨a, ea⟩)
  refine ⟨ls, e, ?_, fun a => ?_⟩
  · have nd : (res Ls).Nodup := (dsort_perm _).nodup_iff.mpr (map_tup_nodup (nodup_minL Ls))
    rw [e] at nd
    exact nodup_of_map nd
  · have z := mem_res (Ls := Ls) (.tup a)
    rw [e, mem_map_tup] at z
    rw [z]
    exact ⟨fun ⟨b, e, h⟩ => tup_inj e ▸ h, fun h => ⟨a, rfl, h⟩⟩
theorem res_len (h : UOk U) (s : LU U Ls) : (res Ls).length ≤ 35 := by
  obtain ⟨ls, e, nd, m⟩ := res_tup (Ls := Ls)
  rw [e, List.length_map]
  exact anti_le h.nd h.few nd (fun a ha => s a ((m a).mp ha).1) fun a ha b hb hs => ((m b).mp hb).2 a ((m a).mp ha).1 hs
/-- what may be sorted -/
theorem sble_lots (h : UOk U) {M : List (List D)} (s : LU U M) (k : M.length < 2 ∨ [] ∉ M) : Sble (M.map D.tup) := by
  refine ⟨fun d hd => clsL.ft d (lots_D h s d hd), fun a ha b hb => clsL.al a b (lots_D h s a ha) (lots_D h s b hb), ?_⟩
  rcases k with k | k
  · exact .inl (by rw [List.length_map]; exact k)
  · refine .inr (.inl fun d hd => ?_)
    obtain ⟨l, hl, rfl⟩ := List.mem_map.mp hd
    cases l with
    | nil => exact absurd hl k
    | cons x r => exact ⟨x, r, rfl⟩
theorem min_empty {M : List (List D)} (nd : M.Nodup) (m : ∀ a, a ∈ M ↔ isMin Ls a) : M.length < 2 ∨ [] ∉ M := by
  by_cases z : [] ∈ M
  · left
    have all : ∀ a ∈ M, a = [] := fun a ha => (((m a).mp ha).2 [] ((m []).mp z).1 fun x hx => by cases hx).symm
    match M, nd, all with
    | [], _, _ => exact Nat.zero_lt_succ _
    | [_], _, _ => exact Nat.lt_succ_self _
    | x :: y :: r, nd, all =>
      have e1 := all x List.mem_cons_self
      have e2 := all y (List.mem_cons_of_mem _ List.mem_cons_self)
      exact absurd nd (by rw [e1, e2]; simp)
  · exact .inr z
end
end K47

set_option Elab.async false
set_option linter.all false
set_option maxRecDepth 100000
set_option maxHeartbeats 4000000
/-! K47S: what each def does. -/
namespace K47
open PySem PySem.Spec PyProof.Rows L2 DL
open Classical
def isInt : D → Bool
  | .int _ => true
  | _ => false
def isNum : D → Bool
  | .int i => decide (0 ≤ i)
  | _ => false
def isSeq : D → Bool
  | .lst _ => true
  | .tup _ => true
  | .scr _ => true
  | _ => false
mutual
def asT : D → D
  | .lst xs => .tup (asTL xs)
  | .tup xs => .tup (asTL xs)
  | .non => .non
  | .bl b => .bl b
  | .int i => .int i
  | .str s => .str s
  | .tok n => .tok n
  | .ins C ns xs => .ins C ns xs
  | .scr ns => .scr ns
  | .ty n => .ty n
  | .cls C => .cls C
def asTL : List D → List D
  | [] => []
  | d :: ds => asT d :: asTL ds
end
def isMk : D → Bool
  | .tup (.str _ :: r) => (decide (r.length = 1) || decide (r.length = 2)) && r.all isNum
  | _ => false
def isLot : D → Bool
  | .tup xs => xs.all isMk && (List.range (xs.length - 1)).all fun i => dlt (xs.getD i .non) (xs.getD (i + 1) .non)
  | _ => false
def sp_is_integer : DSp := fun ds W Q _ => ∃ d, ds = [d] ∧ (tyn d).isSome = true ∧ Q (.bl (isInt d)) W
def sp_is_number : DSp := fun ds W Q _ => ∃ d, ds = [d] ∧ (tyn d).isSome = true ∧ Q (.bl (isNum d)) W
def sp_is_sequence : DSp := fun ds W Q _ => ∃ d, ds = [d] ∧ (tyn d).isSome = true ∧ Q (.bl (isSeq d)) W
def sp_as_tuples : Nat → DSp
  | 0 => fun _ _ _ _ => False
  | n + 1 => fun ds W Q _ => ∃ d, ds = [d] ∧ fit n d = true ∧ Q (asT d) W
def sp_least_ones : DSp := fun ds W Q _ => ∃ U Ls, UOk U ∧ LU U Ls ∧ [] ∉ Ls ∧ (∃ B : List (List D), B.length ≤ 75 ∧ ∀ a ∈ Ls, a ∈ B) ∧ ds = [.lst (Ls.map .tup)] ∧ Q (.tup (res Ls)) W
def sp_put_in : DSp := fun ds W Q _ => ∃ U l m, UOk U ∧ l.Sublist U ∧ m ∈ U ∧ ds = [.tup l, m] ∧ Q (.tup (put U l m)) W
def sp_is_mark : DSp := fun ds W Q _ => ∃ d, ds = [d] ∧ fit 8 d = true ∧ Q (.bl (isMk d)) W
def sp_is_lot_of_marks : DSp := fun ds W Q _ => ∃ d, ds = [d] ∧ fit 9 d = true ∧ (∀ xs, d = .tup xs → xs.length ≤ 1000) ∧ Q (.bl (isLot d)) W
def sp_crossed : DSp := fun ds W Q _ => ∃ U lots, UOk U ∧ LU U lots ∧ ds = [.tup (lots.map .tup)] ∧ Q (.tup (res (hit U lots))) W
def sp_crossings_of (C : Addr) : DSp := fun ds W Q E => ∃ d, ds = [d] ∧ fit 3 d = true ∧
  ((∃ U lots, UOk U ∧ LU U lots ∧ asT d = .tup (lots.map .tup) ∧ Q (.tup (res (hit U lots))) W) ∨
   ((∀ xs, asT d ≠ .tup xs) ∧ E C [("at", .int (-1))] W) ∨
   ∃ xs ys z, asT d = .tup (xs ++ z :: ys) ∧ (∀ x ∈ xs, isLot x = true) ∧ isLot z = false ∧ (∀ x ∈ xs ++ [z], ∀ l, x = .tup l → l.length ≤ 1000) ∧ E C [("at", .int xs.length)] W)
/-- the box at b, its list at c -/
def BoxAt (W : Ws) (b c : Nat) : Prop := b ≠ c ∧ ∃ (bl : Int) (ns : List Int), W[b]? = some [.tok c, .int bl] ∧ W[c]? = some (ns.map .int) ∧ 0 ≤ bl ∧ bl < 2147483647 ∧ ns.length ≤ 1000
/-- all else is as it was -/
def Fr (b c : Nat) (W W' : Ws) : Prop := W.length ≤ W'.length ∧ ∀ i, i < W.length → i ≠ b → i ≠ c → W'[i]? = W[i]?
def Wrong (z : D) : Prop := fit 2 z = true ∧ isLot (asT z) = false ∧ ∀ l, asT z = .tup l → l.length ≤ 1000
def sp_law_box : DSp := fun ds W Q _ => ∃ ns : List Int, ds = [.scr ns] ∧ ns.length ≤ 63 ∧ ∀ b c W', BoxAt W' b c → Q (.tok b) W'
def sp_law_draw : DSp := fun ds W Q _ => ∃ (b c : Nat) (m : Int), ds = [.tok b, .int m] ∧ BoxAt W b c ∧ 1 ≤ m ∧ m ≤ 1000000000000 ∧ ∀ (d : Int) W', 0 ≤ d → d < m → BoxAt W' b c → Fr b c W W' → Q (.int d) W'
def sp_law_pick : DSp := fun ds W Q _ => ∃ (b c : Nat) (xs : List D), ds = [.tok b, .lst xs] ∧ BoxAt W b c ∧ xs ≠ [] ∧ xs.length ≤ 1000 ∧ ∀ x ∈ xs, ∀ W', BoxAt W' b c → Fr b c W W' → Q x W'
def sp_law_name : DSp := fun ds W Q _ => ∃ b c u : Nat, ds = [.tok b, .tok u] ∧ BoxAt W b c ∧ W[u]? = some [] ∧ u ≠ b ∧ u ≠ c ∧ ∀ (w : Str) W', PyData.strOk w = true → w.length ≤ 4 → BoxAt W' b c → Q (.str w) W'
def sp_law_some : DSp := fun ds W Q _ => ∃ U : List D, ds = [.lst U] ∧ U.length ≤ 7 ∧ Q (.lst ((subs U).map .tup)) W
def sp_law_is_within : DSp := fun ds W Q _ => ∃ l k : List D, ds = [.tup l, .tup k] ∧ (∀ m ∈ l, MkOk m) ∧ (∀ m ∈ k, MkOk m) ∧ Q (.bl (decide (∀ g ∈ l, g ∈ k))) W
def sp_law_least : DSp := fun ds W Q _ => ∃ U Ls, UOk U ∧ LU U Ls ∧ Ls.length ≤ 1000 ∧ (ds = [.lst (Ls.map .tup)] ∨ ds = [.tup (Ls.map .tup)]) ∧ Q (.tup (res Ls)) W
def sp_law_crossings : DSp := fun ds W Q _ => ∃ U lots, UOk U ∧ LU U lots ∧ ds = [.lst U, .tup (lots.map .tup)] ∧ Q (.tup (res (hit U lots))) W
def sp_law_marks : DSp := fun ds W Q _ => ∃ b c : Nat, ds = [.tok b] ∧ BoxAt W b c ∧ ∀ U W', UOk U → U ≠ [] → BoxAt W' b c → Q (.lst U) W'
def sp_law_refused : DSp := fun ds W Q _ => ∃ d, ds = [d] ∧ fit 3 d = true ∧
  (((∀ xs, asT d ≠ .tup xs) ∧ Q (.tup [.int (-1)]) W) ∨
   ∃ xs ys z, asT d = .tup (xs ++ z :: ys) ∧ (∀ x ∈ xs, isLot x = true) ∧ isLot z = false ∧ (∀ x ∈ xs ++ [z], ∀ l, x = .tup l → l.length ≤ 1000) ∧ Q (.tup [.int xs.length]) W)
def sp_law_wrong : DSp := fun ds W Q _ => ∃ (b c : Nat) (U : List D), ds = [.tok b, .lst U] ∧ BoxAt W b c ∧ UOk U ∧ U ≠ [] ∧ ∀ z W', Wrong z → BoxAt W' b c → Q z W'
def sp_law_once : DSp := fun ds W Q _ => ∃ b c : Nat, ds = [.tok b] ∧ BoxAt W b c ∧ ∀ W', BoxAt W' b c → Q (.bl true) W'
def sp_law : DSp := fun ds W Q _ => ∃ ns : List Int, ds = [.scr ns] ∧ ns.length ≤ 63 ∧ ∀ W', Q (.bl true) W'
end K47

set_option Elab.async false
set_option linter.all false
set_option maxRecDepth 100000
set_option maxHeartbeats 4000000
namespace K47
open PySem PySem.Spec PyProof.Rows L2 DL
def topS (i : Nat) : Stmt := PySem.Challenge.pw_lateno_k47_whole_crossings_of_any_lots.main.body.getD i (.Pass ⟨0, 0, 0, 0⟩)
theorem fo_at : PySem.ErrY.FldOk "at" := ⟨fun _ _ _ _ _ _ _ _ _ _ _ _ _ => rfl, rfl, rfl, rfl, rfl, rfl, rfl, fun _ _ _ _ _ => rfl⟩
structure Txt (mg : Str → Option Value) : Prop where
  b_abs : mg "abs" = none
  b_all : mg "all" = none
  b_any : mg "any" = none
  b_bool : mg "bool" = none
  b_enumerate : mg "enumerate" = none
  b_int : mg "int" = none
  b_isinstance : mg "isinstance" = none
  b_len : mg "len" = none
  b_list : mg "list" = none
  b_range : mg "range" = none
  b_repr : mg "repr" = none
  b_sorted : mg "sorted" = none
  b_str : mg "str" = none
  b_tuple : mg "tuple" = none
abbrev s_is_integer : Stmt := topS 4
theorem sc_is_integer : FnScope ["value"] ["value"] (defScope s_is_integer) := ⟨rfl, rfl, rfl, by decide +kernel, rfl, by decide +kernel, by decide +kernel⟩
def t_is_integer : TDS := (dRet (dAndV (dCall fIsi (dCons (dVar 0) (dCons (dC (.ty "int")) dNil))) (dNotV (dCall fIsi (dCons (dVar 0) (dCons (dC (.ty "bool")) dNil))))))
theorem d_is_integer {P : Program} {w : World} {K : PySem.W.Frag} {mg : Str → Option Value} {base : Heap} {f : Addr} {cdv : Value} {A : Around} {outer : List Env} {s : Shared} {H : Hp} {E : XK} (T : Txt mg)
    (hr : Room 1 (A.deeper (envOfC "is_integer" (defScope s_is_integer) s.heap.objs.size f cdv))) : DSs (cxOf CX0 P w K mg base ["value"] "is_integer" (defScope s_is_integer) f cdv A outer s H E).nox EX0 (defBody s_is_integer) (t_is_integer) := by
  have nd := sc_is_integer.nd
  exact (dss_one (ds_ret (de_and (de_callB call_isiD cd_isi (by rfl) T.b_isinstance (by decide +kernel) (da_cons (dv 0) (da_cons (de_ty (by rfl) T.b_int (by decide +kernel)) da_nil))) (de_one (de_not (de_callB call_isiD cd_isi (by rfl) T.b_isinstance (by decide +kernel) (da_cons (dv 0) (da_cons (de_ty (by rfl) T.b_bool (by decide +kernel)) da_nil))))))))
abbrev s_is_number : Stmt := topS 5
theorem sc_is_number : FnScope ["value"] ["value"] (defScope s_is_number) := ⟨rfl, rfl, rfl, by decide +kernel, rfl, by decide +kernel, by decide +kernel⟩
def t_is_number : TDS := (dRet (dAndV (dCal sp_is_integer (dCons (dVar 0) dNil)) (dOp fGe (dVar 0) (dC (.int 0)))))
theorem d_is_number {P : Program} {w : World} {K : PySem.W.Frag} {mg : Str → Option Value} {base : Heap} {f : Addr} {cdv : Value} {A : Around} {outer : List Env} {s : Shared} {H : Hp} {E : XK} (T : Txt mg) (c_is_integer : DCal P w K mg base CX0 2 "is_integer" sp_is_integer)
    (hr : Room 2 (A.deeper (envOfC "is_number" (defScope s_is_number) s.heap.objs.size f cdv))) : DSs (cxOf CX0 P w K mg base ["value"] "is_number" (defScope s_is_number) f cdv A outer s H E).nox EX0 (defBody s_is_number) (t_is_number) := by
  have nd := sc_is_number.nd
  exact (dss_one (ds_ret (de_and (de_c0 c_is_integer hr (da_cons (dv 0) da_nil) (by omega)) (de_one (de_ge (dv 0) de_int)))))
abbrev s_is_sequence : Stmt := topS 6
theorem sc_is_sequence : FnScope ["value"] ["value"] (defScope s_is_sequence) := ⟨rfl, rfl, rfl, by decide +kernel, rfl, by decide +kernel, by decide +kernel⟩
def t_is_sequence : TDS := (dRet (dCall fIsi (dCons (dVar 0) (dCons (dTup (dCons (dC (.ty "list")) (dCons (dC (.ty "tuple")) dNil))) dNil))))
theorem d_is_sequence {P : Program} {w : World} {K : PySem.W.Frag} {mg : Str → Option Value} {base : Heap} {f : Addr} {cdv : Value} {A : Around} {outer : List Env} {s : Shared} {H : Hp} {E : XK} (T : Txt mg)
    (hr : Room 1 (A.deeper (envOfC "is_sequence" (defScope s_is_sequence) s.heap.objs.size f cdv))) : DSs (cxOf CX0 P w K mg base ["value"] "is_sequence" (defScope s_is_sequence) f cdv A outer s H E).nox EX0 (defBody s_is_sequence) (t_is_sequence) := by
  have nd := sc_is_sequence.nd
  exact (dss_one (ds_ret (de_callB call_isiD cd_isi (by rfl) T.b_isinstance (by decide +kernel) (da_cons (dv 0) (da_cons (de_tup (da_cons (de_ty (by rfl) T.b_list (by decide +kernel)) (da_cons (de_ty (by rfl) T.b_tuple (by decide +kernel)) da_nil))) da_nil)))))
abbrev s_as_tuples : Stmt := topS 7
theorem sc_as_tuples : FnScope ["value", "part"] ["value"] (defScope s_as_tuples) := ⟨rfl, rfl, rfl, by decide +kernel, rfl, by decide +kernel, by decide +kernel⟩
def t_as_tuples (sp_as_tuples : DSp) : TDS := (dSeq (dIf (dB (dCal sp_is_sequence (dCons (dVar 0) dNil))) (dRet (dCall fTuple (dCons (dFz (dLc (dItM (dVar 0)) (.nm 1) dYes (dCal sp_as_tuples (dCons (dVar 1) dNil)) [1])) dNil))) dSkip)
    (dRet (dVar 0)))
theorem d_as_tuples {P : Program} {w : World} {K : PySem.W.Frag} {mg : Str → Option Value} {base : Heap} {f : Addr} {cdv : Value} {A : Around} {outer : List Env} {s : Shared} {H : Hp} {E : XK} {sp_as_tuples : DSp} {m : Nat} (T : Txt mg) (c_is_sequence : DCal P w K mg base CX0 2 "is_sequence" sp_is_sequence) (c_as_tuples : DCal P w K mg base CX0 (m + 2) "as_tuples" sp_as_tuples)
    (hr : Room (m + 2) (A.deeper (envOfC "as_tuples" (defScope s_as_tuples) s.heap.objs.size f cdv))) : DSs (cxOf CX0 P w K mg base ["value", "part"] "as_tuples" (defScope s_as_tuples) f cdv A outer s H E).nox EX0 (defBody s_as_tuples) (t_as_tuples sp_as_tuples) := by
  have nd := sc_as_tuples.nd
  exact (dss_cons (ds_if (dt_val (de_c0 c_is_sequence hr (da_cons (dv 0) da_nil) (by omega))) (dss_one (ds_ret (de_callTy call_tuple_of cd_tuple (by rfl) T.b_tuple (by decide +kernel) (da_cons (de_fz (df_lc (own := [("part", 1)]) (g := (.nm 1)) (c := dYes) (t := (dCal sp_as_tuples (dCons (dVar 1) dNil))) rfl nd (di_itM (dv 0)) (blkOk_by (N := ["value", "part"]) (sc := defScope s_as_tuples) (by decide +kernel)) (fun _ _ _ _ _ => (dg_nm nd)) (fun _ _ _ _ _ => dts_nil) (fun _ _ _ _ _ => (de_c0 c_as_tuples hr (da_cons (dv 1) da_nil) (by omega))) (by decide))) da_nil)))) dss_nil)
    (dss_one (ds_ret (dv 0))))
abbrev s_least_ones : Stmt := topS 9
theorem sc_least_ones : FnScope ["lots", "found", "lot", "one", "guard"] ["lots"] (defScope s_least_ones) := ⟨rfl, rfl, rfl, by decide +kernel, rfl, by decide +kernel, by decide +kernel⟩
def t_least_ones : TDS := (dSeq (dOwn 1 (dLst dNil))
    (dSeq (dFor (dIt (dFz (dCallF fSortLen (dCons (dFz (dSetSort (dItM (dVar 0)) (.nm 2) dYes (dVar 2) [2])) dNil)))) (.nm 2) (dIf (dNotT (dB (dCall fAny (dCons (dFz (dLc (dItM (dVar 1)) (.nm 3) dYes (dCall fAll (dCons (dFz (dLc (dItM (dVar 3)) (.nm 4) dYes (dOp (fIn false) (dVar 4) (dVar 2)) [4])) dNil)) [3])) dNil)))) (dApp 1 (dVar 2)) dSkip))
    (dRet (dCall fTuple (dCons (dFz (dCallF fSort (dCons (dVar 1) dNil))) dNil)))))
theorem d_least_ones {P : Program} {w : World} {K : PySem.W.Frag} {mg : Str → Option Value} {base : Heap} {f : Addr} {cdv : Value} {A : Around} {outer : List Env} {s : Shared} {H : Hp} {E : XK} (T : Txt mg)
    (hr : Room 1 (A.deeper (envOfC "least_ones" (defScope s_least_ones) s.heap.objs.size f cdv))) : DSs (cxOf CX0 P w K mg base ["lots", "found", "lot", "one", "guard"] "least_ones" (defScope s_least_ones) f cdv A outer s H E).nox EX0 (defBody s_least_ones) (t_least_ones) := by
  have nd := sc_least_ones.nd
  exact (dss_cons (ds_own nd (df_lst da_nil))
    (dss_cons (ds_for PassesOwn.never rfl (di_it (de_fz (df_sortLen hr (by decide) (by rfl) T.b_sorted (by rfl) T.b_len (da_cons (de_fz (df_sortSet (own := [("lot", 2)]) (g := (.nm 2)) (c := dYes) (t := (dVar 2)) hr (by decide) rfl nd (by rfl) T.b_sorted (di_itM (dv 0)) (blkOk_by (N := ["lots", "found", "lot", "one", "guard"]) (sc := defScope s_least_ones) (by decide +kernel)) (fun _ _ _ _ _ => (dg_nm nd)) (fun _ _ _ _ _ => dts_nil) (fun _ _ _ _ _ => (dv 2)) (by decide))) da_nil)))) (g := (.nm 2)) (dg_nm nd) (dss_one (ds_if (dt_not (dt_val (de_callB (cr_any rfl) cd_any (by rfl) T.b_any (by decide +kernel) (da_cons (de_fz (df_lc (own := [("one", 3)]) (g := (.nm 3)) (c := dYes) (t := (dCall fAll (dCons (dFz (dLc (dItM (dVar 3)) (.nm 4) dYes (dOp (fIn false) (dVar 4) (dVar 2)) [4])) dNil))) rfl nd (di_itM (dv 1)) (blkOk_by (N := ["lots", "found", "lot", "one", "guard"]) (sc := defScope s_least_ones) (by decide +kernel)) (fun _ _ _ _ _ => (dg_nm nd)) (fun _ _ _ _ _ => dts_nil) (fun _ _ _ _ _ => (de_callB (cr_all rfl) cd_all (by rfl) T.b_all (by decide +kernel) (da_cons (de_fz (df_lc (own := [("guard", 4)]) (g := (.nm 4)) (c := dYes) (t := (dOp (fIn false) (dVar 4) (dVar 2))) rfl nd (di_itM (dv 3)) (blkOk_in (N := ["lots", "found", "lot", "one", "guard"]) (by decide +kernel)) (fun _ _ _ _ _ => (dg_nm nd)) (fun _ _ _ _ _ => dts_nil) (fun _ _ _ _ _ => (de_in hr (dv 4) (dv 2))) (by decide))) da_nil))) (by decide))) da_nil)))) (dss_one (ds_app 1 (dv 2))) dss_nil)))
    (dss_one (ds_ret (de_callTy call_tuple_of cd_tuple (by rfl) T.b_tuple (by decide +kernel) (da_cons (de_fz (df_sort hr (by decide) (by rfl) T.b_sorted (da_cons (dv 1) da_nil))) da_nil))))))
abbrev s_put_in : Stmt := topS 10
theorem sc_put_in : FnScope ["lot", "guard", "one"] ["lot", "guard"] (defScope s_put_in) := ⟨rfl, rfl, rfl, by decide +kernel, rfl, by decide +kernel, by decide +kernel⟩
def t_put_in : TDS := (dRet (dCall fTuple (dCons (dFz (dSetSort (dItM (dOp fAdd (dVar 0) (dTup (dCons (dVar 1) dNil)))) (.nm 2) dYes (dVar 2) [2])) dNil)))
theorem d_put_in {P : Program} {w : World} {K : PySem.W.Frag} {mg : Str → Option Value} {base : Heap} {f : Addr} {cdv : Value} {A : Around} {outer : List Env} {s : Shared} {H : Hp} {E : XK} (T : Txt mg)
    (hr : Room 1 (A.deeper (envOfC "put_in" (defScope s_put_in) s.heap.objs.size f cdv))) : DSs (cxOf CX0 P w K mg base ["lot", "guard", "one"] "put_in" (defScope s_put_in) f cdv A outer s H E).nox EX0 (defBody s_put_in) (t_put_in) := by
  have nd := sc_put_in.nd
  exact (dss_one (ds_ret (de_callTy call_tuple_of cd_tuple (by rfl) T.b_tuple (by decide +kernel) (da_cons (de_fz (df_sortSet (own := [("one", 2)]) (g := (.nm 2)) (c := dYes) (t := (dVar 2)) hr (by decide) rfl nd (by rfl) T.b_sorted (di_itM (de_add (dv 0) (de_tup (da_cons (dv 1) da_nil)))) (blkOk_by (N := ["lot", "guard", "one"]) (sc := defScope s_put_in) (by decide +kernel)) (fun _ _ _ _ _ => (dg_nm nd)) (fun _ _ _ _ _ => dts_nil) (fun _ _ _ _ _ => (dv 2)) (by decide))) da_nil))))
abbrev s_is_mark : Stmt := topS 12
theorem sc_is_mark : FnScope ["value", "part"] ["value"] (defScope s_is_mark) := ⟨rfl, rfl, rfl, by decide +kernel, rfl, by decide +kernel, by decide +kernel⟩
def t_is_mark : TDS := (dSeq (dIf (dOrT (dNotT (dB (dCall fIsi (dCons (dVar 0) (dCons (dC (.ty "tuple")) dNil))))) (dOrT (dB (dOp (fIn true) (dCall fLen (dCons (dVar 0) dNil)) (dTup (dCons (dC (.int 2)) (dCons (dC (.int 3)) dNil))))) (dNotT (dB (dCall fIsi (dCons (dOp fIx (dVar 0) (dC (.int 0))) (dCons (dC (.ty "str")) dNil))))))) (dRet (dC (.bl false))) dSkip)
    (dRet (dCall fAll (dCons (dFz (dLc (dItM (dSl (dVar 0) (dPart (dC (.int 1))) dNoPart)) (.nm 1) dYes (dCal sp_is_number (dCons (dVar 1) dNil)) [1])) dNil))))
theorem d_is_mark {P : Program} {w : World} {K : PySem.W.Frag} {mg : Str → Option Value} {base : Heap} {f : Addr} {cdv : Value} {A : Around} {outer : List Env} {s : Shared} {H : Hp} {E : XK} (T : Txt mg) (c_is_number : DCal P w K mg base CX0 3 "is_number" sp_is_number)
    (hr : Room 3 (A.deeper (envOfC "is_mark" (defScope s_is_mark) s.heap.objs.size f cdv))) : DSs (cxOf CX0 P w K mg base ["value", "part"] "is_mark" (defScope s_is_mark) f cdv A outer s H E).nox EX0 (defBody s_is_mark) (t_is_mark) := by
  have nd := sc_is_mark.nd
  exact (dss_cons (ds_if (DW.dt (dw_or (dt_not (dt_val (de_callB call_isiD cd_isi (by rfl) T.b_isinstance (by decide +kernel) (da_cons (dv 0) (da_cons (de_ty (by rfl) T.b_tuple (by decide +kernel)) da_nil))))) (dw_or (dt_nin hr (de_callB call_len cd_len (by rfl) T.b_len PySem.boot_len (da_cons (dv 0) da_nil)) (de_tup (da_cons de_int (da_cons de_int da_nil)))) (dw_or1 (dt_not (dt_val (de_callB call_isiD cd_isi (by rfl) T.b_isinstance (by decide +kernel) (da_cons (de_ix (dv 0) de_int) (da_cons (de_ty (by rfl) T.b_str (by decide +kernel)) da_nil))))))))) (dss_one (ds_ret de_bl)) dss_nil)
    (dss_one (ds_ret (de_callB (cr_all rfl) cd_all (by rfl) T.b_all (by decide +kernel) (da_cons (de_fz (df_lc (own := [("part", 1)]) (g := (.nm 1)) (c := dYes) (t := (dCal sp_is_number (dCons (dVar 1) dNil))) rfl nd (di_itM (de_sl (dv 0) (do_some de_int) do_none)) (blkOk_by (N := ["value", "part"]) (sc := defScope s_is_mark) (by decide +kernel)) (fun _ _ _ _ _ => (dg_nm nd)) (fun _ _ _ _ _ => dts_nil) (fun _ _ _ _ _ => (de_c0 c_is_number hr (da_cons (dv 1) da_nil) (by omega))) (by decide))) da_nil)))))
abbrev s_is_lot_of_marks : Stmt := topS 13
theorem sc_is_lot_of_marks : FnScope ["value", "mark", "at"] ["value"] (defScope s_is_lot_of_marks) := ⟨rfl, rfl, rfl, by decide +kernel, rfl, by decide +kernel, by decide +kernel⟩
def t_is_lot_of_marks : TDS := (dSeq (dIf (dOrT (dNotT (dB (dCall fIsi (dCons (dVar 0) (dCons (dC (.ty "tuple")) dNil))))) (dNotT (dB (dCall fAll (dCons (dFz (dLc (dItM (dVar 0)) (.nm 1) dYes (dCal sp_is_mark (dCons (dVar 1) dNil)) [1])) dNil))))) (dRet (dC (.bl false))) dSkip)
    (dRet (dCall fAll (dCons (dFz (dLc (dRng1 (dCons (dOp fSub (dCall fLen (dCons (dVar 0) dNil)) (dC (.int 1))) dNil)) (.nm 2) dYes (dOp fLtD (dOp fIx (dVar 0) (dVar 2)) (dOp fIx (dVar 0) (dOp fAdd (dVar 2) (dC (.int 1))))) [2])) dNil))))
theorem d_is_lot_of_marks {P : Program} {w : World} {K : PySem.W.Frag} {mg : Str → Option Value} {base : Heap} {f : Addr} {cdv : Value} {A : Around} {outer : List Env} {s : Shared} {H : Hp} {E : XK} (T : Txt mg) (c_is_mark : DCal P w K mg base CX0 4 "is_mark" sp_is_mark)
    (hr : Room 4 (A.deeper (envOfC "is_lot_of_marks" (defScope s_is_lot_of_marks) s.heap.objs.size f cdv))) : DSs (cxOf CX0 P w K mg base ["value", "mark", "at"] "is_lot_of_marks" (defScope s_is_lot_of_marks) f cdv A outer s H E).nox EX0 (defBody s_is_lot_of_marks) (t_is_lot_of_marks) := by
  have nd := sc_is_lot_of_marks.nd
  exact (dss_cons (ds_if (DW.dt (dw_or (dt_not (dt_val (de_callB call_isiD cd_isi (by rfl) T.b_isinstance (by decide +kernel) (da_cons (dv 0) (da_cons (de_ty (by rfl) T.b_tuple (by decide +kernel)) da_nil))))) (dw_or1 (dt_not (dt_val (de_callB (cr_all rfl) cd_all (by rfl) T.b_all (by decide +kernel) (da_cons (de_fz (df_lc (own := [("mark", 1)]) (g := (.nm 1)) (c := dYes) (t := (dCal sp_is_mark (dCons (dVar 1) dNil))) rfl nd (di_itM (dv 0)) (blkOk_by (N := ["value", "mark", "at"]) (sc := defScope s_is_lot_of_marks) (by decide +kernel)) (fun _ _ _ _ _ => (dg_nm nd)) (fun _ _ _ _ _ => dts_nil) (fun _ _ _ _ _ => (de_c0 c_is_mark hr (da_cons (dv 1) da_nil) (by omega))) (by decide))) da_nil))))))) (dss_one (ds_ret de_bl)) dss_nil)
    (dss_one (ds_ret (de_callB (cr_all rfl) cd_all (by rfl) T.b_all (by decide +kernel) (da_cons (de_fz (df_lc (own := [("at", 2)]) (g := (.nm 2)) (c := dYes) (t := (dOp fLtD (dOp fIx (dVar 0) (dVar 2)) (dOp fIx (dVar 0) (dOp fAdd (dVar 2) (dC (.int 1)))))) rfl nd (DI.mv (di_rng1 (by rfl) T.b_range (da_cons (de_sub (de_callB call_len cd_len (by rfl) T.b_len PySem.boot_len (da_cons (dv 0) da_nil)) de_int) da_nil))) (blkOk_by (N := ["value", "mark", "at"]) (sc := defScope s_is_lot_of_marks) (by decide +kernel)) (fun _ _ _ _ _ => (dg_nm nd)) (fun _ _ _ _ _ => dts_nil) (fun _ _ _ _ _ => (de_ltD hr (de_ix (dv 0) (dv 2)) (de_ix (dv 0) (de_add (dv 2) de_int)))) (by decide))) da_nil)))))
abbrev s_crossed : Stmt := topS 14
theorem sc_crossed : FnScope ["lots", "found", "lot", "longer", "one", "mark"] ["lots"] (defScope s_crossed) := ⟨rfl, rfl, rfl, by decide +kernel, rfl, by decide +kernel, by decide +kernel⟩
def t_crossed : TDS := (dSeq (dSet 1 (dTup (dCons (dTup dNil) dNil)))
    (dSeq (dFor (dIt (dVar 0)) (.nm 2) (dSeq (dOwn 3 (dLst dNil))
    (dSeq (dFor (dIt (dVar 1)) (.nm 4) (dIf (dB (dCall fAny (dCons (dFz (dLc (dItM (dVar 4)) (.nm 5) dYes (dOp (fIn false) (dVar 5) (dVar 2)) [5])) dNil))) (dApp 3 (dVar 4)) (dExt 3 (dFz (dLc (dItM (dVar 2)) (.nm 5) dYes (dCal sp_put_in (dCons (dVar 4) (dCons (dVar 5) dNil))) [5])))))
    (dFrz 3 (dSet 1 (dCal sp_least_ones (dCons (dVar 3) dNil)))))))
    (dRet (dVar 1))))
theorem d_crossed {P : Program} {w : World} {K : PySem.W.Frag} {mg : Str → Option Value} {base : Heap} {f : Addr} {cdv : Value} {A : Around} {outer : List Env} {s : Shared} {H : Hp} {E : XK} (T : Txt mg) (c_put_in : DCal P w K mg base CX0 2 "put_in" sp_put_in) (c_least_ones : DCal P w K mg base CX0 2 "least_ones" sp_least_ones)
    (hr : Room 2 (A.deeper (envOfC "crossed" (defScope s_crossed) s.heap.objs.size f cdv))) : DSs (cxOf CX0 P w K mg base ["lots", "found", "lot", "longer", "one", "mark"] "crossed" (defScope s_crossed) f cdv A outer s H E).nox EX0 (defBody s_crossed) (t_crossed) := by
  have nd := sc_crossed.nd
  exact (dss_cons (ds_set nd (de_tup (da_cons (de_tup da_nil) da_nil)))
    (dss_cons (ds_for PassesOwn.never rfl (di_it (dv 0)) (g := (.nm 2)) (dg_nm nd) (dss_cons (ds_own nd (df_lst da_nil))
    (dss_cons (ds_for PassesOwn.never rfl (di_it (dv 1)) (g := (.nm 4)) (dg_nm nd) (dss_one (ds_if (dt_val (de_callB (cr_any rfl) cd_any (by rfl) T.b_any (by decide +kernel) (da_cons (de_fz (df_lc (own := [("mark", 5)]) (g := (.nm 5)) (c := dYes) (t := (dOp (fIn false) (dVar 5) (dVar 2))) rfl nd (di_itM (dv 4)) (blkOk_by (N := ["lots", "found", "lot", "longer", "one", "mark"]) (sc := defScope s_crossed) (by decide +kernel)) (fun _ _ _ _ _ => (dg_nm nd)) (fun _ _ _ _ _ => dts_nil) (fun _ _ _ _ _ => (de_in hr (dv 5) (dv 2))) (by decide))) da_nil))) (dss_one (ds_app 3 (dv 4))) (dss_one (ds_ext 3 (de_fz (df_lc (own := [("mark", 5)]) (g := (.nm 5)) (c := dYes) (t := (dCal sp_put_in (dCons (dVar 4) (dCons (dVar 5) dNil)))) rfl nd (di_itM (dv 2)) (blkOk_by (N := ["lots", "found", "lot", "longer", "one", "mark"]) (sc := defScope s_crossed) (by decide +kernel)) (fun _ _ _ _ _ => (dg_nm nd)) (fun _ _ _ _ _ => dts_nil) (fun _ _ _ _ _ => (de_c0 c_put_in hr (da_cons (dv 4) (da_cons (dv 5) da_nil)) (by omega))) (by decide))))))))
    (dss_frz 3 (dss_one (ds_set nd (de_c0 c_least_ones hr (da_cons (dv 3) da_nil) (by omega))))))))
    (dss_one (ds_ret (dv 1)))))
abbrev s_crossings_of : Stmt := topS 15
theorem sc_crossings_of : FnScope ["lots", "told", "at", "lot"] ["lots"] (defScope s_crossings_of) := ⟨rfl, rfl, rfl, by decide +kernel, rfl, by decide +kernel, by decide +kernel⟩
def t_crossings_of (C_InvalidLots : Addr) : TDS := (dSeq (dSet 1 (dCal (sp_as_tuples 4) (dCons (dVar 0) dNil)))
    (dSeq (dIf (dNotT (dB (dCall fIsi (dCons (dVar 1) (dCons (dC (.ty "tuple")) dNil))))) (dRaise C_InvalidLots "at" (dCons (dNeg (dC (.int 1))) dNil)) dSkip)
    (dSeq (dFor (dEnum (dCons (dVar 1) dNil)) (.tp [(.nm 2), (.nm 3)]) (dIf (dNotT (dB (dCal sp_is_lot_of_marks (dCons (dVar 3) dNil)))) (dRaise C_InvalidLots "at" (dCons (dVar 2) dNil)) dSkip))
    (dRet (dCal sp_crossed (dCons (dVar 1) dNil))))))
theorem d_crossings_of {P : Program} {w : World} {K : PySem.W.Frag} {mg : Str → Option Value} {base : Heap} {f : Addr} {cdv : Value} {A : Around} {outer : List Env} {s : Shared} {H : Hp} {E : XK} {C_InvalidLots L_InvalidLots f_InvalidLots : Addr} (T : Txt mg) (x_InvalidLots : PySem.ErrY.Txt P K mg "InvalidLots" "at" "no such row of lots" C_InvalidLots L_InvalidLots f_InvalidLots) (c_as_tuples : DCal P w K mg base CX0 6 "as_tuples" (sp_as_tuples 4)) (c_is_lot_of_marks : DCal P w K mg base CX0 5 "is_lot_of_marks" sp_is_lot_of_marks) (c_crossed : DCal P w K mg base CX0 3 "crossed" sp_crossed)
    (hr : Room 6 (A.deeper (envOfC "crossings_of" (defScope s_crossings_of) s.heap.objs.size f cdv))) : DSs (cxOf (L2.CX P w) P w K mg base ["lots", "told", "at", "lot"] "crossings_of" (defScope s_crossings_of) f cdv A outer s H E) (fun c d _ H => E c d H) (defBody s_crossings_of) (t_crossings_of C_InvalidLots) := by
  have nd := sc_crossings_of.nd
  have tk : Takes (cxOf (L2.CX P w) P w K mg base ["lots", "told", "at", "lot"] "crossings_of" (defScope s_crossings_of) f cdv A outer s H E) (fun c d _ H => E c d H) := takes_of rfl rfl rfl rfl
  have po : PassesOwn (model P w) (cxOf (L2.CX P w) P w K mg base ["lots", "told", "at", "lot"] "crossings_of" (defScope s_crossings_of) f cdv A outer s H E).A (cxOf (L2.CX P w) P w K mg base ["lots", "told", "at", "lot"] "crossings_of" (defScope s_crossings_of) f cdv A outer s H E).env (cxOf (L2.CX P w) P w K mg base ["lots", "told", "at", "lot"] "crossings_of" (defScope s_crossings_of) f cdv A outer s H E).xe := passes_of rfl
  exact (dss_cons (ds_set nd (de_c0 c_as_tuples hr (da_cons (dv 0) da_nil) (by omega)))
    (dss_cons (ds_if (dt_not (dt_val (de_callB call_isiD cd_isi (by rfl) T.b_isinstance (by decide +kernel) (da_cons (dv 1) (da_cons (de_ty (by rfl) T.b_tuple (by decide +kernel)) da_nil))))) (dss_one (ds_raise rfl tk x_InvalidLots fo_at hr (by decide) (da_cons (de_neg de_int) da_nil))) dss_nil)
    (dss_cons (ds_for po rfl (di_enum (by rfl) T.b_enumerate (da_cons (dv 1) da_nil)) (g := (.tp [(.nm 2), (.nm 3)])) (dg_tp rfl (dgs_cons (dg_nm nd) (dgs_cons (dg_nm nd) dgs_nil))) (dss_one (ds_if (dt_not (dt_val (de_c0 c_is_lot_of_marks hr (da_cons (dv 3) da_nil) (by omega)))) (dss_one (ds_raise rfl tk x_InvalidLots fo_at hr (by decide) (da_cons (dv 2) da_nil))) dss_nil)))
    (dss_one (ds_ret (de_c0 c_crossed hr (da_cons (dv 1) da_nil) (by omega)))))))
abbrev s_law_box : Stmt := topS 17
theorem sc_law_box : FnScope ["script", "cells", "blend", "cell"] ["script"] (defScope s_law_box) := ⟨rfl, rfl, rfl, by decide +kernel, rfl, by decide +kernel, by decide +kernel⟩
def t_law_box : TDS := (dSeq (dSet 1 (dFz (dLc (dItM (dSl (dVar 0) dNoPart (dPart (dC (.int 60))))) (.nm 3) dYes (dCall fAbs (dCons (dCall fIntC (dCons (dVar 3) dNil)) dNil)) [3])))
    (dSeq (dSet 2 (dC (.int 77023)))
    (dSeq (dFor (dIt (dVar 1)) (.nm 3) (dSet 2 (dOp fMod (dCall fIntC (dCons (dOp fAdd (dOp fAdd (dOp fMul (dVar 2) (dC (.int 16807))) (dOp fMod (dCall fIntC (dCons (dVar 3) dNil)) (dC (.int 2147483563)))) (dC (.int 59))) dNil)) (dC (.int 2147483647)))))
    (dRet (dTok (dLst (dCons (dTok (dLc (dItM (dVar 1)) (.nm 3) (dB (dOp fGe (dVar 3) (dOp fPow (dC (.int 10)) (dC (.int 18))))) (dVar 3) [3])) (dCons (dVar 2) dNil))))))))
theorem d_law_box {P : Program} {w : World} {K : PySem.W.Frag} {mg : Str → Option Value} {base : Heap} {f : Addr} {cdv : Value} {A : Around} {outer : List Env} {s : Shared} {H : Hp} {E : XK} (T : Txt mg)
    (hr : Room 1 (A.deeper (envOfC "_law_box" (defScope s_law_box) s.heap.objs.size f cdv))) : DSs (cxOf CX0 P w K mg base ["script", "cells", "blend", "cell"] "_law_box" (defScope s_law_box) f cdv A outer s H E).nox EX0 (defBody s_law_box) (t_law_box) := by
  have nd := sc_law_box.nd
  exact (dss_cons (ds_setLc (own := [("cell", 3)]) (g := (.nm 3)) (c := dYes) (t := (dCall fAbs (dCons (dCall fIntC (dCons (dVar 3) dNil)) dNil))) rfl nd (di_itM (de_sl (dv 0) do_none (do_some de_int))) (blkOk_by (N := ["script", "cells", "blend", "cell"]) (sc := defScope s_law_box) (by decide +kernel)) (fun _ _ _ _ _ => (dg_nm nd)) (fun _ _ _ _ _ => dts_nil) (fun _ _ _ _ _ => (de_callB call_abs cd_abs (by rfl) T.b_abs (by decide +kernel) (da_cons (de_callTy call_int1 cd_int (by rfl) T.b_int (by decide +kernel) (da_cons (dv 3) da_nil)) da_nil))) (by decide))
    (dss_cons (ds_set nd de_int)
    (dss_cons (ds_for PassesOwn.never rfl (di_it (dv 1)) (g := (.nm 3)) (dg_nm nd) (dss_one (ds_set nd (de_mod (de_callTy call_int1 cd_int (by rfl) T.b_int (by decide +kernel) (da_cons (de_add (de_add (de_mul (dv 2) de_int) (de_mod (de_callTy call_int1 cd_int (by rfl) T.b_int (by decide +kernel) (da_cons (dv 3) da_nil)) de_int)) de_int) da_nil)) de_int))))
    (dss_one (ds_ret (de_tok (df_lst (da_cons (de_tok (df_lc (own := [("cell", 3)]) (g := (.nm 3)) (c := (dB (dOp fGe (dVar 3) (dOp fPow (dC (.int 10)) (dC (.int 18)))))) (t := (dVar 3)) rfl nd (di_itM (dv 1)) (blkOk_by (N := ["script", "cells", "blend", "cell"]) (sc := defScope s_law_box) (by decide +kernel)) (fun _ _ _ _ _ => (dg_nm nd)) (fun _ _ _ _ _ => (dts_one (dt_ge (dv 3) (de_pow de_int de_int)))) (fun _ _ _ _ _ => (dv 3)) (by decide))) (da_cons (dv 2) da_nil)))))))))
abbrev s_law_draw : Stmt := topS 18
theorem sc_law_draw : FnScope ["box", "many", "turn", "rest"] ["box", "many"] (defScope s_law_draw) := ⟨rfl, rfl, rfl, by decide +kernel, rfl, by decide +kernel, by decide +kernel⟩
def t_law_draw : TDS := (dSeq (dFor (dRng1 (dCons (dC (.int 60)) dNil)) (.nm 2) (dIf (dAndT (dB (dOp fNe (dOp fIx (dVar 0) (dC (.int 0))) (dFz (dLst dNil)))) (dB (dOp fEq (dOp fIx (dOp fIx (dVar 0) (dC (.int 0))) (dC (.int 0))) (dC (.int 0))))) (dExp (dMt fMtPop (dOp fIx (dVar 0) (dC (.int 0))) (dCons (dC (.int 0)) dNil))) dSkip))
    (dSeq (dIf (dB (dOp fNe (dOp fIx (dVar 0) (dC (.int 0))) (dFz (dLst dNil)))) (dSeq (dSet 3 (dCall fIntC (dCons (dMt fMtPop (dOp fIx (dVar 0) (dC (.int 0))) (dCons (dC (.int 0)) dNil)) dNil)))
    (dSeq (dExp (dMt fMtIns (dOp fIx (dVar 0) (dC (.int 0))) (dCons (dC (.int 0)) (dCons (dOp fDiv (dVar 3) (dVar 1)) dNil))))
    (dRet (dOp fMod (dCall fIntC (dCons (dVar 3) dNil)) (dVar 1))))) dSkip)
    (dSeq (dPutT (dOp fMod (dCall fIntC (dCons (dOp fAdd (dOp fMul (dOp fIx (dVar 0) (dC (.int 1))) (dC (.int 16807))) (dC (.int 41))) dNil)) (dC (.int 2147483647))) (dVar 0) (dC (.int 1)))
    (dRet (dOp fMod (dCall fIntC (dCons (dOp fDiv (dOp fIx (dVar 0) (dC (.int 1))) (dC (.int 101))) dNil)) (dVar 1))))))
theorem d_law_draw {P : Program} {w : World} {K : PySem.W.Frag} {mg : Str → Option Value} {base : Heap} {f : Addr} {cdv : Value} {A : Around} {outer : List Env} {s : Shared} {H : Hp} {E : XK} (T : Txt mg)
    (hr : Room 1 (A.deeper (envOfC "_law_draw" (defScope s_law_draw) s.heap.objs.size f cdv))) : DSs (cxOf CX0 P w K mg base ["box", "many", "turn", "rest"] "_law_draw" (defScope s_law_draw) f cdv A outer s H E).nox EX0 (defBody s_law_draw) (t_law_draw) := by
  have nd := sc_law_draw.nd
  exact (dss_cons (ds_for PassesOwn.never rfl (di_rng1 (by rfl) T.b_range (da_cons de_int da_nil)) (g := (.nm 2)) (dg_nm nd) (dss_one (ds_if (DW.dt (dw_and (dt_ne hr (de_ix (dv 0) de_int) (de_fz (df_lst da_nil))) (dw_and1 (dt_eq hr (de_ix (de_ix (dv 0) de_int) de_int) de_int)))) (dss_one (ds_exp (de_tpop (de_ix (dv 0) de_int) (da_cons de_int da_nil)))) dss_nil)))
    (dss_cons (ds_if (dt_ne hr (de_ix (dv 0) de_int) (de_fz (df_lst da_nil))) (dss_cons (ds_set nd (de_callTy call_int1 cd_int (by rfl) T.b_int (by decide +kernel) (da_cons (de_tpop (de_ix (dv 0) de_int) (da_cons de_int da_nil)) da_nil)))
    (dss_cons (ds_exp (de_tins (de_ix (dv 0) de_int) (da_cons de_int (da_cons (de_div (dv 3) (dv 1)) da_nil))))
    (dss_one (ds_ret (de_mod (de_callTy call_int1 cd_int (by rfl) T.b_int (by decide +kernel) (da_cons (dv 3) da_nil)) (dv 1)))))) dss_nil)
    (dss_cons (ds_putT (de_mod (de_callTy call_int1 cd_int (by rfl) T.b_int (by decide +kernel) (da_cons (de_add (de_mul (de_ix (dv 0) de_int) de_int) de_int) da_nil)) de_int) (dv 0) de_int)
    (dss_one (ds_ret (de_mod (de_callTy call_int1 cd_int (by rfl) T.b_int (by decide +kernel) (da_cons (de_div (de_ix (dv 0) de_int) de_int) da_nil)) (dv 1)))))))
abbrev s_law_pick : Stmt := topS 19
theorem sc_law_pick : FnScope ["box", "some"] ["box", "some"] (defScope s_law_pick) := ⟨rfl, rfl, rfl, by decide +kernel, rfl, by decide +kernel, by decide +kernel⟩
def t_law_pick : TDS := (dRet (dOp fIx (dVar 1) (dCal sp_law_draw (dCons (dVar 0) (dCons (dCall fLen (dCons (dVar 1) dNil)) dNil)))))
theorem d_law_pick {P : Program} {w : World} {K : PySem.W.Frag} {mg : Str → Option Value} {base : Heap} {f : Addr} {cdv : Value} {A : Around} {outer : List Env} {s : Shared} {H : Hp} {E : XK} (T : Txt mg) (c_law_draw : DCal P w K mg base CX0 2 "_law_draw" sp_law_draw)
    (hr : Room 2 (A.deeper (envOfC "_law_pick" (defScope s_law_pick) s.heap.objs.size f cdv))) : DSs (cxOf CX0 P w K mg base ["box", "some"] "_law_pick" (defScope s_law_pick) f cdv A outer s H E).nox EX0 (defBody s_law_pick) (t_law_pick) := by
  have nd := sc_law_pick.nd
  exact (dss_one (ds_ret (de_ix (dv 1) (de_c0 c_law_draw hr (da_cons (dv 0) (da_cons (de_callB call_len cd_len (by rfl) T.b_len PySem.boot_len (da_cons (dv 1) da_nil)) da_nil)) (by omega)))))
abbrev s_law_name : Stmt := topS 20
theorem sc_law_name : FnScope ["box", "used", "turn", "name", "names", "sign", "one"] ["box", "used"] (defScope s_law_name) := ⟨rfl, rfl, rfl, by decide +kernel, rfl, by decide +kernel, by decide +kernel⟩
def t_law_name : TDS := (dSeq (dFor (dRng1 (dCons (dC (.int 9)) dNil)) (.nm 2) (dSeq (dSet 3 (dOp fJoin (dC (.str "")) (dFz (dLc (dRng1 (dCons (dOp fAdd (dC (.int 1)) (dCal sp_law_draw (dCons (dVar 0) (dCons (dC (.int 3)) dNil)))) dNil)) (.nm 5) dYes (dCal sp_law_pick (dCons (dVar 0) (dCons (dFz (dCallF fList (dCons (dC (.str "abmxyz")) dNil))) dNil))) [5]))))
    (dIf (dB (dOp (fIn true) (dVar 3) (dVar 1))) (dSeq (dExp (dMt fMtApp (dVar 1) (dCons (dVar 3) dNil)))
    (dRet (dVar 3))) dSkip)))
    (dSeq (dSet 4 (dOp fAdd (dFz (dLc (dItM (dC (.str "bcdefghijklmnoprstuvw"))) (.nm 5) dYes (dOp fAdd (dC (.str "q")) (dVar 5)) [5])) (dFz (dLc (dItM (dC (.str "bcdefghijklmnoprstuvw"))) (.nm 5) dYes (dOp fAdd (dVar 5) (dC (.str "qq"))) [5]))))
    (dSeq (dSet 3 (dOp fIx (dFz (dLc (dItM (dVar 4)) (.nm 6) (dB (dOp (fIn true) (dVar 6) (dVar 1))) (dVar 6) [6])) (dC (.int 0))))
    (dSeq (dExp (dMt fMtApp (dVar 1) (dCons (dVar 3) dNil)))
    (dRet (dVar 3))))))
theorem d_law_name {P : Program} {w : World} {K : PySem.W.Frag} {mg : Str → Option Value} {base : Heap} {f : Addr} {cdv : Value} {A : Around} {outer : List Env} {s : Shared} {H : Hp} {E : XK} (T : Txt mg) (c_law_draw : DCal P w K mg base CX0 2 "_law_draw" sp_law_draw) (c_law_pick : DCal P w K mg base CX0 3 "_law_pick" sp_law_pick)
    (hr : Room 3 (A.deeper (envOfC "_law_name" (defScope s_law_name) s.heap.objs.size f cdv))) : DSs (cxOf CX0 P w K mg base ["box", "used", "turn", "name", "names", "sign", "one"] "_law_name" (defScope s_law_name) f cdv A outer s H E).nox EX0 (defBody s_law_name) (t_law_name) := by
  have nd := sc_law_name.nd
  exact (dss_cons (ds_for PassesOwn.never rfl (di_rng1 (by rfl) T.b_range (da_cons de_int da_nil)) (g := (.nm 2)) (dg_nm nd) (dss_cons (ds_set nd (de_join de_str (de_fz (df_lc (own := [("sign", 5)]) (g := (.nm 5)) (c := dYes) (t := (dCal sp_law_pick (dCons (dVar 0) (dCons (dFz (dCallF fList (dCons (dC (.str "abmxyz")) dNil))) dNil)))) rfl nd (DI.mv (di_rng1 (by rfl) T.b_range (da_cons (de_add de_int (de_c0 c_law_draw hr (da_cons (dv 0) (da_cons de_int da_nil)) (by omega))) da_nil))) (blkOk_by (N := ["box", "used", "turn", "name", "names", "sign", "one"]) (sc := defScope s_law_name) (by decide +kernel)) (fun _ _ _ _ _ => (dg_nm nd)) (fun _ _ _ _ _ => dts_nil) (fun _ _ _ _ _ => (de_c0 c_law_pick hr (da_cons (dv 0) (da_cons (de_fz (df_list rfl (by rfl) T.b_list (da_cons de_str da_nil))) da_nil)) (by omega))) (by decide))) (str_c _)))
    (dss_one (ds_if (dt_nin hr (dv 3) (dv 1)) (dss_cons (ds_exp (de_tapp (dv 1) (da_cons (dv 3) da_nil)))
    (dss_one (ds_ret (dv 3)))) dss_nil))))
    (dss_cons (ds_set nd (de_add (de_fz (df_lc (own := [("sign", 5)]) (g := (.nm 5)) (c := dYes) (t := (dOp fAdd (dC (.str "q")) (dVar 5))) rfl nd (di_itM de_str) (blkOk_by (N := ["box", "used", "turn", "name", "names", "sign", "one"]) (sc := defScope s_law_name) (by decide +kernel)) (fun _ _ _ _ _ => (dg_nm nd)) (fun _ _ _ _ _ => dts_nil) (fun _ _ _ _ _ => (de_add de_str (dv 5))) (by decide))) (de_fz (df_lc (own := [("sign", 5)]) (g := (.nm 5)) (c := dYes) (t := (dOp fAdd (dVar 5) (dC (.str "qq")))) rfl nd (di_itM de_str) (blkOk_by (N := ["box", "used", "turn", "name", "names", "sign", "one"]) (sc := defScope s_law_name) (by decide +kernel)) (fun _ _ _ _ _ => (dg_nm nd)) (fun _ _ _ _ _ => dts_nil) (fun _ _ _ _ _ => (de_add (dv 5) de_str)) (by decide)))))
    (dss_cons (ds_set nd (de_ix (de_fz (df_lc (own := [("one", 6)]) (g := (.nm 6)) (c := (dB (dOp (fIn true) (dVar 6) (dVar 1)))) (t := (dVar 6)) rfl nd (di_itM (dv 4)) (blkOk_by (N := ["box", "used", "turn", "name", "names", "sign", "one"]) (sc := defScope s_law_name) (by decide +kernel)) (fun _ _ _ _ _ => (dg_nm nd)) (fun _ _ _ _ _ => (dts_one (dt_nin hr (dv 6) (dv 1)))) (fun _ _ _ _ _ => (dv 6)) (by decide))) de_int))
    (dss_cons (ds_exp (de_tapp (dv 1) (da_cons (dv 3) da_nil)))
    (dss_one (ds_ret (dv 3)))))))
abbrev s_law_some : Stmt := topS 21
theorem sc_law_some : FnScope ["guards", "found", "guard", "lot"] ["guards"] (defScope s_law_some) := ⟨rfl, rfl, rfl, by decide +kernel, rfl, by decide +kernel, by decide +kernel⟩
def t_law_some : TDS := (dSeq (dSet 1 (dFz (dLst (dCons (dTup dNil) dNil))))
    (dSeq (dFor (dIt (dVar 0)) (.nm 2) (dSet 1 (dOp fAdd (dVar 1) (dFz (dLc (dItM (dVar 1)) (.nm 3) dYes (dOp fAdd (dVar 3) (dTup (dCons (dVar 2) dNil))) [3])))))
    (dRet (dVar 1))))
theorem d_law_some {P : Program} {w : World} {K : PySem.W.Frag} {mg : Str → Option Value} {base : Heap} {f : Addr} {cdv : Value} {A : Around} {outer : List Env} {s : Shared} {H : Hp} {E : XK} (T : Txt mg)
    (hr : Room 1 (A.deeper (envOfC "_law_some" (defScope s_law_some) s.heap.objs.size f cdv))) : DSs (cxOf CX0 P w K mg base ["guards", "found", "guard", "lot"] "_law_some" (defScope s_law_some) f cdv A outer s H E).nox EX0 (defBody s_law_some) (t_law_some) := by
  have nd := sc_law_some.nd
  exact (dss_cons (ds_set nd (de_fz (df_lst (da_cons (de_tup da_nil) da_nil))))
    (dss_cons (ds_for PassesOwn.never rfl (di_it (dv 0)) (g := (.nm 2)) (dg_nm nd) (dss_one (ds_set nd (de_add (dv 1) (de_fz (df_lc (own := [("lot", 3)]) (g := (.nm 3)) (c := dYes) (t := (dOp fAdd (dVar 3) (dTup (dCons (dVar 2) dNil)))) rfl nd (di_itM (dv 1)) (blkOk_by (N := ["guards", "found", "guard", "lot"]) (sc := defScope s_law_some) (by decide +kernel)) (fun _ _ _ _ _ => (dg_nm nd)) (fun _ _ _ _ _ => dts_nil) (fun _ _ _ _ _ => (de_add (dv 3) (de_tup (da_cons (dv 2) da_nil)))) (by decide)))))))
    (dss_one (ds_ret (dv 1)))))
abbrev s_law_is_within : Stmt := topS 22
theorem sc_law_is_within : FnScope ["lot", "other", "guard"] ["lot", "other"] (defScope s_law_is_within) := ⟨rfl, rfl, rfl, by decide +kernel, rfl, by decide +kernel, by decide +kernel⟩
def t_law_is_within : TDS := (dRet (dOp fEq (dFz (dLc (dItM (dVar 0)) (.nm 2) (dB (dOp (fIn true) (dVar 2) (dVar 1))) (dVar 2) [2])) (dFz (dLst dNil))))
theorem d_law_is_within {P : Program} {w : World} {K : PySem.W.Frag} {mg : Str → Option Value} {base : Heap} {f : Addr} {cdv : Value} {A : Around} {outer : List Env} {s : Shared} {H : Hp} {E : XK} (T : Txt mg)
    (hr : Room 1 (A.deeper (envOfC "_law_is_within" (defScope s_law_is_within) s.heap.objs.size f cdv))) : DSs (cxOf CX0 P w K mg base ["lot", "other", "guard"] "_law_is_within" (defScope s_law_is_within) f cdv A outer s H E).nox EX0 (defBody s_law_is_within) (t_law_is_within) := by
  have nd := sc_law_is_within.nd
  exact (dss_one (ds_ret (de_eq hr (de_fz (df_lc (own := [("guard", 2)]) (g := (.nm 2)) (c := (dB (dOp (fIn true) (dVar 2) (dVar 1)))) (t := (dVar 2)) rfl nd (di_itM (dv 0)) (blkOk_by (N := ["lot", "other", "guard"]) (sc := defScope s_law_is_within) (by decide +kernel)) (fun _ _ _ _ _ => (dg_nm nd)) (fun _ _ _ _ _ => (dts_one (dt_nin hr (dv 2) (dv 1)))) (fun _ _ _ _ _ => (dv 2)) (by decide))) (de_fz (df_lst da_nil)))))
abbrev s_law_least : Stmt := topS 23
theorem sc_law_least : FnScope ["lots", "found", "lot", "one"] ["lots"] (defScope s_law_least) := ⟨rfl, rfl, rfl, by decide +kernel, rfl, by decide +kernel, by decide +kernel⟩
def t_law_least : TDS := (dSeq (dOwn 1 (dLst dNil))
    (dSeq (dFor (dIt (dVar 0)) (.nm 2) (dIf (dAndT (dB (dOp fEq (dFz (dLc (dItM (dVar 0)) (.nm 3) (dAndT (dB (dOp fNe (dVar 3) (dVar 2))) (dB (dCal sp_law_is_within (dCons (dVar 3) (dCons (dVar 2) dNil))))) (dVar 3) [3])) (dFz (dLst dNil)))) (dB (dOp (fIn true) (dVar 2) (dVar 1)))) (dApp 1 (dVar 2)) dSkip))
    (dRet (dCall fTuple (dCons (dFz (dCallF fSort (dCons (dVar 1) dNil))) dNil)))))
theorem d_law_least {P : Program} {w : World} {K : PySem.W.Frag} {mg : Str → Option Value} {base : Heap} {f : Addr} {cdv : Value} {A : Around} {outer : List Env} {s : Shared} {H : Hp} {E : XK} (T : Txt mg) (c_law_is_within : DCal P w K mg base CX0 2 "_law_is_within" sp_law_is_within)
    (hr : Room 2 (A.deeper (envOfC "_law_least" (defScope s_law_least) s.heap.objs.size f cdv))) : DSs (cxOf CX0 P w K mg base ["lots", "found", "lot", "one"] "_law_least" (defScope s_law_least) f cdv A outer s H E).nox EX0 (defBody s_law_least) (t_law_least) := by
  have nd := sc_law_least.nd
  exact (dss_cons (ds_own nd (df_lst da_nil))
    (dss_cons (ds_for PassesOwn.never rfl (di_it (dv 0)) (g := (.nm 2)) (dg_nm nd) (dss_one (ds_if (DW.dt (dw_and (dt_eq hr (de_fz (df_lc (own := [("one", 3)]) (g := (.nm 3)) (c := (dAndT (dB (dOp fNe (dVar 3) (dVar 2))) (dB (dCal sp_law_is_within (dCons (dVar 3) (dCons (dVar 2) dNil)))))) (t := (dVar 3)) rfl nd (di_itM (dv 0)) (blkOk_by (N := ["lots", "found", "lot", "one"]) (sc := defScope s_law_least) (by decide +kernel)) (fun _ _ _ _ _ => (dg_nm nd)) (fun _ _ _ _ _ => (dts_one (DW.dt (dw_and (dt_ne hr (dv 3) (dv 2)) (dw_and1 (dt_val (de_c0 c_law_is_within hr (da_cons (dv 3) (da_cons (dv 2) da_nil)) (by omega)))))))) (fun _ _ _ _ _ => (dv 3)) (by decide))) (de_fz (df_lst da_nil))) (dw_and1 (dt_nin hr (dv 2) (dv 1))))) (dss_one (ds_app 1 (dv 2))) dss_nil)))
    (dss_one (ds_ret (de_callTy call_tuple_of cd_tuple (by rfl) T.b_tuple (by decide +kernel) (da_cons (de_fz (df_sort hr (by decide) (by rfl) T.b_sorted (da_cons (dv 1) da_nil))) da_nil))))))
abbrev s_law_crossings : Stmt := topS 24
theorem sc_law_crossings : FnScope ["guards", "lots", "found", "one", "lot", "guard"] ["guards", "lots"] (defScope s_law_crossings) := ⟨rfl, rfl, rfl, by decide +kernel, rfl, by decide +kernel, by decide +kernel⟩
def t_law_crossings : TDS := (dSeq (dOwn 2 (dLst dNil))
    (dSeq (dFor (dIt (dCal sp_law_some (dCons (dVar 0) dNil))) (.nm 3) (dIf (dB (dOp fEq (dFz (dLc (dItM (dVar 1)) (.nm 4) (dB (dOp fEq (dFz (dLc (dItM (dVar 4)) (.nm 5) (dB (dOp (fIn false) (dVar 5) (dVar 3))) (dVar 5) [5])) (dFz (dLst dNil)))) (dVar 4) [4])) (dFz (dLst dNil)))) (dApp 2 (dVar 3)) dSkip))
    (dFrz 2 (dRet (dCal sp_law_least (dCons (dVar 2) dNil))))))
theorem d_law_crossings {P : Program} {w : World} {K : PySem.W.Frag} {mg : Str → Option Value} {base : Heap} {f : Addr} {cdv : Value} {A : Around} {outer : List Env} {s : Shared} {H : Hp} {E : XK} (T : Txt mg) (c_law_some : DCal P w K mg base CX0 2 "_law_some" sp_law_some) (c_law_least : DCal P w K mg base CX0 3 "_law_least" sp_law_least)
    (hr : Room 3 (A.deeper (envOfC "_law_crossings" (defScope s_law_crossings) s.heap.objs.size f cdv))) : DSs (cxOf CX0 P w K mg base ["guards", "lots", "found", "one", "lot", "guard"] "_law_crossings" (defScope s_law_crossings) f cdv A outer s H E).nox EX0 (defBody s_law_crossings) (t_law_crossings) := by
  have nd := sc_law_crossings.nd
  exact (dss_cons (ds_own nd (df_lst da_nil))
    (dss_cons (ds_for PassesOwn.never rfl (di_it (de_c0 c_law_some hr (da_cons (dv 0) da_nil) (by omega))) (g := (.nm 3)) (dg_nm nd) (dss_one (ds_if (dt_eq hr (de_fz (df_lc (own := [("lot", 4)]) (g := (.nm 4)) (c := (dB (dOp fEq (dFz (dLc (dItM (dVar 4)) (.nm 5) (dB (dOp (fIn false) (dVar 5) (dVar 3))) (dVar 5) [5])) (dFz (dLst dNil))))) (t := (dVar 4)) rfl nd (di_itM (dv 1)) (blkOk_by (N := ["guards", "lots", "found", "one", "lot", "guard"]) (sc := defScope s_law_crossings) (by decide +kernel)) (fun _ _ _ _ _ => (dg_nm nd)) (fun _ _ _ _ _ => (dts_one (dt_eq hr (de_fz (df_lc (own := [("guard", 5)]) (g := (.nm 5)) (c := (dB (dOp (fIn false) (dVar 5) (dVar 3)))) (t := (dVar 5)) rfl nd (di_itM (dv 4)) (blkOk_in (N := ["guards", "lots", "found", "one", "lot", "guard"]) (by decide +kernel)) (fun _ _ _ _ _ => (dg_nm nd)) (fun _ _ _ _ _ => (dts_one (dt_in hr (dv 5) (dv 3)))) (fun _ _ _ _ _ => (dv 5)) (by decide))) (de_fz (df_lst da_nil))))) (fun _ _ _ _ _ => (dv 4)) (by decide))) (de_fz (df_lst da_nil))) (dss_one (ds_app 2 (dv 3))) dss_nil)))
    (dss_frz 2 (dss_one (ds_ret (de_c0 c_law_least hr (da_cons (dv 2) da_nil) (by omega)))))))
abbrev s_law_marks : Stmt := topS 25
theorem sc_law_marks : FnScope ["box", "found", "one", "word", "mark"] ["box"] (defScope s_law_marks) := ⟨rfl, rfl, rfl, by decide +kernel, rfl, by decide +kernel, by decide +kernel⟩
def t_law_marks : TDS := (dSeq (dOwn 1 (dLst dNil))
    (dSeq (dFor (dRng1 (dCons (dOp fAdd (dC (.int 1)) (dCal sp_law_draw (dCons (dVar 0) (dCons (dC (.int 7)) dNil)))) dNil)) (.nm 2) (dSeq (dSet 3 (dCal sp_law_pick (dCons (dVar 0) (dCons (dFz (dLst (dCons (dC (.str "buy")) (dCons (dC (.str "wait")) (dCons (dC (.str "wait")) (dCons (dCal sp_law_name (dCons (dVar 0) (dCons (dTok (dLst dNil)) dNil))) dNil)))))) dNil))))
    (dSeq (dSet 4 (dIfE (dB (dOp fEq (dCal sp_law_draw (dCons (dVar 0) (dCons (dC (.int 2)) dNil))) (dC (.int 0)))) (dTup (dCons (dVar 3) (dCons (dCal sp_law_draw (dCons (dVar 0) (dCons (dC (.int 4)) dNil))) dNil))) (dTup (dCons (dVar 3) (dCons (dCal sp_law_draw (dCons (dVar 0) (dCons (dC (.int 3)) dNil))) (dCons (dCal sp_law_draw (dCons (dVar 0) (dCons (dOp fPow (dC (.int 10)) (dC (.int 12))) dNil))) dNil))))))
    (dIf (dB (dOp (fIn true) (dVar 4) (dVar 1))) (dApp 1 (dVar 4)) dSkip))))
    (dRet (dFz (dCallF fSort (dCons (dVar 1) dNil))))))
theorem d_law_marks {P : Program} {w : World} {K : PySem.W.Frag} {mg : Str → Option Value} {base : Heap} {f : Addr} {cdv : Value} {A : Around} {outer : List Env} {s : Shared} {H : Hp} {E : XK} (T : Txt mg) (c_law_draw : DCal P w K mg base CX0 2 "_law_draw" sp_law_draw) (c_law_name : DCal P w K mg base CX0 4 "_law_name" sp_law_name) (c_law_pick : DCal P w K mg base CX0 3 "_law_pick" sp_law_pick)
    (hr : Room 4 (A.deeper (envOfC "_law_marks" (defScope s_law_marks) s.heap.objs.size f cdv))) : DSs (cxOf CX0 P w K mg base ["box", "found", "one", "word", "mark"] "_law_marks" (defScope s_law_marks) f cdv A outer s H E).nox EX0 (defBody s_law_marks) (t_law_marks) := by
  have nd := sc_law_marks.nd
  exact (dss_cons (ds_own nd (df_lst da_nil))
    (dss_cons (ds_for PassesOwn.never rfl (di_rng1 (by rfl) T.b_range (da_cons (de_add de_int (de_c0 c_law_draw hr (da_cons (dv 0) (da_cons de_int da_nil)) (by omega))) da_nil)) (g := (.nm 2)) (dg_nm nd) (dss_cons (ds_set nd (de_c0 c_law_pick hr (da_cons (dv 0) (da_cons (de_fz (df_lst (da_cons de_str (da_cons de_str (da_cons de_str (da_cons (de_c0 c_law_name hr (da_cons (dv 0) (da_cons (de_tok (df_lst da_nil)) da_nil)) (by omega)) da_nil)))))) da_nil)) (by omega)))
    (dss_cons (ds_set nd (de_ifExp (dt_eq hr (de_c0 c_law_draw hr (da_cons (dv 0) (da_cons de_int da_nil)) (by omega)) de_int) (de_tup (da_cons (dv 3) (da_cons (de_c0 c_law_draw hr (da_cons (dv 0) (da_cons de_int da_nil)) (by omega)) da_nil))) (de_tup (da_cons (dv 3) (da_cons (de_c0 c_law_draw hr (da_cons (dv 0) (da_cons de_int da_nil)) (by omega)) (da_cons (de_c0 c_law_draw hr (da_cons (dv 0) (da_cons (de_pow de_int de_int) da_nil)) (by omega)) da_nil))))))
    (dss_one (ds_if (dt_nin hr (dv 4) (dv 1)) (dss_one (ds_app 1 (dv 4))) dss_nil)))))
    (dss_one (ds_ret (de_fz (df_sort hr (by decide) (by rfl) T.b_sorted (da_cons (dv 1) da_nil)))))))
abbrev s_law_refused : Stmt := topS 26
theorem sc_law_refused : FnScope ["value", "e"] ["value"] (defScope s_law_refused) := ⟨rfl, rfl, rfl, by decide +kernel, rfl, by decide +kernel, by decide +kernel⟩
def t_law_refused (C_InvalidLots : Addr) : TDS := (dSeq (dTry 1 C_InvalidLots "at" (fun d => .tup [d]) (dExp (dCalX (sp_crossings_of C_InvalidLots) (dCons (dVar 0) dNil))))
    (dRet (dTup dNil)))
theorem d_law_refused {P : Program} {w : World} {K : PySem.W.Frag} {mg : Str → Option Value} {base : Heap} {f : Addr} {cdv : Value} {A : Around} {outer : List Env} {s : Shared} {H : Hp} {E : XK} {C_InvalidLots L_InvalidLots f_InvalidLots : Addr} (T : Txt mg) (x_InvalidLots : PySem.ErrY.Txt P K mg "InvalidLots" "at" "no such row of lots" C_InvalidLots L_InvalidLots f_InvalidLots) (c_crossings_of : DCal P w K mg base (L2.CX P w) 7 "crossings_of" (sp_crossings_of C_InvalidLots))
    (hr : Room 7 (A.deeper (envOfC "_law_refused" (defScope s_law_refused) s.heap.objs.size f cdv))) : DSs (cxOf (L2.CX P w) P w K mg base ["value", "e"] "_law_refused" (defScope s_law_refused) f cdv A outer s H E) (fun c d _ H => E c d H) (defBody s_law_refused) (t_law_refused C_InvalidLots) := by
  have nd := sc_law_refused.nd
  have tk : Takes (cxOf (L2.CX P w) P w K mg base ["value", "e"] "_law_refused" (defScope s_law_refused) f cdv A outer s H E) (fun c d _ H => E c d H) := takes_of rfl rfl rfl rfl
  have po : PassesOwn (model P w) (cxOf (L2.CX P w) P w K mg base ["value", "e"] "_law_refused" (defScope s_law_refused) f cdv A outer s H E).A (cxOf (L2.CX P w) P w K mg base ["value", "e"] "_law_refused" (defScope s_law_refused) f cdv A outer s H E).env (cxOf (L2.CX P w) P w K mg base ["value", "e"] "_law_refused" (defScope s_law_refused) f cdv A outer s H E).xe := passes_of rfl
  exact (dss_cons (ds_try (i := 1) rfl rfl nd x_InvalidLots ⟨by rfl, by decide, .inl x_InvalidLots.gC⟩ tk (fun _ _ _ tk po => (dss_one (ds_exp (de_cX c_crossings_of hr (passAt tk) (da_cons (dv 0) da_nil))))) (suite_one x_InvalidLots))
    (dss_one (ds_ret (de_tup da_nil))))
abbrev s_law_wrong : Stmt := topS 27
theorem sc_law_wrong : FnScope ["box", "marks", "mark"] ["box", "marks"] (defScope s_law_wrong) := ⟨rfl, rfl, rfl, by decide +kernel, rfl, by decide +kernel, by decide +kernel⟩
def t_law_wrong : TDS := (dSeq (dSet 2 (dOp fIx (dVar 1) (dC (.int 0))))
    (dRet (dCal sp_law_pick (dCons (dVar 0) (dCons (dFz (dLst (dCons (dTup (dCons (dVar 2) (dCons (dVar 2) dNil))) (dCons (dC .non) (dCons (dTup (dCons (dSl (dVar 2) dNoPart (dPart (dC (.int 1)))) dNil)) (dCons (dTup (dCons (dTup (dCons (dOp fIx (dVar 2) (dC (.int 0))) (dCons (dNeg (dC (.int 1))) dNil))) dNil)) (dCons (dTup (dCons (dTup (dCons (dC (.str "a")) (dCons (dC (.int 2)) dNil))) (dCons (dTup (dCons (dC (.str "a")) (dCons (dC (.int 1)) dNil))) dNil))) (dCons (dTup (dCons (dTup (dCons (dC (.str "a")) (dCons (dC (.bl true)) dNil))) dNil)) (dCons (dC (.int 3)) (dCons (dC (.str "lot")) (dCons (dTup (dCons (dTup (dCons (dOp fIx (dVar 2) (dC (.int 1))) (dCons (dOp fIx (dVar 2) (dC (.int 0))) dNil))) dNil)) (dCons (dTup (dCons (dC (.str "ab")) dNil)) (dCons (dTup (dCons (dOp fAdd (dVar 2) (dTup (dCons (dC (.int 0)) (dCons (dC (.int 0)) dNil)))) dNil)) (dCons (dTup (dCons (dC .non) dNil)) (dCons (dTup (dCons (dTup (dCons (dC (.str "b")) (dCons (dC .non) dNil))) dNil)) dNil))))))))))))))) dNil)))))
theorem d_law_wrong {P : Program} {w : World} {K : PySem.W.Frag} {mg : Str → Option Value} {base : Heap} {f : Addr} {cdv : Value} {A : Around} {outer : List Env} {s : Shared} {H : Hp} {E : XK} (T : Txt mg) (c_law_pick : DCal P w K mg base CX0 3 "_law_pick" sp_law_pick)
    (hr : Room 3 (A.deeper (envOfC "_law_wrong" (defScope s_law_wrong) s.heap.objs.size f cdv))) : DSs (cxOf CX0 P w K mg base ["box", "marks", "mark"] "_law_wrong" (defScope s_law_wrong) f cdv A outer s H E).nox EX0 (defBody s_law_wrong) (t_law_wrong) := by
  have nd := sc_law_wrong.nd
  exact (dss_cons (ds_set nd (de_ix (dv 1) de_int))
    (dss_one (ds_ret (de_c0 c_law_pick hr (da_cons (dv 0) (da_cons (de_fz (df_lst (da_cons (de_tup (da_cons (dv 2) (da_cons (dv 2) da_nil))) (da_cons de_non (da_cons (de_tup (da_cons (de_sl (dv 2) do_none (do_some de_int)) da_nil)) (da_cons (de_tup (da_cons (de_tup (da_cons (de_ix (dv 2) de_int) (da_cons (de_neg de_int) da_nil))) da_nil)) (da_cons (de_tup (da_cons (de_tup (da_cons de_str (da_cons de_int da_nil))) (da_cons (de_tup (da_cons de_str (da_cons de_int da_nil))) da_nil))) (da_cons (de_tup (da_cons (de_tup (da_cons de_str (da_cons de_bl da_nil))) da_nil)) (da_cons de_int (da_cons de_str (da_cons (de_tup (da_cons (de_tup (da_cons (de_ix (dv 2) de_int) (da_cons (de_ix (dv 2) de_int) da_nil))) da_nil)) (da_cons (de_tup (da_cons de_str da_nil)) (da_cons (de_tup (da_cons (de_add (dv 2) (de_tup (da_cons de_int (da_cons de_int da_nil)))) da_nil)) (da_cons (de_tup (da_cons de_non da_nil)) (da_cons (de_tup (da_cons (de_tup (da_cons de_str (da_cons de_non da_nil))) da_nil)) da_nil))))))))))))))) da_nil)) (by omega)))))
abbrev s_law_once : Stmt := topS 28
theorem sc_law_once : FnScope ["box", "marks", "lots", "one", "share", "lot", "due", "at", "wrong", "mark"] ["box"] (defScope s_law_once) := ⟨rfl, rfl, rfl, by decide +kernel, rfl, by decide +kernel, by decide +kernel⟩
def t_law_once (C_InvalidLots : Addr) : TDS := (dSeq (dParO 1 2 (dCal sp_law_marks (dCons (dVar 0) dNil)) (dLst dNil))
    (dSeq (dFor (dRng1 (dCons (dCal sp_law_draw (dCons (dVar 0) (dCons (dC (.int 7)) dNil))) dNil)) (.nm 3) (dSeq (dSet 4 (dOp fAdd (dC (.int 1)) (dCal sp_law_draw (dCons (dVar 0) (dCons (dC (.int 3)) dNil)))))
    (dSeq (dSet 5 (dCall fTuple (dCons (dFz (dLc (dItM (dVar 1)) (.nm 9) (dB (dOp fLt (dCal sp_law_draw (dCons (dVar 0) (dCons (dC (.int 4)) dNil))) (dVar 4))) (dVar 9) [9])) dNil)))
    (dIf (dOrT (dB (dOp fNe (dVar 5) (dTup dNil))) (dB (dOp fEq (dCal sp_law_draw (dCons (dVar 0) (dCons (dC (.int 6)) dNil))) (dC (.int 0))))) (dApp 2 (dVar 5)) dSkip))))
    (dSeq (dSet 2 (dCall fTuple (dCons (dVar 2) dNil)))
    (dFrz 2 (dSeq (dSet 6 (dCal sp_law_crossings (dCons (dVar 1) (dCons (dVar 2) dNil))))
    (dFrz 2 (dSeq (dIf (dOrT (dB (dOp fNeS (dCall fRepr (dCons (dCalX (sp_crossings_of C_InvalidLots) (dCons (dVar 2) dNil)) dNil)) (dCall fRepr (dCons (dVar 6) dNil)))) (dB (dOp fNeS (dCall fRepr (dCons (dCalX (sp_crossings_of C_InvalidLots) (dCons (dFz (dLc (dItM (dVar 2)) (.nm 5) dYes (dFz (dCallF fList (dCons (dVar 5) dNil))) [5])) dNil)) dNil)) (dCall fRepr (dCons (dVar 6) dNil))))) (dRet (dC (.bl false))) dSkip)
    (dFrz 2 (dSeq (dIf (dB (dOp fNeS (dCall fRepr (dCons (dCalX (sp_crossings_of C_InvalidLots) (dCons (dVar 6) dNil)) dNil)) (dCall fRepr (dCons (dCal sp_law_least (dCons (dVar 2) dNil)) dNil)))) (dRet (dC (.bl false))) dSkip)
    (dSeq (dSet 7 (dCal sp_law_draw (dCons (dVar 0) (dCons (dOp fAdd (dCall fLen (dCons (dVar 2) dNil)) (dC (.int 1))) dNil))))
    (dSeq (dSet 8 (dOp fAdd (dOp fAdd (dOp fAdd (dSl (dVar 2) dNoPart (dPart (dVar 7))) (dTup (dCons (dCal sp_law_wrong (dCons (dVar 0) (dCons (dVar 1) dNil))) dNil))) (dSl (dVar 2) (dPart (dVar 7)) dNoPart)) (dTup (dCons (dC .non) dNil))))
    (dSeq (dIf (dOrT (dB (dOp fNe (dCalX sp_law_refused (dCons (dVar 8) dNil)) (dTup (dCons (dVar 7) dNil)))) (dB (dOp fNe (dCalX sp_law_refused (dCons (dCal sp_law_pick (dCons (dVar 0) (dCons (dFz (dLst (dCons (dC .non) (dCons (dC (.int 3)) (dCons (dC (.str "lots")) (dCons (dC (.bl true)) dNil)))))) dNil))) dNil)) (dTup (dCons (dNeg (dC (.int 1))) dNil))))) (dRet (dC (.bl false))) dSkip)
    (dFrz 2 (dRet (dOp fEqS (dCall fRepr (dCons (dCalX (sp_crossings_of C_InvalidLots) (dCons (dVar 2) dNil)) dNil)) (dCall fRepr (dCons (dVar 6) dNil)))))))))))))))))
theorem d_law_once {P : Program} {w : World} {K : PySem.W.Frag} {mg : Str → Option Value} {base : Heap} {f : Addr} {cdv : Value} {A : Around} {outer : List Env} {s : Shared} {H : Hp} {E : XK} {C_InvalidLots L_InvalidLots f_InvalidLots : Addr} (T : Txt mg) (x_InvalidLots : PySem.ErrY.Txt P K mg "InvalidLots" "at" "no such row of lots" C_InvalidLots L_InvalidLots f_InvalidLots) (c_law_marks : DCal P w K mg base CX0 5 "_law_marks" sp_law_marks) (c_law_draw : DCal P w K mg base CX0 2 "_law_draw" sp_law_draw) (c_law_crossings : DCal P w K mg base CX0 4 "_law_crossings" sp_law_crossings) (c_crossings_of : DCal P w K mg base (L2.CX P w) 7 "crossings_of" (sp_crossings_of C_InvalidLots)) (c_law_least : DCal P w K mg base CX0 3 "_law_least" sp_law_least) (c_law_wrong : DCal P w K mg base CX0 4 "_law_wrong" sp_law_wrong) (c_law_refused : DCal P w K mg base (L2.CX P w) 8 "_law_refused" sp_law_refused) (c_law_pick : DCal P w K mg base CX0 3 "_law_pick" sp_law_pick)
    (hG : RoomG 8 (A.deeper (envOfC "_law_once" (defScope s_law_once) s.heap.objs.size f cdv))) : DSs (cxOf CX0 P w K mg base ["box", "marks", "lots", "one", "share", "lot", "due", "at", "wrong", "mark"] "_law_once" (defScope s_law_once) f cdv A outer s H E).nox EX0 (defBody s_law_once) (t_law_once C_InvalidLots) := by
  have nd := sc_law_once.nd
  have hr := hG.toRoom
  exact (dss_cons (ds_parO rfl nd (i := 1) (j := 2) (de_c0 c_law_marks hr (da_cons (dv 0) da_nil) (by omega)) (df_lst da_nil))
    (dss_cons (ds_for PassesOwn.never rfl (di_rng1 (by rfl) T.b_range (da_cons (de_c0 c_law_draw hr (da_cons (dv 0) (da_cons de_int da_nil)) (by omega)) da_nil)) (g := (.nm 3)) (dg_nm nd) (dss_cons (ds_set nd (de_add de_int (de_c0 c_law_draw hr (da_cons (dv 0) (da_cons de_int da_nil)) (by omega))))
    (dss_cons (ds_set nd (de_callTy call_tuple_of cd_tuple (by rfl) T.b_tuple (by decide +kernel) (da_cons (de_fz (df_lc (own := [("mark", 9)]) (g := (.nm 9)) (c := (dB (dOp fLt (dCal sp_law_draw (dCons (dVar 0) (dCons (dC (.int 4)) dNil))) (dVar 4)))) (t := (dVar 9)) rfl nd (di_itM (dv 1)) (blkOk_by (N := ["box", "marks", "lots", "one", "share", "lot", "due", "at", "wrong", "mark"]) (sc := defScope s_law_once) (by decide +kernel)) (fun _ _ _ _ _ => (dg_nm nd)) (fun _ _ _ _ _ => (dts_one (dt_lt (de_c0 c_law_draw hr (da_cons (dv 0) (da_cons de_int da_nil)) (by omega)) (dv 4)))) (fun _ _ _ _ _ => (dv 9)) (by decide))) da_nil)))
    (dss_one (ds_if (DW.dt (dw_or (dt_ne hr (dv 5) (de_tup da_nil)) (dw_or1 (dt_eq hr (de_c0 c_law_draw hr (da_cons (dv 0) (da_cons de_int da_nil)) (by omega)) de_int)))) (dss_one (ds_app 2 (dv 5))) dss_nil)))))
    (dss_cons (ds_set nd (de_callTy call_tuple_of cd_tuple (by rfl) T.b_tuple (by decide +kernel) (da_cons (dv 2) da_nil)))
    (dss_frz 2 (dss_cons (ds_set nd (de_c0 c_law_crossings hr (da_cons (dv 1) (da_cons (dv 2) da_nil)) (by omega)))
    (dss_frz 2 (dss_cons (ds_if (DW.dt (dw_or (dt_neS (de_repr hG (by decide) (by rfl) T.b_repr (da_cons (de_cX c_crossings_of hr passNo (da_cons (dv 2) da_nil)) da_nil)) (de_repr hG (by decide) (by rfl) T.b_repr (da_cons (dv 6) da_nil))) (dw_or1 (dt_neS (de_repr hG (by decide) (by rfl) T.b_repr (da_cons (de_cX c_crossings_of hr passNo (da_cons (de_fz (df_lc (own := [("lot", 5)]) (g := (.nm 5)) (c := dYes) (t := (dFz (dCallF fList (dCons (dVar 5) dNil)))) rfl nd (di_itM (dv 2)) (blkOk_by (N := ["box", "marks", "lots", "one", "share", "lot", "due", "at", "wrong", "mark"]) (sc := defScope s_law_once) (by decide +kernel)) (fun _ _ _ _ _ => (dg_nm nd)) (fun _ _ _ _ _ => dts_nil) (fun _ _ _ _ _ => (de_fz (df_list rfl (by rfl) T.b_list (da_cons (dv 5) da_nil)))) (by decide))) da_nil)) da_nil)) (de_repr hG (by decide) (by rfl) T.b_repr (da_cons (dv 6) da_nil)))))) (dss_one (ds_ret de_bl)) dss_nil)
    (dss_frz 2 (dss_cons (ds_if (dt_neS (de_repr hG (by decide) (by rfl) T.b_repr (da_cons (de_cX c_crossings_of hr passNo (da_cons (dv 6) da_nil)) da_nil)) (de_repr hG (by decide) (by rfl) T.b_repr (da_cons (de_c0 c_law_least hr (da_cons (dv 2) da_nil) (by omega)) da_nil))) (dss_one (ds_ret de_bl)) dss_nil)
    (dss_cons (ds_set nd (de_c0 c_law_draw hr (da_cons (dv 0) (da_cons (de_add (de_callB call_len cd_len (by rfl) T.b_len PySem.boot_len (da_cons (dv 2) da_nil)) de_int) da_nil)) (by omega)))
    (dss_cons (ds_set nd (de_add (de_add (de_add (de_sl (dv 2) do_none (do_some (dv 7))) (de_tup (da_cons (de_c0 c_law_wrong hr (da_cons (dv 0) (da_cons (dv 1) da_nil)) (by omega)) da_nil))) (de_sl (dv 2) (do_some (dv 7)) do_none)) (de_tup (da_cons de_non da_nil))))
    (dss_cons (ds_if (DW.dt (dw_or (dt_ne hr (de_cX c_law_refused hr passNo (da_cons (dv 8) da_nil)) (de_tup (da_cons (dv 7) da_nil))) (dw_or1 (dt_ne hr (de_cX c_law_refused hr passNo (da_cons (de_c0 c_law_pick hr (da_cons (dv 0) (da_cons (de_fz (df_lst (da_cons de_non (da_cons de_int (da_cons de_str (da_cons de_bl da_nil)))))) da_nil)) (by omega)) da_nil)) (de_tup (da_cons (de_neg de_int) da_nil)))))) (dss_one (ds_ret de_bl)) dss_nil)
    (dss_frz 2 (dss_one (ds_ret (de_eqS (de_repr hG (by decide) (by rfl) T.b_repr (da_cons (de_cX c_crossings_of hr passNo (da_cons (dv 2) da_nil)) da_nil)) (de_repr hG (by decide) (by rfl) T.b_repr (da_cons (dv 6) da_nil))))))))))))))))))
abbrev s_law : Stmt := topS 29
theorem sc_law : FnScope ["script", "box", "turn"] ["script"] (defScope s_law) := ⟨rfl, rfl, rfl, by decide +kernel, rfl, by decide +kernel, by decide +kernel⟩
def t_law : TDS := (dSeq (dSet 1 (dCal sp_law_box (dCons (dVar 0) dNil)))
    (dSeq (dFor (dRng1 (dCons (dC (.int 3)) dNil)) (.nm 2) (dIf (dNotT (dB (dCalX sp_law_once (dCons (dVar 1) dNil)))) (dRet (dC (.bl false))) dSkip))
    (dRet (dC (.bl true)))))
theorem d_law {P : Program} {w : World} {K : PySem.W.Frag} {mg : Str → Option Value} {base : Heap} {f : Addr} {cdv : Value} {A : Around} {outer : List Env} {s : Shared} {H : Hp} {E : XK} (T : Txt mg) (c_law_box : DCal P w K mg base CX0 2 "_law_box" sp_law_box) (c_law_once : DCalG P w K mg base CX0 9 "_law_once" sp_law_once)
    (hG : RoomG 9 (A.deeper (envOfC "law" (defScope s_law) s.heap.objs.size f cdv))) : DSs (cxOf CX0 P w K mg base ["script", "box", "turn"] "law" (defScope s_law) f cdv A outer s H E).nox EX0 (defBody s_law) (t_law) := by
  have nd := sc_law.nd
  have hr := hG.toRoom
  exact (dss_cons (ds_set nd (de_c0 c_law_box hr (da_cons (dv 0) da_nil) (by omega)))
    (dss_cons (ds_for PassesOwn.never rfl (di_rng1 (by rfl) T.b_range (da_cons de_int da_nil)) (g := (.nm 2)) (dg_nm nd) (dss_one (ds_if (dt_not (dt_val (de_cG c_law_once hG passC0 (da_cons (dv 1) da_nil)))) (dss_one (ds_ret de_bl)) dss_nil)))
    (dss_one (ds_ret de_bl))))
end K47

set_option Elab.async false
set_option linter.all false
set_option maxRecDepth 100000
set_option maxHeartbeats 4000000
/-! K47B: the defs of the program. -/
namespace K47
open PySem PySem.Spec PyProof.Rows L2 DL
open Classical
theorem len_is_integer : ∀ ds W Q E, sp_is_integer ds W Q E → ds.length = ["value"].length := fun ds W Q E h => by
  obtain ⟨d, rfl, _⟩ := h; rfl
theorem len_is_number : ∀ ds W Q E, sp_is_number ds W Q E → ds.length = ["value"].length := fun ds W Q E h => by
  obtain ⟨d, rfl, _⟩ := h; rfl
theorem len_is_sequence : ∀ ds W Q E, sp_is_sequence ds W Q E → ds.length = ["value"].length := fun ds W Q E h => by
  obtain ⟨d, rfl, _⟩ := h; rfl
theorem wp_is_integer : ∀ ds W Q E, sp_is_integer ds W Q E → t_is_integer { nx := fun _ W' => Q .non W', rt := Q } (startG ["value"] ds) W := fun ds W Q E h => by
  obtain ⟨d, rfl, hd, q⟩ := h
  show t_is_integer _ [.fz d] W
  cases d <;> simp [tyn] at hd <;> simp [t_is_integer, dSeq, dSkip, dSet, dOwn, dFrz, dIf, dRet, dExp, dApp, dExt, dPutT, dParO, dPar, dFor, dTok, dFz, dLst, dTup, dCons, dNil, vals?, Option.map_some, Option.map_none, dVar, dC, dOp, dB, dNotT, dNotV, dAndV, dOrV, dAndT, dOrT, dIfE, dCall, dCallF, dCal, dCalX, dIt, dItM, dLc, dYes, dRng1, dSl, dPart, dNoPart, dNeg, dMt, dEnum, dSetSort, dRaise, dTry, D.seq, isStr, rv_int, rv_bl, rv_str, rv_non, rv_tup, rv_lst, rv_scr, rv_ty, rv_bor, List.map_cons, List.map_nil, List.getElem?_cons_zero, List.getElem?_cons_succ, List.set_cons_zero, List.set_cons_succ, wipeG, DEnds.x, DEnds.loop, Tgt.sto, Tgt.stoL, Option.bind_some, Bool.not_true, Bool.not_false, if_true, if_false, Bool.false_eq_true, reduceCtorEq, ite_true, ite_false, fIsi, tyn, isiT, tyNames] <;> simpa [isInt] using q
theorem wp_is_number : ∀ ds W Q E, sp_is_number ds W Q E → t_is_number { nx := fun _ W' => Q .non W', rt := Q } (startG ["value"] ds) W := fun ds W Q E h => by
  obtain ⟨d, rfl, hd, q⟩ := h
  show t_is_number _ [.fz d] W
  simp only [t_is_number, dSeq, dSkip, dSet, dOwn, dFrz, dIf, dRet, dExp, dApp, dExt, dPutT, dParO, dPar, dFor, dTok, dFz, dLst, dTup, dCons, dNil, vals?, Option.map_some, Option.map_none, dVar, dC, dOp, dB, dNotT, dNotV, dAndV, dOrV, dAndT, dOrT, dIfE, dCall, dCallF, dCal, dCalX, dIt, dItM, dLc, dYes, dRng1, dSl, dPart, dNoPart, dNeg, dMt, dEnum, dSetSort, dRaise, dTry, D.seq, isStr, rv_int, rv_bl, rv_str, rv_non, rv_tup, rv_lst, rv_scr, rv_ty, rv_bor, List.map_cons, List.map_nil, List.getElem?_cons_zero, List.getElem?_cons_succ, List.set_cons_zero, List.set_cons_succ, wipeG, DEnds.x, DEnds.loop, Tgt.sto, Tgt.stoL, Option.bind_some, Bool.not_true, Bool.not_false, if_true, if_false, Bool.false_eq_true, reduceCtorEq, ite_true, ite_false]
  refine ⟨d, rfl, hd, ?_⟩
  cases d <;> simp [isInt, fInt, dSeq, dSkip, dSet, dOwn, dFrz, dIf, dRet, dExp, dApp, dExt, dPutT, dParO, dPar, dFor, dTok, dFz, dLst, dTup, dCons, dNil, vals?, Option.map_some, Option.map_none, dVar, dC, dOp, dB, dNotT, dNotV, dAndV, dOrV, dAndT, dOrT, dIfE, dCall, dCallF, dCal, dCalX, dIt, dItM, dLc, dYes, dRng1, dSl, dPart, dNoPart, dNeg, dMt, dEnum, dSetSort, dRaise, dTry, D.seq, isStr, rv_int, rv_bl, rv_str, rv_non, rv_tup, rv_lst, rv_scr, rv_ty, rv_bor, List.map_cons, List.map_nil, List.getElem?_cons_zero, List.getElem?_cons_succ, List.set_cons_zero, List.set_cons_succ, wipeG, DEnds.x, DEnds.loop, Tgt.sto, Tgt.stoL, Option.bind_some, Bool.not_true, Bool.not_false, if_true, if_false, Bool.false_eq_true, reduceCtorEq, ite_true, ite_false] <;> simpa [isNum] using q
theorem wp_is_sequence : ∀ ds W Q E, sp_is_sequence ds W Q E → t_is_sequence { nx := fun _ W' => Q .non W', rt := Q } (startG ["value"] ds) W := fun ds W Q E h => by
  obtain ⟨d, rfl, hd, q⟩ := h
  show t_is_sequence _ [.fz d] W
  cases d <;> simp [tyn] at hd <;> simp [t_is_sequence, dSeq, dSkip, dSet, dOwn, dFrz, dIf, dRet, dExp, dApp, dExt, dPutT, dParO, dPar, dFor, dTok, dFz, dLst, dTup, dCons, dNil, vals?, Option.map_some, Option.map_none, dVar, dC, dOp, dB, dNotT, dNotV, dAndV, dOrV, dAndT, dOrT, dIfE, dCall, dCallF, dCal, dCalX, dIt, dItM, dLc, dYes, dRng1, dSl, dPart, dNoPart, dNeg, dMt, dEnum, dSetSort, dRaise, dTry, D.seq, isStr, rv_int, rv_bl, rv_str, rv_non, rv_tup, rv_lst, rv_scr, rv_ty, rv_bor, List.map_cons, List.map_nil, List.getElem?_cons_zero, List.getElem?_cons_succ, List.set_cons_zero, List.set_cons_succ, wipeG, DEnds.x, DEnds.loop, Tgt.sto, Tgt.stoL, Option.bind_some, Bool.not_true, Bool.not_false, if_true, if_false, Bool.false_eq_true, reduceCtorEq, ite_true, ite_false, fIsi, tyn, isiT, tyNames] <;> simp [isSeq] at q <;> first | exact ⟨by rw [sizeLine_eq]; decide, q⟩ | exact q
theorem fit_tyn {n : Nat} {d : D} (h : fit n d = true) : (tyn d).isSome = true := by
  cases d <;> first | rfl | (cases n <;> simp [fit] at h)
theorem fit_seq {n : Nat} {d : D} {xs : List D} (h : fit n d = true) (e : d = .lst xs ∨ d = .tup xs) : ∃ k, n = k + 1 ∧ ∀ x ∈ xs, fit k x = true := by
  rcases e with rfl | rfl
  · cases n with
    | zero => simp [fit] at h
    | succ k => exact ⟨k, rfl, by rw [fit_lst] at h; exact List.all_eq_true.mp h⟩
  · cases n with
    | zero => simp [fit] at h
    | succ k => exact ⟨k, rfl, by rw [fit_tup] at h; exact List.all_eq_true.mp h⟩
theorem asTL_map : ∀ xs : List D, asTL xs = xs.map asT
  | [] => by simp [asTL]
  | x :: xs => by simp [asTL, asTL_map xs]
theorem asT_seq {d : D} {xs : List D} (e : d = .lst xs ∨ d = .tup xs) : asT d = .tup (xs.map asT) := by
  rcases e with rfl | rfl <;> simp [asT, asTL_map]
theorem asT_atom {d : D} (e : isSeq d = false) : asT d = d := by
  cases d <;> simp [isSeq] at e <;> simp [asT]
theorem len_as_tuples (n : Nat) : ∀ ds W Q E, sp_as_tuples n ds W Q E → ds.length = ["value"].length := fun ds W Q E h => by
  cases n with
  | zero => exact h.elim
  | succ n => obtain ⟨d, rfl, _⟩ := h; rfl
theorem wp_as_tuples (n : Nat) : ∀ ds W Q E, sp_as_tuples (n + 1) ds W Q E → t_as_tuples (sp_as_tuples n) { nx := fun _ W' => Q .non W', rt := Q } (startG ["value", "part"] ds) W := fun ds W Q E h => by
  obtain ⟨d, rfl, hf, q⟩ := h
  show t_as_tuples _ _ [.fz d, .no] W
  simp only [t_as_tuples, dSeq, dSkip, dSet, dOwn, dFrz, dIf, dRet, dExp, dApp, dExt, dPutT, dParO, dPar, dFor, dTok, dFz, dLst, dTup, dCons, dNil, vals?, Option.map_some, Option.map_none, dVar, dC, dOp, dB, dNotT, dNotV, dAndV, dOrV, dAndT, dOrT, dIfE, dCall, dCallF, dCal, dCalX, dIt, dItM, dLc, dYes, dRng1, dSl, dPart, dNoPart, dNeg, dMt, dEnum, dSetSort, dRaise, dTry, D.seq, isStr, rv_int, rv_bl, rv_str, rv_non, rv_tup, rv_lst, rv_scr, rv_ty, rv_bor, List.map_cons, List.map_nil, List.getElem?_cons_zero, List.getElem?_cons_succ, List.set_cons_zero, List.set_cons_succ, wipeG, DEnds.x, DEnds.loop, Tgt.sto, Tgt.stoL, Option.bind_some, Bool.not_true, Bool.not_false, if_true, if_false, Bool.false_eq_true, reduceCtorEq, ite_true, ite_false]
  refine ⟨d, rfl, fit_tyn hf, ?_⟩
  dsimp only
  by_cases hs : isSeq d = true
  · rw [if_pos hs]
    have hx : ∃ xs, d = .lst xs ∨ d = .tup xs := by
      cases d <;> first | exact ⟨_, .inl rfl⟩ | exact ⟨_, .inr rfl⟩ | (simp [isSeq] at hs; done) | (cases n <;> simp [fit] at hf)
    obtain ⟨xs, e⟩ := hx
    obtain ⟨k, rfl, hk⟩ := fit_seq hf e
    have go : lcGo (.nm 1) dYes (dCal (sp_as_tuples (k + 1)) (dCons (dVar 1) dNil)) [.fz d, .no] xs [] W fun ys W' => Q (.tup ys) W' := by
      refine lcGo_map asT xs (fun x hx => ⟨_, rfl, fun R r => ?_⟩) ?_
      · simp only [dSeq, dSkip, dSet, dOwn, dFrz, dIf, dRet, dExp, dApp, dExt, dPutT, dParO, dPar, dFor, dTok, dFz, dLst, dTup, dCons, dNil, vals?, Option.map_some, Option.map_none, dVar, dC, dOp, dB, dNotT, dNotV, dAndV, dOrV, dAndT, dOrT, dIfE, dCall, dCallF, dCal, dCalX, dIt, dItM, dLc, dYes, dRng1, dSl, dPart, dNoPart, dNeg, dMt, dEnum, dSetSort, dRaise, dTry, D.seq, isStr, rv_int, rv_bl, rv_str, rv_non, rv_tup, rv_lst, rv_scr, rv_ty, rv_bor, List.map_cons, List.map_nil, List.getElem?_cons_zero, List.getElem?_cons_succ, List.set_cons_zero, List.set_cons_succ, wipeG, DEnds.x, DEnds.loop, Tgt.sto, Tgt.stoL, Option.bind_some, Bool.not_true, Bool.not_false, if_true, if_false, Bool.false_eq_true, reduceCtorEq, ite_true, ite_false]
        exact ⟨x, rfl, hk x hx, r⟩
      · rw [← asT_seq e]; exact q
    rcases e with rfl | rfl
    · simp only [dSeq, dSkip, dSet, dOwn, dFrz, dIf, dRet, dExp, dApp, dExt, dPutT, dParO, dPar, dFor, dTok, dFz, dLst, dTup, dCons, dNil, vals?, Option.map_some, Option.map_none, dVar, dC, dOp, dB, dNotT, dNotV, dAndV, dOrV, dAndT, dOrT, dIfE, dCall, dCallF, dCal, dCalX, dIt, dItM, dLc, dYes, dRng1, dSl, dPart, dNoPart, dNeg, dMt, dEnum, dSetSort, dRaise, dTry, D.seq, isStr, rv_int, rv_bl, rv_str, rv_non, rv_tup, rv_lst, rv_scr, rv_ty, rv_bor, List.map_cons, List.map_nil, List.getElem?_cons_zero, List.getElem?_cons_succ, List.set_cons_zero, List.set_cons_succ, wipeG, DEnds.x, DEnds.loop, Tgt.sto, Tgt.stoL, Option.bind_some, Bool.not_true, Bool.not_false, if_true, if_false, Bool.false_eq_true, reduceCtorEq, ite_true, ite_false, fTuple]
      exact ⟨fun z => z.elim, go⟩
    · simp only [dSeq, dSkip, dSet, dOwn, dFrz, dIf, dRet, dExp, dApp, dExt, dPutT, dParO, dPar, dFor, dTok, dFz, dLst, dTup, dCons, dNil, vals?, Option.map_some, Option.map_none, dVar, dC, dOp, dB, dNotT, dNotV, dAndV, dOrV, dAndT, dOrT, dIfE, dCall, dCallF, dCal, dCalX, dIt, dItM, dLc, dYes, dRng1, dSl, dPart, dNoPart, dNeg, dMt, dEnum, dSetSort, dRaise, dTry, D.seq, isStr, rv_int, rv_bl, rv_str, rv_non, rv_tup, rv_lst, rv_scr, rv_ty, rv_bor, List.map_cons, List.map_nil, List.getElem?_cons_zero, List.getElem?_cons_succ, List.set_cons_zero, List.set_cons_succ, wipeG, DEnds.x, DEnds.loop, Tgt.sto, Tgt.stoL, Option.bind_some, Bool.not_true, Bool.not_false, if_true, if_false, Bool.false_eq_true, reduceCtorEq, ite_true, ite_false, fTuple]
      exact ⟨fun z => z.elim, go⟩
  · have hs' : isSeq d = false := by simpa using hs
    rw [if_neg hs]
    rw [asT_atom hs'] at q
    exact q
theorem len_put_in : ∀ ds W Q E, sp_put_in ds W Q E → ds.length = ["lot", "guard"].length := fun ds W Q E h => by
  obtain ⟨U, l, m, _, _, _, rfl, _⟩ := h; rfl
theorem wp_put_in : ∀ ds W Q E, sp_put_in ds W Q E → t_put_in { nx := fun _ W' => Q .non W', rt := Q } (startG ["lot", "guard", "one"] ds) W := fun ds W Q E h => by
  obtain ⟨U, l, m, hU, sl, hm, rfl, q⟩ := h
  show t_put_in _ [.fz (.tup l), .fz m, .no] W
  have hl : l.length ≤ 7 := Nat.le_trans sl.length_le hU.few
  have mk : ∀ x ∈ l ++ [m], x ∈ U := fun x hx => by
    rcases List.mem_append.mp hx with z | z
    · exact sl.subset z
    · rw [List.mem_singleton.mp z]; exact hm
  simp only [t_put_in, dSeq, dSkip, dSet, dOwn, dFrz, dIf, dRet, dExp, dApp, dExt, dPutT, dParO, dPar, dFor, dTok, dFz, dLst, dTup, dCons, dNil, vals?, Option.map_some, Option.map_none, dVar, dC, dOp, dB, dNotT, dNotV, dAndV, dOrV, dAndT, dOrT, dIfE, dCall, dCallF, dCal, dCalX, dIt, dItM, dLc, dYes, dRng1, dSl, dPart, dNoPart, dNeg, dMt, dEnum, dSetSort, dRaise, dTry, D.seq, isStr, rv_int, rv_bl, rv_str, rv_non, rv_tup, rv_lst, rv_scr, rv_ty, rv_bor, List.map_cons, List.map_nil, List.getElem?_cons_zero, List.getElem?_cons_succ, List.set_cons_zero, List.set_cons_succ, wipeG, DEnds.x, DEnds.loop, Tgt.sto, Tgt.stoL, Option.bind_some, Bool.not_true, Bool.not_false, if_true, if_false, Bool.false_eq_true, reduceCtorEq, ite_true, ite_false, fAdd, fTuple]
  have z1 : [m].length ≤ sizeLine := by rw [sizeLine_eq]; exact (by decide : 1 ≤ 16777216)
  refine ⟨z1, by rw [sizeLine_eq]; simp only [List.length_cons, List.length_nil]; omega, fun z => z.elim, ?_⟩
  refine scGo_all id (l ++ [m]) [] (fun x hx => ⟨_, rfl, fun R r => ?_⟩) (fun x hx => ?_) ⟨l ++ [m], by simp; omega, fun x hx => by simpa using hx⟩ ?_
  · simp only [dSeq, dSkip, dSet, dOwn, dFrz, dIf, dRet, dExp, dApp, dExt, dPutT, dParO, dPar, dFor, dTok, dFz, dLst, dTup, dCons, dNil, vals?, Option.map_some, Option.map_none, dVar, dC, dOp, dB, dNotT, dNotV, dAndV, dOrV, dAndT, dOrT, dIfE, dCall, dCallF, dCal, dCalX, dIt, dItM, dLc, dYes, dRng1, dSl, dPart, dNoPart, dNeg, dMt, dEnum, dSetSort, dRaise, dTry, D.seq, isStr, rv_int, rv_bl, rv_str, rv_non, rv_tup, rv_lst, rv_scr, rv_ty, rv_bor, List.map_cons, List.map_nil, List.getElem?_cons_zero, List.getElem?_cons_succ, List.set_cons_zero, List.set_cons_succ, wipeG, DEnds.x, DEnds.loop, Tgt.sto, Tgt.stoL, Option.bind_some, Bool.not_true, Bool.not_false, if_true, if_false, Bool.false_eq_true, reduceCtorEq, ite_true, ite_false]
    exact r
  · rw [List.map_id] at hx
    have z := hU.mo x (mk x hx)
    refine ⟨z.kok _, z.ft _, ?_⟩
    obtain ⟨w, ns, e, _⟩ := z
    exact ⟨_, e⟩
  · intro L nd mem
    have mem' : ∀ x, x ∈ L ↔ x ∈ l ++ [m] := fun x => by rw [mem]; simp
    have inU : ∀ x ∈ L, x ∈ U := fun x hx => mk x ((mem' x).mp hx)
    refine ⟨⟨fun d hd => clsM.ft d (hU.mo d (inU d hd)), fun a ha b hb => clsM.al a b (hU.mo a (inU a ha)) (hU.mo b (inU b hb)), .inr (.inl fun d hd => ?_)⟩, ?_⟩
    · obtain ⟨w, ns, e, _⟩ := hU.mo d (inU d hd)
      exact ⟨_, _, e⟩
    · rw [sort_marks hU nd inU]
      have e : (U.filter fun x => decide (x ∈ L)) = put U l m := by
        unfold put
        refine List.filter_congr fun x _ => ?_
        exact decide_eq_decide.mpr (by rw [mem' x, List.mem_append, List.mem_singleton])
      rw [e]
      exact q
end K47

set_option Elab.async false
set_option linter.all false
set_option maxRecDepth 100000
set_option maxHeartbeats 4000000
/-! K47C: the defs of the program, the rest. -/
namespace K47
open PySem PySem.Spec PyProof.Rows L2 DL
open Classical
theorem fIsi_ty {d : D} {n t : String} {Q : D → Prop} (h : tyn d = some t) (hn : n ∈ tyNames) (q : Q (.bl (isiT t n))) : fIsi [d, .ty n] Q := by
  unfold fIsi
  simp only [h]
  exact ⟨hn, q⟩
theorem len_is_mark : ∀ ds W Q E, sp_is_mark ds W Q E → ds.length = ["value"].length := fun ds W Q E h => by
  obtain ⟨d, rfl, _⟩ := h; rfl
theorem z_size {n : Nat} (h : n ≤ 1000) : n ≤ sizeLine := by rw [sizeLine_eq]; omega
theorem cut_one {α : Type} (x : α) (xs : List α) : cutL (x :: xs) (some 1) none = xs := by
  have e : ∀ (n : Nat) (l : List α), n = l.length → l.take n = l := fun n l h => by rw [h, List.take_length]
  unfold cutL
  rw [HT.sIx_none, show HT.sIx (x :: xs).length 0 (some 1) = 1 from by
    rw [show (1 : Int) = ((1 : Nat) : Int) from rfl, HT.sIx_nat, List.length_cons]; omega]
  rw [List.drop_one, List.tail_cons]
  exact e _ _ (by rw [List.length_cons]; omega)
theorem wp_is_mark : ∀ ds W Q E, sp_is_mark ds W Q E → t_is_mark { nx := fun _ W' => Q .non W', rt := Q } (startG ["value", "part"] ds) W := fun ds W Q E h => by
  obtain ⟨d, rfl, hf, q⟩ := h
  show t_is_mark _ [.fz d, .no] W
  by_cases ht : ∃ xs, d = .tup xs
  · obtain ⟨xs, rfl⟩ := ht
    simp only [t_is_mark, dSeq, dSkip, dSet, dOwn, dFrz, dIf, dRet, dExp, dApp, dExt, dPutT, dParO, dPar, dFor, dTok, dFz, dLst, dTup, dCons, dNil, vals?, Option.map_some, Option.map_none, dVar, dC, dOp, dB, dNotT, dNotV, dAndV, dOrV, dAndT, dOrT, dIfE, dCall, dCallF, dCal, dCalX, dIt, dItM, dLc, dYes, dRng1, dSl, dPart, dNoPart, dNeg, dMt, dEnum, dSetSort, dRaise, dTry, D.seq, isStr, rv_int, rv_bl, rv_str, rv_non, rv_tup, rv_lst, rv_scr, rv_ty, rv_bor, List.map_cons, List.map_nil, List.getElem?_cons_zero, List.getElem?_cons_succ, List.set_cons_zero, List.set_cons_succ, wipeG, DEnds.x, DEnds.loop, Tgt.sto, Tgt.stoL, Option.bind_some, Bool.not_true, Bool.not_false, if_true, if_false, Bool.false_eq_true, reduceCtorEq, ite_true, ite_false]
    refine fIsi_ty rfl (by decide) ?_
    simp only [show isiT "tuple" "tuple" = true from rfl, dSeq, dSkip, dSet, dOwn, dFrz, dIf, dRet, dExp, dApp, dExt, dPutT, dParO, dPar, dFor, dTok, dFz, dLst, dTup, dCons, dNil, vals?, Option.map_some, Option.map_none, dVar, dC, dOp, dB, dNotT, dNotV, dAndV, dOrV, dAndT, dOrT, dIfE, dCall, dCallF, dCal, dCalX, dIt, dItM, dLc, dYes, dRng1, dSl, dPart, dNoPart, dNeg, dMt, dEnum, dSetSort, dRaise, dTry, D.seq, isStr, rv_int, rv_bl, rv_str, rv_non, rv_tup, rv_lst, rv_scr, rv_ty, rv_bor, List.map_cons, List.map_nil, List.getElem?_cons_zero, List.getElem?_cons_succ, List.set_cons_zero, List.set_cons_succ, wipeG, DEnds.x, DEnds.loop, Tgt.sto, Tgt.stoL, Option.bind_some, Bool.not_true, Bool.not_false, if_true, if_false, Bool.false_eq_true, reduceCtorEq, ite_true, ite_false, fLen, fIn]
    refine ⟨z_size (by decide), by simp, by simp, ?_⟩
    have hin : ([D.int 2, D.int 3].any fun z => deq z (.int xs.length)) = decide (xs.length = 2 ∨ xs.length = 3) := by
      rw [Bool.eq_iff_iff]
      simp [deq]
      omega
    rw [hin]
    by_cases hl : xs.length = 2 ∨ xs.length = 3
    · simp only [hl, decide_true, Bool.not_true, Bool.false_eq_true, if_false]
      match xs, hl with
      | x :: r, hl =>
        have hfx : fit 7 x = true ∧ ∀ y ∈ r, fit 7 y = true := by
          rw [fit_tup, List.all_cons, Bool.and_eq_true] at hf
          exact ⟨hf.1, List.all_eq_true.mp hf.2⟩
        simp only [fIx]
        refine ⟨x, atI_0 x r, ?_⟩
        by_cases hx : ∃ w, x = .str w
        · obtain ⟨w, rfl⟩ := hx
          refine fIsi_ty rfl (by decide) ?_
          simp only [show isiT "str" "str" = true from rfl, dSeq, dSkip, dSet, dOwn, dFrz, dIf, dRet, dExp, dApp, dExt, dPutT, dParO, dPar, dFor, dTok, dFz, dLst, dTup, dCons, dNil, vals?, Option.map_some, Option.map_none, dVar, dC, dOp, dB, dNotT, dNotV, dAndV, dOrV, dAndT, dOrT, dIfE, dCall, dCallF, dCal, dCalX, dIt, dItM, dLc, dYes, dRng1, dSl, dPart, dNoPart, dNeg, dMt, dEnum, dSetSort, dRaise, dTry, D.seq, isStr, rv_int, rv_bl, rv_str, rv_non, rv_tup, rv_lst, rv_scr, rv_ty, rv_bor, List.map_cons, List.map_nil, List.getElem?_cons_zero, List.getElem?_cons_succ, List.set_cons_zero, List.set_cons_succ, wipeG, DEnds.x, DEnds.loop, Tgt.sto, Tgt.stoL, Option.bind_some, Bool.not_true, Bool.not_false, if_true, if_false, Bool.false_eq_true, reduceCtorEq, ite_true, ite_false, fSl, fAll]
          rw [cut_one]
          refine ⟨fun z => z.elim, ?_⟩
          refine lcGo_map (fun d => .bl (isNum d)) r (fun y hy => ⟨_, rfl, fun R r => ?_⟩) ?_
          · simp only [dSeq, dSkip, dSet, dOwn, dFrz, dIf, dRet, dExp, dApp, dExt, dPutT, dParO, dPar, dFor, dTok, dFz, dLst, dTup, dCons, dNil, vals?, Option.map_some, Option.map_none, dVar, dC, dOp, dB, dNotT, dNotV, dAndV, dOrV, dAndT, dOrT, dIfE, dCall, dCallF, dCal, dCalX, dIt, dItM, dLc, dYes, dRng1, dSl, dPart, dNoPart, dNeg, dMt, dEnum, dSetSort, dRaise, dTry, D.seq, isStr, rv_int, rv_bl, rv_str, rv_non, rv_tup, rv_lst, rv_scr, rv_ty, rv_bor, List.map_cons, List.map_nil, List.getElem?_cons_zero, List.getElem?_cons_succ, List.set_cons_zero, List.set_cons_succ, wipeG, DEnds.x, DEnds.loop, Tgt.sto, Tgt.stoL, Option.bind_some, Bool.not_true, Bool.not_false, if_true, if_false, Bool.false_eq_true, reduceCtorEq, ite_true, ite_false]
            exact ⟨y, rfl, fit_tyn (hfx.2 y hy), r⟩
          · refine ⟨by simp [isBl], ?_⟩
            have e : isMk (.tup (.str w :: r)) = (r.map fun d => D.bl (isNum d)).all isTr := by
              have e1 : (decide (r.length = 1) || decide (r.length = 2)) = true := by
                simp only [List.length_cons] at hl
                rcases hl with h | h
                · rw [show r.length = 1 from by omega]; rfl
                · rw [show r.length = 2 from by omega]; rfl
              simp only [isMk, e1, Bool.true_and, List.all_map]
              rfl
            rw [← e]
            exact q
        · obtain ⟨t, ht⟩ := Option.isSome_iff_exists.mp (fit_tyn hfx.1)
          rw [rv_fit hfx.1]
          refine fIsi_ty ht (by decide) ?_
          have e : isiT t "str" = false := by
            cases x <;> simp [tyn] at ht <;> first | (subst ht; rfl) | (exact absurd ⟨_, rfl⟩ hx)
          have e2 : isMk (.tup (x :: r)) = false := by
            cases x <;> first | rfl | (exact absurd ⟨_, rfl⟩ hx)
          simp only [e, dSeq, dSkip, dSet, dOwn, dFrz, dIf, dRet, dExp, dApp, dExt, dPutT, dParO, dPar, dFor, dTok, dFz, dLst, dTup, dCons, dNil, vals?, Option.map_some, Option.map_none, dVar, dC, dOp, dB, dNotT, dNotV, dAndV, dOrV, dAndT, dOrT, dIfE, dCall, dCallF, dCal, dCalX, dIt, dItM, dLc, dYes, dRng1, dSl, dPart, dNoPart, dNeg, dMt, dEnum, dSetSort, dRaise, dTry, D.seq, isStr, rv_int, rv_bl, rv_str, rv_non, rv_tup, rv_lst, rv_scr, rv_ty, rv_bor, List.map_cons, List.map_nil, List.getElem?_cons_zero, List.getElem?_cons_succ, List.set_cons_zero, List.set_cons_succ, wipeG, DEnds.x, DEnds.loop, Tgt.sto, Tgt.stoL, Option.bind_some, Bool.not_true, Bool.not_false, if_true, if_false, Bool.false_eq_true, reduceCtorEq, ite_true, ite_false]
          rw [e2] at q
          exact q
    · simp only [hl, decide_false, Bool.not_false, if_true]
      have e2 : isMk (.tup xs) = false := by
        match xs with
        | [] => rfl
        | x :: r =>
          simp only [List.length_cons] at hl
          have e1 : (decide (r.length = 1) || decide (r.length = 2)) = false := by simp; omega
          cases x <;> first | rfl | (simp only [isMk, e1, Bool.false_and])
      rw [e2] at q
      exact q
  · obtain ⟨t, et⟩ := Option.isSome_iff_exists.mp (fit_tyn hf)
    have e : isiT t "tuple" = false := by
      cases d <;> simp [tyn] at et <;> first | (subst et; rfl) | (exact absurd ⟨_, rfl⟩ ht)
    have e2 : isMk d = false := by
      cases d <;> first | rfl | (exact absurd ⟨_, rfl⟩ ht)
    simp only [t_is_mark, dSeq, dSkip, dSet, dOwn, dFrz, dIf, dRet, dExp, dApp, dExt, dPutT, dParO, dPar, dFor, dTok, dFz, dLst, dTup, dCons, dNil, vals?, Option.map_some, Option.map_none, dVar, dC, dOp, dB, dNotT, dNotV, dAndV, dOrV, dAndT, dOrT, dIfE, dCall, dCallF, dCal, dCalX, dIt, dItM, dLc, dYes, dRng1, dSl, dPart, dNoPart, dNeg, dMt, dEnum, dSetSort, dRaise, dTry, D.seq, isStr, rv_int, rv_bl, rv_str, rv_non, rv_tup, rv_lst, rv_scr, rv_ty, rv_bor, List.map_cons, List.map_nil, List.getElem?_cons_zero, List.getElem?_cons_succ, List.set_cons_zero, List.set_cons_succ, wipeG, DEnds.x, DEnds.loop, Tgt.sto, Tgt.stoL, Option.bind_some, Bool.not_true, Bool.not_false, if_true, if_false, Bool.false_eq_true, reduceCtorEq, ite_true, ite_false]
    rw [rv_fit hf]
    refine fIsi_ty et (by decide) ?_
    simp only [e, dSeq, dSkip, dSet, dOwn, dFrz, dIf, dRet, dExp, dApp, dExt, dPutT, dParO, dPar, dFor, dTok, dFz, dLst, dTup, dCons, dNil, vals?, Option.map_some, Option.map_none, dVar, dC, dOp, dB, dNotT, dNotV, dAndV, dOrV, dAndT, dOrT, dIfE, dCall, dCallF, dCal, dCalX, dIt, dItM, dLc, dYes, dRng1, dSl, dPart, dNoPart, dNeg, dMt, dEnum, dSetSort, dRaise, dTry, D.seq, isStr, rv_int, rv_bl, rv_str, rv_non, rv_tup, rv_lst, rv_scr, rv_ty, rv_bor, List.map_cons, List.map_nil, List.getElem?_cons_zero, List.getElem?_cons_succ, List.set_cons_zero, List.set_cons_succ, wipeG, DEnds.x, DEnds.loop, Tgt.sto, Tgt.stoL, Option.bind_some, Bool.not_true, Bool.not_false, if_true, if_false, Bool.false_eq_true, reduceCtorEq, ite_true, ite_false]
    rw [e2] at q
    exact q
theorem isMk_ok {m : D} (h : MkOk m) : isMk m = true := by
  obtain ⟨w, ns, rfl, _, _, h1, h2⟩ := h
  have e1 : (decide ((ns.map D.int).length = 1) || decide ((ns.map D.int).length = 2)) = true := by
    rw [List.length_map]
    rcases h1 with h | h <;> simp [h]
  simp only [isMk, e1, Bool.true_and, List.all_map]
  refine List.all_eq_true.mpr fun n hn => ?_
  have := (h2 n hn).1
  simpa [isNum] using this
end K47

set_option Elab.async false
set_option linter.all false
set_option maxRecDepth 100000
set_option maxHeartbeats 4000000
/-! K47D: lots of marks; the least ones. -/
namespace K47
open PySem PySem.Spec PyProof.Rows L2 DL
open Classical
theorem fit_mono : ∀ {n m : Nat} {d : D}, fit n d = true → n ≤ m → fit m d = true
  | 0, m, d, h, _ => by cases d <;> simp [fit] at h <;> simp [h]
  | n + 1, 0, d, h, hm => absurd hm (by omega)
  | n + 1, m + 1, d, h, hm => by
    cases d with
    | tup xs =>
      rw [fit_tup] at h ⊢
      exact List.all_eq_true.mpr fun x hx => fit_mono (List.all_eq_true.mp h x hx) (by omega)
    | lst xs =>
      rw [fit_lst] at h ⊢
      exact List.all_eq_true.mpr fun x hx => fit_mono (List.all_eq_true.mp h x hx) (by omega)
    | _ => simp [fit] at h <;> simp [h]
theorem isMk_shape {d : D} (h : isMk d = true) : ∃ (w : Str) (ns : List Int), d = .tup (.str w :: ns.map .int) ∧ (ns.length = 1 ∨ ns.length = 2) ∧ ∀ n ∈ ns, (0 : Int) ≤ n := by
  unfold isMk at h
  split at h
  · rename_i w r
    rw [Bool.and_eq_true, Bool.or_eq_true, decide_eq_true_eq, decide_eq_true_eq] at h
    obtain ⟨h1, h2⟩ := h
    have : ∀ r : List D, r.all isNum = true → ∃ ns : List Int, r = ns.map .int ∧ ∀ n ∈ ns, (0 : Int) ≤ n := by
      intro r
      induction r with
      | nil => intro _; exact ⟨[], rfl, fun n hn => by cases hn⟩
      | cons x r ih =>
        intro h
        rw [List.all_cons, Bool.and_eq_true] at h
        obtain ⟨ns, e, hn⟩ := ih h.2
        cases x <;> simp [isNum] at h
        rename_i i
        refine ⟨i :: ns, by rw [e]; rfl, fun n hn' => ?_⟩
        rcases List.mem_cons.mp hn' with rfl | z
        · exact h.1
        · exact hn n z
    obtain ⟨ns, e, hn⟩ := this r h2
    subst e
    rw [List.length_map] at h1
    exact ⟨w, ns, rfl, h1, hn⟩
  · cases h
theorem isMk_al {a b : D} (h : isMk a = true) (g : isMk b = true) : dal a b = true := by
  obtain ⟨w, ns, rfl, _⟩ := isMk_shape h
  obtain ⟨v, ms, rfl, _⟩ := isMk_shape g
  rw [dal_tup, List.zip_cons_cons, List.all_cons, dal_ints]
  rfl
theorem fLtD_mk {a b : D} {Q : D → Prop} (h : isMk a = true) (g : isMk b = true) (ha : fit 32 a = true) (hb : fit 32 b = true) (q : Q (.bl (dlt a b))) : fLtD a b Q := by
  have hal := isMk_al h g
  obtain ⟨w, ns, rfl, _⟩ := isMk_shape h
  exact ⟨ha, hb, hal, nofun, q⟩
theorem mem_rng {n : Nat} {d : D} (h : d ∈ rngD 0 n) : ∃ j : Nat, j < n ∧ d = .int (j : Int) := by
  unfold rngD at h
  obtain ⟨j, hj, rfl⟩ := List.mem_map.mp h
  exact ⟨j, List.mem_range.mp hj, by rw [Int.zero_add]⟩
theorem len_is_lot_of_marks : ∀ ds W Q E, sp_is_lot_of_marks ds W Q E → ds.length = ["value"].length := fun ds W Q E h => by
  obtain ⟨d, rfl, _⟩ := h; rfl
theorem getD_at {xs : List D} {j : Nat} (h : j < xs.length) : xs[j]? = some (xs.getD j .non) ∧ xs.getD j .non ∈ xs := by
  rw [List.getD_eq_getElem?_getD, List.getElem?_eq_getElem h]
  exact ⟨rfl, List.getElem_mem h⟩
theorem wp_is_lot_of_marks : ∀ ds W Q E, sp_is_lot_of_marks ds W Q E → t_is_lot_of_marks { nx := fun _ W' => Q .non W', rt := Q } (startG ["value", "mark", "at"] ds) W := fun ds W Q E h => by
  obtain ⟨d, rfl, hf, hz, q⟩ := h
  show t_is_lot_of_marks _ [.fz d, .no, .no] W
  by_cases ht : ∃ xs, d = .tup xs
  · obtain ⟨xs, rfl⟩ := ht
    have hz := hz xs rfl
    have hfx : ∀ y ∈ xs, fit 8 y = true := by
      rw [fit_tup] at hf
      exact List.all_eq_true.mp hf
    simp only [t_is_lot_of_marks, dSeq, dSkip, dSet, dOwn, dFrz, dIf, dRet, dExp, dApp, dExt, dPutT, dParO, dPar, dFor, dTok, dFz, dLst, dTup, dCons, dNil, vals?, Option.map_some, Option.map_none, dVar, dC, dOp, dB, dNotT, dNotV, dAndV, dOrV, dAndT, dOrT, dIfE, dCall, dCallF, dCal, dCalX, dIt, dItM, dLc, dYes, dRng1, dSl, dPart, dNoPart, dNeg, dMt, dEnum, dSetSort, dRaise, dTry, D.seq, isStr, rv_int, rv_bl, rv_str, rv_non, rv_tup, rv_lst, rv_scr, rv_ty, rv_bor, List.map_cons, List.map_nil, List.getElem?_cons_zero, List.getElem?_cons_succ, List.set_cons_zero, List.set_cons_succ, wipeG, DEnds.x, DEnds.loop, Tgt.sto, Tgt.stoL, Option.bind_some, Bool.not_true, Bool.not_false, if_true, if_false, Bool.false_eq_true, reduceCtorEq, ite_true, ite_false]
    refine fIsi_ty rfl (by decide) ?_
    simp only [show isiT "tuple" "tuple" = true from rfl, dSeq, dSkip, dSet, dOwn, dFrz, dIf, dRet, dExp, dApp, dExt, dPutT, dParO, dPar, dFor, dTok, dFz, dLst, dTup, dCons, dNil, vals?, Option.map_some, Option.map_none, dVar, dC, dOp, dB, dNotT, dNotV, dAndV, dOrV, dAndT, dOrT, dIfE, dCall, dCallF, dCal, dCalX, dIt, dItM, dLc, dYes, dRng1, dSl, dPart, dNoPart, dNeg, dMt, dEnum, dSetSort, dRaise, dTry, D.seq, isStr, rv_int, rv_bl, rv_str, rv_non, rv_tup, rv_lst, rv_scr, rv_ty, rv_bor, List.map_cons, List.map_nil, List.getElem?_cons_zero, List.getElem?_cons_succ, List.set_cons_zero, List.set_cons_succ, wipeG, DEnds.x, DEnds.loop, Tgt.sto, Tgt.stoL, Option.bind_some, Bool.not_true, Bool.not_false, if_true, if_false, Bool.false_eq_true, reduceCtorEq, ite_true, ite_false, fAll]
    refine ⟨fun z => z.elim, ?_⟩
    refine lcGo_map (fun d => .bl (isMk d)) xs (fun y hy => ⟨_, rfl, fun R r => ?_⟩) ?_
    · simp only [dSeq, dSkip, dSet, dOwn, dFrz, dIf, dRet, dExp, dApp, dExt, dPutT, dParO, dPar, dFor, dTok, dFz, dLst, dTup, dCons, dNil, vals?, Option.map_some, Option.map_none, dVar, dC, dOp, dB, dNotT, dNotV, dAndV, dOrV, dAndT, dOrT, dIfE, dCall, dCallF, dCal, dCalX, dIt, dItM, dLc, dYes, dRng1, dSl, dPart, dNoPart, dNeg, dMt, dEnum, dSetSort, dRaise, dTry, D.seq, isStr, rv_int, rv_bl, rv_str, rv_non, rv_tup, rv_lst, rv_scr, rv_ty, rv_bor, List.map_cons, List.map_nil, List.getElem?_cons_zero, List.getElem?_cons_succ, List.set_cons_zero, List.set_cons_succ, wipeG, DEnds.x, DEnds.loop, Tgt.sto, Tgt.stoL, Option.bind_some, Bool.not_true, Bool.not_false, if_true, if_false, Bool.false_eq_true, reduceCtorEq, ite_true, ite_false]
      exact ⟨y, rfl, hfx y hy, r⟩
    · have e : (xs.map fun d => D.bl (isMk d)).all isTr = xs.all isMk := by rw [List.all_map]; rfl
      refine ⟨by simp [isBl], ?_⟩
      rw [e]
      by_cases hm : xs.all isMk = true
      · have hmk := List.all_eq_true.mp hm
        simp only [hm, dSeq, dSkip, dSet, dOwn, dFrz, dIf, dRet, dExp, dApp, dExt, dPutT, dParO, dPar, dFor, dTok, dFz, dLst, dTup, dCons, dNil, vals?, Option.map_some, Option.map_none, dVar, dC, dOp, dB, dNotT, dNotV, dAndV, dOrV, dAndT, dOrT, dIfE, dCall, dCallF, dCal, dCalX, dIt, dItM, dLc, dYes, dRng1, dSl, dPart, dNoPart, dNeg, dMt, dEnum, dSetSort, dRaise, dTry, D.seq, isStr, rv_int, rv_bl, rv_str, rv_non, rv_tup, rv_lst, rv_scr, rv_ty, rv_bor, List.map_cons, List.map_nil, List.getElem?_cons_zero, List.getElem?_cons_succ, List.set_cons_zero, List.set_cons_succ, wipeG, DEnds.x, DEnds.loop, Tgt.sto, Tgt.stoL, Option.bind_some, Bool.not_true, Bool.not_false, if_true, if_false, Bool.false_eq_true, reduceCtorEq, ite_true, ite_false, fLen, fSub, fInt]
        refine ⟨trivial, by omega, by omega, ?_⟩
        have en : ((xs.length : Int) - 1).toNat = xs.length - 1 := by omega
        rw [en]
        refine lcGo_map (fun d => match d with
          | .int i => .bl (dlt (xs.getD i.toNat .non) (xs.getD (i.toNat + 1) .non))
          | _ => .non) _ (fun y hy => ?_) ?_
        · obtain ⟨j, hj, rfl⟩ := mem_rng hy
          refine ⟨_, rfl, fun R r => ?_⟩
          obtain ⟨a1, a2⟩ := getD_at (xs := xs) (j := j) (by omega)
          obtain ⟨b1, b2⟩ := getD_at (xs := xs) (j := j + 1) (by omega)
          simp only [dSeq, dSkip, dSet, dOwn, dFrz, dIf, dRet, dExp, dApp, dExt, dPutT, dParO, dPar, dFor, dTok, dFz, dLst, dTup, dCons, dNil, vals?, Option.map_some, Option.map_none, dVar, dC, dOp, dB, dNotT, dNotV, dAndV, dOrV, dAndT, dOrT, dIfE, dCall, dCallF, dCal, dCalX, dIt, dItM, dLc, dYes, dRng1, dSl, dPart, dNoPart, dNeg, dMt, dEnum, dSetSort, dRaise, dTry, D.seq, isStr, rv_int, rv_bl, rv_str, rv_non, rv_tup, rv_lst, rv_scr, rv_ty, rv_bor, List.map_cons, List.map_nil, List.getElem?_cons_zero, List.getElem?_cons_succ, List.set_cons_zero, List.set_cons_succ, wipeG, DEnds.x, DEnds.loop, Tgt.sto, Tgt.stoL, Option.bind_some, Bool.not_true, Bool.not_false, if_true, if_false, Bool.false_eq_true, reduceCtorEq, ite_true, ite_false, fIx, fAdd]
          refine ⟨xs.getD j .non, by rw [atI_k]; exact a1, xs.getD (j + 1) .non, by rw [show (j : Int) + 1 = ((j + 1 : Nat) : Int) from by omega, atI_k]; exact b1, ?_⟩
          rw [rv_fit (hfx _ a2), rv_fit (hfx _ b2)]
          refine fLtD_mk (hmk _ a2) (hmk _ b2) (fit_mono (hfx _ a2) (by decide)) (fit_mono (hfx _ b2) (by decide)) ?_
          simpa using r
        · refine ⟨?_, ?_⟩
          · refine List.all_eq_true.mpr fun x hx => ?_
            obtain ⟨y, hy, rfl⟩ := List.mem_map.mp hx
            obtain ⟨j, hj, rfl⟩ := mem_rng hy
            rfl
          · have e2 : isLot (.tup xs) = ((rngD 0 (xs.length - 1)).map fun d => match d with
                | .int i => D.bl (dlt (xs.getD i.toNat .non) (xs.getD (i.toNat + 1) .non))
                | _ => .non).all isTr := by
              simp only [isLot, hm, Bool.true_and, rngD, List.all_map]
              refine congrArg (List.all _) (funext fun j => ?_)
              simp only [Function.comp_apply, Int.zero_add, Int.toNat_natCast, isTr]
            rw [← e2]
            exact q
      · have hm' : xs.all isMk = false := by simpa using hm
        simp only [hm', dSeq, dSkip, dSet, dOwn, dFrz, dIf, dRet, dExp, dApp, dExt, dPutT, dParO, dPar, dFor, dTok, dFz, dLst, dTup, dCons, dNil, vals?, Option.map_some, Option.map_none, dVar, dC, dOp, dB, dNotT, dNotV, dAndV, dOrV, dAndT, dOrT, dIfE, dCall, dCallF, dCal, dCalX, dIt, dItM, dLc, dYes, dRng1, dSl, dPart, dNoPart, dNeg, dMt, dEnum, dSetSort, dRaise, dTry, D.seq, isStr, rv_int, rv_bl, rv_str, rv_non, rv_tup, rv_lst, rv_scr, rv_ty, rv_bor, List.map_cons, List.map_nil, List.getElem?_cons_zero, List.getElem?_cons_succ, List.set_cons_zero, List.set_cons_succ, wipeG, DEnds.x, DEnds.loop, Tgt.sto, Tgt.stoL, Option.bind_some, Bool.not_true, Bool.not_false, if_true, if_false, Bool.false_eq_true, reduceCtorEq, ite_true, ite_false]
        have e2 : isLot (.tup xs) = false := by simp only [isLot, hm', Bool.false_and]
        rw [e2] at q
        exact q
  · obtain ⟨t, et⟩ := Option.isSome_iff_exists.mp (fit_tyn hf)
    have e : isiT t "tuple" = false := by
      cases d <;> simp [tyn] at et <;> first | (subst et; rfl) | (exact absurd ⟨_, rfl⟩ ht)
    have e2 : isLot d = false := by
      cases d <;> first | rfl | (exact absurd ⟨_, rfl⟩ ht)
    simp only [t_is_lot_of_marks, dSeq, dSkip, dSet, dOwn, dFrz, dIf, dRet, dExp, dApp, dExt, dPutT, dParO, dPar, dFor, dTok, dFz, dLst, dTup, dCons, dNil, vals?, Option.map_some, Option.map_none, dVar, dC, dOp, dB, dNotT, dNotV, dAndV, dOrV, dAndT, dOrT, dIfE, dCall, dCallF, dCal, dCalX, dIt, dItM, dLc, dYes, dRng1, dSl, dPart, dNoPart, dNeg, dMt, dEnum, dSetSort, dRaise, dTry, D.seq, isStr, rv_int, rv_bl, rv_str, rv_non, rv_tup, rv_lst, rv_scr, rv_ty, rv_bor, List.map_cons, List.map_nil, List.getElem?_cons_zero, List.getElem?_cons_succ, List.set_cons_zero, List.set_cons_succ, wipeG, DEnds.x, DEnds.loop, Tgt.sto, Tgt.stoL, Option.bind_some, Bool.not_true, Bool.not_false, if_true, if_false, Bool.false_eq_true, reduceCtorEq, ite_true, ite_false]
    rw [rv_fit hf]
    refine fIsi_ty et (by decide) ?_
    simp only [e, dSeq, dSkip, dSet, dOwn, dFrz, dIf, dRet, dExp, dApp, dExt, dPutT, dParO, dPar, dFor, dTok, dFz, dLst, dTup, dCons, dNil, vals?, Option.map_some, Option.map_none, dVar, dC, dOp, dB, dNotT, dNotV, dAndV, dOrV, dAndT, dOrT, dIfE, dCall, dCallF, dCal, dCalX, dIt, dItM, dLc, dYes, dRng1, dSl, dPart, dNoPart, dNeg, dMt, dEnum, dSetSort, dRaise, dTry, D.seq, isStr, rv_int, rv_bl, rv_str, rv_non, rv_tup, rv_lst, rv_scr, rv_ty, rv_bor, List.map_cons, List.map_nil, List.getElem?_cons_zero, List.getElem?_cons_succ, List.set_cons_zero, List.set_cons_succ, wipeG, DEnds.x, DEnds.loop, Tgt.sto, Tgt.stoL, Option.bind_some, Bool.not_true, Bool.not_false, if_true, if_false, Bool.false_eq_true, reduceCtorEq, ite_true, ite_false]
    rw [e2] at q
    exact q
theorem isLot_ok {U l : List D} (hU : UOk U) (s : l.Sublist U) : isLot (.tup l) = true := by
  have hm : l.all isMk = true := List.all_eq_true.mpr fun x hx => isMk_ok (hU.sub s x hx)
  simp only [isLot, hm, Bool.true_and]
  refine List.all_eq_true.mpr fun j hj => ?_
  have hj := List.mem_range.mp hj
  have a : Asc l := hU.asc.sublist s
  have h1 : j < l.length := by omega
  have h2 : j + 1 < l.length := by omega
  rw [List.getD_eq_getElem?_getD, List.getD_eq_getElem?_getD, List.getElem?_eq_getElem h1, List.getElem?_eq_getElem h2]
  exact List.pairwise_iff_getElem.mp a j (j + 1) h1 h2 (by omega)
end K47

set_option Elab.async false
set_option linter.all false
set_option maxRecDepth 100000
set_option maxHeartbeats 4000000
/-! K47E: the least ones; crossings. -/
namespace K47
open PySem PySem.Spec PyProof.Rows L2 DL
open Classical
theorem len_least_ones : ∀ ds W Q E, sp_least_ones ds W Q E → ds.length = ["lots"].length := fun ds W Q E h => by
  obtain ⟨U, Ls, _, _, _, _, rfl, _⟩ := h; rfl
theorem lsort_perm (L : List D) : (lsort L).Perm L := List.mergeSort_perm _ _
theorem lsort_pw (L : List D) : (lsort L).Pairwise fun a b => dlen a ≤ dlen b := by
  have h := List.pairwise_mergeSort (le := fun a b : D => decide (dlen a ≤ dlen b)) (fun a b c h g => by
    have h' := of_decide_eq_true h
    have g' := of_decide_eq_true g
    exact decide_eq_true (Nat.le_trans h' g')) (fun a b => by
    rcases Nat.le_total (dlen a) (dlen b) with h | h <;> simp [h]) L
  exact h.imp fun h => of_decide_eq_true h
theorem dlen_tup (xs : List D) : dlen (.tup xs) = xs.length := rfl
/-- which ones the walk by length takes -/
theorem walk_min {U : List D} {Ls pre rest : List (List D)} {x : List D} (hU : UOk U) (hL : LU U Ls) (nd : (pre ++ x :: rest).Nodup) (mem : ∀ a, a ∈ pre ++ x :: rest ↔ a ∈ Ls) (pw : (pre ++ x :: rest).Pairwise fun a b => a.length ≤ b.length) :
    (∃ o ∈ pre.filter fun a => decide (isMin Ls a), ∀ g ∈ o, g ∈ x) ↔ ¬ isMin Ls x := by
  have hx : x ∈ Ls := (mem x).mp (List.mem_append_right _ List.mem_cons_self)
  constructor
  · rintro ⟨o, ho, hs⟩ m
    obtain ⟨o1, o2⟩ := List.mem_filter.mp ho
    have o3 : isMin Ls o := of_decide_eq_true o2
    have e := m.2 o o3.1 hs
    subst e
    exact (List.nodup_append.mp nd).2.2 o o1 o List.mem_cons_self rfl
  · intro m
    obtain ⟨b, hb, hs⟩ := exists_min hU.nd hL _ x (Nat.le_refl _) hx
    refine ⟨b, List.mem_filter.mpr ⟨?_, decide_eq_true hb⟩, hs⟩
    have ne : b ≠ x := fun e => m (e ▸ hb)
    rcases List.mem_append.mp ((mem b).mpr hb.1) with z | z
    · exact z
    · exfalso
      rcases List.mem_cons.mp z with e | z
      · exact ne e
      · have le : x.length ≤ b.length := by
          have := (List.pairwise_append.mp pw).2.1
          exact (List.pairwise_cons.mp this).1 b z
        exact ne ((sub_of hU.nd (hL b hb.1) (hL x hx) hs).eq_of_length_le le)
theorem any_bl {α : Type} (f : α → Bool) (l : List α) : (l.map fun a => D.bl (f a)).all isBl = true ∧ (l.map fun a => D.bl (f a)).any isTr = l.any f ∧ (l.map fun a => D.bl (f a)).all isTr = l.all f := by
  rw [List.all_map, List.any_map, List.all_map]
  exact ⟨List.all_eq_true.mpr fun _ _ => rfl, rfl, rfl⟩
noncomputable def subD (x : List D) : D → Bool
  | .tup o => decide (∀ g ∈ o, g ∈ x)
  | _ => false
theorem wp_least_ones : ∀ ds W Q E, sp_least_ones ds W Q E → t_least_ones { nx := fun _ W' => Q .non W', rt := Q } (startG ["lots", "found", "lot", "one", "guard"] ds) W := fun ds W Q E h => by
  obtain ⟨U, Ls, hU, hL, ne, ⟨B, hB, inB⟩, rfl, q⟩ := h
  show t_least_ones _ [.fz (.lst (Ls.map .tup)), .no, .no, .no, .no] W
  have mkL : ∀ l ∈ Ls, ∀ m ∈ l, MkOk m := fun l hl => hU.sub (hL l hl)
  simp only [t_least_ones, dSeq, dSkip, dSet, dOwn, dFrz, dIf, dRet, dExp, dApp, dExt, dPutT, dParO, dPar, dFor, dTok, dFz, dLst, dTup, dCons, dNil, vals?, Option.map_some, Option.map_none, dVar, dC, dOp, dB, dNotT, dNotV, dAndV, dOrV, dAndT, dOrT, dIfE, dCall, dCallF, dCal, dCalX, dIt, dItM, dLc, dYes, dRng1, dSl, dPart, dNoPart, dNeg, dMt, dEnum, dSetSort, dRaise, dTry, D.seq, isStr, rv_int, rv_bl, rv_str, rv_non, rv_tup, rv_lst, rv_scr, rv_ty, rv_bor, List.map_cons, List.map_nil, List.getElem?_cons_zero, List.getElem?_cons_succ, List.set_cons_zero, List.set_cons_succ, wipeG, DEnds.x, DEnds.loop, Tgt.sto, Tgt.stoL, Option.bind_some, Bool.not_true, Bool.not_false, if_true, if_false, Bool.false_eq_true, reduceCtorEq, ite_true, ite_false]
  refine ⟨z_size (by decide), fun z => z.elim, ?_⟩
  refine scGo_all id (Ls.map .tup) [] (fun x hx => ⟨_, rfl, fun R r => ?_⟩) (fun x hx => ?_) ⟨B.map .tup, by rw [List.length_map]; exact hB, fun x hx => ?_⟩ ?_
  · simp only [dSeq, dSkip, dSet, dOwn, dFrz, dIf, dRet, dExp, dApp, dExt, dPutT, dParO, dPar, dFor, dTok, dFz, dLst, dTup, dCons, dNil, vals?, Option.map_some, Option.map_none, dVar, dC, dOp, dB, dNotT, dNotV, dAndV, dOrV, dAndT, dOrT, dIfE, dCall, dCallF, dCal, dCalX, dIt, dItM, dLc, dYes, dRng1, dSl, dPart, dNoPart, dNeg, dMt, dEnum, dSetSort, dRaise, dTry, D.seq, isStr, rv_int, rv_bl, rv_str, rv_non, rv_tup, rv_lst, rv_scr, rv_ty, rv_bor, List.map_cons, List.map_nil, List.getElem?_cons_zero, List.getElem?_cons_succ, List.set_cons_zero, List.set_cons_succ, wipeG, DEnds.x, DEnds.loop, Tgt.sto, Tgt.stoL, Option.bind_some, Bool.not_true, Bool.not_false, if_true, if_false, Bool.false_eq_true, reduceCtorEq, ite_true, ite_false]
    exact r
  · rw [List.map_id] at hx
    obtain ⟨l, hl, rfl⟩ := List.mem_map.mp hx
    exact ⟨lot_kok (mkL l hl) _, lot_ft (mkL l hl) _, l, rfl⟩
  · rw [List.map_id, List.nil_append] at hx
    obtain ⟨l, hl, rfl⟩ := List.mem_map.mp hx
    exact List.mem_map.mpr ⟨l, inB l hl, rfl⟩
  · intro L nd mem
    rw [List.nil_append, List.map_id] at mem
    obtain ⟨Ms, eM⟩ := of_tup (ds := L) fun d hd => by
      obtain ⟨l, _, e⟩ := List.mem_map.mp ((mem d).mp hd)
      exact ⟨l, e.symm⟩
    subst eM
    have memM : ∀ a, a ∈ Ms ↔ a ∈ Ls := fun a => by rw [← mem_map_tup (Ls := Ms), mem, mem_map_tup]
    refine ⟨sble_lots hU (fun l hl => hL l ((memM l).mp hl)) (.inr fun z => ne ((memM _).mp z)), ?_⟩
    simp only [fSortLen]
    have pS : (lsort (dsort (Ms.map D.tup))).Perm (Ms.map D.tup) := (lsort_perm _).trans (dsort_perm _)
    refine ⟨fun d hd => ?_, ?_⟩
    · obtain ⟨l, _, e⟩ := List.mem_map.mp ((dsort_perm _).mem_iff.mp hd)
      exact ⟨l, e.symm⟩
    obtain ⟨ss, es⟩ := of_tup (ds := lsort (dsort (Ms.map D.tup))) fun d hd => by
      obtain ⟨l, _, e⟩ := List.mem_map.mp (pS.mem_iff.mp hd)
      exact ⟨l, e.symm⟩
    have pw := lsort_pw (dsort (Ms.map D.tup))
    rw [es] at pS pw ⊢
    have nds : ss.Nodup := nodup_of_map (pS.nodup_iff.mpr nd)
    have mems : ∀ a, a ∈ ss ↔ a ∈ Ls := fun a => by rw [← mem_map_tup (Ls := ss), pS.mem_iff, mem_map_tup, memM]
    have pws : ss.Pairwise fun a b => a.length ≤ b.length := by
      have := List.pairwise_map.mp pw
      exact this
    refine ⟨fun z => z.elim, ?_⟩
    refine forGo_inv (fun items Γ W' => ∃ pre rest s2, ss = pre ++ rest ∧ items = rest.map D.tup ∧ Γ = [.fz (.lst (Ls.map .tup)), .ow ((pre.filter fun a => decide (isMin Ls a)).map D.tup), s2, .no, .no] ∧ W' = W) (fun d r Γ W' J hI hJ => ?_) (fun Γ W' hI => ?_) _ _ _ ⟨[], ss, .no, rfl, rfl, rfl, rfl⟩
    · obtain ⟨pre, rest, s2, e1, e2, rfl, rfl⟩ := hI
      cases rest with
      | nil => cases e2
      | cons x rest =>
        rw [List.map_cons] at e2
        injection e2 with e2 e3
        subst e2
        subst e3
        have hx : x ∈ Ls := (mems x).mp (by rw [e1]; exact List.mem_append_right _ List.mem_cons_self)
        have hpre : ∀ o ∈ pre.filter fun a => decide (isMin Ls a), o ∈ Ls := fun o ho => (of_decide_eq_true (List.mem_filter.mp ho).2 : isMin Ls o).1
        refine ⟨_, rfl, ?_⟩
        simp only [dSeq, dSkip, dSet, dOwn, dFrz, dIf, dRet, dExp, dApp, dExt, dPutT, dParO, dPar, dFor, dTok, dFz, dLst, dTup, dCons, dNil, vals?, Option.map_some, Option.map_none, dVar, dC, dOp, dB, dNotT, dNotV, dAndV, dOrV, dAndT, dOrT, dIfE, dCall, dCallF, dCal, dCalX, dIt, dItM, dLc, dYes, dRng1, dSl, dPart, dNoPart, dNeg, dMt, dEnum, dSetSort, dRaise, dTry, D.seq, isStr, rv_int, rv_bl, rv_str, rv_non, rv_tup, rv_lst, rv_scr, rv_ty, rv_bor, List.map_cons, List.map_nil, List.getElem?_cons_zero, List.getElem?_cons_succ, List.set_cons_zero, List.set_cons_succ, wipeG, DEnds.x, DEnds.loop, Tgt.sto, Tgt.stoL, Option.bind_some, Bool.not_true, Bool.not_false, if_true, if_false, Bool.false_eq_true, reduceCtorEq, ite_true, ite_false, fAny]
        refine lcGo_map (fun d => .bl (subD x d)) _ (fun y hy => ⟨_, rfl, fun R r => ?_⟩) ?_
        · obtain ⟨o, ho, rfl⟩ := List.mem_map.mp hy
          simp only [dSeq, dSkip, dSet, dOwn, dFrz, dIf, dRet, dExp, dApp, dExt, dPutT, dParO, dPar, dFor, dTok, dFz, dLst, dTup, dCons, dNil, vals?, Option.map_some, Option.map_none, dVar, dC, dOp, dB, dNotT, dNotV, dAndV, dOrV, dAndT, dOrT, dIfE, dCall, dCallF, dCal, dCalX, dIt, dItM, dLc, dYes, dRng1, dSl, dPart, dNoPart, dNeg, dMt, dEnum, dSetSort, dRaise, dTry, D.seq, isStr, rv_int, rv_bl, rv_str, rv_non, rv_tup, rv_lst, rv_scr, rv_ty, rv_bor, List.map_cons, List.map_nil, List.getElem?_cons_zero, List.getElem?_cons_succ, List.set_cons_zero, List.set_cons_succ, wipeG, DEnds.x, DEnds.loop, Tgt.sto, Tgt.stoL, Option.bind_some, Bool.not_true, Bool.not_false, if_true, if_false, Bool.false_eq_true, reduceCtorEq, ite_true, ite_false, fAll]
          refine ⟨fun z => z.elim, ?_⟩
          refine lcGo_map (fun g => .bl (decide (g ∈ x))) o (fun g hg => ⟨_, rfl, fun R r => ?_⟩) ?_
          · have hgm := mkL o (hpre o ho) g hg
            simp only [dSeq, dSkip, dSet, dOwn, dFrz, dIf, dRet, dExp, dApp, dExt, dPutT, dParO, dPar, dFor, dTok, dFz, dLst, dTup, dCons, dNil, vals?, Option.map_some, Option.map_none, dVar, dC, dOp, dB, dNotT, dNotV, dAndV, dOrV, dAndT, dOrT, dIfE, dCall, dCallF, dCal, dCalX, dIt, dItM, dLc, dYes, dRng1, dSl, dPart, dNoPart, dNeg, dMt, dEnum, dSetSort, dRaise, dTry, D.seq, isStr, rv_int, rv_bl, rv_str, rv_non, rv_tup, rv_lst, rv_scr, rv_ty, rv_bor, List.map_cons, List.map_nil, List.getElem?_cons_zero, List.getElem?_cons_succ, List.set_cons_zero, List.set_cons_succ, wipeG, DEnds.x, DEnds.loop, Tgt.sto, Tgt.stoL, Option.bind_some, Bool.not_true, Bool.not_false, if_true, if_false, Bool.false_eq_true, reduceCtorEq, ite_true, ite_false, fIn]
            rw [rv_fit (hgm.ft 0)]
            refine ⟨hgm.ft _, List.all_eq_true.mpr fun m hm => (mkL x hx m hm).ft _, ?_⟩
            rw [in_mk (mkL x hx) hgm]
            exact r
          · obtain ⟨b1, _, b3⟩ := any_bl (fun g => decide (g ∈ x)) o
            refine ⟨b1, ?_⟩
            rw [b3]
            have : (o.all fun g => decide (g ∈ x)) = subD x (.tup o) := by
              rw [Bool.eq_iff_iff]
              simp [subD]
            rw [this]
            exact r
        · obtain ⟨b1, b2, _⟩ := any_bl (subD x) ((pre.filter fun a => decide (isMin Ls a)).map D.tup)
          refine ⟨b1, ?_⟩
          rw [b2]
          have key : (((pre.filter fun a => decide (isMin Ls a)).map D.tup).any (subD x)) = !decide (isMin Ls x) := by
            rw [Bool.eq_iff_iff, List.any_map, List.any_eq_true, Bool.not_eq_true', decide_eq_false_iff_not]
            rw [← walk_min hU hL (by rw [← e1]; exact nds) (by rw [← e1]; exact mems) (by rw [← e1]; exact pws)]
            refine exists_congr fun o => and_congr_right fun _ => ?_
            simp [subD]
          rw [key, Bool.not_not]
          by_cases m : isMin Ls x
          · simp only [m, decide_true, dSeq, dSkip, dSet, dOwn, dFrz, dIf, dRet, dExp, dApp, dExt, dPutT, dParO, dPar, dFor, dTok, dFz, dLst, dTup, dCons, dNil, vals?, Option.map_some, Option.map_none, dVar, dC, dOp, dB, dNotT, dNotV, dAndV, dOrV, dAndT, dOrT, dIfE, dCall, dCallF, dCal, dCalX, dIt, dItM, dLc, dYes, dRng1, dSl, dPart, dNoPart, dNeg, dMt, dEnum, dSetSort, dRaise, dTry, D.seq, isStr, rv_int, rv_bl, rv_str, rv_non, rv_tup, rv_lst, rv_scr, rv_ty, rv_bor, List.map_cons, List.map_nil, List.getElem?_cons_zero, List.getElem?_cons_succ, List.set_cons_zero, List.set_cons_succ, wipeG, DEnds.x, DEnds.loop, Tgt.sto, Tgt.stoL, Option.bind_some, Bool.not_true, Bool.not_false, if_true, if_false, Bool.false_eq_true, reduceCtorEq, ite_true, ite_false]
            refine ⟨?_, hJ _ _ ⟨pre ++ [x], rest, .fz (.tup x), by rw [e1, List.append_assoc]; rfl, rfl, ?_, rfl⟩⟩
            · have l1 := nodup_sub (B := B) (nds.sublist (by rw [e1]; exact List.sublist_append_left _ _ : pre.Sublist ss)) fun a ha => inB a ((mems a).mp (by rw [e1]; exact List.mem_append_left _ ha))
              rw [List.length_map, sizeLine_eq]
              have := List.length_filter_le (fun a => decide (isMin Ls a)) pre
              omega
            · rw [List.filter_append, List.map_append]
              simp [m]
          · simp only [m, decide_false, dSeq, dSkip, dSet, dOwn, dFrz, dIf, dRet, dExp, dApp, dExt, dPutT, dParO, dPar, dFor, dTok, dFz, dLst, dTup, dCons, dNil, vals?, Option.map_some, Option.map_none, dVar, dC, dOp, dB, dNotT, dNotV, dAndV, dOrV, dAndT, dOrT, dIfE, dCall, dCallF, dCal, dCalX, dIt, dItM, dLc, dYes, dRng1, dSl, dPart, dNoPart, dNeg, dMt, dEnum, dSetSort, dRaise, dTry, D.seq, isStr, rv_int, rv_bl, rv_str, rv_non, rv_tup, rv_lst, rv_scr, rv_ty, rv_bor, List.map_cons, List.map_nil, List.getElem?_cons_zero, List.getElem?_cons_succ, List.set_cons_zero, List.set_cons_succ, wipeG, DEnds.x, DEnds.loop, Tgt.sto, Tgt.stoL, Option.bind_some, Bool.not_true, Bool.not_false, if_true, if_false, Bool.false_eq_true, reduceCtorEq, ite_true, ite_false]
            refine hJ _ _ ⟨pre ++ [x], rest, .fz (.tup x), by rw [e1, List.append_assoc]; rfl, rfl, ?_, rfl⟩
            rw [List.filter_append]
            simp [m]
    · obtain ⟨pre, rest, s2, e1, e2, rfl, rfl⟩ := hI
      have er : rest = [] := List.map_eq_nil_iff.mp e2.symm
      subst er
      rw [List.append_nil] at e1
      subst e1
      have ndm : (ss.filter fun a => decide (isMin Ls a)).Nodup := nds.sublist List.filter_sublist
      have memm : ∀ a, a ∈ (ss.filter fun a => decide (isMin Ls a)) ↔ isMin Ls a := fun a => by
        rw [List.mem_filter, decide_eq_true_eq, mems]
        exact ⟨fun z => z.2, fun z => ⟨z.1, z⟩⟩
      simp only [dSeq, dSkip, dSet, dOwn, dFrz, dIf, dRet, dExp, dApp, dExt, dPutT, dParO, dPar, dFor, dTok, dFz, dLst, dTup, dCons, dNil, vals?, Option.map_some, Option.map_none, dVar, dC, dOp, dB, dNotT, dNotV, dAndV, dOrV, dAndT, dOrT, dIfE, dCall, dCallF, dCal, dCalX, dIt, dItM, dLc, dYes, dRng1, dSl, dPart, dNoPart, dNeg, dMt, dEnum, dSetSort, dRaise, dTry, D.seq, isStr, rv_int, rv_bl, rv_str, rv_non, rv_tup, rv_lst, rv_scr, rv_ty, rv_bor, List.map_cons, List.map_nil, List.getElem?_cons_zero, List.getElem?_cons_succ, List.set_cons_zero, List.set_cons_succ, wipeG, DEnds.x, DEnds.loop, Tgt.sto, Tgt.stoL, Option.bind_some, Bool.not_true, Bool.not_false, if_true, if_false, Bool.false_eq_true, reduceCtorEq, ite_true, ite_false, fTuple, fSort]
      refine ⟨sble_lots hU (fun l hl => hL l ((memm l).mp hl).1) (min_empty ndm memm), ?_⟩
      rw [res_of hU hL ndm memm]
      exact q
end K47

set_option Elab.async false
set_option linter.all false
set_option maxRecDepth 100000
set_option maxHeartbeats 4000000
/-! K47F: crossings. -/
namespace K47
open PySem PySem.Spec PyProof.Rows L2 DL
open Classical
theorem len_crossed : ∀ ds W Q E, sp_crossed ds W Q E → ds.length = ["lots"].length := fun ds W Q E h => by
  obtain ⟨U, Ls, _, _, rfl, _⟩ := h; rfl
theorem longer_snoc {U : List D} {F : List (List D)} {one lot : List D} : longer U (F ++ [one]) lot = longer U F lot ++ (if ∃ x ∈ one, x ∈ lot then [one] else lot.map fun m => put U one m) := by
  unfold longer
  rw [List.flatMap_append, List.flatMap_cons, List.flatMap_nil, List.append_nil]
theorem longer_len {U : List D} {lot : List D} (h : lot.length ≤ 7) : ∀ F : List (List D), (longer U F lot).length ≤ 7 * F.length
  | [] => Nat.le_refl _
  | one :: F => by
    have ih := longer_len (U := U) h F
    unfold longer at ih ⊢
    rw [List.flatMap_cons, List.length_append, List.length_cons]
    split
    · simp only [List.length_cons, List.length_nil]; omega
    · rw [List.length_map]; omega
theorem hit_LU (U : List D) (lots : List (List D)) : LU U (hit U lots) := fun l h => (mem_hit.mp h).1
theorem res_nil {U : List D} (hU : UOk U) : res (hit U []) = [.tup []] := by
  rw [← res_of hU (hit_LU U []) (M := [[]]) (by simp) (fun a => by rw [hit_nil_min hU.nd, List.mem_singleton])]
  exact List.perm_singleton.mp (dsort_perm [D.tup []])
theorem wp_crossed : ∀ ds W Q E, sp_crossed ds W Q E → t_crossed { nx := fun _ W' => Q .non W', rt := Q } (startG ["lots", "found", "lot", "longer", "one", "mark"] ds) W := fun ds W Q E h => by
  obtain ⟨U, lots, hU, hL, rfl, q⟩ := h
  show t_crossed _ [.fz (.tup (lots.map .tup)), .no, .no, .no, .no, .no] W
  simp only [t_crossed, dSeq, dSkip, dSet, dOwn, dFrz, dIf, dRet, dExp, dApp, dExt, dPutT, dParO, dPar, dFor, dTok, dFz, dLst, dTup, dCons, dNil, vals?, Option.map_some, Option.map_none, dVar, dC, dOp, dB, dNotT, dNotV, dAndV, dOrV, dAndT, dOrT, dIfE, dCall, dCallF, dCal, dCalX, dIt, dItM, dLc, dYes, dRng1, dSl, dPart, dNoPart, dNeg, dMt, dEnum, dSetSort, dRaise, dTry, D.seq, isStr, rv_int, rv_bl, rv_str, rv_non, rv_tup, rv_lst, rv_scr, rv_ty, rv_bor, List.map_cons, List.map_nil, List.getElem?_cons_zero, List.getElem?_cons_succ, List.set_cons_zero, List.set_cons_succ, wipeG, DEnds.x, DEnds.loop, Tgt.sto, Tgt.stoL, Option.bind_some, Bool.not_true, Bool.not_false, if_true, if_false, Bool.false_eq_true, reduceCtorEq, ite_true, ite_false]
  refine ⟨z_size (by decide), z_size (by decide), fun z => z.elim, ?_⟩
  refine forGo_inv (fun items Γ W' => ∃ done rest s2 s3 s4 s5, lots = done ++ rest ∧ items = rest.map D.tup ∧ Γ = [.fz (.tup (lots.map .tup)), .fz (.tup (res (hit U done))), s2, s3, s4, s5] ∧ W' = W) (fun d r Γ W' J hI hJ => ?_) (fun Γ W' hI => ?_) _ _ _ ⟨[], lots, .no, .no, .no, .no, rfl, rfl, by rw [res_nil hU], rfl⟩
  · obtain ⟨done, rest, s2, s3, s4, s5, e1, e2, rfl, rfl⟩ := hI
    cases rest with
    | nil => cases e2
    | cons lot rest =>
      rw [List.map_cons] at e2
      injection e2 with e2 e3
      subst e2
      subst e3
      have hlot : lot.Sublist U := hL lot (by rw [e1]; exact List.mem_append_right _ List.mem_cons_self)
      have hl7 : lot.length ≤ 7 := Nat.le_trans hlot.length_le hU.few
      have mkl : ∀ m ∈ lot, MkOk m := hU.sub hlot
      obtain ⟨F, eF, ndF, memF⟩ := res_tup (Ls := hit U done)
      have lenF : F.length ≤ 35 := by
        have := res_len hU (hit_LU U done)
        rw [eF, List.length_map] at this
        exact this
      have sF : ∀ a ∈ F, a.Sublist U := fun a ha => (mem_hit.mp ((memF a).mp ha).1).1
      rw [eF]
      refine ⟨_, rfl, ?_⟩
      simp only [dSeq, dSkip, dSet, dOwn, dFrz, dIf, dRet, dExp, dApp, dExt, dPutT, dParO, dPar, dFor, dTok, dFz, dLst, dTup, dCons, dNil, vals?, Option.map_some, Option.map_none, dVar, dC, dOp, dB, dNotT, dNotV, dAndV, dOrV, dAndT, dOrT, dIfE, dCall, dCallF, dCal, dCalX, dIt, dItM, dLc, dYes, dRng1, dSl, dPart, dNoPart, dNeg, dMt, dEnum, dSetSort, dRaise, dTry, D.seq, isStr, rv_int, rv_bl, rv_str, rv_non, rv_tup, rv_lst, rv_scr, rv_ty, rv_bor, List.map_cons, List.map_nil, List.getElem?_cons_zero, List.getElem?_cons_succ, List.set_cons_zero, List.set_cons_succ, wipeG, DEnds.x, DEnds.loop, Tgt.sto, Tgt.stoL, Option.bind_some, Bool.not_true, Bool.not_false, if_true, if_false, Bool.false_eq_true, reduceCtorEq, ite_true, ite_false]
      refine ⟨z_size (by decide), fun z => z.elim, ?_⟩
      refine forGo_inv (fun items Γ W2 => ∃ pre rest2 t4, F = pre ++ rest2 ∧ items = rest2.map D.tup ∧ Γ = [.fz (.tup (lots.map .tup)), .fz (.tup (F.map .tup)), .fz (.tup lot), .ow ((longer U pre lot).map D.tup), t4, s5] ∧ W2 = W') (fun d r Γ W2 J2 hI hJ2 => ?_) (fun Γ W2 hI => ?_) _ _ _ ⟨[], F, s4, rfl, rfl, rfl, rfl⟩
      · obtain ⟨pre, rest2, t4, f1, f2, rfl, rfl⟩ := hI
        cases rest2 with
        | nil => cases f2
        | cons one rest2 =>
          rw [List.map_cons] at f2
          injection f2 with f2 f3
          subst f2
          subst f3
          have hone : one.Sublist U := sF one (by rw [f1]; exact List.mem_append_right _ List.mem_cons_self)
          have len1 : (longer U pre lot).length + 7 ≤ sizeLine := by
            have h1 := longer_len (U := U) hl7 pre
            have h2 : pre.length ≤ 35 := by
              have : pre.length ≤ F.length := by rw [f1, List.length_append]; omega
              omega
            rw [sizeLine_eq]; omega
          refine ⟨_, rfl, ?_⟩
          simp only [dSeq, dSkip, dSet, dOwn, dFrz, dIf, dRet, dExp, dApp, dExt, dPutT, dParO, dPar, dFor, dTok, dFz, dLst, dTup, dCons, dNil, vals?, Option.map_some, Option.map_none, dVar, dC, dOp, dB, dNotT, dNotV, dAndV, dOrV, dAndT, dOrT, dIfE, dCall, dCallF, dCal, dCalX, dIt, dItM, dLc, dYes, dRng1, dSl, dPart, dNoPart, dNeg, dMt, dEnum, dSetSort, dRaise, dTry, D.seq, isStr, rv_int, rv_bl, rv_str, rv_non, rv_tup, rv_lst, rv_scr, rv_ty, rv_bor, List.map_cons, List.map_nil, List.getElem?_cons_zero, List.getElem?_cons_succ, List.set_cons_zero, List.set_cons_succ, wipeG, DEnds.x, DEnds.loop, Tgt.sto, Tgt.stoL, Option.bind_some, Bool.not_true, Bool.not_false, if_true, if_false, Bool.false_eq_true, reduceCtorEq, ite_true, ite_false, fAny]
          refine ⟨fun z => z.elim, ?_⟩
          refine lcGo_map (fun g => .bl (decide (g ∈ lot))) one (fun g hg => ⟨_, rfl, fun R r => ?_⟩) ?_
          · have hgm := hU.sub hone g hg
            simp only [dSeq, dSkip, dSet, dOwn, dFrz, dIf, dRet, dExp, dApp, dExt, dPutT, dParO, dPar, dFor, dTok, dFz, dLst, dTup, dCons, dNil, vals?, Option.map_some, Option.map_none, dVar, dC, dOp, dB, dNotT, dNotV, dAndV, dOrV, dAndT, dOrT, dIfE, dCall, dCallF, dCal, dCalX, dIt, dItM, dLc, dYes, dRng1, dSl, dPart, dNoPart, dNeg, dMt, dEnum, dSetSort, dRaise, dTry, D.seq, isStr, rv_int, rv_bl, rv_str, rv_non, rv_tup, rv_lst, rv_scr, rv_ty, rv_bor, List.map_cons, List.map_nil, List.getElem?_cons_zero, List.getElem?_cons_succ, List.set_cons_zero, List.set_cons_succ, wipeG, DEnds.x, DEnds.loop, Tgt.sto, Tgt.stoL, Option.bind_some, Bool.not_true, Bool.not_false, if_true, if_false, Bool.false_eq_true, reduceCtorEq, ite_true, ite_false, fIn]
            rw [rv_fit (hgm.ft 0)]
            refine ⟨hgm.ft _, List.all_eq_true.mpr fun m hm => (mkl m hm).ft _, ?_⟩
            rw [in_mk mkl hgm]
            exact r
          · obtain ⟨b1, b2, _⟩ := any_bl (fun g => decide (g ∈ lot)) one
            refine ⟨b1, ?_⟩
            rw [b2]
            by_cases m : ∃ x ∈ one, x ∈ lot
            · have e : (one.any fun g => decide (g ∈ lot)) = true := by simpa using m
              simp only [e, dSeq, dSkip, dSet, dOwn, dFrz, dIf, dRet, dExp, dApp, dExt, dPutT, dParO, dPar, dFor, dTok, dFz, dLst, dTup, dCons, dNil, vals?, Option.map_some, Option.map_none, dVar, dC, dOp, dB, dNotT, dNotV, dAndV, dOrV, dAndT, dOrT, dIfE, dCall, dCallF, dCal, dCalX, dIt, dItM, dLc, dYes, dRng1, dSl, dPart, dNoPart, dNeg, dMt, dEnum, dSetSort, dRaise, dTry, D.seq, isStr, rv_int, rv_bl, rv_str, rv_non, rv_tup, rv_lst, rv_scr, rv_ty, rv_bor, List.map_cons, List.map_nil, List.getElem?_cons_zero, List.getElem?_cons_succ, List.set_cons_zero, List.set_cons_succ, wipeG, DEnds.x, DEnds.loop, Tgt.sto, Tgt.stoL, Option.bind_some, Bool.not_true, Bool.not_false, if_true, if_false, Bool.false_eq_true, reduceCtorEq, ite_true, ite_false]
              refine ⟨by rw [List.length_map]; omega, hJ2 _ _ ⟨pre ++ [one], rest2, .fz (.tup one), by rw [f1, List.append_assoc]; rfl, rfl, ?_, rfl⟩⟩
              rw [longer_snoc, if_pos m, List.map_append]
              rfl
            · have e : (one.any fun g => decide (g ∈ lot)) = false := by
                rw [Bool.eq_false_iff]
                intro z
                exact m (by simpa using z)
              simp only [e, dSeq, dSkip, dSet, dOwn, dFrz, dIf, dRet, dExp, dApp, dExt, dPutT, dParO, dPar, dFor, dTok, dFz, dLst, dTup, dCons, dNil, vals?, Option.map_some, Option.map_none, dVar, dC, dOp, dB, dNotT, dNotV, dAndV, dOrV, dAndT, dOrT, dIfE, dCall, dCallF, dCal, dCalX, dIt, dItM, dLc, dYes, dRng1, dSl, dPart, dNoPart, dNeg, dMt, dEnum, dSetSort, dRaise, dTry, D.seq, isStr, rv_int, rv_bl, rv_str, rv_non, rv_tup, rv_lst, rv_scr, rv_ty, rv_bor, List.map_cons, List.map_nil, List.getElem?_cons_zero, List.getElem?_cons_succ, List.set_cons_zero, List.set_cons_succ, wipeG, DEnds.x, DEnds.loop, Tgt.sto, Tgt.stoL, Option.bind_some, Bool.not_true, Bool.not_false, if_true, if_false, Bool.false_eq_true, reduceCtorEq, ite_true, ite_false]
              refine ⟨fun z => z.elim, ?_⟩
              refine lcGo_map (fun g => .tup (put U one g)) lot (fun g hg => ⟨_, rfl, fun R r => ?_⟩) ?_
              · simp only [dSeq, dSkip, dSet, dOwn, dFrz, dIf, dRet, dExp, dApp, dExt, dPutT, dParO, dPar, dFor, dTok, dFz, dLst, dTup, dCons, dNil, vals?, Option.map_some, Option.map_none, dVar, dC, dOp, dB, dNotT, dNotV, dAndV, dOrV, dAndT, dOrT, dIfE, dCall, dCallF, dCal, dCalX, dIt, dItM, dLc, dYes, dRng1, dSl, dPart, dNoPart, dNeg, dMt, dEnum, dSetSort, dRaise, dTry, D.seq, isStr, rv_int, rv_bl, rv_str, rv_non, rv_tup, rv_lst, rv_scr, rv_ty, rv_bor, List.map_cons, List.map_nil, List.getElem?_cons_zero, List.getElem?_cons_succ, List.set_cons_zero, List.set_cons_succ, wipeG, DEnds.x, DEnds.loop, Tgt.sto, Tgt.stoL, Option.bind_some, Bool.not_true, Bool.not_false, if_true, if_false, Bool.false_eq_true, reduceCtorEq, ite_true, ite_false]
                exact ⟨U, one, g, hU, hone, hlot.subset hg, rfl, r⟩
              · refine ⟨by rw [List.length_map, List.length_map]; omega, hJ2 _ _ ⟨pre ++ [one], rest2, .fz (.tup one), by rw [f1, List.append_assoc]; rfl, rfl, ?_, rfl⟩⟩
                rw [longer_snoc, if_neg m, List.map_append, List.map_map]
                rfl
      · obtain ⟨pre, rest2, t4, f1, f2, rfl, rfl⟩ := hI
        have er : rest2 = [] := List.map_eq_nil_iff.mp f2.symm
        subst er
        rw [List.append_nil] at f1
        subst f1
        simp only [dSeq, dSkip, dSet, dOwn, dFrz, dIf, dRet, dExp, dApp, dExt, dPutT, dParO, dPar, dFor, dTok, dFz, dLst, dTup, dCons, dNil, vals?, Option.map_some, Option.map_none, dVar, dC, dOp, dB, dNotT, dNotV, dAndV, dOrV, dAndT, dOrT, dIfE, dCall, dCallF, dCal, dCalX, dIt, dItM, dLc, dYes, dRng1, dSl, dPart, dNoPart, dNeg, dMt, dEnum, dSetSort, dRaise, dTry, D.seq, isStr, rv_int, rv_bl, rv_str, rv_non, rv_tup, rv_lst, rv_scr, rv_ty, rv_bor, List.map_cons, List.map_nil, List.getElem?_cons_zero, List.getElem?_cons_succ, List.set_cons_zero, List.set_cons_succ, wipeG, DEnds.x, DEnds.loop, Tgt.sto, Tgt.stoL, Option.bind_some, Bool.not_true, Bool.not_false, if_true, if_false, Bool.false_eq_true, reduceCtorEq, ite_true, ite_false]
        have hLU : LU U (longer U F lot) := fun l hl => by
          obtain ⟨one, ho, z⟩ := mem_longer.mp hl
          rcases z with ⟨_, rfl⟩ | ⟨_, m, _, rfl⟩
          · exact sF _ ho
          · exact put_sub
        refine ⟨U, longer U F lot, hU, hLU, fun z => ?_, longer_few hU.nd hU.few memF hlot, rfl, hJ _ _ ⟨done ++ [lot], rest, .fz (.tup lot), .fz (.lst ((longer U F lot).map .tup)), t4, s5, by rw [e1, List.append_assoc]; rfl, rfl, ?_, rfl⟩⟩
        · obtain ⟨one, ho, z⟩ := mem_longer.mp z
          rcases z with ⟨⟨x, hx, _⟩, e⟩ | ⟨_, m, hm, e⟩
          · rw [← e] at hx; cases hx
          · have : m ∈ put U one m := mem_put.mpr ⟨hlot.subset hm, .inr rfl⟩
            rw [← e] at this; cases this
        · rw [res_congr hU (hit_LU U (done ++ [lot])) fun a => (step_min hU.nd memF hlot a).symm]
  · obtain ⟨done, rest, s2, s3, s4, s5, e1, e2, rfl, rfl⟩ := hI
    have er : rest = [] := List.map_eq_nil_iff.mp e2.symm
    subst er
    rw [List.append_nil] at e1
    subst e1
    simp only [dSeq, dSkip, dSet, dOwn, dFrz, dIf, dRet, dExp, dApp, dExt, dPutT, dParO, dPar, dFor, dTok, dFz, dLst, dTup, dCons, dNil, vals?, Option.map_some, Option.map_none, dVar, dC, dOp, dB, dNotT, dNotV, dAndV, dOrV, dAndT, dOrT, dIfE, dCall, dCallF, dCal, dCalX, dIt, dItM, dLc, dYes, dRng1, dSl, dPart, dNoPart, dNeg, dMt, dEnum, dSetSort, dRaise, dTry, D.seq, isStr, rv_int, rv_bl, rv_str, rv_non, rv_tup, rv_lst, rv_scr, rv_ty, rv_bor, List.map_cons, List.map_nil, List.getElem?_cons_zero, List.getElem?_cons_succ, List.set_cons_zero, List.set_cons_succ, wipeG, DEnds.x, DEnds.loop, Tgt.sto, Tgt.stoL, Option.bind_some, Bool.not_true, Bool.not_false, if_true, if_false, Bool.false_eq_true, reduceCtorEq, ite_true, ite_false]
    exact q
end K47

set_option Elab.async false
set_option linter.all false
set_option maxRecDepth 100000
set_option maxHeartbeats 4000000
/-! K47G: crossings of any lots; what is refused. -/
namespace K47
open PySem PySem.Spec PyProof.Rows L2 DL
open Classical
theorem fit_asT : ∀ {n : Nat} {d : D}, fit n d = true → fit n (asT d) = true
  | 0, d, h => by cases d <;> simp [fit] at h <;> simp [asT, h]
  | n + 1, d, h => by
    by_cases e : ∃ xs, d = .lst xs ∨ d = .tup xs
    · obtain ⟨xs, e⟩ := e
      obtain ⟨k, hk, hx⟩ := fit_seq h e
      rw [asT_seq e, fit_tup]
      refine List.all_eq_true.mpr fun y hy => ?_
      obtain ⟨x, hx', rfl⟩ := List.mem_map.mp hy
      have : k = n := by omega
      subst this
      exact fit_asT (hx x hx')
    · have : isSeq d = false := by
        cases d <;> first | rfl | (exact absurd ⟨_, .inl rfl⟩ e) | (exact absurd ⟨_, .inr rfl⟩ e) | (simp [fit] at h)
      rw [asT_atom this]
      exact h
theorem len_crossings_of {C : Addr} : ∀ ds W Q E, sp_crossings_of C ds W Q E → ds.length = ["lots"].length := fun ds W Q E h => by
  obtain ⟨d, rfl, _⟩ := h; rfl
theorem isi_no {d : D} {Q : D → Prop} (hf : ∃ n, fit n d = true) (h : ∀ xs, d ≠ .tup xs) (q : Q (.bl false)) : fIsi [d, .ty "tuple"] Q := by
  obtain ⟨n, hf⟩ := hf
  obtain ⟨t, et⟩ := Option.isSome_iff_exists.mp (fit_tyn hf)
  refine fIsi_ty et (by decide) ?_
  have e : isiT t "tuple" = false := by
    cases d <;> simp [tyn] at et <;> first | (subst et; rfl) | (exact absurd rfl (h _))
  rw [e]
  exact q
theorem wp_crossings_of {C_InvalidLots : Addr} : ∀ ds W Q E, sp_crossings_of C_InvalidLots ds W Q E → t_crossings_of C_InvalidLots { nx := fun _ W' => Q .non W', rt := Q, xc := fun C fs _ W' => E C fs W' } (startG ["lots", "told", "at", "lot"] ds) W := fun ds W Q E h => by
  obtain ⟨d, rfl, hf, q⟩ := h
  show t_crossings_of _ _ [.fz d, .no, .no, .no] W
  simp only [t_crossings_of, dSeq, dSkip, dSet, dOwn, dFrz, dIf, dRet, dExp, dApp, dExt, dPutT, dParO, dPar, dFor, dTok, dFz, dLst, dTup, dCons, dNil, vals?, Option.map_some, Option.map_none, dVar, dC, dOp, dB, dNotT, dNotV, dAndV, dOrV, dAndT, dOrT, dIfE, dCall, dCallF, dCal, dCalX, dIt, dItM, dLc, dYes, dRng1, dSl, dPart, dNoPart, dNeg, dMt, dEnum, dSetSort, dRaise, dTry, D.seq, isStr, rv_int, rv_bl, rv_str, rv_non, rv_tup, rv_lst, rv_scr, rv_ty, rv_bor, List.map_cons, List.map_nil, List.getElem?_cons_zero, List.getElem?_cons_succ, List.set_cons_zero, List.set_cons_succ, wipeG, DEnds.x, DEnds.loop, Tgt.sto, Tgt.stoL, Option.bind_some, Bool.not_true, Bool.not_false, if_true, if_false, Bool.false_eq_true, reduceCtorEq, ite_true, ite_false]
  refine ⟨d, rfl, hf, ?_⟩
  have hfa := fit_asT hf
  simp only [dSeq, dSkip, dSet, dOwn, dFrz, dIf, dRet, dExp, dApp, dExt, dPutT, dParO, dPar, dFor, dTok, dFz, dLst, dTup, dCons, dNil, vals?, Option.map_some, Option.map_none, dVar, dC, dOp, dB, dNotT, dNotV, dAndV, dOrV, dAndT, dOrT, dIfE, dCall, dCallF, dCal, dCalX, dIt, dItM, dLc, dYes, dRng1, dSl, dPart, dNoPart, dNeg, dMt, dEnum, dSetSort, dRaise, dTry, D.seq, isStr, rv_int, rv_bl, rv_str, rv_non, rv_tup, rv_lst, rv_scr, rv_ty, rv_bor, List.map_cons, List.map_nil, List.getElem?_cons_zero, List.getElem?_cons_succ, List.set_cons_zero, List.set_cons_succ, wipeG, DEnds.x, DEnds.loop, Tgt.sto, Tgt.stoL, Option.bind_some, Bool.not_true, Bool.not_false, if_true, if_false, Bool.false_eq_true, reduceCtorEq, ite_true, ite_false]
  rcases q with ⟨U, lots, hU, hL, e, q⟩ | ⟨hn, q⟩ | ⟨xs, ys, z, e, h1, h2, h3, q⟩
  · rw [e]
    simp only [dSeq, dSkip, dSet, dOwn, dFrz, dIf, dRet, dExp, dApp, dExt, dPutT, dParO, dPar, dFor, dTok, dFz, dLst, dTup, dCons, dNil, vals?, Option.map_some, Option.map_none, dVar, dC, dOp, dB, dNotT, dNotV, dAndV, dOrV, dAndT, dOrT, dIfE, dCall, dCallF, dCal, dCalX, dIt, dItM, dLc, dYes, dRng1, dSl, dPart, dNoPart, dNeg, dMt, dEnum, dSetSort, dRaise, dTry, D.seq, isStr, rv_int, rv_bl, rv_str, rv_non, rv_tup, rv_lst, rv_scr, rv_ty, rv_bor, List.map_cons, List.map_nil, List.getElem?_cons_zero, List.getElem?_cons_succ, List.set_cons_zero, List.set_cons_succ, wipeG, DEnds.x, DEnds.loop, Tgt.sto, Tgt.stoL, Option.bind_some, Bool.not_true, Bool.not_false, if_true, if_false, Bool.false_eq_true, reduceCtorEq, ite_true, ite_false]
    refine fIsi_ty rfl (by decide) ?_
    simp only [show isiT "tuple" "tuple" = true from rfl, dSeq, dSkip, dSet, dOwn, dFrz, dIf, dRet, dExp, dApp, dExt, dPutT, dParO, dPar, dFor, dTok, dFz, dLst, dTup, dCons, dNil, vals?, Option.map_some, Option.map_none, dVar, dC, dOp, dB, dNotT, dNotV, dAndV, dOrV, dAndT, dOrT, dIfE, dCall, dCallF, dCal, dCalX, dIt, dItM, dLc, dYes, dRng1, dSl, dPart, dNoPart, dNeg, dMt, dEnum, dSetSort, dRaise, dTry, D.seq, isStr, rv_int, rv_bl, rv_str, rv_non, rv_tup, rv_lst, rv_scr, rv_ty, rv_bor, List.map_cons, List.map_nil, List.getElem?_cons_zero, List.getElem?_cons_succ, List.set_cons_zero, List.set_cons_succ, wipeG, DEnds.x, DEnds.loop, Tgt.sto, Tgt.stoL, Option.bind_some, Bool.not_true, Bool.not_false, if_true, if_false, Bool.false_eq_true, reduceCtorEq, ite_true, ite_false]
    refine forGo_inv (fun items Γ W' => ∃ pre rest s2 s3, lots = pre ++ rest ∧ items = enumD pre.length (rest.map D.tup) ∧ Γ = [.fz d, .fz (.tup (lots.map D.tup)), s2, s3] ∧ W' = W) (fun dd r Γ W' J hI hJ => ?_) (fun Γ W' hI => ?_) _ _ _ ⟨[], lots, .no, .no, rfl, rfl, rfl, rfl⟩
    · obtain ⟨pre, rest, s2, s3, e1, e2, rfl, rfl⟩ := hI
      cases rest with
      | nil => cases e2
      | cons lot rest =>
        rw [List.map_cons, enumD] at e2
        injection e2 with e2 e3
        subst e2
        subst e3
        have hlot : lot.Sublist U := hL lot (by rw [e1]; exact List.mem_append_right _ List.mem_cons_self)
        refine ⟨_, rfl, ?_⟩
        simp only [dSeq, dSkip, dSet, dOwn, dFrz, dIf, dRet, dExp, dApp, dExt, dPutT, dParO, dPar, dFor, dTok, dFz, dLst, dTup, dCons, dNil, vals?, Option.map_some, Option.map_none, dVar, dC, dOp, dB, dNotT, dNotV, dAndV, dOrV, dAndT, dOrT, dIfE, dCall, dCallF, dCal, dCalX, dIt, dItM, dLc, dYes, dRng1, dSl, dPart, dNoPart, dNeg, dMt, dEnum, dSetSort, dRaise, dTry, D.seq, isStr, rv_int, rv_bl, rv_str, rv_non, rv_tup, rv_lst, rv_scr, rv_ty, rv_bor, List.map_cons, List.map_nil, List.getElem?_cons_zero, List.getElem?_cons_succ, List.set_cons_zero, List.set_cons_succ, wipeG, DEnds.x, DEnds.loop, Tgt.sto, Tgt.stoL, Option.bind_some, Bool.not_true, Bool.not_false, if_true, if_false, Bool.false_eq_true, reduceCtorEq, ite_true, ite_false]
        refine ⟨.tup lot, rfl, lot_ft (hU.sub hlot) _, fun l hl => ?_, ?_⟩
        · rw [← tup_inj hl]
          have := hlot.length_le
          have := hU.few
          omega
        · rw [isLot_ok hU hlot]
          simp only [dSeq, dSkip, dSet, dOwn, dFrz, dIf, dRet, dExp, dApp, dExt, dPutT, dParO, dPar, dFor, dTok, dFz, dLst, dTup, dCons, dNil, vals?, Option.map_some, Option.map_none, dVar, dC, dOp, dB, dNotT, dNotV, dAndV, dOrV, dAndT, dOrT, dIfE, dCall, dCallF, dCal, dCalX, dIt, dItM, dLc, dYes, dRng1, dSl, dPart, dNoPart, dNeg, dMt, dEnum, dSetSort, dRaise, dTry, D.seq, isStr, rv_int, rv_bl, rv_str, rv_non, rv_tup, rv_lst, rv_scr, rv_ty, rv_bor, List.map_cons, List.map_nil, List.getElem?_cons_zero, List.getElem?_cons_succ, List.set_cons_zero, List.set_cons_succ, wipeG, DEnds.x, DEnds.loop, Tgt.sto, Tgt.stoL, Option.bind_some, Bool.not_true, Bool.not_false, if_true, if_false, Bool.false_eq_true, reduceCtorEq, ite_true, ite_false]
          exact hJ _ _ ⟨pre ++ [lot], rest, .fz (.int pre.length), .fz (.tup lot), by rw [e1, List.append_assoc]; rfl, by rw [List.length_append]; rfl, rfl, rfl⟩
    · obtain ⟨pre, rest, s2, s3, e1, e2, rfl, rfl⟩ := hI
      simp only [dSeq, dSkip, dSet, dOwn, dFrz, dIf, dRet, dExp, dApp, dExt, dPutT, dParO, dPar, dFor, dTok, dFz, dLst, dTup, dCons, dNil, vals?, Option.map_some, Option.map_none, dVar, dC, dOp, dB, dNotT, dNotV, dAndV, dOrV, dAndT, dOrT, dIfE, dCall, dCallF, dCal, dCalX, dIt, dItM, dLc, dYes, dRng1, dSl, dPart, dNoPart, dNeg, dMt, dEnum, dSetSort, dRaise, dTry, D.seq, isStr, rv_int, rv_bl, rv_str, rv_non, rv_tup, rv_lst, rv_scr, rv_ty, rv_bor, List.map_cons, List.map_nil, List.getElem?_cons_zero, List.getElem?_cons_succ, List.set_cons_zero, List.set_cons_succ, wipeG, DEnds.x, DEnds.loop, Tgt.sto, Tgt.stoL, Option.bind_some, Bool.not_true, Bool.not_false, if_true, if_false, Bool.false_eq_true, reduceCtorEq, ite_true, ite_false]
      exact ⟨U, lots, hU, hL, rfl, q⟩
  · rw [rv_fit hfa]
    refine isi_no ⟨_, hfa⟩ hn ?_
    simp only [dSeq, dSkip, dSet, dOwn, dFrz, dIf, dRet, dExp, dApp, dExt, dPutT, dParO, dPar, dFor, dTok, dFz, dLst, dTup, dCons, dNil, vals?, Option.map_some, Option.map_none, dVar, dC, dOp, dB, dNotT, dNotV, dAndV, dOrV, dAndT, dOrT, dIfE, dCall, dCallF, dCal, dCalX, dIt, dItM, dLc, dYes, dRng1, dSl, dPart, dNoPart, dNeg, dMt, dEnum, dSetSort, dRaise, dTry, D.seq, isStr, rv_int, rv_bl, rv_str, rv_non, rv_tup, rv_lst, rv_scr, rv_ty, rv_bor, List.map_cons, List.map_nil, List.getElem?_cons_zero, List.getElem?_cons_succ, List.set_cons_zero, List.set_cons_succ, wipeG, DEnds.x, DEnds.loop, Tgt.sto, Tgt.stoL, Option.bind_some, Bool.not_true, Bool.not_false, if_true, if_false, Bool.false_eq_true, reduceCtorEq, ite_true, ite_false]
    exact q
  · rw [e] at hfa ⊢
    simp only [dSeq, dSkip, dSet, dOwn, dFrz, dIf, dRet, dExp, dApp, dExt, dPutT, dParO, dPar, dFor, dTok, dFz, dLst, dTup, dCons, dNil, vals?, Option.map_some, Option.map_none, dVar, dC, dOp, dB, dNotT, dNotV, dAndV, dOrV, dAndT, dOrT, dIfE, dCall, dCallF, dCal, dCalX, dIt, dItM, dLc, dYes, dRng1, dSl, dPart, dNoPart, dNeg, dMt, dEnum, dSetSort, dRaise, dTry, D.seq, isStr, rv_int, rv_bl, rv_str, rv_non, rv_tup, rv_lst, rv_scr, rv_ty, rv_bor, List.map_cons, List.map_nil, List.getElem?_cons_zero, List.getElem?_cons_succ, List.set_cons_zero, List.set_cons_succ, wipeG, DEnds.x, DEnds.loop, Tgt.sto, Tgt.stoL, Option.bind_some, Bool.not_true, Bool.not_false, if_true, if_false, Bool.false_eq_true, reduceCtorEq, ite_true, ite_false]
    refine fIsi_ty rfl (by decide) ?_
    simp only [show isiT "tuple" "tuple" = true from rfl, dSeq, dSkip, dSet, dOwn, dFrz, dIf, dRet, dExp, dApp, dExt, dPutT, dParO, dPar, dFor, dTok, dFz, dLst, dTup, dCons, dNil, vals?, Option.map_some, Option.map_none, dVar, dC, dOp, dB, dNotT, dNotV, dAndV, dOrV, dAndT, dOrT, dIfE, dCall, dCallF, dCal, dCalX, dIt, dItM, dLc, dYes, dRng1, dSl, dPart, dNoPart, dNeg, dMt, dEnum, dSetSort, dRaise, dTry, D.seq, isStr, rv_int, rv_bl, rv_str, rv_non, rv_tup, rv_lst, rv_scr, rv_ty, rv_bor, List.map_cons, List.map_nil, List.getElem?_cons_zero, List.getElem?_cons_succ, List.set_cons_zero, List.set_cons_succ, wipeG, DEnds.x, DEnds.loop, Tgt.sto, Tgt.stoL, Option.bind_some, Bool.not_true, Bool.not_false, if_true, if_false, Bool.false_eq_true, reduceCtorEq, ite_true, ite_false]
    have hfx : ∀ x ∈ xs ++ z :: ys, fit 2 x = true := by
      rw [fit_tup] at hfa
      exact List.all_eq_true.mp hfa
    refine forGo_inv (fun items Γ W' => ∃ pre rest s2 s3, xs ++ z :: ys = pre ++ rest ∧ (∃ r2, xs = pre ++ r2) ∧ items = enumD pre.length rest ∧ Γ = [.fz d, .fz (.tup (xs ++ z :: ys)), s2, s3] ∧ W' = W) (fun dd r Γ W' J hI hJ => ?_) (fun Γ W' hI => ?_) _ _ _ ⟨[], _, .no, .no, rfl, ⟨xs, rfl⟩, rfl, rfl, rfl⟩
    · obtain ⟨pre, rest, s2, s3, e1, ⟨r2, e4⟩, e2, rfl, rfl⟩ := hI
      cases rest with
      | nil => cases e2
      | cons lot rest =>
        rw [enumD] at e2
        injection e2 with e2 e3
        subst e2
        subst e3
        have hm : lot ∈ xs ++ z :: ys := by rw [e1]; exact List.mem_append_right _ List.mem_cons_self
        refine ⟨_, rfl, ?_⟩
        simp only [dSeq, dSkip, dSet, dOwn, dFrz, dIf, dRet, dExp, dApp, dExt, dPutT, dParO, dPar, dFor, dTok, dFz, dLst, dTup, dCons, dNil, vals?, Option.map_some, Option.map_none, dVar, dC, dOp, dB, dNotT, dNotV, dAndV, dOrV, dAndT, dOrT, dIfE, dCall, dCallF, dCal, dCalX, dIt, dItM, dLc, dYes, dRng1, dSl, dPart, dNoPart, dNeg, dMt, dEnum, dSetSort, dRaise, dTry, D.seq, isStr, rv_int, rv_bl, rv_str, rv_non, rv_tup, rv_lst, rv_scr, rv_ty, rv_bor, List.map_cons, List.map_nil, List.getElem?_cons_zero, List.getElem?_cons_succ, List.set_cons_zero, List.set_cons_succ, wipeG, DEnds.x, DEnds.loop, Tgt.sto, Tgt.stoL, Option.bind_some, Bool.not_true, Bool.not_false, if_true, if_false, Bool.false_eq_true, reduceCtorEq, ite_true, ite_false]
        subst e4
        rw [List.append_assoc] at e1
        have e5 := List.append_cancel_left e1
        cases r2 with
        | nil =>
          rw [List.nil_append] at e5
          injection e5 with e5 e6
          subst e5
          refine ⟨z, rfl, fit_mono (hfx z hm) (by decide), fun l hl => h3 z (by simp) l hl, ?_⟩
          rw [h2]
          simp only [dSeq, dSkip, dSet, dOwn, dFrz, dIf, dRet, dExp, dApp, dExt, dPutT, dParO, dPar, dFor, dTok, dFz, dLst, dTup, dCons, dNil, vals?, Option.map_some, Option.map_none, dVar, dC, dOp, dB, dNotT, dNotV, dAndV, dOrV, dAndT, dOrT, dIfE, dCall, dCallF, dCal, dCalX, dIt, dItM, dLc, dYes, dRng1, dSl, dPart, dNoPart, dNeg, dMt, dEnum, dSetSort, dRaise, dTry, D.seq, isStr, rv_int, rv_bl, rv_str, rv_non, rv_tup, rv_lst, rv_scr, rv_ty, rv_bor, List.map_cons, List.map_nil, List.getElem?_cons_zero, List.getElem?_cons_succ, List.set_cons_zero, List.set_cons_succ, wipeG, DEnds.x, DEnds.loop, Tgt.sto, Tgt.stoL, Option.bind_some, Bool.not_true, Bool.not_false, if_true, if_false, Bool.false_eq_true, reduceCtorEq, ite_true, ite_false]
          rw [List.append_nil] at q
          exact q
        | cons y r2 =>
          rw [List.cons_append] at e5
          injection e5 with e5 e6
          subst e5
          refine ⟨y, rfl, fit_mono (hfx y hm) (by decide), fun l hl => h3 y (by simp) l hl, ?_⟩
          rw [h1 y (by simp)]
          simp only [dSeq, dSkip, dSet, dOwn, dFrz, dIf, dRet, dExp, dApp, dExt, dPutT, dParO, dPar, dFor, dTok, dFz, dLst, dTup, dCons, dNil, vals?, Option.map_some, Option.map_none, dVar, dC, dOp, dB, dNotT, dNotV, dAndV, dOrV, dAndT, dOrT, dIfE, dCall, dCallF, dCal, dCalX, dIt, dItM, dLc, dYes, dRng1, dSl, dPart, dNoPart, dNeg, dMt, dEnum, dSetSort, dRaise, dTry, D.seq, isStr, rv_int, rv_bl, rv_str, rv_non, rv_tup, rv_lst, rv_scr, rv_ty, rv_bor, List.map_cons, List.map_nil, List.getElem?_cons_zero, List.getElem?_cons_succ, List.set_cons_zero, List.set_cons_succ, wipeG, DEnds.x, DEnds.loop, Tgt.sto, Tgt.stoL, Option.bind_some, Bool.not_true, Bool.not_false, if_true, if_false, Bool.false_eq_true, reduceCtorEq, ite_true, ite_false]
          exact hJ _ _ ⟨pre ++ [y], rest, .fz (.int pre.length), .fz y, by rw [List.append_assoc, List.append_assoc, ← e6]; simp, ⟨r2, by rw [List.append_assoc]; rfl⟩, by rw [List.length_append]; rfl, rfl, rfl⟩
    · obtain ⟨pre, rest, s2, s3, e1, ⟨r2, e4⟩, e2, rfl, rfl⟩ := hI
      cases rest with
      | nil =>
        exfalso
        have := congrArg List.length e1
        rw [e4] at this
        simp only [List.length_append, List.length_cons, List.length_nil] at this
        omega
      | cons a b => cases e2
end K47

set_option Elab.async false
set_option linter.all false
set_option maxRecDepth 100000
set_option maxHeartbeats 4000000
/-! K47H: the box. -/
namespace K47
open PySem PySem.Spec PyProof.Rows L2 DL
open Classical
theorem log_lt {i : Int} {k : Nat} (h : i.natAbs < 2 ^ k) (hk : 0 < k) : i.natAbs.log2 < k := by
  by_cases z : i.natAbs = 0
  · rw [z]; simpa using hk
  · exact (Nat.log2_lt z).mpr h
section
variable {W : Ws} {b c : Nat}
theorem BoxAt.setc (h : BoxAt W b c) {ms : List Int} (hm : ms.length ≤ 1000) : BoxAt (W.set c (ms.map .int)) b c ∧ Fr b c W (W.set c (ms.map .int)) := by
  obtain ⟨ne, bl, ns, h1, h2, h3, h4, h5⟩ := h
  refine ⟨⟨ne, bl, ms, by rw [List.getElem?_set_ne (Ne.symm ne)]; exact h1, ?_, h3, h4, hm⟩, by rw [List.length_set]; exact Nat.le_refl _, fun i _ _ hc => List.getElem?_set_ne (Ne.symm hc)⟩
  exact List.getElem?_set_self (List.getElem?_eq_some_iff.mp h2).1
theorem BoxAt.setb (h : BoxAt W b c) {bl : Int} (h0 : 0 ≤ bl) (h1 : bl < 2147483647) : BoxAt (W.set b [.tok c, .int bl]) b c ∧ Fr b c W (W.set b [.tok c, .int bl]) := by
  obtain ⟨ne, bl', ns, g1, g2, g3, g4, g5⟩ := h
  refine ⟨⟨ne, bl, ns, List.getElem?_set_self (List.getElem?_eq_some_iff.mp g1).1, by rw [List.getElem?_set_ne ne]; exact g2, h0, h1, g5⟩, by rw [List.length_set]; exact Nat.le_refl _, fun i _ hb _ => List.getElem?_set_ne (Ne.symm hb)⟩
theorem Fr.refl : Fr b c W W := ⟨Nat.le_refl _, fun _ _ _ _ => rfl⟩
theorem Fr.trans {W1 W2 : Ws} (h : Fr b c W W1) (g : Fr b c W1 W2) : Fr b c W W2 := ⟨Nat.le_trans h.1 g.1, fun i hi hb hc => (g.2 i (Nat.lt_of_lt_of_le hi h.1) hb hc).trans (h.2 i hi hb hc)⟩
end
theorem deq_nil (xs : List D) : deq (.lst xs) (.lst []) = xs.isEmpty := by
  cases xs <;> simp [deq, deqL]
theorem fit_ints (n : Nat) (ns : List Int) : (ns.map D.int).all (fit n) = true := by
  rw [List.all_map]
  exact List.all_eq_true.mpr fun i _ => by simp
theorem len_law_box : ∀ ds W Q E, sp_law_box ds W Q E → ds.length = ["script"].length := fun ds W Q E h => by
  obtain ⟨d, rfl, _⟩ := h; rfl
def absD : D → D
  | .int i => .int (if i < 0 then -i else i)
  | d => d
def bigD : D → Bool
  | .int i => decide (10 ^ 18 ≤ i)
  | _ => false
theorem cut_len {α : Type} (xs : List α) (lo hi : Option Int) : (cutL xs lo hi).length ≤ xs.length := by
  unfold cutL
  rw [List.length_take, List.length_drop]
  omega
theorem wp_law_box : ∀ ds W Q E, sp_law_box ds W Q E → t_law_box { nx := fun _ W' => Q .non W', rt := Q } (startG ["script", "cells", "blend", "cell"] ds) W := fun ds W Q E h => by
  obtain ⟨ns, rfl, hn, q⟩ := h
  show t_law_box _ [.fz (.scr ns), .no, .no, .no] W
  simp only [t_law_box, dSeq, dSkip, dSet, dOwn, dFrz, dIf, dRet, dExp, dApp, dExt, dPutT, dParO, dPar, dFor, dTok, dFz, dLst, dTup, dCons, dNil, vals?, Option.map_some, Option.map_none, dVar, dC, dOp, dB, dNotT, dNotV, dAndV, dOrV, dAndT, dOrT, dIfE, dCall, dCallF, dCal, dCalX, dIt, dItM, dLc, dYes, dRng1, dSl, dPart, dNoPart, dNeg, dMt, dEnum, dSetSort, dRaise, dTry, D.seq, isStr, rv_int, rv_bl, rv_str, rv_non, rv_tup, rv_lst, rv_scr, rv_ty, rv_bor, List.map_cons, List.map_nil, List.getElem?_cons_zero, List.getElem?_cons_succ, List.set_cons_zero, List.set_cons_succ, wipeG, DEnds.x, DEnds.loop, Tgt.sto, Tgt.stoL, Option.bind_some, Bool.not_true, Bool.not_false, if_true, if_false, Bool.false_eq_true, reduceCtorEq, ite_true, ite_false, fSl]
  refine ⟨fun z => z.elim, ?_⟩
  have hcut := cut_len ns none (some 60)
  refine lcGo_map absD _ (fun y hy => ?_) ?_
  · obtain ⟨i, hi, rfl⟩ := List.mem_map.mp hy
    refine ⟨_, rfl, fun R r => ?_⟩
    simp only [dSeq, dSkip, dSet, dOwn, dFrz, dIf, dRet, dExp, dApp, dExt, dPutT, dParO, dPar, dFor, dTok, dFz, dLst, dTup, dCons, dNil, vals?, Option.map_some, Option.map_none, dVar, dC, dOp, dB, dNotT, dNotV, dAndV, dOrV, dAndT, dOrT, dIfE, dCall, dCallF, dCal, dCalX, dIt, dItM, dLc, dYes, dRng1, dSl, dPart, dNoPart, dNeg, dMt, dEnum, dSetSort, dRaise, dTry, D.seq, isStr, rv_int, rv_bl, rv_str, rv_non, rv_tup, rv_lst, rv_scr, rv_ty, rv_bor, List.map_cons, List.map_nil, List.getElem?_cons_zero, List.getElem?_cons_succ, List.set_cons_zero, List.set_cons_succ, wipeG, DEnds.x, DEnds.loop, Tgt.sto, Tgt.stoL, Option.bind_some, Bool.not_true, Bool.not_false, if_true, if_false, Bool.false_eq_true, reduceCtorEq, ite_true, ite_false, fIntC, fAbs]
    exact r
  · obtain ⟨cs, ecs, hcs⟩ : ∃ cs : List Int, ((cutL ns none (some 60)).map D.int).map absD = cs.map D.int ∧ cs.length ≤ 63 := by
      refine ⟨(cutL ns none (some 60)).map fun i => if i < 0 then -i else i, ?_, by rw [List.length_map]; omega⟩
      rw [List.map_map, List.map_map]
      rfl
    rw [ecs]
    refine ⟨fun z => z.elim, ?_⟩
    refine forGo_inv (fun items Γ W' => (∃ rest : List Int, items = rest.map D.int) ∧ (∃ (bl : Int) (s3 : Sl), Γ = [.fz (.scr ns), .fz (.lst (cs.map D.int)), .fz (.int bl), s3] ∧ 0 ≤ bl ∧ bl < 2147483647) ∧ W' = W) (fun d r Γ W' J hI hJ => ?_) (fun Γ W' hI => ?_) _ _ _ ⟨⟨cs, rfl⟩, ⟨77023, .no, rfl, by decide, by decide⟩, rfl⟩
    · obtain ⟨⟨rest, e⟩, ⟨bl, s3, rfl, h0, h1⟩, rfl⟩ := hI
      cases rest with
      | nil => cases e
      | cons i rest =>
        rw [List.map_cons] at e
        injection e with e1 e2
        subst e1
        subst e2
        refine ⟨_, rfl, ?_⟩
        simp only [dSeq, dSkip, dSet, dOwn, dFrz, dIf, dRet, dExp, dApp, dExt, dPutT, dParO, dPar, dFor, dTok, dFz, dLst, dTup, dCons, dNil, vals?, Option.map_some, Option.map_none, dVar, dC, dOp, dB, dNotT, dNotV, dAndV, dOrV, dAndT, dOrT, dIfE, dCall, dCallF, dCal, dCalX, dIt, dItM, dLc, dYes, dRng1, dSl, dPart, dNoPart, dNeg, dMt, dEnum, dSetSort, dRaise, dTry, D.seq, isStr, rv_int, rv_bl, rv_str, rv_non, rv_tup, rv_lst, rv_scr, rv_ty, rv_bor, List.map_cons, List.map_nil, List.getElem?_cons_zero, List.getElem?_cons_succ, List.set_cons_zero, List.set_cons_succ, wipeG, DEnds.x, DEnds.loop, Tgt.sto, Tgt.stoL, Option.bind_some, Bool.not_true, Bool.not_false, if_true, if_false, Bool.false_eq_true, reduceCtorEq, ite_true, ite_false, fInt, fAdd, fIntC]
        have l1 : bl.natAbs.log2 < 64 := log_lt (by omega) (by decide)
        have l2 : (16807 : Int).natAbs.log2 < 64 := log_lt (by decide) (by decide)
        refine ⟨?_, by decide, by decide, hJ _ _ ⟨⟨rest, rfl⟩, ⟨_, .fz (.int i), rfl, Int.emod_nonneg _ (by decide), Int.emod_lt_of_pos _ (by decide)⟩, rfl⟩⟩
        show _ < _
        omega
    · obtain ⟨_, ⟨bl, s3, rfl, h0, h1⟩, rfl⟩ := hI
      simp only [dSeq, dSkip, dSet, dOwn, dFrz, dIf, dRet, dExp, dApp, dExt, dPutT, dParO, dPar, dFor, dTok, dFz, dLst, dTup, dCons, dNil, vals?, Option.map_some, Option.map_none, dVar, dC, dOp, dB, dNotT, dNotV, dAndV, dOrV, dAndT, dOrT, dIfE, dCall, dCallF, dCal, dCalX, dIt, dItM, dLc, dYes, dRng1, dSl, dPart, dNoPart, dNeg, dMt, dEnum, dSetSort, dRaise, dTry, D.seq, isStr, rv_int, rv_bl, rv_str, rv_non, rv_tup, rv_lst, rv_scr, rv_ty, rv_bor, List.map_cons, List.map_nil, List.getElem?_cons_zero, List.getElem?_cons_succ, List.set_cons_zero, List.set_cons_succ, wipeG, DEnds.x, DEnds.loop, Tgt.sto, Tgt.stoL, Option.bind_some, Bool.not_true, Bool.not_false, if_true, if_false, Bool.false_eq_true, reduceCtorEq, ite_true, ite_false]
      refine ⟨fun z => z.elim, ?_⟩
      refine lcGo_fm bigD id _ _ (fun y hy => ?_) ?_
      · obtain ⟨i, hi, rfl⟩ := List.mem_map.mp hy
        refine ⟨_, rfl, fun R r => ?_, fun _ R r => ?_⟩
        · simp only [dSeq, dSkip, dSet, dOwn, dFrz, dIf, dRet, dExp, dApp, dExt, dPutT, dParO, dPar, dFor, dTok, dFz, dLst, dTup, dCons, dNil, vals?, Option.map_some, Option.map_none, dVar, dC, dOp, dB, dNotT, dNotV, dAndV, dOrV, dAndT, dOrT, dIfE, dCall, dCallF, dCal, dCalX, dIt, dItM, dLc, dYes, dRng1, dSl, dPart, dNoPart, dNeg, dMt, dEnum, dSetSort, dRaise, dTry, D.seq, isStr, rv_int, rv_bl, rv_str, rv_non, rv_tup, rv_lst, rv_scr, rv_ty, rv_bor, List.map_cons, List.map_nil, List.getElem?_cons_zero, List.getElem?_cons_succ, List.set_cons_zero, List.set_cons_succ, wipeG, DEnds.x, DEnds.loop, Tgt.sto, Tgt.stoL, Option.bind_some, Bool.not_true, Bool.not_false, if_true, if_false, Bool.false_eq_true, reduceCtorEq, ite_true, ite_false, fInt]
          exact ⟨⟨by decide, by decide, by decide⟩, trivial, r⟩
        · simp only [dSeq, dSkip, dSet, dOwn, dFrz, dIf, dRet, dExp, dApp, dExt, dPutT, dParO, dPar, dFor, dTok, dFz, dLst, dTup, dCons, dNil, vals?, Option.map_some, Option.map_none, dVar, dC, dOp, dB, dNotT, dNotV, dAndV, dOrV, dAndT, dOrT, dIfE, dCall, dCallF, dCal, dCalX, dIt, dItM, dLc, dYes, dRng1, dSl, dPart, dNoPart, dNeg, dMt, dEnum, dSetSort, dRaise, dTry, D.seq, isStr, rv_int, rv_bl, rv_str, rv_non, rv_tup, rv_lst, rv_scr, rv_ty, rv_bor, List.map_cons, List.map_nil, List.getElem?_cons_zero, List.getElem?_cons_succ, List.set_cons_zero, List.set_cons_succ, wipeG, DEnds.x, DEnds.loop, Tgt.sto, Tgt.stoL, Option.bind_some, Bool.not_true, Bool.not_false, if_true, if_false, Bool.false_eq_true, reduceCtorEq, ite_true, ite_false]
          exact r
      · refine ⟨z_size (by simp), q _ W'.length _ ?_⟩
        rw [List.nil_append, List.map_id, List.filter_map]
        refine ⟨by simp, bl, cs.filter (bigD ∘ D.int), ?_, ?_, h0, h1, ?_⟩
        · rw [List.getElem?_append_right (Nat.le_refl _), Nat.sub_self]
          rfl
        · rw [List.getElem?_append_left (by simp), List.getElem?_append_right (Nat.le_refl _), Nat.sub_self]
          rfl
        · have := List.length_filter_le (bigD ∘ D.int) cs
          omega
theorem len_law_draw : ∀ ds W Q E, sp_law_draw ds W Q E → ds.length = ["box", "many"].length := fun ds W Q E h => by
  obtain ⟨b, c, m, rfl, _⟩ := h; rfl
theorem wp_law_draw : ∀ ds W Q E, sp_law_draw ds W Q E → t_law_draw { nx := fun _ W' => Q .non W', rt := Q } (startG ["box", "many", "turn", "rest"] ds) W := fun ds W Q E h => by
  obtain ⟨b, c, m, rfl, hB, m1, m2, q⟩ := h
  show t_law_draw _ [.fz (.tok b), .fz (.int m), .no, .no] W
  simp only [t_law_draw, dSeq, dSkip, dSet, dOwn, dFrz, dIf, dRet, dExp, dApp, dExt, dPutT, dParO, dPar, dFor, dTok, dFz, dLst, dTup, dCons, dNil, vals?, Option.map_some, Option.map_none, dVar, dC, dOp, dB, dNotT, dNotV, dAndV, dOrV, dAndT, dOrT, dIfE, dCall, dCallF, dCal, dCalX, dIt, dItM, dLc, dYes, dRng1, dSl, dPart, dNoPart, dNeg, dMt, dEnum, dSetSort, dRaise, dTry, D.seq, isStr, rv_int, rv_bl, rv_str, rv_non, rv_tup, rv_lst, rv_scr, rv_ty, rv_bor, List.map_cons, List.map_nil, List.getElem?_cons_zero, List.getElem?_cons_succ, List.set_cons_zero, List.set_cons_succ, wipeG, DEnds.x, DEnds.loop, Tgt.sto, Tgt.stoL, Option.bind_some, Bool.not_true, Bool.not_false, if_true, if_false, Bool.false_eq_true, reduceCtorEq, ite_true, ite_false]
  refine ⟨by decide, by decide, ?_⟩
  refine forGo_inv (fun items Γ W' => ∃ s2, Γ = [.fz (.tok b), .fz (.int m), s2, .no] ∧ BoxAt W' b c ∧ Fr b c W W') (fun d r Γ W' J hI hJ => ?_) (fun Γ W' hI => ?_) _ _ _ ⟨.no, rfl, hB, .refl⟩
  · obtain ⟨s2, rfl, hB', fr⟩ := hI
    refine ⟨_, rfl, ?_⟩
    obtain ⟨ne, bl, ns, h1, h2, h3, h4, h5⟩ := id hB'
    simp only [dSeq, dSkip, dSet, dOwn, dFrz, dIf, dRet, dExp, dApp, dExt, dPutT, dParO, dPar, dFor, dTok, dFz, dLst, dTup, dCons, dNil, vals?, Option.map_some, Option.map_none, dVar, dC, dOp, dB, dNotT, dNotV, dAndV, dOrV, dAndT, dOrT, dIfE, dCall, dCallF, dCal, dCalX, dIt, dItM, dLc, dYes, dRng1, dSl, dPart, dNoPart, dNeg, dMt, dEnum, dSetSort, dRaise, dTry, D.seq, isStr, rv_int, rv_bl, rv_str, rv_non, rv_tup, rv_lst, rv_scr, rv_ty, rv_bor, List.map_cons, List.map_nil, List.getElem?_cons_zero, List.getElem?_cons_succ, List.set_cons_zero, List.set_cons_succ, wipeG, DEnds.x, DEnds.loop, Tgt.sto, Tgt.stoL, Option.bind_some, Bool.not_true, Bool.not_false, if_true, if_false, Bool.false_eq_true, reduceCtorEq, ite_true, ite_false, rv_tok h1, fIx, fNe]
    refine ⟨_, atI_0 _ _, ?_⟩
    simp only [rv_tok h2, dSeq, dSkip, dSet, dOwn, dFrz, dIf, dRet, dExp, dApp, dExt, dPutT, dParO, dPar, dFor, dTok, dFz, dLst, dTup, dCons, dNil, vals?, Option.map_some, Option.map_none, dVar, dC, dOp, dB, dNotT, dNotV, dAndV, dOrV, dAndT, dOrT, dIfE, dCall, dCallF, dCal, dCalX, dIt, dItM, dLc, dYes, dRng1, dSl, dPart, dNoPart, dNeg, dMt, dEnum, dSetSort, dRaise, dTry, D.seq, isStr, rv_int, rv_bl, rv_str, rv_non, rv_tup, rv_lst, rv_scr, rv_ty, rv_bor, List.map_cons, List.map_nil, List.getElem?_cons_zero, List.getElem?_cons_succ, List.set_cons_zero, List.set_cons_succ, wipeG, DEnds.x, DEnds.loop, Tgt.sto, Tgt.stoL, Option.bind_some, Bool.not_true, Bool.not_false, if_true, if_false, Bool.false_eq_true, reduceCtorEq, ite_true, ite_false, deq_nil]
    refine ⟨z_size (by decide), by rw [fit_lst]; exact fit_ints _ _, by simp, ?_⟩
    cases ns with
    | nil =>
      simp only [List.map_nil, List.isEmpty_nil, dSeq, dSkip, dSet, dOwn, dFrz, dIf, dRet, dExp, dApp, dExt, dPutT, dParO, dPar, dFor, dTok, dFz, dLst, dTup, dCons, dNil, vals?, Option.map_some, Option.map_none, dVar, dC, dOp, dB, dNotT, dNotV, dAndV, dOrV, dAndT, dOrT, dIfE, dCall, dCallF, dCal, dCalX, dIt, dItM, dLc, dYes, dRng1, dSl, dPart, dNoPart, dNeg, dMt, dEnum, dSetSort, dRaise, dTry, D.seq, isStr, rv_int, rv_bl, rv_str, rv_non, rv_tup, rv_lst, rv_scr, rv_ty, rv_bor, List.map_cons, List.map_nil, List.getElem?_cons_zero, List.getElem?_cons_succ, List.set_cons_zero, List.set_cons_succ, wipeG, DEnds.x, DEnds.loop, Tgt.sto, Tgt.stoL, Option.bind_some, Bool.not_true, Bool.not_false, if_true, if_false, Bool.false_eq_true, reduceCtorEq, ite_true, ite_false]
      exact hJ _ _ ⟨_, rfl, hB', fr⟩
    | cons n ns =>
      rw [List.map_cons] at h2
      simp only [List.map_cons, List.isEmpty_cons, dSeq, dSkip, dSet, dOwn, dFrz, dIf, dRet, dExp, dApp, dExt, dPutT, dParO, dPar, dFor, dTok, dFz, dLst, dTup, dCons, dNil, vals?, Option.map_some, Option.map_none, dVar, dC, dOp, dB, dNotT, dNotV, dAndV, dOrV, dAndT, dOrT, dIfE, dCall, dCallF, dCal, dCalX, dIt, dItM, dLc, dYes, dRng1, dSl, dPart, dNoPart, dNeg, dMt, dEnum, dSetSort, dRaise, dTry, D.seq, isStr, rv_int, rv_bl, rv_str, rv_non, rv_tup, rv_lst, rv_scr, rv_ty, rv_bor, List.map_cons, List.map_nil, List.getElem?_cons_zero, List.getElem?_cons_succ, List.set_cons_zero, List.set_cons_succ, wipeG, DEnds.x, DEnds.loop, Tgt.sto, Tgt.stoL, Option.bind_some, Bool.not_true, Bool.not_false, if_true, if_false, Bool.false_eq_true, reduceCtorEq, ite_true, ite_false, rv_tok h1, fIx, fEq]
      refine ⟨_, atI_0 _ _, ?_⟩
      simp only [rv_tok h2, dSeq, dSkip, dSet, dOwn, dFrz, dIf, dRet, dExp, dApp, dExt, dPutT, dParO, dPar, dFor, dTok, dFz, dLst, dTup, dCons, dNil, vals?, Option.map_some, Option.map_none, dVar, dC, dOp, dB, dNotT, dNotV, dAndV, dOrV, dAndT, dOrT, dIfE, dCall, dCallF, dCal, dCalX, dIt, dItM, dLc, dYes, dRng1, dSl, dPart, dNoPart, dNeg, dMt, dEnum, dSetSort, dRaise, dTry, D.seq, isStr, rv_int, rv_bl, rv_str, rv_non, rv_tup, rv_lst, rv_scr, rv_ty, rv_bor, List.map_cons, List.map_nil, List.getElem?_cons_zero, List.getElem?_cons_succ, List.set_cons_zero, List.set_cons_succ, wipeG, DEnds.x, DEnds.loop, Tgt.sto, Tgt.stoL, Option.bind_some, Bool.not_true, Bool.not_false, if_true, if_false, Bool.false_eq_true, reduceCtorEq, ite_true, ite_false]
      refine ⟨_, atI_0 _ _, by simp [rv_int], by simp, ?_⟩
      by_cases z : n = 0
      · subst z
        simp only [deq, dSeq, dSkip, dSet, dOwn, dFrz, dIf, dRet, dExp, dApp, dExt, dPutT, dParO, dPar, dFor, dTok, dFz, dLst, dTup, dCons, dNil, vals?, Option.map_some, Option.map_none, dVar, dC, dOp, dB, dNotT, dNotV, dAndV, dOrV, dAndT, dOrT, dIfE, dCall, dCallF, dCal, dCalX, dIt, dItM, dLc, dYes, dRng1, dSl, dPart, dNoPart, dNeg, dMt, dEnum, dSetSort, dRaise, dTry, D.seq, isStr, rv_int, rv_bl, rv_str, rv_non, rv_tup, rv_lst, rv_scr, rv_ty, rv_bor, List.map_cons, List.map_nil, List.getElem?_cons_zero, List.getElem?_cons_succ, List.set_cons_zero, List.set_cons_succ, wipeG, DEnds.x, DEnds.loop, Tgt.sto, Tgt.stoL, Option.bind_some, Bool.not_true, Bool.not_false, if_true, if_false, Bool.false_eq_true, reduceCtorEq, ite_true, ite_false, beq_self_eq_true, rv_tok h1, fIx]
        refine ⟨_, atI_0 _ _, ?_⟩
        simp only [dSeq, dSkip, dSet, dOwn, dFrz, dIf, dRet, dExp, dApp, dExt, dPutT, dParO, dPar, dFor, dTok, dFz, dLst, dTup, dCons, dNil, vals?, Option.map_some, Option.map_none, dVar, dC, dOp, dB, dNotT, dNotV, dAndV, dOrV, dAndT, dOrT, dIfE, dCall, dCallF, dCal, dCalX, dIt, dItM, dLc, dYes, dRng1, dSl, dPart, dNoPart, dNeg, dMt, dEnum, dSetSort, dRaise, dTry, D.seq, isStr, rv_int, rv_bl, rv_str, rv_non, rv_tup, rv_lst, rv_scr, rv_ty, rv_bor, List.map_cons, List.map_nil, List.getElem?_cons_zero, List.getElem?_cons_succ, List.set_cons_zero, List.set_cons_succ, wipeG, DEnds.x, DEnds.loop, Tgt.sto, Tgt.stoL, Option.bind_some, Bool.not_true, Bool.not_false, if_true, if_false, Bool.false_eq_true, reduceCtorEq, ite_true, ite_false, h2, fMtPop]
        refine ⟨by decide, _, rfl, ?_⟩
        obtain ⟨k1, k2⟩ := hB'.setc (ms := ns) (by simp only [List.length_cons] at h5; omega)
        exact hJ _ _ ⟨_, rfl, k1, fr.trans k2⟩
      · have e : (n == (0 : Int)) = false := by simpa using z
        simp only [deq, dSeq, dSkip, dSet, dOwn, dFrz, dIf, dRet, dExp, dApp, dExt, dPutT, dParO, dPar, dFor, dTok, dFz, dLst, dTup, dCons, dNil, vals?, Option.map_some, Option.map_none, dVar, dC, dOp, dB, dNotT, dNotV, dAndV, dOrV, dAndT, dOrT, dIfE, dCall, dCallF, dCal, dCalX, dIt, dItM, dLc, dYes, dRng1, dSl, dPart, dNoPart, dNeg, dMt, dEnum, dSetSort, dRaise, dTry, D.seq, isStr, rv_int, rv_bl, rv_str, rv_non, rv_tup, rv_lst, rv_scr, rv_ty, rv_bor, List.map_cons, List.map_nil, List.getElem?_cons_zero, List.getElem?_cons_succ, List.set_cons_zero, List.set_cons_succ, wipeG, DEnds.x, DEnds.loop, Tgt.sto, Tgt.stoL, Option.bind_some, Bool.not_true, Bool.not_false, if_true, if_false, Bool.false_eq_true, reduceCtorEq, ite_true, ite_false, e]
        exact hJ _ _ ⟨_, rfl, hB', fr⟩
  · obtain ⟨s2, rfl, hB', fr⟩ := hI
    obtain ⟨ne, bl, ns, h1, h2, h3, h4, h5⟩ := id hB'
    simp only [dSeq, dSkip, dSet, dOwn, dFrz, dIf, dRet, dExp, dApp, dExt, dPutT, dParO, dPar, dFor, dTok, dFz, dLst, dTup, dCons, dNil, vals?, Option.map_some, Option.map_none, dVar, dC, dOp, dB, dNotT, dNotV, dAndV, dOrV, dAndT, dOrT, dIfE, dCall, dCallF, dCal, dCalX, dIt, dItM, dLc, dYes, dRng1, dSl, dPart, dNoPart, dNeg, dMt, dEnum, dSetSort, dRaise, dTry, D.seq, isStr, rv_int, rv_bl, rv_str, rv_non, rv_tup, rv_lst, rv_scr, rv_ty, rv_bor, List.map_cons, List.map_nil, List.getElem?_cons_zero, List.getElem?_cons_succ, List.set_cons_zero, List.set_cons_succ, wipeG, DEnds.x, DEnds.loop, Tgt.sto, Tgt.stoL, Option.bind_some, Bool.not_true, Bool.not_false, if_true, if_false, Bool.false_eq_true, reduceCtorEq, ite_true, ite_false, rv_tok h1, fIx, fNe]
    refine ⟨_, atI_0 _ _, ?_⟩
    simp only [rv_tok h2, dSeq, dSkip, dSet, dOwn, dFrz, dIf, dRet, dExp, dApp, dExt, dPutT, dParO, dPar, dFor, dTok, dFz, dLst, dTup, dCons, dNil, vals?, Option.map_some, Option.map_none, dVar, dC, dOp, dB, dNotT, dNotV, dAndV, dOrV, dAndT, dOrT, dIfE, dCall, dCallF, dCal, dCalX, dIt, dItM, dLc, dYes, dRng1, dSl, dPart, dNoPart, dNeg, dMt, dEnum, dSetSort, dRaise, dTry, D.seq, isStr, rv_int, rv_bl, rv_str, rv_non, rv_tup, rv_lst, rv_scr, rv_ty, rv_bor, List.map_cons, List.map_nil, List.getElem?_cons_zero, List.getElem?_cons_succ, List.set_cons_zero, List.set_cons_succ, wipeG, DEnds.x, DEnds.loop, Tgt.sto, Tgt.stoL, Option.bind_some, Bool.not_true, Bool.not_false, if_true, if_false, Bool.false_eq_true, reduceCtorEq, ite_true, ite_false, deq_nil]
    refine ⟨z_size (by decide), by rw [fit_lst]; exact fit_ints _ _, by simp, ?_⟩
    cases ns with
    | nil =>
      simp only [List.map_nil, List.isEmpty_nil, dSeq, dSkip, dSet, dOwn, dFrz, dIf, dRet, dExp, dApp, dExt, dPutT, dParO, dPar, dFor, dTok, dFz, dLst, dTup, dCons, dNil, vals?, Option.map_some, Option.map_none, dVar, dC, dOp, dB, dNotT, dNotV, dAndV, dOrV, dAndT, dOrT, dIfE, dCall, dCallF, dCal, dCalX, dIt, dItM, dLc, dYes, dRng1, dSl, dPart, dNoPart, dNeg, dMt, dEnum, dSetSort, dRaise, dTry, D.seq, isStr, rv_int, rv_bl, rv_str, rv_non, rv_tup, rv_lst, rv_scr, rv_ty, rv_bor, List.map_cons, List.map_nil, List.getElem?_cons_zero, List.getElem?_cons_succ, List.set_cons_zero, List.set_cons_succ, wipeG, DEnds.x, DEnds.loop, Tgt.sto, Tgt.stoL, Option.bind_some, Bool.not_true, Bool.not_false, if_true, if_false, Bool.false_eq_true, reduceCtorEq, ite_true, ite_false, rv_tok h1, fIx]
      refine ⟨_, rfl, ?_⟩
      simp only [dSeq, dSkip, dSet, dOwn, dFrz, dIf, dRet, dExp, dApp, dExt, dPutT, dParO, dPar, dFor, dTok, dFz, dLst, dTup, dCons, dNil, vals?, Option.map_some, Option.map_none, dVar, dC, dOp, dB, dNotT, dNotV, dAndV, dOrV, dAndT, dOrT, dIfE, dCall, dCallF, dCal, dCalX, dIt, dItM, dLc, dYes, dRng1, dSl, dPart, dNoPart, dNeg, dMt, dEnum, dSetSort, dRaise, dTry, D.seq, isStr, rv_int, rv_bl, rv_str, rv_non, rv_tup, rv_lst, rv_scr, rv_ty, rv_bor, List.map_cons, List.map_nil, List.getElem?_cons_zero, List.getElem?_cons_succ, List.set_cons_zero, List.set_cons_succ, wipeG, DEnds.x, DEnds.loop, Tgt.sto, Tgt.stoL, Option.bind_some, Bool.not_true, Bool.not_false, if_true, if_false, Bool.false_eq_true, reduceCtorEq, ite_true, ite_false, fInt, fAdd, fIntC]
      have l1 : bl.natAbs.log2 < 64 := log_lt (by omega) (by decide)
      have l2 : (16807 : Int).natAbs.log2 < 64 := log_lt (by decide) (by decide)
      refine ⟨by show _ < _; omega, by decide, _, _, h1, rfl, ?_⟩
      obtain ⟨k1, k2⟩ := hB'.setb (bl := (bl * 16807 + 41) % 2147483647) (Int.emod_nonneg _ (by decide)) (Int.emod_lt_of_pos _ (by decide))
      obtain ⟨_, bl2, ns2, g1, g2, g3, g4, g5⟩ := id k1
      have e : bl2 = (bl * 16807 + 41) % 2147483647 := by
        rw [List.getElem?_set_self (List.getElem?_eq_some_iff.mp h1).1] at g1
        simp only [Option.some.injEq, List.cons.injEq, D.int.injEq] at g1
        exact g1.2.1.symm
      rw [show ([D.tok c, D.int bl].set (Int.toNat 1) (D.int ((bl * 16807 + 41) % 2147483647))) = [D.tok c, D.int ((bl * 16807 + 41) % 2147483647)] from rfl]
      simp only [rv_tok g1]
      refine ⟨_, rfl, ?_⟩
      simp only [dSeq, dSkip, dSet, dOwn, dFrz, dIf, dRet, dExp, dApp, dExt, dPutT, dParO, dPar, dFor, dTok, dFz, dLst, dTup, dCons, dNil, vals?, Option.map_some, Option.map_none, dVar, dC, dOp, dB, dNotT, dNotV, dAndV, dOrV, dAndT, dOrT, dIfE, dCall, dCallF, dCal, dCalX, dIt, dItM, dLc, dYes, dRng1, dSl, dPart, dNoPart, dNeg, dMt, dEnum, dSetSort, dRaise, dTry, D.seq, isStr, rv_int, rv_bl, rv_str, rv_non, rv_tup, rv_lst, rv_scr, rv_ty, rv_bor, List.map_cons, List.map_nil, List.getElem?_cons_zero, List.getElem?_cons_succ, List.set_cons_zero, List.set_cons_succ, wipeG, DEnds.x, DEnds.loop, Tgt.sto, Tgt.stoL, Option.bind_some, Bool.not_true, Bool.not_false, if_true, if_false, Bool.false_eq_true, reduceCtorEq, ite_true, ite_false]
      refine ⟨⟨by decide, Nat.lt_trans (log_lt (k := 64) (by decide) (by decide)) (by decide)⟩, by omega, q _ _ (Int.emod_nonneg _ (by omega)) (Int.emod_lt_of_pos _ (by omega)) k1 (fr.trans k2)⟩
    | cons n ns =>
      rw [List.map_cons] at h2
      simp only [List.map_cons, List.isEmpty_cons, dSeq, dSkip, dSet, dOwn, dFrz, dIf, dRet, dExp, dApp, dExt, dPutT, dParO, dPar, dFor, dTok, dFz, dLst, dTup, dCons, dNil, vals?, Option.map_some, Option.map_none, dVar, dC, dOp, dB, dNotT, dNotV, dAndV, dOrV, dAndT, dOrT, dIfE, dCall, dCallF, dCal, dCalX, dIt, dItM, dLc, dYes, dRng1, dSl, dPart, dNoPart, dNeg, dMt, dEnum, dSetSort, dRaise, dTry, D.seq, isStr, rv_int, rv_bl, rv_str, rv_non, rv_tup, rv_lst, rv_scr, rv_ty, rv_bor, List.map_cons, List.map_nil, List.getElem?_cons_zero, List.getElem?_cons_succ, List.set_cons_zero, List.set_cons_succ, wipeG, DEnds.x, DEnds.loop, Tgt.sto, Tgt.stoL, Option.bind_some, Bool.not_true, Bool.not_false, if_true, if_false, Bool.false_eq_true, reduceCtorEq, ite_true, ite_false, rv_tok h1, fIx]
      refine ⟨_, atI_0 _ _, ?_⟩
      simp only [dSeq, dSkip, dSet, dOwn, dFrz, dIf, dRet, dExp, dApp, dExt, dPutT, dParO, dPar, dFor, dTok, dFz, dLst, dTup, dCons, dNil, vals?, Option.map_some, Option.map_none, dVar, dC, dOp, dB, dNotT, dNotV, dAndV, dOrV, dAndT, dOrT, dIfE, dCall, dCallF, dCal, dCalX, dIt, dItM, dLc, dYes, dRng1, dSl, dPart, dNoPart, dNeg, dMt, dEnum, dSetSort, dRaise, dTry, D.seq, isStr, rv_int, rv_bl, rv_str, rv_non, rv_tup, rv_lst, rv_scr, rv_ty, rv_bor, List.map_cons, List.map_nil, List.getElem?_cons_zero, List.getElem?_cons_succ, List.set_cons_zero, List.set_cons_succ, wipeG, DEnds.x, DEnds.loop, Tgt.sto, Tgt.stoL, Option.bind_some, Bool.not_true, Bool.not_false, if_true, if_false, Bool.false_eq_true, reduceCtorEq, ite_true, ite_false, h2, fMtPop, fIntC]
      refine ⟨by decide, _, rfl, ?_⟩
      obtain ⟨k1, k2⟩ := hB'.setc (ms := ns) (by simp only [List.length_cons] at h5; omega)
      obtain ⟨_, bl2, ns2, g1, g2, g3, g4, g5⟩ := id k1
      simp only [dSeq, dSkip, dSet, dOwn, dFrz, dIf, dRet, dExp, dApp, dExt, dPutT, dParO, dPar, dFor, dTok, dFz, dLst, dTup, dCons, dNil, vals?, Option.map_some, Option.map_none, dVar, dC, dOp, dB, dNotT, dNotV, dAndV, dOrV, dAndT, dOrT, dIfE, dCall, dCallF, dCal, dCalX, dIt, dItM, dLc, dYes, dRng1, dSl, dPart, dNoPart, dNeg, dMt, dEnum, dSetSort, dRaise, dTry, D.seq, isStr, rv_int, rv_bl, rv_str, rv_non, rv_tup, rv_lst, rv_scr, rv_ty, rv_bor, List.map_cons, List.map_nil, List.getElem?_cons_zero, List.getElem?_cons_succ, List.set_cons_zero, List.set_cons_succ, wipeG, DEnds.x, DEnds.loop, Tgt.sto, Tgt.stoL, Option.bind_some, Bool.not_true, Bool.not_false, if_true, if_false, Bool.false_eq_true, reduceCtorEq, ite_true, ite_false, show (n :: ns).map D.int = D.int n :: ns.map D.int from rfl]
      have ee : ((D.int n :: ns.map D.int).eraseIdx (0 : Int).toNat) = ns.map D.int := rfl
      rw [ee]
      simp only [rv_tok g1, dSeq, dSkip, dSet, dOwn, dFrz, dIf, dRet, dExp, dApp, dExt, dPutT, dParO, dPar, dFor, dTok, dFz, dLst, dTup, dCons, dNil, vals?, Option.map_some, Option.map_none, dVar, dC, dOp, dB, dNotT, dNotV, dAndV, dOrV, dAndT, dOrT, dIfE, dCall, dCallF, dCal, dCalX, dIt, dItM, dLc, dYes, dRng1, dSl, dPart, dNoPart, dNeg, dMt, dEnum, dSetSort, dRaise, dTry, D.seq, isStr, rv_int, rv_bl, rv_str, rv_non, rv_tup, rv_lst, rv_scr, rv_ty, rv_bor, List.map_cons, List.map_nil, List.getElem?_cons_zero, List.getElem?_cons_succ, List.set_cons_zero, List.set_cons_succ, wipeG, DEnds.x, DEnds.loop, Tgt.sto, Tgt.stoL, Option.bind_some, Bool.not_true, Bool.not_false, if_true, if_false, Bool.false_eq_true, reduceCtorEq, ite_true, ite_false]
      refine ⟨_, atI_0 _ _, ?_⟩
      simp only [dSeq, dSkip, dSet, dOwn, dFrz, dIf, dRet, dExp, dApp, dExt, dPutT, dParO, dPar, dFor, dTok, dFz, dLst, dTup, dCons, dNil, vals?, Option.map_some, Option.map_none, dVar, dC, dOp, dB, dNotT, dNotV, dAndV, dOrV, dAndT, dOrT, dIfE, dCall, dCallF, dCal, dCalX, dIt, dItM, dLc, dYes, dRng1, dSl, dPart, dNoPart, dNeg, dMt, dEnum, dSetSort, dRaise, dTry, D.seq, isStr, rv_int, rv_bl, rv_str, rv_non, rv_tup, rv_lst, rv_scr, rv_ty, rv_bor, List.map_cons, List.map_nil, List.getElem?_cons_zero, List.getElem?_cons_succ, List.set_cons_zero, List.set_cons_succ, wipeG, DEnds.x, DEnds.loop, Tgt.sto, Tgt.stoL, Option.bind_some, Bool.not_true, Bool.not_false, if_true, if_false, Bool.false_eq_true, reduceCtorEq, ite_true, ite_false, fInt]
      refine ⟨⟨by omega, Nat.lt_trans (log_lt (k := 64) (by omega) (by decide)) (by decide)⟩, ?_⟩
      simp only [g2, fMtIns]
      refine ⟨by decide, by decide, by rw [List.length_map, sizeLine_eq]; omega, by omega, ?_⟩
      obtain ⟨j1, j2⟩ := k1.setc (ms := n / m :: ns2) (by
        rw [List.getElem?_set_self (List.getElem?_eq_some_iff.mp h2).1] at g2
        have : ns2.length = ns.length := by
          have := congrArg (Option.map List.length) g2
          simpa using this.symm
        simp only [List.length_cons] at h5 ⊢; omega)
      have e3 : List.take (0 : Int).toNat (ns2.map D.int) ++ [D.int (n / m)] ++ List.drop (0 : Int).toNat (ns2.map D.int) = (n / m :: ns2).map D.int := rfl
      rw [e3]
      exact q _ _ (Int.emod_nonneg _ (by omega)) (Int.emod_lt_of_pos _ (by omega)) j1 ((fr.trans k2).trans j2)
theorem len_law_pick : ∀ ds W Q E, sp_law_pick ds W Q E → ds.length = ["box", "some"].length := fun ds W Q E h => by
  obtain ⟨b, c, xs, rfl, _⟩ := h; rfl
theorem wp_law_pick : ∀ ds W Q E, sp_law_pick ds W Q E → t_law_pick { nx := fun _ W' => Q .non W', rt := Q } (startG ["box", "some"] ds) W := fun ds W Q E h => by
  obtain ⟨b, c, xs, rfl, hB, hne, hl, q⟩ := h
  show t_law_pick _ [.fz (.tok b), .fz (.lst xs)] W
  have hp : 0 < xs.length := List.length_pos_iff.mpr hne
  simp only [t_law_pick, dSeq, dSkip, dSet, dOwn, dFrz, dIf, dRet, dExp, dApp, dExt, dPutT, dParO, dPar, dFor, dTok, dFz, dLst, dTup, dCons, dNil, vals?, Option.map_some, Option.map_none, dVar, dC, dOp, dB, dNotT, dNotV, dAndV, dOrV, dAndT, dOrT, dIfE, dCall, dCallF, dCal, dCalX, dIt, dItM, dLc, dYes, dRng1, dSl, dPart, dNoPart, dNeg, dMt, dEnum, dSetSort, dRaise, dTry, D.seq, isStr, rv_int, rv_bl, rv_str, rv_non, rv_tup, rv_lst, rv_scr, rv_ty, rv_bor, List.map_cons, List.map_nil, List.getElem?_cons_zero, List.getElem?_cons_succ, List.set_cons_zero, List.set_cons_succ, wipeG, DEnds.x, DEnds.loop, Tgt.sto, Tgt.stoL, Option.bind_some, Bool.not_true, Bool.not_false, if_true, if_false, Bool.false_eq_true, reduceCtorEq, ite_true, ite_false, fLen]
  refine ⟨b, c, xs.length, rfl, hB, by omega, by omega, fun d W' h0 h1 hB' fr => ?_⟩
  simp only [dSeq, dSkip, dSet, dOwn, dFrz, dIf, dRet, dExp, dApp, dExt, dPutT, dParO, dPar, dFor, dTok, dFz, dLst, dTup, dCons, dNil, vals?, Option.map_some, Option.map_none, dVar, dC, dOp, dB, dNotT, dNotV, dAndV, dOrV, dAndT, dOrT, dIfE, dCall, dCallF, dCal, dCalX, dIt, dItM, dLc, dYes, dRng1, dSl, dPart, dNoPart, dNeg, dMt, dEnum, dSetSort, dRaise, dTry, D.seq, isStr, rv_int, rv_bl, rv_str, rv_non, rv_tup, rv_lst, rv_scr, rv_ty, rv_bor, List.map_cons, List.map_nil, List.getElem?_cons_zero, List.getElem?_cons_succ, List.set_cons_zero, List.set_cons_succ, wipeG, DEnds.x, DEnds.loop, Tgt.sto, Tgt.stoL, Option.bind_some, Bool.not_true, Bool.not_false, if_true, if_false, Bool.false_eq_true, reduceCtorEq, ite_true, ite_false, fIx]
  obtain ⟨j, rfl⟩ := Int.eq_ofNat_of_zero_le h0
  have hj : j < xs.length := by omega
  exact ⟨xs[j], by rw [atI_k, List.getElem?_eq_getElem hj], q _ (List.getElem_mem hj) _ hB' fr⟩
end K47

set_option Elab.async false
set_option linter.all false
set_option maxRecDepth 100000
set_option maxHeartbeats 4000000
/-! K47I: names, marks, wrong lots. -/
namespace K47
open PySem PySem.Spec PyProof.Rows L2 DL
open Classical
/-- a short text -/
def Tx (k : Nat) (d : D) : Prop := ∃ w : Str, d = .str w ∧ PyData.strOk w = true ∧ w.length ≤ k
theorem strOk_app {x y : Str} (h : PyData.strOk x = true) (g : PyData.strOk y = true) : PyData.strOk (x ++ y) = true := by
  unfold PyData.strOk at h g ⊢
  show (x.cps ++ y.cps).all _ = true
  rw [Array.all_append, h, g]
  rfl
theorem strOk_join : ∀ ys : List Str, (∀ y ∈ ys, PyData.strOk y = true) → PyData.strOk (Str.join "" ys) = true
  | [], _ => by decide +kernel
  | [x], h => h x List.mem_cons_self
  | x :: y :: r, h => strOk_app (strOk_app (h x List.mem_cons_self) (by decide +kernel)) (strOk_join (y :: r) fun z hz => h z (List.mem_cons_of_mem _ hz))
theorem tx_strs {k : Nat} : ∀ {ds : List D}, (∀ d ∈ ds, Tx k d) → ∃ ys : List Str, DL.strs? ds = some ys ∧ ys.length = ds.length ∧ ∀ y ∈ ys, PyData.strOk y = true ∧ y.length ≤ k
  | [], _ => ⟨[], rfl, rfl, fun y h => by cases h⟩
  | d :: ds, h => by
    obtain ⟨w, rfl, h1, h2⟩ := h d List.mem_cons_self
    obtain ⟨ys, e, l, hy⟩ := tx_strs fun x hx => h x (List.mem_cons_of_mem _ hx)
    refine ⟨w :: ys, by simp [DL.strs?, e], by simp [l], fun y hy' => ?_⟩
    rcases List.mem_cons.mp hy' with rfl | z
    · exact ⟨h1, h2⟩
    · exact hy y z
theorem sum_le {k : Nat} : ∀ {ys : List Str}, (∀ y ∈ ys, y.length ≤ k) → (ys.map (·.length)).sum ≤ k * ys.length
  | [], _ => Nat.zero_le _
  | y :: ys, h => by
    have h1 := sum_le fun x hx => h x (List.mem_cons_of_mem _ hx)
    have h2 := h y List.mem_cons_self
    rw [List.map_cons, List.sum_cons, List.length_cons, Nat.mul_succ]
    omega
theorem join_tx {ys : List Str} (h : ∀ y ∈ ys, PyData.strOk y = true ∧ y.length ≤ 1) : PyData.strOk (Txt.join "" ys) = true ∧ (Txt.join "" ys).length ≤ ys.length := by
  have e : Txt.join "" ys = Str.join "" ys := StrLaws.glued_eq_join _ _
  rw [e]
  refine ⟨strOk_join ys fun y hy => (h y hy).1, ?_⟩
  have h1 := StrLaws.join_length_le "" ys
  have h2 := sum_le fun y hy => (h y hy).2
  have h3 : ("" : Str).length = 0 := rfl
  rw [h3] at h1
  omega
theorem chars_tx {z : Str} (h : PyData.strOk z = true) : ∀ d ∈ chars z, Tx 1 d := fun d hd => by
  obtain ⟨c, hc, rfl⟩ := List.mem_map.mp hd
  refine ⟨⟨#[c]⟩, rfl, ?_, Nat.le_refl _⟩
  unfold PyData.strOk at h ⊢
  have := Array.all_eq_true_iff_forall_mem.mp h c (Array.mem_toList_iff.mp hc)
  simpa using this
theorem len_law_name : ∀ ds W Q E, sp_law_name ds W Q E → ds.length = ["box", "used"].length := fun ds W Q E h => by
  obtain ⟨b, c, u, rfl, _⟩ := h; rfl
theorem wp_law_name : ∀ ds W Q E, sp_law_name ds W Q E → t_law_name { nx := fun _ W' => Q .non W', rt := Q } (startG ["box", "used", "turn", "name", "names", "sign", "one"] ds) W := fun ds W Q E h => by
  obtain ⟨b, c, u, rfl, hB, hu, ub, uc, q⟩ := h
  show t_law_name _ [.fz (.tok b), .fz (.tok u), .no, .no, .no, .no, .no] W
  simp only [t_law_name, dSeq, dSkip, dSet, dOwn, dFrz, dIf, dRet, dExp, dApp, dExt, dPutT, dParO, dPar, dFor, dTok, dFz, dLst, dTup, dCons, dNil, vals?, Option.map_some, Option.map_none, dVar, dC, dOp, dB, dNotT, dNotV, dAndV, dOrV, dAndT, dOrT, dIfE, dCall, dCallF, dCal, dCalX, dIt, dItM, dLc, dYes, dRng1, dSl, dPart, dNoPart, dNeg, dMt, dEnum, dSetSort, dRaise, dTry, D.seq, isStr, rv_int, rv_bl, rv_str, rv_non, rv_tup, rv_lst, rv_scr, rv_ty, rv_bor, List.map_cons, List.map_nil, List.getElem?_cons_zero, List.getElem?_cons_succ, List.set_cons_zero, List.set_cons_succ, wipeG, DEnds.x, DEnds.loop, Tgt.sto, Tgt.stoL, Option.bind_some, Bool.not_true, Bool.not_false, if_true, if_false, Bool.false_eq_true, reduceCtorEq, ite_true, ite_false]
  refine ⟨by decide, by decide, ?_⟩
  refine forGo_inv (fun items Γ W' => items ≠ [] ∧ Γ = [.fz (.tok b), .fz (.tok u), .no, .no, .no, .no, .no] ∧ W' = W) (fun d r Γ W' J hI hJ => ?_) (fun Γ W' hI => absurd rfl hI.1) _ _ _ ⟨by decide, rfl, rfl⟩
  obtain ⟨_, rfl, rfl⟩ := hI
  refine ⟨_, rfl, ?_⟩
  simp only [dSeq, dSkip, dSet, dOwn, dFrz, dIf, dRet, dExp, dApp, dExt, dPutT, dParO, dPar, dFor, dTok, dFz, dLst, dTup, dCons, dNil, vals?, Option.map_some, Option.map_none, dVar, dC, dOp, dB, dNotT, dNotV, dAndV, dOrV, dAndT, dOrT, dIfE, dCall, dCallF, dCal, dCalX, dIt, dItM, dLc, dYes, dRng1, dSl, dPart, dNoPart, dNeg, dMt, dEnum, dSetSort, dRaise, dTry, D.seq, isStr, rv_int, rv_bl, rv_str, rv_non, rv_tup, rv_lst, rv_scr, rv_ty, rv_bor, List.map_cons, List.map_nil, List.getElem?_cons_zero, List.getElem?_cons_succ, List.set_cons_zero, List.set_cons_succ, wipeG, DEnds.x, DEnds.loop, Tgt.sto, Tgt.stoL, Option.bind_some, Bool.not_true, Bool.not_false, if_true, if_false, Bool.false_eq_true, reduceCtorEq, ite_true, ite_false]
  refine ⟨b, c, 3, rfl, hB, by decide, by decide, fun dn W1 h0 h1 hB1 fr1 => ?_⟩
  have ul : u < W'.length := (List.getElem?_eq_some_iff.mp hu).1
  have hu1 : W1[u]? = some [] := (fr1.2 u ul ub uc).trans hu
  simp only [dSeq, dSkip, dSet, dOwn, dFrz, dIf, dRet, dExp, dApp, dExt, dPutT, dParO, dPar, dFor, dTok, dFz, dLst, dTup, dCons, dNil, vals?, Option.map_some, Option.map_none, dVar, dC, dOp, dB, dNotT, dNotV, dAndV, dOrV, dAndT, dOrT, dIfE, dCall, dCallF, dCal, dCalX, dIt, dItM, dLc, dYes, dRng1, dSl, dPart, dNoPart, dNeg, dMt, dEnum, dSetSort, dRaise, dTry, D.seq, isStr, rv_int, rv_bl, rv_str, rv_non, rv_tup, rv_lst, rv_scr, rv_ty, rv_bor, List.map_cons, List.map_nil, List.getElem?_cons_zero, List.getElem?_cons_succ, List.set_cons_zero, List.set_cons_succ, wipeG, DEnds.x, DEnds.loop, Tgt.sto, Tgt.stoL, Option.bind_some, Bool.not_true, Bool.not_false, if_true, if_false, Bool.false_eq_true, reduceCtorEq, ite_true, ite_false, fAdd]
  refine ⟨by omega, by omega, ?_⟩
  refine lcGo_inv (fun rest acc W2 => BoxAt W2 b c ∧ W2[u]? = some [] ∧ (∀ d ∈ acc, Tx 1 d) ∧ acc.length + rest.length ≤ 3) (fun dd r2 acc W2 J2 hI hJ2 => ?_) (fun acc W2 hI => ?_) _ _ _ ⟨hB1, hu1, fun d hd => (by cases hd), by rw [rngD_len]; show 0 + _ ≤ _; omega⟩
  · obtain ⟨hB2, hu2, ht, hl⟩ := hI
    refine ⟨_, rfl, ?_⟩
    simp only [dSeq, dSkip, dSet, dOwn, dFrz, dIf, dRet, dExp, dApp, dExt, dPutT, dParO, dPar, dFor, dTok, dFz, dLst, dTup, dCons, dNil, vals?, Option.map_some, Option.map_none, dVar, dC, dOp, dB, dNotT, dNotV, dAndV, dOrV, dAndT, dOrT, dIfE, dCall, dCallF, dCal, dCalX, dIt, dItM, dLc, dYes, dRng1, dSl, dPart, dNoPart, dNeg, dMt, dEnum, dSetSort, dRaise, dTry, D.seq, isStr, rv_int, rv_bl, rv_str, rv_non, rv_tup, rv_lst, rv_scr, rv_ty, rv_bor, List.map_cons, List.map_nil, List.getElem?_cons_zero, List.getElem?_cons_succ, List.set_cons_zero, List.set_cons_succ, wipeG, DEnds.x, DEnds.loop, Tgt.sto, Tgt.stoL, Option.bind_some, Bool.not_true, Bool.not_false, if_true, if_false, Bool.false_eq_true, reduceCtorEq, ite_true, ite_false, fList]
    refine ⟨z_size (by decide), b, c, chars "abmxyz", rfl, hB2, by decide, by decide, fun x hx W3 hB3 fr3 => ?_⟩
    have ul2 : u < W2.length := (List.getElem?_eq_some_iff.mp hu2).1
    refine hJ2 _ _ ⟨hB3, (fr3.2 u ul2 ub uc).trans hu2, fun d hd => ?_, by simp only [List.length_append, List.length_cons, List.length_nil] at hl ⊢; omega⟩
    rcases List.mem_append.mp hd with z | z
    · exact ht d z
    · rw [List.mem_singleton.mp z]
      exact chars_tx (by decide +kernel) x hx
  · obtain ⟨hB2, hu2, ht, hl⟩ := hI
    obtain ⟨ys, e1, e2, hy⟩ := tx_strs ht
    obtain ⟨j1, j2⟩ := join_tx hy
    simp only [List.length_nil] at hl
    simp only [dSeq, dSkip, dSet, dOwn, dFrz, dIf, dRet, dExp, dApp, dExt, dPutT, dParO, dPar, dFor, dTok, dFz, dLst, dTup, dCons, dNil, vals?, Option.map_some, Option.map_none, dVar, dC, dOp, dB, dNotT, dNotV, dAndV, dOrV, dAndT, dOrT, dIfE, dCall, dCallF, dCal, dCalX, dIt, dItM, dLc, dYes, dRng1, dSl, dPart, dNoPart, dNeg, dMt, dEnum, dSetSort, dRaise, dTry, D.seq, isStr, rv_int, rv_bl, rv_str, rv_non, rv_tup, rv_lst, rv_scr, rv_ty, rv_bor, List.map_cons, List.map_nil, List.getElem?_cons_zero, List.getElem?_cons_succ, List.set_cons_zero, List.set_cons_succ, wipeG, DEnds.x, DEnds.loop, Tgt.sto, Tgt.stoL, Option.bind_some, Bool.not_true, Bool.not_false, if_true, if_false, Bool.false_eq_true, reduceCtorEq, ite_true, ite_false, fJoin]
    refine ⟨ys, e1, ?_, ?_⟩
    · have h2 := sum_le fun y hy' => (hy y hy').2
      have h3 : ("" : Str).length = 0 := rfl
      rw [h3]
      omega
    · simp only [rv_tok hu2, fIn, dSeq, dSkip, dSet, dOwn, dFrz, dIf, dRet, dExp, dApp, dExt, dPutT, dParO, dPar, dFor, dTok, dFz, dLst, dTup, dCons, dNil, vals?, Option.map_some, Option.map_none, dVar, dC, dOp, dB, dNotT, dNotV, dAndV, dOrV, dAndT, dOrT, dIfE, dCall, dCallF, dCal, dCalX, dIt, dItM, dLc, dYes, dRng1, dSl, dPart, dNoPart, dNeg, dMt, dEnum, dSetSort, dRaise, dTry, D.seq, isStr, rv_int, rv_bl, rv_str, rv_non, rv_tup, rv_lst, rv_scr, rv_ty, rv_bor, List.map_cons, List.map_nil, List.getElem?_cons_zero, List.getElem?_cons_succ, List.set_cons_zero, List.set_cons_succ, wipeG, DEnds.x, DEnds.loop, Tgt.sto, Tgt.stoL, Option.bind_some, Bool.not_true, Bool.not_false, if_true, if_false, Bool.false_eq_true, reduceCtorEq, ite_true, ite_false]
      refine ⟨by rw [fit_str]; exact j1, by simp, ?_⟩
      simp only [List.any_nil, dSeq, dSkip, dSet, dOwn, dFrz, dIf, dRet, dExp, dApp, dExt, dPutT, dParO, dPar, dFor, dTok, dFz, dLst, dTup, dCons, dNil, vals?, Option.map_some, Option.map_none, dVar, dC, dOp, dB, dNotT, dNotV, dAndV, dOrV, dAndT, dOrT, dIfE, dCall, dCallF, dCal, dCalX, dIt, dItM, dLc, dYes, dRng1, dSl, dPart, dNoPart, dNeg, dMt, dEnum, dSetSort, dRaise, dTry, D.seq, isStr, rv_int, rv_bl, rv_str, rv_non, rv_tup, rv_lst, rv_scr, rv_ty, rv_bor, List.map_cons, List.map_nil, List.getElem?_cons_zero, List.getElem?_cons_succ, List.set_cons_zero, List.set_cons_succ, wipeG, DEnds.x, DEnds.loop, Tgt.sto, Tgt.stoL, Option.bind_some, Bool.not_true, Bool.not_false, if_true, if_false, Bool.false_eq_true, reduceCtorEq, ite_true, ite_false, hu2, fMtApp]
      refine ⟨by rw [sizeLine_eq]; decide, ?_⟩
      obtain ⟨ne, bl, ns, k1, k2, k3⟩ := hB2
      exact q _ _ j1 (by omega) ⟨ne, bl, ns, by rw [List.getElem?_set_ne ub]; exact k1, by rw [List.getElem?_set_ne uc]; exact k2, k3⟩
theorem len_law_marks : ∀ ds W Q E, sp_law_marks ds W Q E → ds.length = ["box"].length := fun ds W Q E h => by
  obtain ⟨b, c, rfl, _⟩ := h; rfl
theorem BoxAt.push {W : Ws} {b c : Nat} (h : BoxAt W b c) (xs : List D) : BoxAt (W ++ [xs]) b c ∧ W.length ≠ b ∧ W.length ≠ c := by
  obtain ⟨ne, bl, ns, h1, h2, h3⟩ := h
  have l1 := (List.getElem?_eq_some_iff.mp h1).1
  have l2 := (List.getElem?_eq_some_iff.mp h2).1
  exact ⟨⟨ne, bl, ns, by rw [List.getElem?_append_left l1]; exact h1, by rw [List.getElem?_append_left l2]; exact h2, h3⟩, by omega, by omega⟩
theorem wp_law_marks : ∀ ds W Q E, sp_law_marks ds W Q E → t_law_marks { nx := fun _ W' => Q .non W', rt := Q } (startG ["box", "found", "one", "word", "mark"] ds) W := fun ds W Q E h => by
  obtain ⟨b, c, rfl, hB, q⟩ := h
  show t_law_marks _ [.fz (.tok b), .no, .no, .no, .no] W
  simp only [t_law_marks, dSeq, dSkip, dSet, dOwn, dFrz, dIf, dRet, dExp, dApp, dExt, dPutT, dParO, dPar, dFor, dTok, dFz, dLst, dTup, dCons, dNil, vals?, Option.map_some, Option.map_none, dVar, dC, dOp, dB, dNotT, dNotV, dAndV, dOrV, dAndT, dOrT, dIfE, dCall, dCallF, dCal, dCalX, dIt, dItM, dLc, dYes, dRng1, dSl, dPart, dNoPart, dNeg, dMt, dEnum, dSetSort, dRaise, dTry, D.seq, isStr, rv_int, rv_bl, rv_str, rv_non, rv_tup, rv_lst, rv_scr, rv_ty, rv_bor, List.map_cons, List.map_nil, List.getElem?_cons_zero, List.getElem?_cons_succ, List.set_cons_zero, List.set_cons_succ, wipeG, DEnds.x, DEnds.loop, Tgt.sto, Tgt.stoL, Option.bind_some, Bool.not_true, Bool.not_false, if_true, if_false, Bool.false_eq_true, reduceCtorEq, ite_true, ite_false]
  refine ⟨z_size (by decide), b, c, 7, rfl, hB, by decide, by decide, fun dn W1 h0 h1 hB1 _ => ?_⟩
  simp only [dSeq, dSkip, dSet, dOwn, dFrz, dIf, dRet, dExp, dApp, dExt, dPutT, dParO, dPar, dFor, dTok, dFz, dLst, dTup, dCons, dNil, vals?, Option.map_some, Option.map_none, dVar, dC, dOp, dB, dNotT, dNotV, dAndV, dOrV, dAndT, dOrT, dIfE, dCall, dCallF, dCal, dCalX, dIt, dItM, dLc, dYes, dRng1, dSl, dPart, dNoPart, dNeg, dMt, dEnum, dSetSort, dRaise, dTry, D.seq, isStr, rv_int, rv_bl, rv_str, rv_non, rv_tup, rv_lst, rv_scr, rv_ty, rv_bor, List.map_cons, List.map_nil, List.getElem?_cons_zero, List.getElem?_cons_succ, List.set_cons_zero, List.set_cons_succ, wipeG, DEnds.x, DEnds.loop, Tgt.sto, Tgt.stoL, Option.bind_some, Bool.not_true, Bool.not_false, if_true, if_false, Bool.false_eq_true, reduceCtorEq, ite_true, ite_false, fAdd]
  refine ⟨by omega, by omega, ?_⟩
  refine forGo_inv (fun items Γ W' => ∃ found s2 s3 s4, Γ = [.fz (.tok b), .ow found, s2, s3, s4] ∧ BoxAt W' b c ∧ found.Nodup ∧ (∀ m ∈ found, MkOk m) ∧ found.length + items.length ≤ 7 ∧ (found ≠ [] ∨ items ≠ [])) (fun d r Γ W' J hI hJ => ?_) (fun Γ W' hI => ?_) _ _ _ ⟨[], .no, .no, .no, rfl, hB1, List.nodup_nil, fun m hm => (by cases hm), by rw [rngD_len]; show 0 + _ ≤ _; omega, .inr fun z => ?_⟩
  · obtain ⟨found, s2, s3, s4, rfl, hB2, nd, mk, hl, ne⟩ := hI
    refine ⟨_, rfl, ?_⟩
    obtain ⟨p1, p2, p3⟩ := hB2.push []
    simp only [dSeq, dSkip, dSet, dOwn, dFrz, dIf, dRet, dExp, dApp, dExt, dPutT, dParO, dPar, dFor, dTok, dFz, dLst, dTup, dCons, dNil, vals?, Option.map_some, Option.map_none, dVar, dC, dOp, dB, dNotT, dNotV, dAndV, dOrV, dAndT, dOrT, dIfE, dCall, dCallF, dCal, dCalX, dIt, dItM, dLc, dYes, dRng1, dSl, dPart, dNoPart, dNeg, dMt, dEnum, dSetSort, dRaise, dTry, D.seq, isStr, rv_int, rv_bl, rv_str, rv_non, rv_tup, rv_lst, rv_scr, rv_ty, rv_bor, List.map_cons, List.map_nil, List.getElem?_cons_zero, List.getElem?_cons_succ, List.set_cons_zero, List.set_cons_succ, wipeG, DEnds.x, DEnds.loop, Tgt.sto, Tgt.stoL, Option.bind_some, Bool.not_true, Bool.not_false, if_true, if_false, Bool.false_eq_true, reduceCtorEq, ite_true, ite_false]
    refine ⟨z_size (by decide), b, c, W'.length, rfl, p1, by rw [List.getElem?_append_right (Nat.le_refl _), Nat.sub_self]; rfl, p2, p3, fun w W3 hw hwl hB3 => ?_⟩
    simp only [dSeq, dSkip, dSet, dOwn, dFrz, dIf, dRet, dExp, dApp, dExt, dPutT, dParO, dPar, dFor, dTok, dFz, dLst, dTup, dCons, dNil, vals?, Option.map_some, Option.map_none, dVar, dC, dOp, dB, dNotT, dNotV, dAndV, dOrV, dAndT, dOrT, dIfE, dCall, dCallF, dCal, dCalX, dIt, dItM, dLc, dYes, dRng1, dSl, dPart, dNoPart, dNeg, dMt, dEnum, dSetSort, dRaise, dTry, D.seq, isStr, rv_int, rv_bl, rv_str, rv_non, rv_tup, rv_lst, rv_scr, rv_ty, rv_bor, List.map_cons, List.map_nil, List.getElem?_cons_zero, List.getElem?_cons_succ, List.set_cons_zero, List.set_cons_succ, wipeG, DEnds.x, DEnds.loop, Tgt.sto, Tgt.stoL, Option.bind_some, Bool.not_true, Bool.not_false, if_true, if_false, Bool.false_eq_true, reduceCtorEq, ite_true, ite_false]
    refine ⟨z_size (by simp), b, c, _, rfl, hB3, by simp, by simp, fun x hx W4 hB4 _ => ?_⟩
    obtain ⟨w2, rfl, hw2, hw3⟩ : Tx 4 x := by
      simp only [List.mem_cons, List.not_mem_nil, or_false] at hx
      rcases hx with rfl | rfl | rfl | rfl
      · exact ⟨_, rfl, by decide +kernel, by decide +kernel⟩
      · exact ⟨_, rfl, by decide +kernel, by decide +kernel⟩
      · exact ⟨_, rfl, by decide +kernel, by decide +kernel⟩
      · exact ⟨_, rfl, hw, hwl⟩
    refine ⟨b, c, 2, rfl, hB4, by decide, by decide, fun d2 W5 g0 g1 hB5 _ => ?_⟩
    -- what follows once the mark is there
    have tail : ∀ (m : D) (W6 : Ws), MkOk m → BoxAt W6 b c → (dIf (dB (dOp (fIn true) (dVar 4) (dVar 1))) (dApp 1 (dVar 4)) dSkip) { nx := J, rt := Q, bk := fun _ _ => True, ct := J } [.fz (.tok b), .ow found, .fz d, .fz (.str w2), .fz m] W6 := by
      intro m W6 hm hB6
      simp only [dSeq, dSkip, dSet, dOwn, dFrz, dIf, dRet, dExp, dApp, dExt, dPutT, dParO, dPar, dFor, dTok, dFz, dLst, dTup, dCons, dNil, vals?, Option.map_some, Option.map_none, dVar, dC, dOp, dB, dNotT, dNotV, dAndV, dOrV, dAndT, dOrT, dIfE, dCall, dCallF, dCal, dCalX, dIt, dItM, dLc, dYes, dRng1, dSl, dPart, dNoPart, dNeg, dMt, dEnum, dSetSort, dRaise, dTry, D.seq, isStr, rv_int, rv_bl, rv_str, rv_non, rv_tup, rv_lst, rv_scr, rv_ty, rv_bor, List.map_cons, List.map_nil, List.getElem?_cons_zero, List.getElem?_cons_succ, List.set_cons_zero, List.set_cons_succ, wipeG, DEnds.x, DEnds.loop, Tgt.sto, Tgt.stoL, Option.bind_some, Bool.not_true, Bool.not_false, if_true, if_false, Bool.false_eq_true, reduceCtorEq, ite_true, ite_false, fIn]
      rw [rv_fit (hm.ft 0), in_mk mk hm]
      refine ⟨hm.ft _, List.all_eq_true.mpr fun y hy => (mk y hy).ft _, ?_⟩
      by_cases z : m ∈ found
      · simp only [z, decide_true, dSeq, dSkip, dSet, dOwn, dFrz, dIf, dRet, dExp, dApp, dExt, dPutT, dParO, dPar, dFor, dTok, dFz, dLst, dTup, dCons, dNil, vals?, Option.map_some, Option.map_none, dVar, dC, dOp, dB, dNotT, dNotV, dAndV, dOrV, dAndT, dOrT, dIfE, dCall, dCallF, dCal, dCalX, dIt, dItM, dLc, dYes, dRng1, dSl, dPart, dNoPart, dNeg, dMt, dEnum, dSetSort, dRaise, dTry, D.seq, isStr, rv_int, rv_bl, rv_str, rv_non, rv_tup, rv_lst, rv_scr, rv_ty, rv_bor, List.map_cons, List.map_nil, List.getElem?_cons_zero, List.getElem?_cons_succ, List.set_cons_zero, List.set_cons_succ, wipeG, DEnds.x, DEnds.loop, Tgt.sto, Tgt.stoL, Option.bind_some, Bool.not_true, Bool.not_false, if_true, if_false, Bool.false_eq_true, reduceCtorEq, ite_true, ite_false]
        exact hJ _ _ ⟨found, _, _, _, rfl, hB6, nd, mk, by simp only [List.length_cons] at hl; omega, .inl (List.ne_nil_of_mem z)⟩
      · simp only [z, decide_false, dSeq, dSkip, dSet, dOwn, dFrz, dIf, dRet, dExp, dApp, dExt, dPutT, dParO, dPar, dFor, dTok, dFz, dLst, dTup, dCons, dNil, vals?, Option.map_some, Option.map_none, dVar, dC, dOp, dB, dNotT, dNotV, dAndV, dOrV, dAndT, dOrT, dIfE, dCall, dCallF, dCal, dCalX, dIt, dItM, dLc, dYes, dRng1, dSl, dPart, dNoPart, dNeg, dMt, dEnum, dSetSort, dRaise, dTry, D.seq, isStr, rv_int, rv_bl, rv_str, rv_non, rv_tup, rv_lst, rv_scr, rv_ty, rv_bor, List.map_cons, List.map_nil, List.getElem?_cons_zero, List.getElem?_cons_succ, List.set_cons_zero, List.set_cons_succ, wipeG, DEnds.x, DEnds.loop, Tgt.sto, Tgt.stoL, Option.bind_some, Bool.not_true, Bool.not_false, if_true, if_false, Bool.false_eq_true, reduceCtorEq, ite_true, ite_false]
        refine ⟨by rw [sizeLine_eq]; omega, hJ _ _ ⟨found ++ [m], _, _, _, rfl, hB6, ?_, fun y hy => ?_, by simp only [List.length_append, List.length_cons, List.length_nil] at hl ⊢; omega, .inl (by simp)⟩⟩
        · rw [List.nodup_append]
          refine ⟨nd, by simp, fun a ha y hy e => ?_⟩
          rw [List.mem_singleton] at hy
          exact z (by rw [← hy, ← e]; exact ha)
        · rcases List.mem_append.mp hy with q1 | q1
          · exact mk y q1
          · rw [List.mem_singleton.mp q1]; exact hm
    simp only [dSeq, dSkip, dSet, dOwn, dFrz, dIf, dRet, dExp, dApp, dExt, dPutT, dParO, dPar, dFor, dTok, dFz, dLst, dTup, dCons, dNil, vals?, Option.map_some, Option.map_none, dVar, dC, dOp, dB, dNotT, dNotV, dAndV, dOrV, dAndT, dOrT, dIfE, dCall, dCallF, dCal, dCalX, dIt, dItM, dLc, dYes, dRng1, dSl, dPart, dNoPart, dNeg, dMt, dEnum, dSetSort, dRaise, dTry, D.seq, isStr, rv_int, rv_bl, rv_str, rv_non, rv_tup, rv_lst, rv_scr, rv_ty, rv_bor, List.map_cons, List.map_nil, List.getElem?_cons_zero, List.getElem?_cons_succ, List.set_cons_zero, List.set_cons_succ, wipeG, DEnds.x, DEnds.loop, Tgt.sto, Tgt.stoL, Option.bind_some, Bool.not_true, Bool.not_false, if_true, if_false, Bool.false_eq_true, reduceCtorEq, ite_true, ite_false, fEq]
    refine ⟨by simp, by simp, ?_⟩
    by_cases z : d2 = 0
    · subst z
      simp only [deq, beq_self_eq_true, dSeq, dSkip, dSet, dOwn, dFrz, dIf, dRet, dExp, dApp, dExt, dPutT, dParO, dPar, dFor, dTok, dFz, dLst, dTup, dCons, dNil, vals?, Option.map_some, Option.map_none, dVar, dC, dOp, dB, dNotT, dNotV, dAndV, dOrV, dAndT, dOrT, dIfE, dCall, dCallF, dCal, dCalX, dIt, dItM, dLc, dYes, dRng1, dSl, dPart, dNoPart, dNeg, dMt, dEnum, dSetSort, dRaise, dTry, D.seq, isStr, rv_int, rv_bl, rv_str, rv_non, rv_tup, rv_lst, rv_scr, rv_ty, rv_bor, List.map_cons, List.map_nil, List.getElem?_cons_zero, List.getElem?_cons_succ, List.set_cons_zero, List.set_cons_succ, wipeG, DEnds.x, DEnds.loop, Tgt.sto, Tgt.stoL, Option.bind_some, Bool.not_true, Bool.not_false, if_true, if_false, Bool.false_eq_true, reduceCtorEq, ite_true, ite_false]
      refine ⟨b, c, 4, rfl, hB5, by decide, by decide, fun d3 W6 k0 k1 hB6 _ => ?_⟩
      refine ⟨z_size (by simp), ?_⟩
      exact tail (.tup [.str w2, .int d3]) W6 ⟨w2, [d3], rfl, hw2, hw3, .inl rfl, fun n hn => by rw [List.mem_singleton.mp hn]; omega⟩ hB6
    · have e : (d2 == (0 : Int)) = false := by simpa using z
      simp only [deq, e, dSeq, dSkip, dSet, dOwn, dFrz, dIf, dRet, dExp, dApp, dExt, dPutT, dParO, dPar, dFor, dTok, dFz, dLst, dTup, dCons, dNil, vals?, Option.map_some, Option.map_none, dVar, dC, dOp, dB, dNotT, dNotV, dAndV, dOrV, dAndT, dOrT, dIfE, dCall, dCallF, dCal, dCalX, dIt, dItM, dLc, dYes, dRng1, dSl, dPart, dNoPart, dNeg, dMt, dEnum, dSetSort, dRaise, dTry, D.seq, isStr, rv_int, rv_bl, rv_str, rv_non, rv_tup, rv_lst, rv_scr, rv_ty, rv_bor, List.map_cons, List.map_nil, List.getElem?_cons_zero, List.getElem?_cons_succ, List.set_cons_zero, List.set_cons_succ, wipeG, DEnds.x, DEnds.loop, Tgt.sto, Tgt.stoL, Option.bind_some, Bool.not_true, Bool.not_false, if_true, if_false, Bool.false_eq_true, reduceCtorEq, ite_true, ite_false]
      refine ⟨b, c, 3, rfl, hB5, by decide, by decide, fun d3 W6 k0 k1 hB6 _ => ?_⟩
      simp only [dSeq, dSkip, dSet, dOwn, dFrz, dIf, dRet, dExp, dApp, dExt, dPutT, dParO, dPar, dFor, dTok, dFz, dLst, dTup, dCons, dNil, vals?, Option.map_some, Option.map_none, dVar, dC, dOp, dB, dNotT, dNotV, dAndV, dOrV, dAndT, dOrT, dIfE, dCall, dCallF, dCal, dCalX, dIt, dItM, dLc, dYes, dRng1, dSl, dPart, dNoPart, dNeg, dMt, dEnum, dSetSort, dRaise, dTry, D.seq, isStr, rv_int, rv_bl, rv_str, rv_non, rv_tup, rv_lst, rv_scr, rv_ty, rv_bor, List.map_cons, List.map_nil, List.getElem?_cons_zero, List.getElem?_cons_succ, List.set_cons_zero, List.set_cons_succ, wipeG, DEnds.x, DEnds.loop, Tgt.sto, Tgt.stoL, Option.bind_some, Bool.not_true, Bool.not_false, if_true, if_false, Bool.false_eq_true, reduceCtorEq, ite_true, ite_false, fInt]
      refine ⟨⟨by decide, by decide, by decide⟩, b, c, _, rfl, hB6, by decide, by decide, fun d4 W7 j0 j1 hB7 _ => ?_⟩
      refine ⟨z_size (by simp), ?_⟩
      refine tail (.tup [.str w2, .int d3, .int d4]) W7 ⟨w2, [d3, d4], rfl, hw2, hw3, .inr rfl, fun n hn => ?_⟩ hB7
      simp only [List.mem_cons, List.not_mem_nil, or_false] at hn
      have e12 : (10 : Int) ^ (12 : Int).toNat = 1000000000000 := by decide
      rw [e12] at j1
      rcases hn with rfl | rfl <;> omega
  · obtain ⟨found, s2, s3, s4, rfl, hB2, nd, mk, hl, ne⟩ := hI
    simp only [dSeq, dSkip, dSet, dOwn, dFrz, dIf, dRet, dExp, dApp, dExt, dPutT, dParO, dPar, dFor, dTok, dFz, dLst, dTup, dCons, dNil, vals?, Option.map_some, Option.map_none, dVar, dC, dOp, dB, dNotT, dNotV, dAndV, dOrV, dAndT, dOrT, dIfE, dCall, dCallF, dCal, dCalX, dIt, dItM, dLc, dYes, dRng1, dSl, dPart, dNoPart, dNeg, dMt, dEnum, dSetSort, dRaise, dTry, D.seq, isStr, rv_int, rv_bl, rv_str, rv_non, rv_tup, rv_lst, rv_scr, rv_ty, rv_bor, List.map_cons, List.map_nil, List.getElem?_cons_zero, List.getElem?_cons_succ, List.set_cons_zero, List.set_cons_succ, wipeG, DEnds.x, DEnds.loop, Tgt.sto, Tgt.stoL, Option.bind_some, Bool.not_true, Bool.not_false, if_true, if_false, Bool.false_eq_true, reduceCtorEq, ite_true, ite_false, fSort]
    have mkd : ∀ m ∈ dsort found, MkOk m := fun m hm => mk m ((dsort_perm _).mem_iff.mp hm)
    refine ⟨⟨fun m hm => clsM.ft m (mk m hm), fun a ha b hb => clsM.al a b (mk a ha) (mk b hb), .inr (.inl fun m hm => ?_)⟩, q _ _ ⟨dsort_asc clsM mk nd, mkd, ?_⟩ (fun z => ?_) hB2⟩
    · obtain ⟨w, ns, e, _⟩ := mk m hm
      exact ⟨_, _, e⟩
    · rw [(dsort_perm _).length_eq]
      simp only [List.length_nil] at hl
      omega
    · have := (dsort_perm found).length_eq
      rw [z] at this
      rcases ne with ne | ne
      · exact ne (List.length_eq_zero_iff.mp this.symm)
      · exact ne rfl
  · have := congrArg List.length z
    rw [rngD_len] at this
    simp only [List.length_nil] at this
    omega
end K47

set_option Elab.async false
set_option linter.all false
set_option maxRecDepth 100000
set_option maxHeartbeats 4000000
/-! K47J: wrong lots; the law's own crossings. -/
namespace K47
open PySem PySem.Spec PyProof.Rows L2 DL
open Classical
theorem asT_mk {m : D} (h : MkOk m) : asT m = m := by
  obtain ⟨w, ns, rfl, _⟩ := h
  have : ∀ ns : List Int, asTL (ns.map D.int) = ns.map D.int := fun ns => by
    rw [asTL_map, List.map_map]
    exact List.map_congr_left fun i _ => by simp [asT]
  simp [asT, asTL, this]
theorem wrong_one {x : D} (hf : fit 1 x = true) (h : isMk (asT x) = false) : Wrong (.tup [x]) := by
  have e : asT (.tup [x]) = .tup [asT x] := by simp [asT, asTL]
  refine ⟨by rw [fit_tup]; simp [hf], ?_, fun l hl => ?_⟩
  · rw [e]
    simp [isLot, h]
  · rw [e] at hl
    rw [← tup_inj hl]
    simp
theorem wrong_two {x y : D} (hf : fit 1 x = true) (hg : fit 1 y = true) (h : dlt (asT x) (asT y) = false) : Wrong (.tup [x, y]) := by
  have e : asT (.tup [x, y]) = .tup [asT x, asT y] := by simp [asT, asTL]
  refine ⟨by rw [fit_tup]; simp [hf, hg], ?_, fun l hl => ?_⟩
  · rw [e]
    have : (List.range ([asT x, asT y].length - 1)) = [0] := rfl
    simp only [isLot, this, List.all_cons, List.all_nil, Bool.and_true, Bool.and_eq_false_iff]
    exact .inr h
  · rw [e] at hl
    rw [← tup_inj hl]
    simp
theorem wrong_atom {x : D} (hf : fit 0 x = true) : Wrong x := by
  have e : isSeq x = false := by cases x <;> first | rfl | (simp [fit] at hf)
  refine ⟨fit_mono hf (by decide), ?_, fun l hl => ?_⟩
  · rw [asT_atom e]
    cases x <;> first | rfl | (simp [isSeq] at e)
  · rw [asT_atom e] at hl
    subst hl
    simp [isSeq] at e
theorem len_law_wrong : ∀ ds W Q E, sp_law_wrong ds W Q E → ds.length = ["box", "marks"].length := fun ds W Q E h => by
  obtain ⟨b, c, U, rfl, _⟩ := h; rfl
theorem cut_first {α : Type} (x : α) (xs : List α) : cutL (x :: xs) none (some 1) = [x] := by
  unfold cutL
  rw [HT.sIx_none, show HT.sIx (x :: xs).length (x :: xs).length (some 1) = 1 from by
    rw [show (1 : Int) = ((1 : Nat) : Int) from rfl, HT.sIx_nat, List.length_cons]; omega]
  rfl
def Pu (t : TD) (d : D) (Γ : Gs) (W : Ws) : Prop := ∀ E Q, Q (.val d) W → t E Γ W Q
def PuA (t : TDA) (ds : List D) (Γ : Gs) (W : Ws) : Prop := ∀ E (Q : List EV → Ws → Prop), Q (ds.map .val) W → t E Γ W Q
theorem vals_map : ∀ ds : List D, vals? (ds.map .val) = some ds
  | [] => rfl
  | d :: ds => by simp [vals?, vals_map ds]
section
variable {Γ : Gs} {W : Ws} {t u : TD} {a : TDA} {d e : D} {ds : List D}
theorem pu_c : Pu (dC d) d Γ W := fun E Q q => q
theorem pu_nil : PuA dNil [] Γ W := fun E Q q => q
theorem pu_cons (h : Pu t d Γ W) (g : PuA a ds Γ W) : PuA (dCons t a) (d :: ds) Γ W := fun E Q q => h E _ (g E _ q)
theorem pu_tup (g : PuA a ds Γ W) (hz : ds.length ≤ 1000) : Pu (dTup a) (.tup ds) Γ W := fun E Q q => by
  unfold dTup
  refine g E _ ?_
  rw [vals_map]
  exact ⟨z_size hz, q⟩
theorem pu_neg {i : Int} (h : Pu t (.int i) Γ W) : Pu (dNeg t) (.int (-i)) Γ W := fun E Q q => h E _ q
theorem pu_ix {xs : List D} {i : Int} {n : Nat} (h : Pu t (.tup xs) Γ W) (g : Pu u (.int i) Γ W) (hx : L2.atI xs i = some d) : Pu (dOp fIx t u) d Γ W := fun E Q q => h E _ (g E _ ⟨d, hx, q⟩)
theorem pu_ixl {xs : List D} {i : Int} (h : Pu t (.lst xs) Γ W) (g : Pu u (.int i) Γ W) (hx : L2.atI xs i = some d) : Pu (dOp fIx t u) d Γ W := fun E Q q => h E _ (g E _ ⟨d, hx, q⟩)
theorem seq_set {i : Nat} {v : TDS} {E : DEnds} (h : Pu t d Γ W) (q : v E (Γ.set i (.fz d)) W) : dSeq (dSet i t) v E Γ W := h _ _ q
theorem pu_lst (g : PuA a ds Γ W) (hz : ds.length ≤ 1000) : Pu (dFz (dLst a)) (.lst ds) Γ W := fun E Q q => by
  unfold dFz dLst
  refine g E _ ?_
  rw [vals_map]
  exact ⟨z_size hz, q⟩
theorem ret_cal {p : DSp} {E : DEnds} (g : PuA a ds Γ W) (q : p ds W (fun d W2 => E.rt d W2) X0) : dRet (dCal p a) E Γ W := by
  unfold dRet dCal
  refine g _ _ ?_
  rw [vals_map]
  exact q
theorem pu_var {i : Nat} (h : Γ[i]? = some (.fz d)) : Pu (dVar i) d Γ W := fun E Q q => by
  unfold dVar
  rw [h]
  exact q
theorem pu_add {xs ys : List D} (h : Pu t (.tup xs) Γ W) (g : Pu u (.tup ys) Γ W) (hz : xs.length + ys.length ≤ 1000) : Pu (dOp fAdd t u) (.tup (xs ++ ys)) Γ W := fun E Q q => h E _ (g E _ ⟨z_size hz, q⟩)
theorem pu_cut {xs : List D} {x : D} (h : Pu t (.tup (x :: xs)) Γ W) : Pu (dSl t dNoPart (dPart (dC (.int 1)))) (.tup [x]) Γ W := fun E Q q => h E _ (by
  show Q (.val (.tup (cutL (x :: xs) none (some 1)))) W
  rw [cut_first]
  exact q)
end
theorem wp_law_wrong : ∀ ds W Q E, sp_law_wrong ds W Q E → t_law_wrong { nx := fun _ W' => Q .non W', rt := Q } (startG ["box", "marks", "mark"] ds) W := fun ds W Q E h => by
  obtain ⟨b, c, U, rfl, hB, hU, ne, q⟩ := h
  show t_law_wrong _ [.fz (.tok b), .fz (.lst U), .no] W
  match U, ne, hU with
  | m :: U', _, hU =>
    have hm := hU.mo m List.mem_cons_self
    obtain ⟨w, ns, e, hw, hwl, hns, hn⟩ := id hm
    subst e
    obtain ⟨n0, r, en⟩ : ∃ n0 r, ns = n0 :: r := by
      cases ns with
      | nil => simp at hns
      | cons n0 r => exact ⟨n0, r, rfl⟩
    subst en
    have hv : ∀ W, Pu (dVar 2) (.tup (.str w :: (n0 :: r).map .int)) [.fz (.tok b), .fz (.lst (.tup (.str w :: (n0 :: r).map .int) :: U')), .fz (.tup (.str w :: (n0 :: r).map .int))] W := fun W => pu_var rfl
    unfold t_law_wrong
    refine seq_set (pu_ixl (pu_var rfl) (pu_c (d := .int 0)) (atI_0 _ _)) ?_
    show dRet _ _ [.fz (.tok b), .fz (.lst (.tup (.str w :: (n0 :: r).map .int) :: U')), .fz (.tup (.str w :: (n0 :: r).map .int))] W
    have z1 : ((D.str w :: (n0 :: r).map D.int) ++ [D.int 0, D.int 0]).length ≤ 1000 := by
      simp only [List.length_append, List.length_cons, List.length_map, List.length_nil] at hns ⊢
      omega
    have hi := hv W
    have P := pu_cons (pu_tup (pu_cons hi (pu_cons hi pu_nil)) (by simp)) (pu_cons (pu_c (d := .non)) (pu_cons (pu_tup (pu_cons (pu_cut hi) pu_nil) (by simp)) (pu_cons (pu_tup (pu_cons (pu_tup (pu_cons (pu_ix (n := 0) hi (pu_c (d := .int 0)) (atI_0 _ _)) (pu_cons (pu_neg (pu_c (d := .int 1))) pu_nil)) (by simp)) pu_nil) (by simp))
      (pu_cons (pu_tup (pu_cons (pu_tup (pu_cons (pu_c (d := .str "a")) (pu_cons (pu_c (d := .int 2)) pu_nil)) (by simp)) (pu_cons (pu_tup (pu_cons (pu_c (d := .str "a")) (pu_cons (pu_c (d := .int 1)) pu_nil)) (by simp)) pu_nil)) (by simp)) (pu_cons (pu_tup (pu_cons (pu_tup (pu_cons (pu_c (d := .str "a")) (pu_cons (pu_c (d := .bl true)) pu_nil)) (by simp)) pu_nil) (by simp))
      (pu_cons (pu_c (d := .int 3)) (pu_cons (pu_c (d := .str "lot")) (pu_cons (pu_tup (pu_cons (pu_tup (pu_cons (pu_ix (n := 0) hi (pu_c (d := .int 1)) (show L2.atI _ 1 = some (.int n0) from atI_k (D.str w :: (n0 :: r).map D.int) 1)) (pu_cons (pu_ix (n := 0) hi (pu_c (d := .int 0)) (atI_0 _ _)) pu_nil)) (by simp)) pu_nil) (by simp))
      (pu_cons (pu_tup (pu_cons (pu_c (d := .str "ab")) pu_nil) (by simp)) (pu_cons (pu_tup (pu_cons (pu_add hi (pu_tup (pu_cons (pu_c (d := .int 0)) (pu_cons (pu_c (d := .int 0)) pu_nil)) (by simp)) (by rw [← List.length_append]; exact z1)) pu_nil) (by simp))
      (pu_cons (pu_tup (pu_cons (pu_c (d := .non)) pu_nil) (by simp)) (pu_cons (pu_tup (pu_cons (pu_tup (pu_cons (pu_c (d := .str "b")) (pu_cons (pu_c (d := .non)) pu_nil)) (by simp)) pu_nil) (by simp)) (pu_nil (Γ := [.fz (.tok b), .fz (.lst (.tup (.str w :: (n0 :: r).map .int) :: U')), .fz (.tup (.str w :: (n0 :: r).map .int))]) (W := W))))))))))))))
    refine ret_cal (pu_cons (pu_var rfl) (pu_cons (pu_lst P (by simp)) pu_nil)) ⟨b, c, _, rfl, hB, by simp, by simp, fun x hx W' hB' _ => q x W' ?_ hB'⟩
    clear P
    have am := asT_mk hm
    have fm := hm.ft 0
    simp only [List.mem_cons, List.not_mem_nil, or_false] at hx
    rcases hx with rfl | rfl | rfl | rfl | rfl | rfl | rfl | rfl | rfl | rfl | rfl | rfl | rfl
    · exact wrong_two fm fm (dlt_irrefl _)
    · exact wrong_atom (by simp)
    · exact wrong_one (by simp [hw]) (by simp [asT, asTL, isMk])
    · exact wrong_one (by simp [hw]) (by simp [asT, asTL, isMk, isNum])
    · exact wrong_two (by simp; decide +kernel) (by simp; decide +kernel) (by simp only [asT, asTL]; decide +kernel)
    · exact wrong_one (by simp; decide +kernel) (by simp [asT, asTL, isMk, isNum])
    · exact wrong_atom (by simp)
    · exact wrong_atom (by simp; decide +kernel)
    · exact wrong_one (by simp [hw]) (by simp [asT, asTL, isMk])
    · exact wrong_one (by simp; decide +kernel) (by simp [asT, asTL, isMk])
    · refine wrong_one ?_ ?_
      · rw [fit_tup]
        simp [hw]
      · have : ∀ (xs : List D), asT (.tup (.str w :: xs)) = .tup (.str w :: xs.map asT) := fun xs => by simp [asT, asTL, asTL_map]
        rw [List.cons_append, this]
        have : (decide (((((n0 :: r).map D.int ++ [D.int 0, D.int 0]).map asT)).length = 1) || decide (((((n0 :: r).map D.int ++ [D.int 0, D.int 0]).map asT)).length = 2)) = false := by
          simp
        simp only [isMk, this, Bool.false_and]
    · exact wrong_one (by simp) (by simp [asT, isMk])
    · exact wrong_one (by simp; decide +kernel) (by simp [asT, asTL, isMk, isNum])
end K47

set_option Elab.async false
set_option linter.all false
set_option maxRecDepth 100000
set_option maxHeartbeats 4000000
/-! K47K: the law's own crossings. -/
namespace K47
open PySem PySem.Spec PyProof.Rows L2 DL
open Classical
theorem len_law_some : ∀ ds W Q E, sp_law_some ds W Q E → ds.length = ["guards"].length := fun ds W Q E h => by
  obtain ⟨U, rfl, _⟩ := h; rfl
theorem wp_law_some : ∀ ds W Q E, sp_law_some ds W Q E → t_law_some { nx := fun _ W' => Q .non W', rt := Q } (startG ["guards", "found", "guard", "lot"] ds) W := fun ds W Q E h => by
  obtain ⟨U, rfl, hl, q⟩ := h
  show t_law_some _ [.fz (.lst U), .no, .no, .no] W
  simp only [t_law_some, dSeq, dSkip, dSet, dOwn, dFrz, dIf, dRet, dExp, dApp, dExt, dPutT, dParO, dPar, dFor, dTok, dFz, dLst, dTup, dCons, dNil, vals?, Option.map_some, Option.map_none, dVar, dC, dOp, dB, dNotT, dNotV, dAndV, dOrV, dAndT, dOrT, dIfE, dCall, dCallF, dCal, dCalX, dIt, dItM, dLc, dYes, dRng1, dSl, dPart, dNoPart, dNeg, dMt, dEnum, dSetSort, dRaise, dTry, D.seq, isStr, rv_int, rv_bl, rv_str, rv_non, rv_tup, rv_lst, rv_scr, rv_ty, rv_bor, List.map_cons, List.map_nil, List.getElem?_cons_zero, List.getElem?_cons_succ, List.set_cons_zero, List.set_cons_succ, wipeG, DEnds.x, DEnds.loop, Tgt.sto, Tgt.stoL, Option.bind_some, Bool.not_true, Bool.not_false, if_true, if_false, Bool.false_eq_true, reduceCtorEq, ite_true, ite_false]
  refine ⟨z_size (by decide), z_size (by decide), fun z => z.elim, ?_⟩
  refine forGo_inv (fun items Γ W' => ∃ pre s2, U = pre ++ items ∧ Γ = [.fz (.lst U), .fz (.lst ((subs pre).map .tup)), s2, .no] ∧ W' = W) (fun d r Γ W' J hI hJ => ?_) (fun Γ W' hI => ?_) _ _ _ ⟨[], .no, rfl, rfl, rfl⟩
  · obtain ⟨pre, s2, e1, rfl, rfl⟩ := hI
    refine ⟨_, rfl, ?_⟩
    have hp : pre.length ≤ 7 := by
      have := congrArg List.length e1
      rw [List.length_append] at this
      omega
    have h2 : 2 ^ pre.length ≤ 2 ^ 7 := Nat.pow_le_pow_right (by decide) hp
    have h3 : (2 : Nat) ^ 7 = 128 := by decide
    simp only [dSeq, dSkip, dSet, dOwn, dFrz, dIf, dRet, dExp, dApp, dExt, dPutT, dParO, dPar, dFor, dTok, dFz, dLst, dTup, dCons, dNil, vals?, Option.map_some, Option.map_none, dVar, dC, dOp, dB, dNotT, dNotV, dAndV, dOrV, dAndT, dOrT, dIfE, dCall, dCallF, dCal, dCalX, dIt, dItM, dLc, dYes, dRng1, dSl, dPart, dNoPart, dNeg, dMt, dEnum, dSetSort, dRaise, dTry, D.seq, isStr, rv_int, rv_bl, rv_str, rv_non, rv_tup, rv_lst, rv_scr, rv_ty, rv_bor, List.map_cons, List.map_nil, List.getElem?_cons_zero, List.getElem?_cons_succ, List.set_cons_zero, List.set_cons_succ, wipeG, DEnds.x, DEnds.loop, Tgt.sto, Tgt.stoL, Option.bind_some, Bool.not_true, Bool.not_false, if_true, if_false, Bool.false_eq_true, reduceCtorEq, ite_true, ite_false]
    refine ⟨fun z => z.elim, ?_⟩
    refine lcGo_map (fun x => match x with
      | .tup l => .tup (l ++ [d])
      | _ => .non) _ (fun y hy => ⟨_, rfl, fun R r => ?_⟩) ?_
    · obtain ⟨l, hl', rfl⟩ := List.mem_map.mp hy
      have := (mem_subs.mp hl').length_le
      simp only [dSeq, dSkip, dSet, dOwn, dFrz, dIf, dRet, dExp, dApp, dExt, dPutT, dParO, dPar, dFor, dTok, dFz, dLst, dTup, dCons, dNil, vals?, Option.map_some, Option.map_none, dVar, dC, dOp, dB, dNotT, dNotV, dAndV, dOrV, dAndT, dOrT, dIfE, dCall, dCallF, dCal, dCalX, dIt, dItM, dLc, dYes, dRng1, dSl, dPart, dNoPart, dNeg, dMt, dEnum, dSetSort, dRaise, dTry, D.seq, isStr, rv_int, rv_bl, rv_str, rv_non, rv_tup, rv_lst, rv_scr, rv_ty, rv_bor, List.map_cons, List.map_nil, List.getElem?_cons_zero, List.getElem?_cons_succ, List.set_cons_zero, List.set_cons_succ, wipeG, DEnds.x, DEnds.loop, Tgt.sto, Tgt.stoL, Option.bind_some, Bool.not_true, Bool.not_false, if_true, if_false, Bool.false_eq_true, reduceCtorEq, ite_true, ite_false, fAdd]
      exact ⟨z_size (by simp), z_size (by simp only [List.length_cons, List.length_nil]; omega), r⟩
    · simp only [dSeq, dSkip, dSet, dOwn, dFrz, dIf, dRet, dExp, dApp, dExt, dPutT, dParO, dPar, dFor, dTok, dFz, dLst, dTup, dCons, dNil, vals?, Option.map_some, Option.map_none, dVar, dC, dOp, dB, dNotT, dNotV, dAndV, dOrV, dAndT, dOrT, dIfE, dCall, dCallF, dCal, dCalX, dIt, dItM, dLc, dYes, dRng1, dSl, dPart, dNoPart, dNeg, dMt, dEnum, dSetSort, dRaise, dTry, D.seq, isStr, rv_int, rv_bl, rv_str, rv_non, rv_tup, rv_lst, rv_scr, rv_ty, rv_bor, List.map_cons, List.map_nil, List.getElem?_cons_zero, List.getElem?_cons_succ, List.set_cons_zero, List.set_cons_succ, wipeG, DEnds.x, DEnds.loop, Tgt.sto, Tgt.stoL, Option.bind_some, Bool.not_true, Bool.not_false, if_true, if_false, Bool.false_eq_true, reduceCtorEq, ite_true, ite_false, fAdd]
      have ls := length_subs pre
      refine ⟨by rw [List.length_map, List.length_map, List.length_map, ls, sizeLine_eq]; omega, hJ _ _ ⟨pre ++ [d], .fz d, by rw [e1, List.append_assoc]; rfl, ?_, rfl⟩⟩
      rw [subs_snoc, List.map_append, List.map_map, List.map_map]
      rfl
  · obtain ⟨pre, s2, e1, rfl, rfl⟩ := hI
    rw [List.append_nil] at e1
    subst e1
    simp only [dSeq, dSkip, dSet, dOwn, dFrz, dIf, dRet, dExp, dApp, dExt, dPutT, dParO, dPar, dFor, dTok, dFz, dLst, dTup, dCons, dNil, vals?, Option.map_some, Option.map_none, dVar, dC, dOp, dB, dNotT, dNotV, dAndV, dOrV, dAndT, dOrT, dIfE, dCall, dCallF, dCal, dCalX, dIt, dItM, dLc, dYes, dRng1, dSl, dPart, dNoPart, dNeg, dMt, dEnum, dSetSort, dRaise, dTry, D.seq, isStr, rv_int, rv_bl, rv_str, rv_non, rv_tup, rv_lst, rv_scr, rv_ty, rv_bor, List.map_cons, List.map_nil, List.getElem?_cons_zero, List.getElem?_cons_succ, List.set_cons_zero, List.set_cons_succ, wipeG, DEnds.x, DEnds.loop, Tgt.sto, Tgt.stoL, Option.bind_some, Bool.not_true, Bool.not_false, if_true, if_false, Bool.false_eq_true, reduceCtorEq, ite_true, ite_false]
    exact q
theorem filter_isEmpty {α : Type} (f : α → Bool) (l : List α) : (l.filter f).isEmpty = l.all fun x => !f x := by
  rw [Bool.eq_iff_iff, List.isEmpty_iff, List.filter_eq_nil_iff, List.all_eq_true]
  simp
theorem len_law_is_within : ∀ ds W Q E, sp_law_is_within ds W Q E → ds.length = ["lot", "other"].length := fun ds W Q E h => by
  obtain ⟨l, k, rfl, _⟩ := h; rfl
theorem wp_law_is_within : ∀ ds W Q E, sp_law_is_within ds W Q E → t_law_is_within { nx := fun _ W' => Q .non W', rt := Q } (startG ["lot", "other", "guard"] ds) W := fun ds W Q E h => by
  obtain ⟨l, k, rfl, hl, hk, q⟩ := h
  show t_law_is_within _ [.fz (.tup l), .fz (.tup k), .no] W
  simp only [t_law_is_within, dSeq, dSkip, dSet, dOwn, dFrz, dIf, dRet, dExp, dApp, dExt, dPutT, dParO, dPar, dFor, dTok, dFz, dLst, dTup, dCons, dNil, vals?, Option.map_some, Option.map_none, dVar, dC, dOp, dB, dNotT, dNotV, dAndV, dOrV, dAndT, dOrT, dIfE, dCall, dCallF, dCal, dCalX, dIt, dItM, dLc, dYes, dRng1, dSl, dPart, dNoPart, dNeg, dMt, dEnum, dSetSort, dRaise, dTry, D.seq, isStr, rv_int, rv_bl, rv_str, rv_non, rv_tup, rv_lst, rv_scr, rv_ty, rv_bor, List.map_cons, List.map_nil, List.getElem?_cons_zero, List.getElem?_cons_succ, List.set_cons_zero, List.set_cons_succ, wipeG, DEnds.x, DEnds.loop, Tgt.sto, Tgt.stoL, Option.bind_some, Bool.not_true, Bool.not_false, if_true, if_false, Bool.false_eq_true, reduceCtorEq, ite_true, ite_false]
  refine ⟨fun z => z.elim, ?_⟩
  refine lcGo_fm (fun g => !decide (g ∈ k)) id l [] (fun g hg => ⟨_, rfl, fun R r => ?_, fun _ R r => ?_⟩) ?_
  · simp only [dSeq, dSkip, dSet, dOwn, dFrz, dIf, dRet, dExp, dApp, dExt, dPutT, dParO, dPar, dFor, dTok, dFz, dLst, dTup, dCons, dNil, vals?, Option.map_some, Option.map_none, dVar, dC, dOp, dB, dNotT, dNotV, dAndV, dOrV, dAndT, dOrT, dIfE, dCall, dCallF, dCal, dCalX, dIt, dItM, dLc, dYes, dRng1, dSl, dPart, dNoPart, dNeg, dMt, dEnum, dSetSort, dRaise, dTry, D.seq, isStr, rv_int, rv_bl, rv_str, rv_non, rv_tup, rv_lst, rv_scr, rv_ty, rv_bor, List.map_cons, List.map_nil, List.getElem?_cons_zero, List.getElem?_cons_succ, List.set_cons_zero, List.set_cons_succ, wipeG, DEnds.x, DEnds.loop, Tgt.sto, Tgt.stoL, Option.bind_some, Bool.not_true, Bool.not_false, if_true, if_false, Bool.false_eq_true, reduceCtorEq, ite_true, ite_false, fIn]
    rw [rv_fit ((hl g hg).ft 0), in_mk hk (hl g hg)]
    exact ⟨(hl g hg).ft _, List.all_eq_true.mpr fun y hy => (hk y hy).ft _, r⟩
  · simp only [dSeq, dSkip, dSet, dOwn, dFrz, dIf, dRet, dExp, dApp, dExt, dPutT, dParO, dPar, dFor, dTok, dFz, dLst, dTup, dCons, dNil, vals?, Option.map_some, Option.map_none, dVar, dC, dOp, dB, dNotT, dNotV, dAndV, dOrV, dAndT, dOrT, dIfE, dCall, dCallF, dCal, dCalX, dIt, dItM, dLc, dYes, dRng1, dSl, dPart, dNoPart, dNeg, dMt, dEnum, dSetSort, dRaise, dTry, D.seq, isStr, rv_int, rv_bl, rv_str, rv_non, rv_tup, rv_lst, rv_scr, rv_ty, rv_bor, List.map_cons, List.map_nil, List.getElem?_cons_zero, List.getElem?_cons_succ, List.set_cons_zero, List.set_cons_succ, wipeG, DEnds.x, DEnds.loop, Tgt.sto, Tgt.stoL, Option.bind_some, Bool.not_true, Bool.not_false, if_true, if_false, Bool.false_eq_true, reduceCtorEq, ite_true, ite_false]
    exact r
  · rw [List.nil_append, List.map_id]
    simp only [dSeq, dSkip, dSet, dOwn, dFrz, dIf, dRet, dExp, dApp, dExt, dPutT, dParO, dPar, dFor, dTok, dFz, dLst, dTup, dCons, dNil, vals?, Option.map_some, Option.map_none, dVar, dC, dOp, dB, dNotT, dNotV, dAndV, dOrV, dAndT, dOrT, dIfE, dCall, dCallF, dCal, dCalX, dIt, dItM, dLc, dYes, dRng1, dSl, dPart, dNoPart, dNeg, dMt, dEnum, dSetSort, dRaise, dTry, D.seq, isStr, rv_int, rv_bl, rv_str, rv_non, rv_tup, rv_lst, rv_scr, rv_ty, rv_bor, List.map_cons, List.map_nil, List.getElem?_cons_zero, List.getElem?_cons_succ, List.set_cons_zero, List.set_cons_succ, wipeG, DEnds.x, DEnds.loop, Tgt.sto, Tgt.stoL, Option.bind_some, Bool.not_true, Bool.not_false, if_true, if_false, Bool.false_eq_true, reduceCtorEq, ite_true, ite_false, fEq, deq_nil, filter_isEmpty, Bool.not_not]
    refine ⟨z_size (by decide), ?_, by simp, ?_⟩
    · rw [fit_lst]
      exact List.all_eq_true.mpr fun y hy => (hl y (List.mem_filter.mp hy).1).ft _
    · have e : (l.all fun x => decide (x ∈ k)) = decide (∀ g ∈ l, g ∈ k) := by
        rw [Bool.eq_iff_iff]
        simp
      rw [e]
      exact q
theorem len_law_least : ∀ ds W Q E, sp_law_least ds W Q E → ds.length = ["lots"].length := fun ds W Q E h => by
  obtain ⟨U, Ls, _, _, _, rfl | rfl, _⟩ := h <;> rfl
theorem least_core {U : List D} {Ls : List (List D)} (hU : UOk U) (hL : LU U Ls) (hz : Ls.length ≤ 1000) {Q : D → Ws → Prop} {W : Ws} (q : Q (.tup (res Ls)) W) (d0 : D) (hs : d0 = .lst (Ls.map .tup) ∨ d0 = .tup (Ls.map .tup)) :
    t_law_least { nx := fun _ W' => Q .non W', rt := Q } [.fz d0, .no, .no, .no] W := by
  have mkL : ∀ l ∈ Ls, ∀ m ∈ l, MkOk m := fun l hl => hU.sub (hL l hl)
  have hseq : d0.seq = some (Ls.map .tup) ∧ isStr d0 = false := by rcases hs with rfl | rfl <;> exact ⟨rfl, rfl⟩
  have core : forGo (.nm 2) (dIf (dAndT (dB (dOp fEq (dFz (dLc (dItM (dVar 0)) (.nm 3) (dAndT (dB (dOp fNe (dVar 3) (dVar 2))) (dB (dCal sp_law_is_within (dCons (dVar 3) (dCons (dVar 2) dNil))))) (dVar 3) [3])) (dFz (dLst dNil)))) (dB (dOp (fIn true) (dVar 2) (dVar 1)))) (dApp 1 (dVar 2)) dSkip) (Ls.map .tup)
      { nx := fun Γ W1 => dRet (dCall fTuple (dCons (dFz (dCallF fSort (dCons (dVar 1) dNil))) dNil)) { nx := fun _ W' => Q .non W', rt := Q } Γ W1, rt := Q } [.fz d0, .ow [], .no, .no] W := by
    refine forGo_inv (fun items Γ W' => ∃ pre rest found s2, Ls = pre ++ rest ∧ items = rest.map D.tup ∧ Γ = [.fz d0, .ow (found.map D.tup), s2, .no] ∧ found.Nodup ∧ (∀ a, a ∈ found ↔ a ∈ pre ∧ isMin Ls a) ∧ W' = W) (fun d r Γ W' J hI hJ => ?_) (fun Γ W' hI => ?_) _ _ _ ⟨[], Ls, [], .no, rfl, rfl, rfl, List.nodup_nil, fun a => by simp, rfl⟩
    · obtain ⟨pre, rest, found, s2, e1, e2, rfl, nd, mem, rfl⟩ := hI
      cases rest with
      | nil => cases e2
      | cons x rest =>
        rw [List.map_cons] at e2
        injection e2 with e2 e3
        subst e2
        subst e3
        have hx : x ∈ Ls := by rw [e1]; exact List.mem_append_right _ List.mem_cons_self
        have hfo : ∀ a ∈ found, a ∈ Ls := fun a ha => by rw [e1]; exact List.mem_append_left _ ((mem a).mp ha).1
        refine ⟨_, rfl, ?_⟩
        simp only [dSeq, dSkip, dSet, dOwn, dFrz, dIf, dRet, dExp, dApp, dExt, dPutT, dParO, dPar, dFor, dTok, dFz, dLst, dTup, dCons, dNil, vals?, Option.map_some, Option.map_none, dVar, dC, dOp, dB, dNotT, dNotV, dAndV, dOrV, dAndT, dOrT, dIfE, dCall, dCallF, dCal, dCalX, dIt, dItM, dLc, dYes, dRng1, dSl, dPart, dNoPart, dNeg, dMt, dEnum, dSetSort, dRaise, dTry, rv_int, rv_bl, rv_str, rv_non, rv_tup, rv_lst, rv_scr, rv_ty, rv_bor, List.map_cons, List.map_nil, List.getElem?_cons_zero, List.getElem?_cons_succ, List.set_cons_zero, List.set_cons_succ, wipeG, DEnds.x, DEnds.loop, Tgt.sto, Tgt.stoL, Option.bind_some, Bool.not_true, Bool.not_false, if_true, if_false, Bool.false_eq_true, reduceCtorEq, ite_true, ite_false, hseq.1]
        refine ⟨fun z => (by rw [hseq.2] at z; cases z), ?_⟩
        refine lcGo_fm (fun o => !deq o (.tup x) && subD x o) id (Ls.map .tup) [] (fun y hy => ?_) ?_
        · obtain ⟨o, ho, rfl⟩ := List.mem_map.mp hy
          refine ⟨_, rfl, fun R r => ?_, fun _ R r => ?_⟩
          · simp only [dSeq, dSkip, dSet, dOwn, dFrz, dIf, dRet, dExp, dApp, dExt, dPutT, dParO, dPar, dFor, dTok, dFz, dLst, dTup, dCons, dNil, vals?, Option.map_some, Option.map_none, dVar, dC, dOp, dB, dNotT, dNotV, dAndV, dOrV, dAndT, dOrT, dIfE, dCall, dCallF, dCal, dCalX, dIt, dItM, dLc, dYes, dRng1, dSl, dPart, dNoPart, dNeg, dMt, dEnum, dSetSort, dRaise, dTry, D.seq, isStr, rv_int, rv_bl, rv_str, rv_non, rv_tup, rv_lst, rv_scr, rv_ty, rv_bor, List.map_cons, List.map_nil, List.getElem?_cons_zero, List.getElem?_cons_succ, List.set_cons_zero, List.set_cons_succ, wipeG, DEnds.x, DEnds.loop, Tgt.sto, Tgt.stoL, Option.bind_some, Bool.not_true, Bool.not_false, if_true, if_false, Bool.false_eq_true, reduceCtorEq, ite_true, ite_false, fNe]
            refine ⟨lot_ft (mkL o ho) _, lot_ft (mkL x hx) _, ?_⟩
            by_cases hd : deq (.tup o) (.tup x) = true
            · simp only [hd, dSeq, dSkip, dSet, dOwn, dFrz, dIf, dRet, dExp, dApp, dExt, dPutT, dParO, dPar, dFor, dTok, dFz, dLst, dTup, dCons, dNil, vals?, Option.map_some, Option.map_none, dVar, dC, dOp, dB, dNotT, dNotV, dAndV, dOrV, dAndT, dOrT, dIfE, dCall, dCallF, dCal, dCalX, dIt, dItM, dLc, dYes, dRng1, dSl, dPart, dNoPart, dNeg, dMt, dEnum, dSetSort, dRaise, dTry, D.seq, isStr, rv_int, rv_bl, rv_str, rv_non, rv_tup, rv_lst, rv_scr, rv_ty, rv_bor, List.map_cons, List.map_nil, List.getElem?_cons_zero, List.getElem?_cons_succ, List.set_cons_zero, List.set_cons_succ, wipeG, DEnds.x, DEnds.loop, Tgt.sto, Tgt.stoL, Option.bind_some, Bool.not_true, Bool.not_false, if_true, if_false, Bool.false_eq_true, reduceCtorEq, ite_true, ite_false, Bool.false_and] at r ⊢
              exact r
            · have hd' : deq (.tup o) (.tup x) = false := by simpa using hd
              simp only [hd', dSeq, dSkip, dSet, dOwn, dFrz, dIf, dRet, dExp, dApp, dExt, dPutT, dParO, dPar, dFor, dTok, dFz, dLst, dTup, dCons, dNil, vals?, Option.map_some, Option.map_none, dVar, dC, dOp, dB, dNotT, dNotV, dAndV, dOrV, dAndT, dOrT, dIfE, dCall, dCallF, dCal, dCalX, dIt, dItM, dLc, dYes, dRng1, dSl, dPart, dNoPart, dNeg, dMt, dEnum, dSetSort, dRaise, dTry, D.seq, isStr, rv_int, rv_bl, rv_str, rv_non, rv_tup, rv_lst, rv_scr, rv_ty, rv_bor, List.map_cons, List.map_nil, List.getElem?_cons_zero, List.getElem?_cons_succ, List.set_cons_zero, List.set_cons_succ, wipeG, DEnds.x, DEnds.loop, Tgt.sto, Tgt.stoL, Option.bind_some, Bool.not_true, Bool.not_false, if_true, if_false, Bool.false_eq_true, reduceCtorEq, ite_true, ite_false, Bool.true_and] at r ⊢
              exact ⟨o, x, rfl, mkL o ho, mkL x hx, r⟩
          · simp only [dSeq, dSkip, dSet, dOwn, dFrz, dIf, dRet, dExp, dApp, dExt, dPutT, dParO, dPar, dFor, dTok, dFz, dLst, dTup, dCons, dNil, vals?, Option.map_some, Option.map_none, dVar, dC, dOp, dB, dNotT, dNotV, dAndV, dOrV, dAndT, dOrT, dIfE, dCall, dCallF, dCal, dCalX, dIt, dItM, dLc, dYes, dRng1, dSl, dPart, dNoPart, dNeg, dMt, dEnum, dSetSort, dRaise, dTry, D.seq, isStr, rv_int, rv_bl, rv_str, rv_non, rv_tup, rv_lst, rv_scr, rv_ty, rv_bor, List.map_cons, List.map_nil, List.getElem?_cons_zero, List.getElem?_cons_succ, List.set_cons_zero, List.set_cons_succ, wipeG, DEnds.x, DEnds.loop, Tgt.sto, Tgt.stoL, Option.bind_some, Bool.not_true, Bool.not_false, if_true, if_false, Bool.false_eq_true, reduceCtorEq, ite_true, ite_false]
            exact r
        · rw [List.nil_append, List.map_id]
          simp only [dSeq, dSkip, dSet, dOwn, dFrz, dIf, dRet, dExp, dApp, dExt, dPutT, dParO, dPar, dFor, dTok, dFz, dLst, dTup, dCons, dNil, vals?, Option.map_some, Option.map_none, dVar, dC, dOp, dB, dNotT, dNotV, dAndV, dOrV, dAndT, dOrT, dIfE, dCall, dCallF, dCal, dCalX, dIt, dItM, dLc, dYes, dRng1, dSl, dPart, dNoPart, dNeg, dMt, dEnum, dSetSort, dRaise, dTry, D.seq, isStr, rv_int, rv_bl, rv_str, rv_non, rv_tup, rv_lst, rv_scr, rv_ty, rv_bor, List.map_cons, List.map_nil, List.getElem?_cons_zero, List.getElem?_cons_succ, List.set_cons_zero, List.set_cons_succ, wipeG, DEnds.x, DEnds.loop, Tgt.sto, Tgt.stoL, Option.bind_some, Bool.not_true, Bool.not_false, if_true, if_false, Bool.false_eq_true, reduceCtorEq, ite_true, ite_false, fEq, deq_nil, filter_isEmpty]
          refine ⟨z_size (by decide), ?_, by simp, ?_⟩
          · rw [fit_lst]
            refine List.all_eq_true.mpr fun y hy => ?_
            obtain ⟨o, ho, rfl⟩ := List.mem_map.mp (List.mem_filter.mp hy).1
            exact lot_ft (mkL o ho) _
          have key : ((Ls.map D.tup).all fun o => !(!deq o (.tup x) && subD x o)) = decide (isMin Ls x) := by
            rw [Bool.eq_iff_iff, List.all_eq_true, decide_eq_true_eq]
            constructor
            · intro h
              refine ⟨hx, fun b hb hs => ?_⟩
              have := h (.tup b) (mem_map_tup.mpr hb)
              have e : subD x (.tup b) = true := by simp [subD]; exact hs
              rw [e, Bool.and_true, Bool.not_not] at this
              exact (deq_lot (mkL b hb) (mkL x hx)).mp this
            · rintro ⟨_, h⟩ o ho
              obtain ⟨b, hb, rfl⟩ := List.mem_map.mp ho
              cases e : subD x (.tup b) with
              | false => simp
              | true =>
                have hs : ∀ g ∈ b, g ∈ x := by simpa [subD] using e
                have := h b hb hs
                rw [(deq_lot (mkL b hb) (mkL x hx)).mpr this]
                rfl
          rw [key]
          by_cases m : isMin Ls x
          · simp only [m, decide_true, dSeq, dSkip, dSet, dOwn, dFrz, dIf, dRet, dExp, dApp, dExt, dPutT, dParO, dPar, dFor, dTok, dFz, dLst, dTup, dCons, dNil, vals?, Option.map_some, Option.map_none, dVar, dC, dOp, dB, dNotT, dNotV, dAndV, dOrV, dAndT, dOrT, dIfE, dCall, dCallF, dCal, dCalX, dIt, dItM, dLc, dYes, dRng1, dSl, dPart, dNoPart, dNeg, dMt, dEnum, dSetSort, dRaise, dTry, D.seq, isStr, rv_int, rv_bl, rv_str, rv_non, rv_tup, rv_lst, rv_scr, rv_ty, rv_bor, List.map_cons, List.map_nil, List.getElem?_cons_zero, List.getElem?_cons_succ, List.set_cons_zero, List.set_cons_succ, wipeG, DEnds.x, DEnds.loop, Tgt.sto, Tgt.stoL, Option.bind_some, Bool.not_true, Bool.not_false, if_true, if_false, Bool.false_eq_true, reduceCtorEq, ite_true, ite_false, fIn]
            rw [in_lot (fun k hk => mkL k (hfo k hk)) (mkL x hx)]
            refine ⟨lot_ft (mkL x hx) _, List.all_eq_true.mpr fun y hy => ?_, ?_⟩
            · obtain ⟨o, ho, rfl⟩ := List.mem_map.mp hy
              exact lot_ft (mkL o (hfo o ho)) _
            by_cases z : x ∈ found
            · simp only [z, decide_true, dSeq, dSkip, dSet, dOwn, dFrz, dIf, dRet, dExp, dApp, dExt, dPutT, dParO, dPar, dFor, dTok, dFz, dLst, dTup, dCons, dNil, vals?, Option.map_some, Option.map_none, dVar, dC, dOp, dB, dNotT, dNotV, dAndV, dOrV, dAndT, dOrT, dIfE, dCall, dCallF, dCal, dCalX, dIt, dItM, dLc, dYes, dRng1, dSl, dPart, dNoPart, dNeg, dMt, dEnum, dSetSort, dRaise, dTry, D.seq, isStr, rv_int, rv_bl, rv_str, rv_non, rv_tup, rv_lst, rv_scr, rv_ty, rv_bor, List.map_cons, List.map_nil, List.getElem?_cons_zero, List.getElem?_cons_succ, List.set_cons_zero, List.set_cons_succ, wipeG, DEnds.x, DEnds.loop, Tgt.sto, Tgt.stoL, Option.bind_some, Bool.not_true, Bool.not_false, if_true, if_false, Bool.false_eq_true, reduceCtorEq, ite_true, ite_false]
              refine hJ _ _ ⟨pre ++ [x], rest, found, .fz (.tup x), by rw [e1, List.append_assoc]; rfl, rfl, rfl, nd, fun a => ?_, rfl⟩
              rw [mem a, List.mem_append, List.mem_singleton]
              constructor
              · rintro ⟨h1, h2⟩; exact ⟨.inl h1, h2⟩
              · rintro ⟨h1 | rfl, h2⟩
                · exact ⟨h1, h2⟩
                · exact (mem a).mp z
            · simp only [z, decide_false, dSeq, dSkip, dSet, dOwn, dFrz, dIf, dRet, dExp, dApp, dExt, dPutT, dParO, dPar, dFor, dTok, dFz, dLst, dTup, dCons, dNil, vals?, Option.map_some, Option.map_none, dVar, dC, dOp, dB, dNotT, dNotV, dAndV, dOrV, dAndT, dOrT, dIfE, dCall, dCallF, dCal, dCalX, dIt, dItM, dLc, dYes, dRng1, dSl, dPart, dNoPart, dNeg, dMt, dEnum, dSetSort, dRaise, dTry, D.seq, isStr, rv_int, rv_bl, rv_str, rv_non, rv_tup, rv_lst, rv_scr, rv_ty, rv_bor, List.map_cons, List.map_nil, List.getElem?_cons_zero, List.getElem?_cons_succ, List.set_cons_zero, List.set_cons_succ, wipeG, DEnds.x, DEnds.loop, Tgt.sto, Tgt.stoL, Option.bind_some, Bool.not_true, Bool.not_false, if_true, if_false, Bool.false_eq_true, reduceCtorEq, ite_true, ite_false]
              have hln := nodup_sub nd hfo
              refine ⟨by rw [List.length_map, sizeLine_eq]; omega, hJ _ _ ⟨pre ++ [x], rest, found ++ [x], .fz (.tup x), by rw [e1, List.append_assoc]; rfl, rfl, by rw [List.map_append]; rfl, ?_, fun a => ?_, rfl⟩⟩
              · rw [List.nodup_append]
                refine ⟨nd, by simp, fun a ha y hy e => ?_⟩
                rw [List.mem_singleton] at hy
                exact z (by rw [← hy, ← e]; exact ha)
              · rw [List.mem_append, List.mem_append, List.mem_singleton, mem a]
                constructor
                · rintro (⟨h1, h2⟩ | rfl)
                  · exact ⟨.inl h1, h2⟩
                  · exact ⟨.inr rfl, m⟩
                · rintro ⟨h1 | rfl, h2⟩
                  · exact .inl ⟨h1, h2⟩
                  · exact .inr rfl
          · simp only [m, decide_false, dSeq, dSkip, dSet, dOwn, dFrz, dIf, dRet, dExp, dApp, dExt, dPutT, dParO, dPar, dFor, dTok, dFz, dLst, dTup, dCons, dNil, vals?, Option.map_some, Option.map_none, dVar, dC, dOp, dB, dNotT, dNotV, dAndV, dOrV, dAndT, dOrT, dIfE, dCall, dCallF, dCal, dCalX, dIt, dItM, dLc, dYes, dRng1, dSl, dPart, dNoPart, dNeg, dMt, dEnum, dSetSort, dRaise, dTry, D.seq, isStr, rv_int, rv_bl, rv_str, rv_non, rv_tup, rv_lst, rv_scr, rv_ty, rv_bor, List.map_cons, List.map_nil, List.getElem?_cons_zero, List.getElem?_cons_succ, List.set_cons_zero, List.set_cons_succ, wipeG, DEnds.x, DEnds.loop, Tgt.sto, Tgt.stoL, Option.bind_some, Bool.not_true, Bool.not_false, if_true, if_false, Bool.false_eq_true, reduceCtorEq, ite_true, ite_false]
            refine hJ _ _ ⟨pre ++ [x], rest, found, .fz (.tup x), by rw [e1, List.append_assoc]; rfl, rfl, rfl, nd, fun a => ?_, rfl⟩
            rw [mem a, List.mem_append, List.mem_singleton]
            constructor
            · rintro ⟨h1, h2⟩; exact ⟨.inl h1, h2⟩
            · rintro ⟨h1 | rfl, h2⟩
              · exact ⟨h1, h2⟩
              · exact absurd h2 m
    · obtain ⟨pre, rest, found, s2, e1, e2, rfl, nd, mem, rfl⟩ := hI
      have er : rest = [] := List.map_eq_nil_iff.mp e2.symm
      subst er
      rw [List.append_nil] at e1
      subst e1
      have memm : ∀ a, a ∈ found ↔ isMin Ls a := fun a => by
        rw [mem a]
        exact ⟨fun z => z.2, fun z => ⟨z.1, z⟩⟩
      simp only [dSeq, dSkip, dSet, dOwn, dFrz, dIf, dRet, dExp, dApp, dExt, dPutT, dParO, dPar, dFor, dTok, dFz, dLst, dTup, dCons, dNil, vals?, Option.map_some, Option.map_none, dVar, dC, dOp, dB, dNotT, dNotV, dAndV, dOrV, dAndT, dOrT, dIfE, dCall, dCallF, dCal, dCalX, dIt, dItM, dLc, dYes, dRng1, dSl, dPart, dNoPart, dNeg, dMt, dEnum, dSetSort, dRaise, dTry, D.seq, isStr, rv_int, rv_bl, rv_str, rv_non, rv_tup, rv_lst, rv_scr, rv_ty, rv_bor, List.map_cons, List.map_nil, List.getElem?_cons_zero, List.getElem?_cons_succ, List.set_cons_zero, List.set_cons_succ, wipeG, DEnds.x, DEnds.loop, Tgt.sto, Tgt.stoL, Option.bind_some, Bool.not_true, Bool.not_false, if_true, if_false, Bool.false_eq_true, reduceCtorEq, ite_true, ite_false, fTuple, fSort]
      refine ⟨sble_lots hU (fun l hl => hL l ((memm l).mp hl).1) (min_empty nd memm), ?_⟩
      rw [res_of hU hL nd memm]
      exact q
  simp only [t_law_least, dSeq, dOwn, dLst, dNil, vals?]
  refine ⟨z_size (by decide), ?_⟩
  rcases hs with rfl | rfl
  · exact (show (isStr (D.lst _) = true → _) ∧ _ from ⟨fun z => (by cases z), core⟩)
  · exact (show (isStr (D.tup _) = true → _) ∧ _ from ⟨fun z => (by cases z), core⟩)
theorem wp_law_least : ∀ ds W Q E, sp_law_least ds W Q E → t_law_least { nx := fun _ W' => Q .non W', rt := Q } (startG ["lots", "found", "lot", "one"] ds) W := fun ds W Q E h => by
  obtain ⟨U, Ls, hU, hL, hz, hs, q⟩ := h
  rcases hs with rfl | rfl
  · exact least_core hU hL hz q _ (.inl rfl)
  · exact least_core hU hL hz q _ (.inr rfl)
end K47

set_option Elab.async false
set_option linter.all false
set_option maxRecDepth 100000
set_option maxHeartbeats 4000000
/-! K47L: the law's own crossings; what is refused. -/
namespace K47
open PySem PySem.Spec PyProof.Rows L2 DL
open Classical
theorem len_law_crossings : ∀ ds W Q E, sp_law_crossings ds W Q E → ds.length = ["guards", "lots"].length := fun ds W Q E h => by
  obtain ⟨U, lots, _, _, rfl, _⟩ := h; rfl
theorem wp_law_crossings : ∀ ds W Q E, sp_law_crossings ds W Q E → t_law_crossings { nx := fun _ W' => Q .non W', rt := Q } (startG ["guards", "lots", "found", "one", "lot", "guard"] ds) W := fun ds W Q E h => by
  obtain ⟨U, lots, hU, hL, rfl, q⟩ := h
  show t_law_crossings _ [.fz (.lst U), .fz (.tup (lots.map .tup)), .no, .no, .no, .no] W
  have mkL : ∀ l ∈ lots, ∀ m ∈ l, MkOk m := fun l hl => hU.sub (hL l hl)
  simp only [t_law_crossings, dSeq, dSkip, dSet, dOwn, dFrz, dIf, dRet, dExp, dApp, dExt, dPutT, dParO, dPar, dFor, dTok, dFz, dLst, dTup, dCons, dNil, vals?, Option.map_some, Option.map_none, dVar, dC, dOp, dB, dNotT, dNotV, dAndV, dOrV, dAndT, dOrT, dIfE, dCall, dCallF, dCal, dCalX, dIt, dItM, dLc, dYes, dRng1, dSl, dPart, dNoPart, dNeg, dMt, dEnum, dSetSort, dRaise, dTry, D.seq, isStr, rv_int, rv_bl, rv_str, rv_non, rv_tup, rv_lst, rv_scr, rv_ty, rv_bor, List.map_cons, List.map_nil, List.getElem?_cons_zero, List.getElem?_cons_succ, List.set_cons_zero, List.set_cons_succ, wipeG, DEnds.x, DEnds.loop, Tgt.sto, Tgt.stoL, Option.bind_some, Bool.not_true, Bool.not_false, if_true, if_false, Bool.false_eq_true, reduceCtorEq, ite_true, ite_false]
  refine ⟨z_size (by decide), U, rfl, hU.few, ?_⟩
  simp only [dSeq, dSkip, dSet, dOwn, dFrz, dIf, dRet, dExp, dApp, dExt, dPutT, dParO, dPar, dFor, dTok, dFz, dLst, dTup, dCons, dNil, vals?, Option.map_some, Option.map_none, dVar, dC, dOp, dB, dNotT, dNotV, dAndV, dOrV, dAndT, dOrT, dIfE, dCall, dCallF, dCal, dCalX, dIt, dItM, dLc, dYes, dRng1, dSl, dPart, dNoPart, dNeg, dMt, dEnum, dSetSort, dRaise, dTry, D.seq, isStr, rv_int, rv_bl, rv_str, rv_non, rv_tup, rv_lst, rv_scr, rv_ty, rv_bor, List.map_cons, List.map_nil, List.getElem?_cons_zero, List.getElem?_cons_succ, List.set_cons_zero, List.set_cons_succ, wipeG, DEnds.x, DEnds.loop, Tgt.sto, Tgt.stoL, Option.bind_some, Bool.not_true, Bool.not_false, if_true, if_false, Bool.false_eq_true, reduceCtorEq, ite_true, ite_false]
  refine ⟨fun z => z.elim, ?_⟩
  have ls := length_subs U
  have h2 : 2 ^ U.length ≤ 2 ^ 7 := Nat.pow_le_pow_right (by decide) hU.few
  have h3 : (2 : Nat) ^ 7 = 128 := by decide
  refine forGo_inv (fun items Γ W' => ∃ pre rest s3, subs U = pre ++ rest ∧ items = rest.map D.tup ∧ Γ = [.fz (.lst U), .fz (.tup (lots.map .tup)), .ow ((pre.filter fun a => decide (Hits lots a)).map D.tup), s3, .no, .no] ∧ W' = W) (fun d r Γ W' J hI hJ => ?_) (fun Γ W' hI => ?_) _ _ _ ⟨[], subs U, .no, rfl, rfl, rfl, rfl⟩
  · obtain ⟨pre, rest, s3, e1, e2, rfl, rfl⟩ := hI
    cases rest with
    | nil => cases e2
    | cons a rest =>
      rw [List.map_cons] at e2
      injection e2 with e2 e3
      subst e2
      subst e3
      have ha : a.Sublist U := mem_subs.mp (by rw [e1]; exact List.mem_append_right _ List.mem_cons_self)
      have mka := hU.sub ha
      refine ⟨_, rfl, ?_⟩
      simp only [dSeq, dSkip, dSet, dOwn, dFrz, dIf, dRet, dExp, dApp, dExt, dPutT, dParO, dPar, dFor, dTok, dFz, dLst, dTup, dCons, dNil, vals?, Option.map_some, Option.map_none, dVar, dC, dOp, dB, dNotT, dNotV, dAndV, dOrV, dAndT, dOrT, dIfE, dCall, dCallF, dCal, dCalX, dIt, dItM, dLc, dYes, dRng1, dSl, dPart, dNoPart, dNeg, dMt, dEnum, dSetSort, dRaise, dTry, D.seq, isStr, rv_int, rv_bl, rv_str, rv_non, rv_tup, rv_lst, rv_scr, rv_ty, rv_bor, List.map_cons, List.map_nil, List.getElem?_cons_zero, List.getElem?_cons_succ, List.set_cons_zero, List.set_cons_succ, wipeG, DEnds.x, DEnds.loop, Tgt.sto, Tgt.stoL, Option.bind_some, Bool.not_true, Bool.not_false, if_true, if_false, Bool.false_eq_true, reduceCtorEq, ite_true, ite_false]
      refine ⟨fun z => z.elim, ?_⟩
      refine lcGo_fm (fun d => match d with
        | .tup l => l.all fun x => !decide (x ∈ a)
        | _ => false) id (lots.map .tup) [] (fun y hy => ?_) ?_
      · obtain ⟨l, hl, rfl⟩ := List.mem_map.mp hy
        refine ⟨_, rfl, fun R r => ?_, fun _ R r => ?_⟩
        · simp only [dSeq, dSkip, dSet, dOwn, dFrz, dIf, dRet, dExp, dApp, dExt, dPutT, dParO, dPar, dFor, dTok, dFz, dLst, dTup, dCons, dNil, vals?, Option.map_some, Option.map_none, dVar, dC, dOp, dB, dNotT, dNotV, dAndV, dOrV, dAndT, dOrT, dIfE, dCall, dCallF, dCal, dCalX, dIt, dItM, dLc, dYes, dRng1, dSl, dPart, dNoPart, dNeg, dMt, dEnum, dSetSort, dRaise, dTry, D.seq, isStr, rv_int, rv_bl, rv_str, rv_non, rv_tup, rv_lst, rv_scr, rv_ty, rv_bor, List.map_cons, List.map_nil, List.getElem?_cons_zero, List.getElem?_cons_succ, List.set_cons_zero, List.set_cons_succ, wipeG, DEnds.x, DEnds.loop, Tgt.sto, Tgt.stoL, Option.bind_some, Bool.not_true, Bool.not_false, if_true, if_false, Bool.false_eq_true, reduceCtorEq, ite_true, ite_false]
          refine ⟨fun z => z.elim, ?_⟩
          refine lcGo_fm (fun g => decide (g ∈ a)) id l [] (fun g hg => ⟨_, rfl, fun R2 r2 => ?_, fun _ R2 r2 => ?_⟩) ?_
          · have hgm := mkL l hl g hg
            simp only [dSeq, dSkip, dSet, dOwn, dFrz, dIf, dRet, dExp, dApp, dExt, dPutT, dParO, dPar, dFor, dTok, dFz, dLst, dTup, dCons, dNil, vals?, Option.map_some, Option.map_none, dVar, dC, dOp, dB, dNotT, dNotV, dAndV, dOrV, dAndT, dOrT, dIfE, dCall, dCallF, dCal, dCalX, dIt, dItM, dLc, dYes, dRng1, dSl, dPart, dNoPart, dNeg, dMt, dEnum, dSetSort, dRaise, dTry, D.seq, isStr, rv_int, rv_bl, rv_str, rv_non, rv_tup, rv_lst, rv_scr, rv_ty, rv_bor, List.map_cons, List.map_nil, List.getElem?_cons_zero, List.getElem?_cons_succ, List.set_cons_zero, List.set_cons_succ, wipeG, DEnds.x, DEnds.loop, Tgt.sto, Tgt.stoL, Option.bind_some, Bool.not_true, Bool.not_false, if_true, if_false, Bool.false_eq_true, reduceCtorEq, ite_true, ite_false, fIn]
            rw [rv_fit (hgm.ft 0), in_mk mka hgm]
            exact ⟨hgm.ft _, List.all_eq_true.mpr fun y hy => (mka y hy).ft _, r2⟩
          · simp only [dSeq, dSkip, dSet, dOwn, dFrz, dIf, dRet, dExp, dApp, dExt, dPutT, dParO, dPar, dFor, dTok, dFz, dLst, dTup, dCons, dNil, vals?, Option.map_some, Option.map_none, dVar, dC, dOp, dB, dNotT, dNotV, dAndV, dOrV, dAndT, dOrT, dIfE, dCall, dCallF, dCal, dCalX, dIt, dItM, dLc, dYes, dRng1, dSl, dPart, dNoPart, dNeg, dMt, dEnum, dSetSort, dRaise, dTry, D.seq, isStr, rv_int, rv_bl, rv_str, rv_non, rv_tup, rv_lst, rv_scr, rv_ty, rv_bor, List.map_cons, List.map_nil, List.getElem?_cons_zero, List.getElem?_cons_succ, List.set_cons_zero, List.set_cons_succ, wipeG, DEnds.x, DEnds.loop, Tgt.sto, Tgt.stoL, Option.bind_some, Bool.not_true, Bool.not_false, if_true, if_false, Bool.false_eq_true, reduceCtorEq, ite_true, ite_false]
            exact r2
          · rw [List.nil_append, List.map_id]
            simp only [dSeq, dSkip, dSet, dOwn, dFrz, dIf, dRet, dExp, dApp, dExt, dPutT, dParO, dPar, dFor, dTok, dFz, dLst, dTup, dCons, dNil, vals?, Option.map_some, Option.map_none, dVar, dC, dOp, dB, dNotT, dNotV, dAndV, dOrV, dAndT, dOrT, dIfE, dCall, dCallF, dCal, dCalX, dIt, dItM, dLc, dYes, dRng1, dSl, dPart, dNoPart, dNeg, dMt, dEnum, dSetSort, dRaise, dTry, D.seq, isStr, rv_int, rv_bl, rv_str, rv_non, rv_tup, rv_lst, rv_scr, rv_ty, rv_bor, List.map_cons, List.map_nil, List.getElem?_cons_zero, List.getElem?_cons_succ, List.set_cons_zero, List.set_cons_succ, wipeG, DEnds.x, DEnds.loop, Tgt.sto, Tgt.stoL, Option.bind_some, Bool.not_true, Bool.not_false, if_true, if_false, Bool.false_eq_true, reduceCtorEq, ite_true, ite_false, fEq, deq_nil, filter_isEmpty]
            refine ⟨z_size (by decide), ?_, by simp, r⟩
            rw [fit_lst]
            exact List.all_eq_true.mpr fun y hy => (mkL l hl y (List.mem_filter.mp hy).1).ft _
        · simp only [dSeq, dSkip, dSet, dOwn, dFrz, dIf, dRet, dExp, dApp, dExt, dPutT, dParO, dPar, dFor, dTok, dFz, dLst, dTup, dCons, dNil, vals?, Option.map_some, Option.map_none, dVar, dC, dOp, dB, dNotT, dNotV, dAndV, dOrV, dAndT, dOrT, dIfE, dCall, dCallF, dCal, dCalX, dIt, dItM, dLc, dYes, dRng1, dSl, dPart, dNoPart, dNeg, dMt, dEnum, dSetSort, dRaise, dTry, D.seq, isStr, rv_int, rv_bl, rv_str, rv_non, rv_tup, rv_lst, rv_scr, rv_ty, rv_bor, List.map_cons, List.map_nil, List.getElem?_cons_zero, List.getElem?_cons_succ, List.set_cons_zero, List.set_cons_succ, wipeG, DEnds.x, DEnds.loop, Tgt.sto, Tgt.stoL, Option.bind_some, Bool.not_true, Bool.not_false, if_true, if_false, Bool.false_eq_true, reduceCtorEq, ite_true, ite_false]
          exact r
      · rw [List.nil_append, List.map_id]
        simp only [dSeq, dSkip, dSet, dOwn, dFrz, dIf, dRet, dExp, dApp, dExt, dPutT, dParO, dPar, dFor, dTok, dFz, dLst, dTup, dCons, dNil, vals?, Option.map_some, Option.map_none, dVar, dC, dOp, dB, dNotT, dNotV, dAndV, dOrV, dAndT, dOrT, dIfE, dCall, dCallF, dCal, dCalX, dIt, dItM, dLc, dYes, dRng1, dSl, dPart, dNoPart, dNeg, dMt, dEnum, dSetSort, dRaise, dTry, D.seq, isStr, rv_int, rv_bl, rv_str, rv_non, rv_tup, rv_lst, rv_scr, rv_ty, rv_bor, List.map_cons, List.map_nil, List.getElem?_cons_zero, List.getElem?_cons_succ, List.set_cons_zero, List.set_cons_succ, wipeG, DEnds.x, DEnds.loop, Tgt.sto, Tgt.stoL, Option.bind_some, Bool.not_true, Bool.not_false, if_true, if_false, Bool.false_eq_true, reduceCtorEq, ite_true, ite_false, fEq, deq_nil, filter_isEmpty]
        refine ⟨z_size (by decide), ?_, by simp, ?_⟩
        · rw [fit_lst]
          refine List.all_eq_true.mpr fun y hy => ?_
          obtain ⟨o, ho, rfl⟩ := List.mem_map.mp (List.mem_filter.mp hy).1
          exact lot_ft (mkL o ho) _
        have key : ((lots.map D.tup).all fun d => !(match d with
            | .tup l => l.all fun x => !decide (x ∈ a)
            | _ => false)) = decide (Hits lots a) := by
          rw [Bool.eq_iff_iff, List.all_eq_true, decide_eq_true_eq]
          constructor
          · intro h l hl
            have := h (.tup l) (mem_map_tup.mpr hl)
            simp only [Bool.not_eq_true', List.all_eq_false, Bool.not_eq_true, Bool.not_eq_false', decide_eq_true_eq] at this
            obtain ⟨x, hx, hx2⟩ := this
            exact ⟨x, (by simpa using hx2), hx⟩
          · intro h d hd
            obtain ⟨l, hl, rfl⟩ := List.mem_map.mp hd
            obtain ⟨x, hx, hx2⟩ := h l hl
            simp only [Bool.not_eq_true', List.all_eq_false, Bool.not_eq_true, Bool.not_eq_false', decide_eq_true_eq]
            exact ⟨x, hx2, (by simpa using hx)⟩
        rw [key]
        by_cases m : Hits lots a
        · simp only [m, decide_true, dSeq, dSkip, dSet, dOwn, dFrz, dIf, dRet, dExp, dApp, dExt, dPutT, dParO, dPar, dFor, dTok, dFz, dLst, dTup, dCons, dNil, vals?, Option.map_some, Option.map_none, dVar, dC, dOp, dB, dNotT, dNotV, dAndV, dOrV, dAndT, dOrT, dIfE, dCall, dCallF, dCal, dCalX, dIt, dItM, dLc, dYes, dRng1, dSl, dPart, dNoPart, dNeg, dMt, dEnum, dSetSort, dRaise, dTry, D.seq, isStr, rv_int, rv_bl, rv_str, rv_non, rv_tup, rv_lst, rv_scr, rv_ty, rv_bor, List.map_cons, List.map_nil, List.getElem?_cons_zero, List.getElem?_cons_succ, List.set_cons_zero, List.set_cons_succ, wipeG, DEnds.x, DEnds.loop, Tgt.sto, Tgt.stoL, Option.bind_some, Bool.not_true, Bool.not_false, if_true, if_false, Bool.false_eq_true, reduceCtorEq, ite_true, ite_false]
          refine ⟨?_, hJ _ _ ⟨pre ++ [a], rest, .fz (.tup a), by rw [e1, List.append_assoc]; rfl, rfl, ?_, rfl⟩⟩
          · have h4 := List.length_filter_le (fun a => decide (Hits lots a)) pre
            have h5 := congrArg List.length e1
            rw [List.length_append] at h5
            rw [List.length_map, sizeLine_eq]
            omega
          · rw [List.filter_append, List.map_append]
            simp [m]
        · simp only [m, decide_false, dSeq, dSkip, dSet, dOwn, dFrz, dIf, dRet, dExp, dApp, dExt, dPutT, dParO, dPar, dFor, dTok, dFz, dLst, dTup, dCons, dNil, vals?, Option.map_some, Option.map_none, dVar, dC, dOp, dB, dNotT, dNotV, dAndV, dOrV, dAndT, dOrT, dIfE, dCall, dCallF, dCal, dCalX, dIt, dItM, dLc, dYes, dRng1, dSl, dPart, dNoPart, dNeg, dMt, dEnum, dSetSort, dRaise, dTry, D.seq, isStr, rv_int, rv_bl, rv_str, rv_non, rv_tup, rv_lst, rv_scr, rv_ty, rv_bor, List.map_cons, List.map_nil, List.getElem?_cons_zero, List.getElem?_cons_succ, List.set_cons_zero, List.set_cons_succ, wipeG, DEnds.x, DEnds.loop, Tgt.sto, Tgt.stoL, Option.bind_some, Bool.not_true, Bool.not_false, if_true, if_false, Bool.false_eq_true, reduceCtorEq, ite_true, ite_false]
          refine hJ _ _ ⟨pre ++ [a], rest, .fz (.tup a), by rw [e1, List.append_assoc]; rfl, rfl, ?_, rfl⟩
          rw [List.filter_append]
          simp [m]
  · obtain ⟨pre, rest, s3, e1, e2, rfl, rfl⟩ := hI
    have er : rest = [] := List.map_eq_nil_iff.mp e2.symm
    subst er
    rw [List.append_nil] at e1
    subst e1
    simp only [dSeq, dSkip, dSet, dOwn, dFrz, dIf, dRet, dExp, dApp, dExt, dPutT, dParO, dPar, dFor, dTok, dFz, dLst, dTup, dCons, dNil, vals?, Option.map_some, Option.map_none, dVar, dC, dOp, dB, dNotT, dNotV, dAndV, dOrV, dAndT, dOrT, dIfE, dCall, dCallF, dCal, dCalX, dIt, dItM, dLc, dYes, dRng1, dSl, dPart, dNoPart, dNeg, dMt, dEnum, dSetSort, dRaise, dTry, D.seq, isStr, rv_int, rv_bl, rv_str, rv_non, rv_tup, rv_lst, rv_scr, rv_ty, rv_bor, List.map_cons, List.map_nil, List.getElem?_cons_zero, List.getElem?_cons_succ, List.set_cons_zero, List.set_cons_succ, wipeG, DEnds.x, DEnds.loop, Tgt.sto, Tgt.stoL, Option.bind_some, Bool.not_true, Bool.not_false, if_true, if_false, Bool.false_eq_true, reduceCtorEq, ite_true, ite_false]
    refine ⟨U, hit U lots, hU, hit_LU U lots, ?_, .inl rfl, q⟩
    have h4 := List.length_filter_le (fun a => decide (Hits lots a)) (subs U)
    unfold hit
    omega
theorem len_law_refused : ∀ ds W Q E, sp_law_refused ds W Q E → ds.length = ["value"].length := fun ds W Q E h => by
  obtain ⟨d, rfl, _⟩ := h; rfl
theorem wp_law_refused {C_InvalidLots : Addr} : ∀ ds W Q E, sp_law_refused ds W Q E → t_law_refused C_InvalidLots { nx := fun _ W' => Q .non W', rt := Q, xc := fun C fs _ W' => E C fs W' } (startG ["value", "e"] ds) W := fun ds W Q E h => by
  obtain ⟨d, rfl, hf, q⟩ := h
  show t_law_refused _ _ [.fz d, .no] W
  simp only [t_law_refused, dSeq, dSkip, dSet, dOwn, dFrz, dIf, dRet, dExp, dApp, dExt, dPutT, dParO, dPar, dFor, dTok, dFz, dLst, dTup, dCons, dNil, vals?, Option.map_some, Option.map_none, dVar, dC, dOp, dB, dNotT, dNotV, dAndV, dOrV, dAndT, dOrT, dIfE, dCall, dCallF, dCal, dCalX, dIt, dItM, dLc, dYes, dRng1, dSl, dPart, dNoPart, dNeg, dMt, dEnum, dSetSort, dRaise, dTry, D.seq, isStr, rv_int, rv_bl, rv_str, rv_non, rv_tup, rv_lst, rv_scr, rv_ty, rv_bor, List.map_cons, List.map_nil, List.getElem?_cons_zero, List.getElem?_cons_succ, List.set_cons_zero, List.set_cons_succ, wipeG, DEnds.x, DEnds.loop, Tgt.sto, Tgt.stoL, Option.bind_some, Bool.not_true, Bool.not_false, if_true, if_false, Bool.false_eq_true, reduceCtorEq, ite_true, ite_false]
  refine ⟨d, rfl, hf, .inr ?_⟩
  rcases q with ⟨h1, q⟩ | ⟨xs, ys, z, h1, h2, h3, h4, q⟩
  · exact .inl ⟨h1, rfl, Nat.lt_succ_self 1, _, rfl, q⟩
  · exact .inr ⟨xs, ys, z, h1, h2, h3, h4, rfl, Nat.lt_succ_self 1, _, rfl, q⟩
end K47

set_option Elab.async false
set_option linter.all false
set_option maxRecDepth 100000
set_option maxHeartbeats 4000000
/-! K47Q: what is shown; one turn of the law. -/
namespace K47
open PySem PySem.Spec PyProof.Rows L2 DL
open Classical
theorem weightAll_le {k : Nat} : ∀ {xs : List D}, (∀ d ∈ xs, d.py.weight ≤ k) → PyData.weightAll (D.pyL xs) ≤ (k + 1) * xs.length
  | [], _ => Nat.zero_le _
  | x :: xs, h => by
    have h1 := h x List.mem_cons_self
    have h2 := weightAll_le fun d hd => h d (List.mem_cons_of_mem _ hd)
    simp only [D.pyL, PyData.weightAll, List.length_cons, Nat.mul_succ]
    omega
theorem shortAll {B : Nat} : ∀ {xs : List D}, (∀ d ∈ xs, d.py.leavesShort B = true) → PyData.leavesShortAll B (D.pyL xs) = true
  | [], _ => rfl
  | x :: xs, h => by
    simp only [D.pyL, PyData.leavesShortAll, h x List.mem_cons_self, shortAll fun d hd => h d (List.mem_cons_of_mem _ hd), Bool.and_self]
theorem showAll : ∀ {xs : List D}, (∀ d ∈ xs, d.py.showable = true) → PyData.showableAll (D.pyL xs) = true
  | [], _ => rfl
  | x :: xs, h => by
    simp only [D.pyL, PyData.showableAll, h x List.mem_cons_self, showAll fun d hd => h d (List.mem_cons_of_mem _ hd), Bool.and_self]
theorem int_show {n : Int} (h0 : 0 ≤ n) (h1 : n < 1000000000000) : (D.int n).py.weight ≤ 40 ∧ (D.int n).py.leavesShort 13 = true ∧ (D.int n).py.showable = true := by
  have a : n.natAbs < 10 ^ 12 := by
    have : (10 : Nat) ^ 12 = 1000000000000 := by decide
    omega
  have b : n.natAbs.log2 < 40 := log_lt (by have : (2 : Nat) ^ 40 = 1099511627776 := by decide
                                            omega) (by decide)
  refine ⟨?_, ?_, ?_⟩
  · show (PyData.int n).weight ≤ 40
    simp only [PyData.weight]
    split <;> omega
  · show decide ((PyData.shown (.int n)).length ≤ 13) = true
    exact decide_eq_true (PyData.shown_int_le a)
  · show decide (n.natAbs.log2 < 1920) = true
    exact decide_eq_true (by omega)
theorem str_show {w : Str} (h : PyData.strOk w = true) (hl : w.length ≤ 4) : (D.str w).py.weight ≤ 40 ∧ (D.str w).py.leavesShort 13 = true ∧ (D.str w).py.showable = true := by
  refine ⟨?_, ?_, rfl⟩
  · show (PyData.str w).weight ≤ 40
    have : (PyData.str w).weight = w.length := by simp only [PyData.weight]; rfl
    omega
  · exact PyData.leavesShort_of_canLay0 13 (.str w) (by simpa only [PyData.canLay0] using h) (by simp only [PyData.intsShort])
theorem mk_show {m : D} (h : MkOk m) : m.py.weight ≤ 200 ∧ m.py.leavesShort 13 = true ∧ m.py.showable = true := by
  obtain ⟨w, ns, rfl, h1, h2, h3, h4⟩ := h
  have all : ∀ d ∈ (.str w :: ns.map D.int), d.py.weight ≤ 40 ∧ d.py.leavesShort 13 = true ∧ d.py.showable = true := fun d hd => by
    rcases List.mem_cons.mp hd with rfl | z
    · exact str_show h1 h2
    · obtain ⟨n, hn, rfl⟩ := List.mem_map.mp z
      exact int_show (h4 n hn).1 (h4 n hn).2
  have hw := weightAll_le fun d hd => (all d hd).1
  refine ⟨?_, ?_, ?_⟩
  · simp only [D.py, PyData.weight]
    simp only [List.length_cons, List.length_map] at hw
    omega
  · simp only [D.py, PyData.leavesShort]
    exact shortAll fun d hd => (all d hd).2.1
  · simp only [D.py, PyData.showable]
    exact showAll fun d hd => (all d hd).2.2
theorem lot_show {U l : List D} (hU : UOk U) (s : l.Sublist U) : (D.tup l).py.weight ≤ 2000 ∧ (D.tup l).py.leavesShort 13 = true ∧ (D.tup l).py.showable = true := by
  have all := fun m hm => mk_show (hU.sub s m hm)
  have hw := weightAll_le fun d hd => (all d hd).1
  have hl := Nat.le_trans s.length_le hU.few
  refine ⟨?_, ?_, ?_⟩
  · simp only [D.py, PyData.weight]
    omega
  · simp only [D.py, PyData.leavesShort]
    exact shortAll fun d hd => (all d hd).2.1
  · simp only [D.py, PyData.showable]
    exact showAll fun d hd => (all d hd).2.2
def shw (xs : List D) : Str := (D.py (.tup xs)).shown
theorem repr_res {U : List D} {Ls : List (List D)} (hU : UOk U) (s : LU U Ls) {Q : D → Prop} (q : Q (.str (shw (res Ls)))) : fRepr [.tup (res Ls)] Q := by
  have all : ∀ d ∈ res Ls, (d.py.weight ≤ 2000 ∧ d.py.leavesShort 13 = true ∧ d.py.showable = true) ∧ fit 2 d = true := fun d hd => by
    obtain ⟨a, rfl, ha⟩ := (mem_res d).mp hd
    exact ⟨lot_show hU (s a ha.1), lot_ft (hU.sub (s a ha.1)) 0⟩
  have hw := weightAll_le fun d hd => (all d hd).1.1
  have hl := res_len hU s
  refine ⟨?_, ?_, ?_, q⟩
  · rw [fit_tup]
    exact List.all_eq_true.mpr fun d hd => fit_mono (all d hd).2 (by decide)
  · simp only [D.py, PyData.showable]
    exact showAll fun d hd => (all d hd).1.2.2
  · have h := PyData.shown_le 13 (by decide) (D.py (.tup (res Ls))) (by
      simp only [D.py, PyData.leavesShort]
      exact shortAll fun d hd => (all d hd).1.2.1)
    have e : (D.py (.tup (res Ls))).weight ≤ 2001 * 35 := by
      simp only [D.py, PyData.weight]
      exact Nat.le_trans hw (Nat.mul_le_mul_left _ hl)
    rw [sizeLine_eq]
    omega
theorem asT_lot {U l : List D} (hU : UOk U) (s : l.Sublist U) : asT (.tup l) = .tup l := by
  rw [asT_seq (.inr rfl)]
  congr 1
  rw [List.map_congr_left fun m hm => asT_mk (hU.sub s m hm), List.map_id']
theorem map_asT {U : List D} {Ls : List (List D)} (hU : UOk U) (s : LU U Ls) : (Ls.map D.tup).map asT = Ls.map D.tup := by
  rw [List.map_map]
  exact List.map_congr_left fun l hl => asT_lot hU (s l hl)
theorem fit_lots {U : List D} {Ls : List (List D)} (hU : UOk U) (s : LU U Ls) : ∀ d ∈ Ls.map D.tup, fit 2 d = true := fun d hd => by
  obtain ⟨l, hl, rfl⟩ := List.mem_map.mp hd
  exact lot_ft (hU.sub (s l hl)) 0
/-- one statement behind another -/
theorem seq_go {t u : TDS} {E : DEnds} {Γ : Gs} {W : Ws} (C : Gs → Ws → Prop) (h1 : ∀ J : Gs → Ws → Prop, (∀ Γ' W', C Γ' W' → J Γ' W') → t { E with nx := J } Γ W) (h2 : ∀ Γ' W', C Γ' W' → u E Γ' W') : dSeq t u E Γ W :=
  h1 _ h2
theorem frz_skip {i : Nat} {t : TDS} {E : DEnds} {Γ : Gs} {W : Ws} {d : D} (h : Γ[i]? = some (.fz d)) (q : t E Γ W) : dFrz i t E Γ W := by
  unfold dFrz
  rw [h]
  exact q
theorem cut_take {α : Type} (xs : List α) {k : Nat} (h : k ≤ xs.length) : cutL xs none (some (k : Int)) = xs.take k := by
  unfold cutL
  rw [HT.sIx_none, HT.sIx_nat, Nat.min_eq_left h, List.drop_zero, Nat.sub_zero]
theorem cut_drop {α : Type} (xs : List α) {k : Nat} (h : k ≤ xs.length) : cutL xs (some (k : Int)) none = xs.drop k := by
  unfold cutL
  rw [HT.sIx_none, HT.sIx_nat, Nat.min_eq_left h]
  exact List.take_of_length_le (by rw [List.length_drop]; omega)
end K47

set_option Elab.async false
set_option linter.all false
set_option maxRecDepth 100000
set_option maxHeartbeats 4000000
/-! K47R: one turn of the law, and the law. -/
namespace K47
open PySem PySem.Spec PyProof.Rows L2 DL
open Classical
theorem len_law_once : ∀ ds W Q E, sp_law_once ds W Q E → ds.length = ["box"].length := fun ds W Q E h => by
  obtain ⟨b, c, rfl, _⟩ := h; rfl
/-- crossings of good lots -/
theorem cross_go {U : List D} {lots : List (List D)} {C : Addr} {d : D} {W : Ws} {Q : D → Ws → Prop} {E : XD} (hU : UOk U) (hL : LU U lots) (hd : d = .tup (lots.map .tup) ∨ d = .lst (lots.map .lst)) (q : Q (.tup (res (hit U lots))) W) : sp_crossings_of C [d] W Q E := by
  refine ⟨d, rfl, ?_, .inl ⟨U, lots, hU, hL, ?_, q⟩⟩
  · rcases hd with rfl | rfl
    · rw [fit_tup]
      exact List.all_eq_true.mpr (fit_lots hU hL)
    · rw [fit_lst]
      refine List.all_eq_true.mpr fun y hy => ?_
      obtain ⟨l, hl, rfl⟩ := List.mem_map.mp hy
      rw [fit_lst]
      exact List.all_eq_true.mpr fun m hm => (hU.sub (hL l hl) m hm).ft 0
  · rcases hd with rfl | rfl
    · rw [asT_seq (.inr rfl), map_asT hU hL]
    · rw [asT_seq (.inl rfl), List.map_map]
      congr 1
      refine List.map_congr_left fun l hl => ?_
      have := asT_lot hU (hL l hl)
      rw [asT_seq (.inr rfl)] at this
      show asT (.lst l) = _
      rw [asT_seq (.inl rfl)]
      exact this
theorem wp_law_once {C_InvalidLots : Addr} : ∀ ds W Q E, sp_law_once ds W Q E → t_law_once C_InvalidLots { nx := fun _ W' => Q .non W', rt := Q } (startG ["box", "marks", "lots", "one", "share", "lot", "due", "at", "wrong", "mark"] ds) W := fun ds W Q E h => by
  obtain ⟨b, c, rfl, hB, q⟩ := h
  show t_law_once _ _ [.fz (.tok b), .no, .no, .no, .no, .no, .no, .no, .no, .no] W
  unfold t_law_once
  -- marks, lots
  refine seq_go (fun Γ W => ∃ U, UOk U ∧ U ≠ [] ∧ BoxAt W b c ∧ Γ = [.fz (.tok b), .fz (.lst U), .ow [], .no, .no, .no, .no, .no, .no, .no]) (fun J hJ => ?_) ?_
  · simp only [dSeq, dSkip, dSet, dOwn, dFrz, dIf, dRet, dExp, dApp, dExt, dPutT, dParO, dPar, dFor, dTok, dFz, dLst, dTup, dCons, dNil, vals?, Option.map_some, Option.map_none, dVar, dC, dOp, dB, dNotT, dNotV, dAndV, dOrV, dAndT, dOrT, dIfE, dCall, dCallF, dCal, dCalX, dIt, dItM, dLc, dYes, dRng1, dSl, dPart, dNoPart, dNeg, dMt, dEnum, dSetSort, dRaise, dTry, D.seq, isStr, rv_int, rv_bl, rv_str, rv_non, rv_tup, rv_lst, rv_scr, rv_ty, rv_bor, List.map_cons, List.map_nil, List.getElem?_cons_zero, List.getElem?_cons_succ, List.set_cons_zero, List.set_cons_succ, wipeG, DEnds.x, DEnds.loop, Tgt.sto, Tgt.stoL, Option.bind_some, Bool.not_true, Bool.not_false, if_true, if_false, Bool.false_eq_true, reduceCtorEq, ite_true, ite_false]
    refine ⟨b, c, rfl, hB, fun U W' hU ne hB' => ?_⟩
    simp only [dSeq, dSkip, dSet, dOwn, dFrz, dIf, dRet, dExp, dApp, dExt, dPutT, dParO, dPar, dFor, dTok, dFz, dLst, dTup, dCons, dNil, vals?, Option.map_some, Option.map_none, dVar, dC, dOp, dB, dNotT, dNotV, dAndV, dOrV, dAndT, dOrT, dIfE, dCall, dCallF, dCal, dCalX, dIt, dItM, dLc, dYes, dRng1, dSl, dPart, dNoPart, dNeg, dMt, dEnum, dSetSort, dRaise, dTry, D.seq, isStr, rv_int, rv_bl, rv_str, rv_non, rv_tup, rv_lst, rv_scr, rv_ty, rv_bor, List.map_cons, List.map_nil, List.getElem?_cons_zero, List.getElem?_cons_succ, List.set_cons_zero, List.set_cons_succ, wipeG, DEnds.x, DEnds.loop, Tgt.sto, Tgt.stoL, Option.bind_some, Bool.not_true, Bool.not_false, if_true, if_false, Bool.false_eq_true, reduceCtorEq, ite_true, ite_false]
    exact ⟨z_size (by decide), hJ _ _ ⟨U, hU, ne, hB', rfl⟩⟩
  rintro _ W ⟨U, hU, ne, hB, rfl⟩
  -- the lots
  refine seq_go (fun Γ W => ∃ lots s3 s4 s5, LU U lots ∧ lots.length ≤ 6 ∧ BoxAt W b c ∧ Γ = [.fz (.tok b), .fz (.lst U), .ow (lots.map .tup), s3, s4, s5, .no, .no, .no, .no]) (fun J hJ => ?_) ?_
  · simp only [dSeq, dSkip, dSet, dOwn, dFrz, dIf, dRet, dExp, dApp, dExt, dPutT, dParO, dPar, dFor, dTok, dFz, dLst, dTup, dCons, dNil, vals?, Option.map_some, Option.map_none, dVar, dC, dOp, dB, dNotT, dNotV, dAndV, dOrV, dAndT, dOrT, dIfE, dCall, dCallF, dCal, dCalX, dIt, dItM, dLc, dYes, dRng1, dSl, dPart, dNoPart, dNeg, dMt, dEnum, dSetSort, dRaise, dTry, D.seq, isStr, rv_int, rv_bl, rv_str, rv_non, rv_tup, rv_lst, rv_scr, rv_ty, rv_bor, List.map_cons, List.map_nil, List.getElem?_cons_zero, List.getElem?_cons_succ, List.set_cons_zero, List.set_cons_succ, wipeG, DEnds.x, DEnds.loop, Tgt.sto, Tgt.stoL, Option.bind_some, Bool.not_true, Bool.not_false, if_true, if_false, Bool.false_eq_true, reduceCtorEq, ite_true, ite_false]
    refine ⟨b, c, 7, rfl, hB, by decide, by decide, fun n W1 n0 n1 hB1 _ => ?_⟩
    simp only [dSeq, dSkip, dSet, dOwn, dFrz, dIf, dRet, dExp, dApp, dExt, dPutT, dParO, dPar, dFor, dTok, dFz, dLst, dTup, dCons, dNil, vals?, Option.map_some, Option.map_none, dVar, dC, dOp, dB, dNotT, dNotV, dAndV, dOrV, dAndT, dOrT, dIfE, dCall, dCallF, dCal, dCalX, dIt, dItM, dLc, dYes, dRng1, dSl, dPart, dNoPart, dNeg, dMt, dEnum, dSetSort, dRaise, dTry, D.seq, isStr, rv_int, rv_bl, rv_str, rv_non, rv_tup, rv_lst, rv_scr, rv_ty, rv_bor, List.map_cons, List.map_nil, List.getElem?_cons_zero, List.getElem?_cons_succ, List.set_cons_zero, List.set_cons_succ, wipeG, DEnds.x, DEnds.loop, Tgt.sto, Tgt.stoL, Option.bind_some, Bool.not_true, Bool.not_false, if_true, if_false, Bool.false_eq_true, reduceCtorEq, ite_true, ite_false]
    refine ⟨by omega, by omega, ?_⟩
    refine forGo_inv (fun items Γ W => ∃ lots s3 s4 s5, LU U lots ∧ lots.length + items.length ≤ 6 ∧ BoxAt W b c ∧ Γ = [.fz (.tok b), .fz (.lst U), .ow (lots.map .tup), s3, s4, s5, .no, .no, .no, .no]) (fun d r Γ W' J2 hI hJ2 => ?_) (fun Γ W' hI => ?_) _ _ _ ⟨[], .no, .no, .no, fun l hl => (by cases hl), by rw [rngD_len]; show 0 + _ ≤ _; omega, hB1, rfl⟩
    · obtain ⟨lots, s3, s4, s5, hL, hl, hB2, rfl⟩ := hI
      refine ⟨_, rfl, ?_⟩
      refine seq_go (fun Γ W => ∃ sh : Int, BoxAt W b c ∧ Γ = [.fz (.tok b), .fz (.lst U), .ow (lots.map .tup), .fz d, .fz (.int sh), s5, .no, .no, .no, .no]) (fun J3 hJ3 => ?_) ?_
      · simp only [dSeq, dSkip, dSet, dOwn, dFrz, dIf, dRet, dExp, dApp, dExt, dPutT, dParO, dPar, dFor, dTok, dFz, dLst, dTup, dCons, dNil, vals?, Option.map_some, Option.map_none, dVar, dC, dOp, dB, dNotT, dNotV, dAndV, dOrV, dAndT, dOrT, dIfE, dCall, dCallF, dCal, dCalX, dIt, dItM, dLc, dYes, dRng1, dSl, dPart, dNoPart, dNeg, dMt, dEnum, dSetSort, dRaise, dTry, D.seq, isStr, rv_int, rv_bl, rv_str, rv_non, rv_tup, rv_lst, rv_scr, rv_ty, rv_bor, List.map_cons, List.map_nil, List.getElem?_cons_zero, List.getElem?_cons_succ, List.set_cons_zero, List.set_cons_succ, wipeG, DEnds.x, DEnds.loop, Tgt.sto, Tgt.stoL, Option.bind_some, Bool.not_true, Bool.not_false, if_true, if_false, Bool.false_eq_true, reduceCtorEq, ite_true, ite_false]
        refine ⟨b, c, 3, rfl, hB2, by decide, by decide, fun n W1 n0 n1 hB1 _ => ?_⟩
        simp only [dSeq, dSkip, dSet, dOwn, dFrz, dIf, dRet, dExp, dApp, dExt, dPutT, dParO, dPar, dFor, dTok, dFz, dLst, dTup, dCons, dNil, vals?, Option.map_some, Option.map_none, dVar, dC, dOp, dB, dNotT, dNotV, dAndV, dOrV, dAndT, dOrT, dIfE, dCall, dCallF, dCal, dCalX, dIt, dItM, dLc, dYes, dRng1, dSl, dPart, dNoPart, dNeg, dMt, dEnum, dSetSort, dRaise, dTry, D.seq, isStr, rv_int, rv_bl, rv_str, rv_non, rv_tup, rv_lst, rv_scr, rv_ty, rv_bor, List.map_cons, List.map_nil, List.getElem?_cons_zero, List.getElem?_cons_succ, List.set_cons_zero, List.set_cons_succ, wipeG, DEnds.x, DEnds.loop, Tgt.sto, Tgt.stoL, Option.bind_some, Bool.not_true, Bool.not_false, if_true, if_false, Bool.false_eq_true, reduceCtorEq, ite_true, ite_false, fAdd]
        exact hJ3 _ _ ⟨_, hB1, rfl⟩
      rintro _ W3 ⟨sh, hB3, rfl⟩
      refine seq_go (fun Γ W => ∃ l, l.Sublist U ∧ BoxAt W b c ∧ Γ = [.fz (.tok b), .fz (.lst U), .ow (lots.map .tup), .fz d, .fz (.int sh), .fz (.tup l), .no, .no, .no, .no]) (fun J3 hJ3 => ?_) ?_
      · simp only [dSeq, dSkip, dSet, dOwn, dFrz, dIf, dRet, dExp, dApp, dExt, dPutT, dParO, dPar, dFor, dTok, dFz, dLst, dTup, dCons, dNil, vals?, Option.map_some, Option.map_none, dVar, dC, dOp, dB, dNotT, dNotV, dAndV, dOrV, dAndT, dOrT, dIfE, dCall, dCallF, dCal, dCalX, dIt, dItM, dLc, dYes, dRng1, dSl, dPart, dNoPart, dNeg, dMt, dEnum, dSetSort, dRaise, dTry, D.seq, isStr, rv_int, rv_bl, rv_str, rv_non, rv_tup, rv_lst, rv_scr, rv_ty, rv_bor, List.map_cons, List.map_nil, List.getElem?_cons_zero, List.getElem?_cons_succ, List.set_cons_zero, List.set_cons_succ, wipeG, DEnds.x, DEnds.loop, Tgt.sto, Tgt.stoL, Option.bind_some, Bool.not_true, Bool.not_false, if_true, if_false, Bool.false_eq_true, reduceCtorEq, ite_true, ite_false]
        refine ⟨fun z => z.elim, ?_⟩
        refine lcGo_inv (fun rest acc W => BoxAt W b c ∧ ∃ pre, U = pre ++ rest ∧ acc.Sublist pre) (fun m r acc W4 J4 hI hJ4 => ?_) (fun acc W4 hI => ?_) _ _ _ ⟨hB3, [], rfl, List.Sublist.refl _⟩
        · obtain ⟨hB4, pre, e1, sl⟩ := hI
          refine ⟨_, rfl, ?_⟩
          simp only [dSeq, dSkip, dSet, dOwn, dFrz, dIf, dRet, dExp, dApp, dExt, dPutT, dParO, dPar, dFor, dTok, dFz, dLst, dTup, dCons, dNil, vals?, Option.map_some, Option.map_none, dVar, dC, dOp, dB, dNotT, dNotV, dAndV, dOrV, dAndT, dOrT, dIfE, dCall, dCallF, dCal, dCalX, dIt, dItM, dLc, dYes, dRng1, dSl, dPart, dNoPart, dNeg, dMt, dEnum, dSetSort, dRaise, dTry, D.seq, isStr, rv_int, rv_bl, rv_str, rv_non, rv_tup, rv_lst, rv_scr, rv_ty, rv_bor, List.map_cons, List.map_nil, List.getElem?_cons_zero, List.getElem?_cons_succ, List.set_cons_zero, List.set_cons_succ, wipeG, DEnds.x, DEnds.loop, Tgt.sto, Tgt.stoL, Option.bind_some, Bool.not_true, Bool.not_false, if_true, if_false, Bool.false_eq_true, reduceCtorEq, ite_true, ite_false]
          refine ⟨b, c, 4, rfl, hB4, by decide, by decide, fun k W5 k0 k1 hB5 _ => ?_⟩
          simp only [dSeq, dSkip, dSet, dOwn, dFrz, dIf, dRet, dExp, dApp, dExt, dPutT, dParO, dPar, dFor, dTok, dFz, dLst, dTup, dCons, dNil, vals?, Option.map_some, Option.map_none, dVar, dC, dOp, dB, dNotT, dNotV, dAndV, dOrV, dAndT, dOrT, dIfE, dCall, dCallF, dCal, dCalX, dIt, dItM, dLc, dYes, dRng1, dSl, dPart, dNoPart, dNeg, dMt, dEnum, dSetSort, dRaise, dTry, D.seq, isStr, rv_int, rv_bl, rv_str, rv_non, rv_tup, rv_lst, rv_scr, rv_ty, rv_bor, List.map_cons, List.map_nil, List.getElem?_cons_zero, List.getElem?_cons_succ, List.set_cons_zero, List.set_cons_succ, wipeG, DEnds.x, DEnds.loop, Tgt.sto, Tgt.stoL, Option.bind_some, Bool.not_true, Bool.not_false, if_true, if_false, Bool.false_eq_true, reduceCtorEq, ite_true, ite_false, fInt]
          refine ⟨trivial, ?_⟩
          by_cases z : k < sh
          · simp only [z, decide_true, dSeq, dSkip, dSet, dOwn, dFrz, dIf, dRet, dExp, dApp, dExt, dPutT, dParO, dPar, dFor, dTok, dFz, dLst, dTup, dCons, dNil, vals?, Option.map_some, Option.map_none, dVar, dC, dOp, dB, dNotT, dNotV, dAndV, dOrV, dAndT, dOrT, dIfE, dCall, dCallF, dCal, dCalX, dIt, dItM, dLc, dYes, dRng1, dSl, dPart, dNoPart, dNeg, dMt, dEnum, dSetSort, dRaise, dTry, D.seq, isStr, rv_int, rv_bl, rv_str, rv_non, rv_tup, rv_lst, rv_scr, rv_ty, rv_bor, List.map_cons, List.map_nil, List.getElem?_cons_zero, List.getElem?_cons_succ, List.set_cons_zero, List.set_cons_succ, wipeG, DEnds.x, DEnds.loop, Tgt.sto, Tgt.stoL, Option.bind_some, Bool.not_true, Bool.not_false, if_true, if_false, Bool.false_eq_true, reduceCtorEq, ite_true, ite_false]
            exact hJ4 _ _ ⟨hB5, pre ++ [m], by rw [e1, List.append_assoc]; rfl, sl.append (List.Sublist.refl _)⟩
          · simp only [z, decide_false, dSeq, dSkip, dSet, dOwn, dFrz, dIf, dRet, dExp, dApp, dExt, dPutT, dParO, dPar, dFor, dTok, dFz, dLst, dTup, dCons, dNil, vals?, Option.map_some, Option.map_none, dVar, dC, dOp, dB, dNotT, dNotV, dAndV, dOrV, dAndT, dOrT, dIfE, dCall, dCallF, dCal, dCalX, dIt, dItM, dLc, dYes, dRng1, dSl, dPart, dNoPart, dNeg, dMt, dEnum, dSetSort, dRaise, dTry, D.seq, isStr, rv_int, rv_bl, rv_str, rv_non, rv_tup, rv_lst, rv_scr, rv_ty, rv_bor, List.map_cons, List.map_nil, List.getElem?_cons_zero, List.getElem?_cons_succ, List.set_cons_zero, List.set_cons_succ, wipeG, DEnds.x, DEnds.loop, Tgt.sto, Tgt.stoL, Option.bind_some, Bool.not_true, Bool.not_false, if_true, if_false, Bool.false_eq_true, reduceCtorEq, ite_true, ite_false]
            exact hJ4 _ _ ⟨hB5, pre ++ [m], by rw [e1, List.append_assoc]; rfl, List.Sublist.trans sl (List.sublist_append_left _ _)⟩
        · obtain ⟨hB4, pre, e1, sl⟩ := hI
          rw [List.append_nil] at e1
          subst e1
          simp only [dSeq, dSkip, dSet, dOwn, dFrz, dIf, dRet, dExp, dApp, dExt, dPutT, dParO, dPar, dFor, dTok, dFz, dLst, dTup, dCons, dNil, vals?, Option.map_some, Option.map_none, dVar, dC, dOp, dB, dNotT, dNotV, dAndV, dOrV, dAndT, dOrT, dIfE, dCall, dCallF, dCal, dCalX, dIt, dItM, dLc, dYes, dRng1, dSl, dPart, dNoPart, dNeg, dMt, dEnum, dSetSort, dRaise, dTry, D.seq, isStr, rv_int, rv_bl, rv_str, rv_non, rv_tup, rv_lst, rv_scr, rv_ty, rv_bor, List.map_cons, List.map_nil, List.getElem?_cons_zero, List.getElem?_cons_succ, List.set_cons_zero, List.set_cons_succ, wipeG, DEnds.x, DEnds.loop, Tgt.sto, Tgt.stoL, Option.bind_some, Bool.not_true, Bool.not_false, if_true, if_false, Bool.false_eq_true, reduceCtorEq, ite_true, ite_false, fTuple]
          exact hJ3 _ _ ⟨acc, sl, hB4, rfl⟩
      rintro _ W4 ⟨l, sl, hB4, rfl⟩
      have push : ∀ W5, BoxAt W5 b c → J2 [.fz (.tok b), .fz (.lst U), .ow (lots.map .tup ++ [.tup l]), .fz d, .fz (.int sh), .fz (.tup l), .no, .no, .no, .no] W5 := fun W5 hB5 =>
        hJ2 _ _ ⟨lots ++ [l], _, _, _, fun k hk => (List.mem_append.mp hk).elim (hL k) fun z => by rw [List.mem_singleton.mp z]; exact sl, by simp only [List.length_append, List.length_cons, List.length_nil] at hl ⊢; omega, hB5, by rw [List.map_append]; rfl⟩
      have skip : ∀ W5, BoxAt W5 b c → J2 [.fz (.tok b), .fz (.lst U), .ow (lots.map .tup), .fz d, .fz (.int sh), .fz (.tup l), .no, .no, .no, .no] W5 := fun W5 hB5 =>
        hJ2 _ _ ⟨lots, _, _, _, hL, by simp only [List.length_cons] at hl; omega, hB5, rfl⟩
      have sz : (lots.map D.tup).length < sizeLine := by rw [List.length_map, sizeLine_eq]; omega
      simp only [dSeq, dSkip, dSet, dOwn, dFrz, dIf, dRet, dExp, dApp, dExt, dPutT, dParO, dPar, dFor, dTok, dFz, dLst, dTup, dCons, dNil, vals?, Option.map_some, Option.map_none, dVar, dC, dOp, dB, dNotT, dNotV, dAndV, dOrV, dAndT, dOrT, dIfE, dCall, dCallF, dCal, dCalX, dIt, dItM, dLc, dYes, dRng1, dSl, dPart, dNoPart, dNeg, dMt, dEnum, dSetSort, dRaise, dTry, D.seq, isStr, rv_int, rv_bl, rv_str, rv_non, rv_tup, rv_lst, rv_scr, rv_ty, rv_bor, List.map_cons, List.map_nil, List.getElem?_cons_zero, List.getElem?_cons_succ, List.set_cons_zero, List.set_cons_succ, wipeG, DEnds.x, DEnds.loop, Tgt.sto, Tgt.stoL, Option.bind_some, Bool.not_true, Bool.not_false, if_true, if_false, Bool.false_eq_true, reduceCtorEq, ite_true, ite_false, fNe]
      refine ⟨z_size (by decide), lot_ft (hU.sub sl) _, by simp, ?_⟩
      by_cases z : deq (.tup l) (.tup []) = true
      · simp only [z, dSeq, dSkip, dSet, dOwn, dFrz, dIf, dRet, dExp, dApp, dExt, dPutT, dParO, dPar, dFor, dTok, dFz, dLst, dTup, dCons, dNil, vals?, Option.map_some, Option.map_none, dVar, dC, dOp, dB, dNotT, dNotV, dAndV, dOrV, dAndT, dOrT, dIfE, dCall, dCallF, dCal, dCalX, dIt, dItM, dLc, dYes, dRng1, dSl, dPart, dNoPart, dNeg, dMt, dEnum, dSetSort, dRaise, dTry, D.seq, isStr, rv_int, rv_bl, rv_str, rv_non, rv_tup, rv_lst, rv_scr, rv_ty, rv_bor, List.map_cons, List.map_nil, List.getElem?_cons_zero, List.getElem?_cons_succ, List.set_cons_zero, List.set_cons_succ, wipeG, DEnds.x, DEnds.loop, Tgt.sto, Tgt.stoL, Option.bind_some, Bool.not_true, Bool.not_false, if_true, if_false, Bool.false_eq_true, reduceCtorEq, ite_true, ite_false]
        refine ⟨b, c, 6, rfl, hB4, by decide, by decide, fun k W5 k0 k1 hB5 _ => ?_⟩
        simp only [dSeq, dSkip, dSet, dOwn, dFrz, dIf, dRet, dExp, dApp, dExt, dPutT, dParO, dPar, dFor, dTok, dFz, dLst, dTup, dCons, dNil, vals?, Option.map_some, Option.map_none, dVar, dC, dOp, dB, dNotT, dNotV, dAndV, dOrV, dAndT, dOrT, dIfE, dCall, dCallF, dCal, dCalX, dIt, dItM, dLc, dYes, dRng1, dSl, dPart, dNoPart, dNeg, dMt, dEnum, dSetSort, dRaise, dTry, D.seq, isStr, rv_int, rv_bl, rv_str, rv_non, rv_tup, rv_lst, rv_scr, rv_ty, rv_bor, List.map_cons, List.map_nil, List.getElem?_cons_zero, List.getElem?_cons_succ, List.set_cons_zero, List.set_cons_succ, wipeG, DEnds.x, DEnds.loop, Tgt.sto, Tgt.stoL, Option.bind_some, Bool.not_true, Bool.not_false, if_true, if_false, Bool.false_eq_true, reduceCtorEq, ite_true, ite_false, fEq, deq]
        refine ⟨by simp, by simp, ?_⟩
        by_cases y : k = 0
        · subst y
          simp only [beq_self_eq_true, dSeq, dSkip, dSet, dOwn, dFrz, dIf, dRet, dExp, dApp, dExt, dPutT, dParO, dPar, dFor, dTok, dFz, dLst, dTup, dCons, dNil, vals?, Option.map_some, Option.map_none, dVar, dC, dOp, dB, dNotT, dNotV, dAndV, dOrV, dAndT, dOrT, dIfE, dCall, dCallF, dCal, dCalX, dIt, dItM, dLc, dYes, dRng1, dSl, dPart, dNoPart, dNeg, dMt, dEnum, dSetSort, dRaise, dTry, D.seq, isStr, rv_int, rv_bl, rv_str, rv_non, rv_tup, rv_lst, rv_scr, rv_ty, rv_bor, List.map_cons, List.map_nil, List.getElem?_cons_zero, List.getElem?_cons_succ, List.set_cons_zero, List.set_cons_succ, wipeG, DEnds.x, DEnds.loop, Tgt.sto, Tgt.stoL, Option.bind_some, Bool.not_true, Bool.not_false, if_true, if_false, Bool.false_eq_true, reduceCtorEq, ite_true, ite_false]
          exact ⟨sz, push _ hB5⟩
        · have e : (k == (0 : Int)) = false := by simpa using y
          simp only [e, dSeq, dSkip, dSet, dOwn, dFrz, dIf, dRet, dExp, dApp, dExt, dPutT, dParO, dPar, dFor, dTok, dFz, dLst, dTup, dCons, dNil, vals?, Option.map_some, Option.map_none, dVar, dC, dOp, dB, dNotT, dNotV, dAndV, dOrV, dAndT, dOrT, dIfE, dCall, dCallF, dCal, dCalX, dIt, dItM, dLc, dYes, dRng1, dSl, dPart, dNoPart, dNeg, dMt, dEnum, dSetSort, dRaise, dTry, D.seq, isStr, rv_int, rv_bl, rv_str, rv_non, rv_tup, rv_lst, rv_scr, rv_ty, rv_bor, List.map_cons, List.map_nil, List.getElem?_cons_zero, List.getElem?_cons_succ, List.set_cons_zero, List.set_cons_succ, wipeG, DEnds.x, DEnds.loop, Tgt.sto, Tgt.stoL, Option.bind_some, Bool.not_true, Bool.not_false, if_true, if_false, Bool.false_eq_true, reduceCtorEq, ite_true, ite_false]
          exact skip _ hB5
      · have z' : deq (.tup l) (.tup []) = false := by simpa using z
        simp only [z', dSeq, dSkip, dSet, dOwn, dFrz, dIf, dRet, dExp, dApp, dExt, dPutT, dParO, dPar, dFor, dTok, dFz, dLst, dTup, dCons, dNil, vals?, Option.map_some, Option.map_none, dVar, dC, dOp, dB, dNotT, dNotV, dAndV, dOrV, dAndT, dOrT, dIfE, dCall, dCallF, dCal, dCalX, dIt, dItM, dLc, dYes, dRng1, dSl, dPart, dNoPart, dNeg, dMt, dEnum, dSetSort, dRaise, dTry, D.seq, isStr, rv_int, rv_bl, rv_str, rv_non, rv_tup, rv_lst, rv_scr, rv_ty, rv_bor, List.map_cons, List.map_nil, List.getElem?_cons_zero, List.getElem?_cons_succ, List.set_cons_zero, List.set_cons_succ, wipeG, DEnds.x, DEnds.loop, Tgt.sto, Tgt.stoL, Option.bind_some, Bool.not_true, Bool.not_false, if_true, if_false, Bool.false_eq_true, reduceCtorEq, ite_true, ite_false]
        exact ⟨sz, push _ hB4⟩
    · obtain ⟨lots, s3, s4, s5, hL, hl, hB2, rfl⟩ := hI
      exact hJ _ _ ⟨lots, s3, s4, s5, hL, by simp only [List.length_nil] at hl; omega, hB2, rfl⟩
  rintro _ W ⟨lots, s3, s4, s5, hL, hl6, hB, rfl⟩
  have hlen : (lots.map D.tup).length ≤ 6 := by rw [List.length_map]; exact hl6
  refine seq_go (fun Γ W => BoxAt W b c ∧ Γ = [.fz (.tok b), .fz (.lst U), .fz (.tup (lots.map .tup)), s3, s4, s5, .no, .no, .no, .no]) (fun J hJ => ?_) ?_
  · simp only [dSeq, dSkip, dSet, dOwn, dFrz, dIf, dRet, dExp, dApp, dExt, dPutT, dParO, dPar, dFor, dTok, dFz, dLst, dTup, dCons, dNil, vals?, Option.map_some, Option.map_none, dVar, dC, dOp, dB, dNotT, dNotV, dAndV, dOrV, dAndT, dOrT, dIfE, dCall, dCallF, dCal, dCalX, dIt, dItM, dLc, dYes, dRng1, dSl, dPart, dNoPart, dNeg, dMt, dEnum, dSetSort, dRaise, dTry, D.seq, isStr, rv_int, rv_bl, rv_str, rv_non, rv_tup, rv_lst, rv_scr, rv_ty, rv_bor, List.map_cons, List.map_nil, List.getElem?_cons_zero, List.getElem?_cons_succ, List.set_cons_zero, List.set_cons_succ, wipeG, DEnds.x, DEnds.loop, Tgt.sto, Tgt.stoL, Option.bind_some, Bool.not_true, Bool.not_false, if_true, if_false, Bool.false_eq_true, reduceCtorEq, ite_true, ite_false, fTuple]
    exact hJ _ _ ⟨hB, rfl⟩
  rintro _ W ⟨hB, rfl⟩
  refine frz_skip rfl ?_
  -- due
  refine seq_go (fun Γ W => BoxAt W b c ∧ Γ = [.fz (.tok b), .fz (.lst U), .fz (.tup (lots.map .tup)), s3, s4, s5, .fz (.tup (res (hit U lots))), .no, .no, .no]) (fun J hJ => ?_) ?_
  · simp only [dSeq, dSkip, dSet, dOwn, dFrz, dIf, dRet, dExp, dApp, dExt, dPutT, dParO, dPar, dFor, dTok, dFz, dLst, dTup, dCons, dNil, vals?, Option.map_some, Option.map_none, dVar, dC, dOp, dB, dNotT, dNotV, dAndV, dOrV, dAndT, dOrT, dIfE, dCall, dCallF, dCal, dCalX, dIt, dItM, dLc, dYes, dRng1, dSl, dPart, dNoPart, dNeg, dMt, dEnum, dSetSort, dRaise, dTry, D.seq, isStr, rv_int, rv_bl, rv_str, rv_non, rv_tup, rv_lst, rv_scr, rv_ty, rv_bor, List.map_cons, List.map_nil, List.getElem?_cons_zero, List.getElem?_cons_succ, List.set_cons_zero, List.set_cons_succ, wipeG, DEnds.x, DEnds.loop, Tgt.sto, Tgt.stoL, Option.bind_some, Bool.not_true, Bool.not_false, if_true, if_false, Bool.false_eq_true, reduceCtorEq, ite_true, ite_false]
    exact ⟨U, lots, hU, hL, rfl, hJ _ _ ⟨hB, rfl⟩⟩
  rintro _ W ⟨hB, rfl⟩
  refine frz_skip rfl ?_
  have hH := hit_LU U lots
  refine seq_go (fun Γ W => BoxAt W b c ∧ Γ = [.fz (.tok b), .fz (.lst U), .fz (.tup (lots.map .tup)), s3, s4, s5, .fz (.tup (res (hit U lots))), .no, .no, .no]) (fun J hJ => ?_) ?_
  · simp only [dSeq, dSkip, dSet, dOwn, dFrz, dIf, dRet, dExp, dApp, dExt, dPutT, dParO, dPar, dFor, dTok, dFz, dLst, dTup, dCons, dNil, vals?, Option.map_some, Option.map_none, dVar, dC, dOp, dB, dNotT, dNotV, dAndV, dOrV, dAndT, dOrT, dIfE, dCall, dCallF, dCal, dCalX, dIt, dItM, dLc, dYes, dRng1, dSl, dPart, dNoPart, dNeg, dMt, dEnum, dSetSort, dRaise, dTry, D.seq, isStr, rv_int, rv_bl, rv_str, rv_non, rv_tup, rv_lst, rv_scr, rv_ty, rv_bor, List.map_cons, List.map_nil, List.getElem?_cons_zero, List.getElem?_cons_succ, List.set_cons_zero, List.set_cons_succ, wipeG, DEnds.x, DEnds.loop, Tgt.sto, Tgt.stoL, Option.bind_some, Bool.not_true, Bool.not_false, if_true, if_false, Bool.false_eq_true, reduceCtorEq, ite_true, ite_false]
    refine cross_go hU hL (.inl rfl) ?_
    simp only [dSeq, dSkip, dSet, dOwn, dFrz, dIf, dRet, dExp, dApp, dExt, dPutT, dParO, dPar, dFor, dTok, dFz, dLst, dTup, dCons, dNil, vals?, Option.map_some, Option.map_none, dVar, dC, dOp, dB, dNotT, dNotV, dAndV, dOrV, dAndT, dOrT, dIfE, dCall, dCallF, dCal, dCalX, dIt, dItM, dLc, dYes, dRng1, dSl, dPart, dNoPart, dNeg, dMt, dEnum, dSetSort, dRaise, dTry, D.seq, isStr, rv_int, rv_bl, rv_str, rv_non, rv_tup, rv_lst, rv_scr, rv_ty, rv_bor, List.map_cons, List.map_nil, List.getElem?_cons_zero, List.getElem?_cons_succ, List.set_cons_zero, List.set_cons_succ, wipeG, DEnds.x, DEnds.loop, Tgt.sto, Tgt.stoL, Option.bind_some, Bool.not_true, Bool.not_false, if_true, if_false, Bool.false_eq_true, reduceCtorEq, ite_true, ite_false]
    refine repr_res hU hH ?_
    simp only [dSeq, dSkip, dSet, dOwn, dFrz, dIf, dRet, dExp, dApp, dExt, dPutT, dParO, dPar, dFor, dTok, dFz, dLst, dTup, dCons, dNil, vals?, Option.map_some, Option.map_none, dVar, dC, dOp, dB, dNotT, dNotV, dAndV, dOrV, dAndT, dOrT, dIfE, dCall, dCallF, dCal, dCalX, dIt, dItM, dLc, dYes, dRng1, dSl, dPart, dNoPart, dNeg, dMt, dEnum, dSetSort, dRaise, dTry, D.seq, isStr, rv_int, rv_bl, rv_str, rv_non, rv_tup, rv_lst, rv_scr, rv_ty, rv_bor, List.map_cons, List.map_nil, List.getElem?_cons_zero, List.getElem?_cons_succ, List.set_cons_zero, List.set_cons_succ, wipeG, DEnds.x, DEnds.loop, Tgt.sto, Tgt.stoL, Option.bind_some, Bool.not_true, Bool.not_false, if_true, if_false, Bool.false_eq_true, reduceCtorEq, ite_true, ite_false]
    refine repr_res hU hH ?_
    simp only [dSeq, dSkip, dSet, dOwn, dFrz, dIf, dRet, dExp, dApp, dExt, dPutT, dParO, dPar, dFor, dTok, dFz, dLst, dTup, dCons, dNil, vals?, Option.map_some, Option.map_none, dVar, dC, dOp, dB, dNotT, dNotV, dAndV, dOrV, dAndT, dOrT, dIfE, dCall, dCallF, dCal, dCalX, dIt, dItM, dLc, dYes, dRng1, dSl, dPart, dNoPart, dNeg, dMt, dEnum, dSetSort, dRaise, dTry, D.seq, isStr, rv_int, rv_bl, rv_str, rv_non, rv_tup, rv_lst, rv_scr, rv_ty, rv_bor, List.map_cons, List.map_nil, List.getElem?_cons_zero, List.getElem?_cons_succ, List.set_cons_zero, List.set_cons_succ, wipeG, DEnds.x, DEnds.loop, Tgt.sto, Tgt.stoL, Option.bind_some, Bool.not_true, Bool.not_false, if_true, if_false, Bool.false_eq_true, reduceCtorEq, ite_true, ite_false, fNeS, decide_true]
    refine ⟨fun z => z.elim, ?_⟩
    refine lcGo_map (fun x => match x with
      | .tup l => .lst l
      | _ => .non) _ (fun y hy => ⟨_, rfl, fun R r => ?_⟩) ?_
    · obtain ⟨l, hl', rfl⟩ := List.mem_map.mp hy
      simp only [dSeq, dSkip, dSet, dOwn, dFrz, dIf, dRet, dExp, dApp, dExt, dPutT, dParO, dPar, dFor, dTok, dFz, dLst, dTup, dCons, dNil, vals?, Option.map_some, Option.map_none, dVar, dC, dOp, dB, dNotT, dNotV, dAndV, dOrV, dAndT, dOrT, dIfE, dCall, dCallF, dCal, dCalX, dIt, dItM, dLc, dYes, dRng1, dSl, dPart, dNoPart, dNeg, dMt, dEnum, dSetSort, dRaise, dTry, D.seq, isStr, rv_int, rv_bl, rv_str, rv_non, rv_tup, rv_lst, rv_scr, rv_ty, rv_bor, List.map_cons, List.map_nil, List.getElem?_cons_zero, List.getElem?_cons_succ, List.set_cons_zero, List.set_cons_succ, wipeG, DEnds.x, DEnds.loop, Tgt.sto, Tgt.stoL, Option.bind_some, Bool.not_true, Bool.not_false, if_true, if_false, Bool.false_eq_true, reduceCtorEq, ite_true, ite_false, fList]
      exact r
    · rw [List.map_map]
      refine cross_go hU hL (.inr rfl) ?_
      simp only [dSeq, dSkip, dSet, dOwn, dFrz, dIf, dRet, dExp, dApp, dExt, dPutT, dParO, dPar, dFor, dTok, dFz, dLst, dTup, dCons, dNil, vals?, Option.map_some, Option.map_none, dVar, dC, dOp, dB, dNotT, dNotV, dAndV, dOrV, dAndT, dOrT, dIfE, dCall, dCallF, dCal, dCalX, dIt, dItM, dLc, dYes, dRng1, dSl, dPart, dNoPart, dNeg, dMt, dEnum, dSetSort, dRaise, dTry, D.seq, isStr, rv_int, rv_bl, rv_str, rv_non, rv_tup, rv_lst, rv_scr, rv_ty, rv_bor, List.map_cons, List.map_nil, List.getElem?_cons_zero, List.getElem?_cons_succ, List.set_cons_zero, List.set_cons_succ, wipeG, DEnds.x, DEnds.loop, Tgt.sto, Tgt.stoL, Option.bind_some, Bool.not_true, Bool.not_false, if_true, if_false, Bool.false_eq_true, reduceCtorEq, ite_true, ite_false]
      refine repr_res hU hH ?_
      simp only [dSeq, dSkip, dSet, dOwn, dFrz, dIf, dRet, dExp, dApp, dExt, dPutT, dParO, dPar, dFor, dTok, dFz, dLst, dTup, dCons, dNil, vals?, Option.map_some, Option.map_none, dVar, dC, dOp, dB, dNotT, dNotV, dAndV, dOrV, dAndT, dOrT, dIfE, dCall, dCallF, dCal, dCalX, dIt, dItM, dLc, dYes, dRng1, dSl, dPart, dNoPart, dNeg, dMt, dEnum, dSetSort, dRaise, dTry, D.seq, isStr, rv_int, rv_bl, rv_str, rv_non, rv_tup, rv_lst, rv_scr, rv_ty, rv_bor, List.map_cons, List.map_nil, List.getElem?_cons_zero, List.getElem?_cons_succ, List.set_cons_zero, List.set_cons_succ, wipeG, DEnds.x, DEnds.loop, Tgt.sto, Tgt.stoL, Option.bind_some, Bool.not_true, Bool.not_false, if_true, if_false, Bool.false_eq_true, reduceCtorEq, ite_true, ite_false]
      refine repr_res hU hH ?_
      simp only [dSeq, dSkip, dSet, dOwn, dFrz, dIf, dRet, dExp, dApp, dExt, dPutT, dParO, dPar, dFor, dTok, dFz, dLst, dTup, dCons, dNil, vals?, Option.map_some, Option.map_none, dVar, dC, dOp, dB, dNotT, dNotV, dAndV, dOrV, dAndT, dOrT, dIfE, dCall, dCallF, dCal, dCalX, dIt, dItM, dLc, dYes, dRng1, dSl, dPart, dNoPart, dNeg, dMt, dEnum, dSetSort, dRaise, dTry, D.seq, isStr, rv_int, rv_bl, rv_str, rv_non, rv_tup, rv_lst, rv_scr, rv_ty, rv_bor, List.map_cons, List.map_nil, List.getElem?_cons_zero, List.getElem?_cons_succ, List.set_cons_zero, List.set_cons_succ, wipeG, DEnds.x, DEnds.loop, Tgt.sto, Tgt.stoL, Option.bind_some, Bool.not_true, Bool.not_false, if_true, if_false, Bool.false_eq_true, reduceCtorEq, ite_true, ite_false, fNeS, decide_true]
      exact hJ _ _ ⟨hB, rfl⟩
  rintro _ W ⟨hB, rfl⟩
  refine frz_skip rfl ?_
  -- twice turned
  refine seq_go (fun Γ W => BoxAt W b c ∧ Γ = [.fz (.tok b), .fz (.lst U), .fz (.tup (lots.map .tup)), s3, s4, s5, .fz (.tup (res (hit U lots))), .no, .no, .no]) (fun J hJ => ?_) ?_
  · obtain ⟨ls, els, ndl, meml⟩ := res_tup (Ls := hit U lots)
    have hLs : LU U ls := fun l hl => hH l ((meml l).mp hl).1
    have edual : res (hit U ls) = res lots := res_congr hU hL fun a => (dual hU.nd hL meml a).symm
    simp only [dSeq, dSkip, dSet, dOwn, dFrz, dIf, dRet, dExp, dApp, dExt, dPutT, dParO, dPar, dFor, dTok, dFz, dLst, dTup, dCons, dNil, vals?, Option.map_some, Option.map_none, dVar, dC, dOp, dB, dNotT, dNotV, dAndV, dOrV, dAndT, dOrT, dIfE, dCall, dCallF, dCal, dCalX, dIt, dItM, dLc, dYes, dRng1, dSl, dPart, dNoPart, dNeg, dMt, dEnum, dSetSort, dRaise, dTry, D.seq, isStr, rv_int, rv_bl, rv_str, rv_non, rv_tup, rv_lst, rv_scr, rv_ty, rv_bor, List.map_cons, List.map_nil, List.getElem?_cons_zero, List.getElem?_cons_succ, List.set_cons_zero, List.set_cons_succ, wipeG, DEnds.x, DEnds.loop, Tgt.sto, Tgt.stoL, Option.bind_some, Bool.not_true, Bool.not_false, if_true, if_false, Bool.false_eq_true, reduceCtorEq, ite_true, ite_false]
    rw [els]
    refine cross_go hU hLs (.inl rfl) ?_
    simp only [dSeq, dSkip, dSet, dOwn, dFrz, dIf, dRet, dExp, dApp, dExt, dPutT, dParO, dPar, dFor, dTok, dFz, dLst, dTup, dCons, dNil, vals?, Option.map_some, Option.map_none, dVar, dC, dOp, dB, dNotT, dNotV, dAndV, dOrV, dAndT, dOrT, dIfE, dCall, dCallF, dCal, dCalX, dIt, dItM, dLc, dYes, dRng1, dSl, dPart, dNoPart, dNeg, dMt, dEnum, dSetSort, dRaise, dTry, D.seq, isStr, rv_int, rv_bl, rv_str, rv_non, rv_tup, rv_lst, rv_scr, rv_ty, rv_bor, List.map_cons, List.map_nil, List.getElem?_cons_zero, List.getElem?_cons_succ, List.set_cons_zero, List.set_cons_succ, wipeG, DEnds.x, DEnds.loop, Tgt.sto, Tgt.stoL, Option.bind_some, Bool.not_true, Bool.not_false, if_true, if_false, Bool.false_eq_true, reduceCtorEq, ite_true, ite_false]
    refine repr_res hU (hit_LU U ls) ?_
    simp only [dSeq, dSkip, dSet, dOwn, dFrz, dIf, dRet, dExp, dApp, dExt, dPutT, dParO, dPar, dFor, dTok, dFz, dLst, dTup, dCons, dNil, vals?, Option.map_some, Option.map_none, dVar, dC, dOp, dB, dNotT, dNotV, dAndV, dOrV, dAndT, dOrT, dIfE, dCall, dCallF, dCal, dCalX, dIt, dItM, dLc, dYes, dRng1, dSl, dPart, dNoPart, dNeg, dMt, dEnum, dSetSort, dRaise, dTry, D.seq, isStr, rv_int, rv_bl, rv_str, rv_non, rv_tup, rv_lst, rv_scr, rv_ty, rv_bor, List.map_cons, List.map_nil, List.getElem?_cons_zero, List.getElem?_cons_succ, List.set_cons_zero, List.set_cons_succ, wipeG, DEnds.x, DEnds.loop, Tgt.sto, Tgt.stoL, Option.bind_some, Bool.not_true, Bool.not_false, if_true, if_false, Bool.false_eq_true, reduceCtorEq, ite_true, ite_false]
    refine ⟨U, lots, hU, hL, by omega, .inr rfl, ?_⟩
    simp only [dSeq, dSkip, dSet, dOwn, dFrz, dIf, dRet, dExp, dApp, dExt, dPutT, dParO, dPar, dFor, dTok, dFz, dLst, dTup, dCons, dNil, vals?, Option.map_some, Option.map_none, dVar, dC, dOp, dB, dNotT, dNotV, dAndV, dOrV, dAndT, dOrT, dIfE, dCall, dCallF, dCal, dCalX, dIt, dItM, dLc, dYes, dRng1, dSl, dPart, dNoPart, dNeg, dMt, dEnum, dSetSort, dRaise, dTry, D.seq, isStr, rv_int, rv_bl, rv_str, rv_non, rv_tup, rv_lst, rv_scr, rv_ty, rv_bor, List.map_cons, List.map_nil, List.getElem?_cons_zero, List.getElem?_cons_succ, List.set_cons_zero, List.set_cons_succ, wipeG, DEnds.x, DEnds.loop, Tgt.sto, Tgt.stoL, Option.bind_some, Bool.not_true, Bool.not_false, if_true, if_false, Bool.false_eq_true, reduceCtorEq, ite_true, ite_false]
    refine repr_res hU hL ?_
    simp only [dSeq, dSkip, dSet, dOwn, dFrz, dIf, dRet, dExp, dApp, dExt, dPutT, dParO, dPar, dFor, dTok, dFz, dLst, dTup, dCons, dNil, vals?, Option.map_some, Option.map_none, dVar, dC, dOp, dB, dNotT, dNotV, dAndV, dOrV, dAndT, dOrT, dIfE, dCall, dCallF, dCal, dCalX, dIt, dItM, dLc, dYes, dRng1, dSl, dPart, dNoPart, dNeg, dMt, dEnum, dSetSort, dRaise, dTry, D.seq, isStr, rv_int, rv_bl, rv_str, rv_non, rv_tup, rv_lst, rv_scr, rv_ty, rv_bor, List.map_cons, List.map_nil, List.getElem?_cons_zero, List.getElem?_cons_succ, List.set_cons_zero, List.set_cons_succ, wipeG, DEnds.x, DEnds.loop, Tgt.sto, Tgt.stoL, Option.bind_some, Bool.not_true, Bool.not_false, if_true, if_false, Bool.false_eq_true, reduceCtorEq, ite_true, ite_false, fNeS, edual, decide_true]
    rw [els] at hJ
    exact hJ _ _ ⟨hB, rfl⟩
  rintro _ W ⟨hB, rfl⟩
  -- at
  refine seq_go (fun Γ W => ∃ a : Nat, a ≤ lots.length ∧ BoxAt W b c ∧ Γ = [.fz (.tok b), .fz (.lst U), .fz (.tup (lots.map .tup)), s3, s4, s5, .fz (.tup (res (hit U lots))), .fz (.int a), .no, .no]) (fun J hJ => ?_) ?_
  · simp only [dSeq, dSkip, dSet, dOwn, dFrz, dIf, dRet, dExp, dApp, dExt, dPutT, dParO, dPar, dFor, dTok, dFz, dLst, dTup, dCons, dNil, vals?, Option.map_some, Option.map_none, dVar, dC, dOp, dB, dNotT, dNotV, dAndV, dOrV, dAndT, dOrT, dIfE, dCall, dCallF, dCal, dCalX, dIt, dItM, dLc, dYes, dRng1, dSl, dPart, dNoPart, dNeg, dMt, dEnum, dSetSort, dRaise, dTry, D.seq, isStr, rv_int, rv_bl, rv_str, rv_non, rv_tup, rv_lst, rv_scr, rv_ty, rv_bor, List.map_cons, List.map_nil, List.getElem?_cons_zero, List.getElem?_cons_succ, List.set_cons_zero, List.set_cons_succ, wipeG, DEnds.x, DEnds.loop, Tgt.sto, Tgt.stoL, Option.bind_some, Bool.not_true, Bool.not_false, if_true, if_false, Bool.false_eq_true, reduceCtorEq, ite_true, ite_false, fLen, fAdd]
    refine ⟨b, c, _, rfl, hB, by omega, by omega, fun n W1 n0 n1 hB1 _ => ?_⟩
    obtain ⟨a, rfl⟩ := Int.eq_ofNat_of_zero_le n0
    refine hJ _ _ ⟨a, ?_, hB1, rfl⟩
    rw [List.length_map] at n1
    omega
  rintro _ W ⟨a, ha, hB, rfl⟩
  have ha' : a ≤ (lots.map D.tup).length := by rw [List.length_map]; exact ha
  refine seq_go (fun Γ W => ∃ z, Wrong z ∧ BoxAt W b c ∧ Γ = [.fz (.tok b), .fz (.lst U), .fz (.tup (lots.map .tup)), s3, s4, s5, .fz (.tup (res (hit U lots))), .fz (.int a), .fz (.tup ((lots.map .tup).take a ++ z :: ((lots.map .tup).drop a ++ [.non]))), .no]) (fun J hJ => ?_) ?_
  · simp only [dSeq, dSkip, dSet, dOwn, dFrz, dIf, dRet, dExp, dApp, dExt, dPutT, dParO, dPar, dFor, dTok, dFz, dLst, dTup, dCons, dNil, vals?, Option.map_some, Option.map_none, dVar, dC, dOp, dB, dNotT, dNotV, dAndV, dOrV, dAndT, dOrT, dIfE, dCall, dCallF, dCal, dCalX, dIt, dItM, dLc, dYes, dRng1, dSl, dPart, dNoPart, dNeg, dMt, dEnum, dSetSort, dRaise, dTry, D.seq, isStr, rv_int, rv_bl, rv_str, rv_non, rv_tup, rv_lst, rv_scr, rv_ty, rv_bor, List.map_cons, List.map_nil, List.getElem?_cons_zero, List.getElem?_cons_succ, List.set_cons_zero, List.set_cons_succ, wipeG, DEnds.x, DEnds.loop, Tgt.sto, Tgt.stoL, Option.bind_some, Bool.not_true, Bool.not_false, if_true, if_false, Bool.false_eq_true, reduceCtorEq, ite_true, ite_false, fSl]
    refine ⟨b, c, U, rfl, hB, hU, ne, fun z W1 hz hB1 => ?_⟩
    have l1 := List.length_take_le a (lots.map D.tup)
    have l2 : ((lots.map D.tup).drop a).length ≤ 6 := by rw [List.length_drop]; omega
    simp only [dSeq, dSkip, dSet, dOwn, dFrz, dIf, dRet, dExp, dApp, dExt, dPutT, dParO, dPar, dFor, dTok, dFz, dLst, dTup, dCons, dNil, vals?, Option.map_some, Option.map_none, dVar, dC, dOp, dB, dNotT, dNotV, dAndV, dOrV, dAndT, dOrT, dIfE, dCall, dCallF, dCal, dCalX, dIt, dItM, dLc, dYes, dRng1, dSl, dPart, dNoPart, dNeg, dMt, dEnum, dSetSort, dRaise, dTry, D.seq, isStr, rv_int, rv_bl, rv_str, rv_non, rv_tup, rv_lst, rv_scr, rv_ty, rv_bor, List.map_cons, List.map_nil, List.getElem?_cons_zero, List.getElem?_cons_succ, List.set_cons_zero, List.set_cons_succ, wipeG, DEnds.x, DEnds.loop, Tgt.sto, Tgt.stoL, Option.bind_some, Bool.not_true, Bool.not_false, if_true, if_false, Bool.false_eq_true, reduceCtorEq, ite_true, ite_false, fAdd, cut_take _ ha', cut_drop _ ha']
    refine ⟨z_size (by simp), z_size (by simp only [List.length_cons, List.length_nil]; omega), z_size (by simp only [List.length_append, List.length_cons, List.length_nil]; omega), z_size (by simp), z_size (by simp only [List.length_append, List.length_cons, List.length_nil]; omega), hJ _ _ ⟨z, hz, hB1, ?_⟩⟩
    simp
  rintro _ W ⟨z, hz, hB, rfl⟩
  refine seq_go (fun Γ W => BoxAt W b c ∧ Γ = [.fz (.tok b), .fz (.lst U), .fz (.tup (lots.map .tup)), s3, s4, s5, .fz (.tup (res (hit U lots))), .fz (.int a), .fz (.tup ((lots.map .tup).take a ++ z :: ((lots.map .tup).drop a ++ [.non]))), .no]) (fun J hJ => ?_) ?_
  · simp only [dSeq, dSkip, dSet, dOwn, dFrz, dIf, dRet, dExp, dApp, dExt, dPutT, dParO, dPar, dFor, dTok, dFz, dLst, dTup, dCons, dNil, vals?, Option.map_some, Option.map_none, dVar, dC, dOp, dB, dNotT, dNotV, dAndV, dOrV, dAndT, dOrT, dIfE, dCall, dCallF, dCal, dCalX, dIt, dItM, dLc, dYes, dRng1, dSl, dPart, dNoPart, dNeg, dMt, dEnum, dSetSort, dRaise, dTry, D.seq, isStr, rv_int, rv_bl, rv_str, rv_non, rv_tup, rv_lst, rv_scr, rv_ty, rv_bor, List.map_cons, List.map_nil, List.getElem?_cons_zero, List.getElem?_cons_succ, List.set_cons_zero, List.set_cons_succ, wipeG, DEnds.x, DEnds.loop, Tgt.sto, Tgt.stoL, Option.bind_some, Bool.not_true, Bool.not_false, if_true, if_false, Bool.false_eq_true, reduceCtorEq, ite_true, ite_false]
    have tk : ∀ d ∈ (lots.map D.tup).take a, d ∈ lots.map D.tup := fun d hd => List.mem_of_mem_take hd
    have dr : ∀ d ∈ (lots.map D.tup).drop a, d ∈ lots.map D.tup := fun d hd => List.mem_of_mem_drop hd
    have tkA : ((lots.map D.tup).take a).map asT = (lots.map D.tup).take a := by rw [List.map_take, map_asT hU hL]
    refine ⟨_, rfl, ?_, .inr ⟨(lots.map D.tup).take a, ((lots.map D.tup).drop a ++ [D.non]).map asT, asT z, ?_, fun x hx => ?_, hz.2.1, fun x hx l hl => ?_, ?_⟩⟩
    · rw [fit_tup]
      refine List.all_eq_true.mpr fun d hd => ?_
      rcases List.mem_append.mp hd with y | y
      · exact fit_lots hU hL d (tk d y)
      · rcases List.mem_cons.mp y with rfl | y
        · exact hz.1
        · rcases List.mem_append.mp y with y | y
          · exact fit_lots hU hL d (dr d y)
          · rw [List.mem_singleton.mp y]; simp
    · rw [asT_seq (.inr rfl), List.map_append, List.map_cons, tkA]
    · obtain ⟨l, hl, rfl⟩ := List.mem_map.mp (tk x hx)
      exact isLot_ok hU (hL l hl)
    · rcases List.mem_append.mp hx with y | y
      · obtain ⟨k, hk, rfl⟩ := List.mem_map.mp (tk x y)
        have := (hL k hk).length_le
        have := hU.few
        rw [← tup_inj hl]
        omega
      · rw [List.mem_singleton.mp y] at hl
        exact hz.2.2 l hl
    · have el : ((lots.map D.tup).take a).length = a := by rw [List.length_take]; omega
      rw [el]
      simp only [dSeq, dSkip, dSet, dOwn, dFrz, dIf, dRet, dExp, dApp, dExt, dPutT, dParO, dPar, dFor, dTok, dFz, dLst, dTup, dCons, dNil, vals?, Option.map_some, Option.map_none, dVar, dC, dOp, dB, dNotT, dNotV, dAndV, dOrV, dAndT, dOrT, dIfE, dCall, dCallF, dCal, dCalX, dIt, dItM, dLc, dYes, dRng1, dSl, dPart, dNoPart, dNeg, dMt, dEnum, dSetSort, dRaise, dTry, D.seq, isStr, rv_int, rv_bl, rv_str, rv_non, rv_tup, rv_lst, rv_scr, rv_ty, rv_bor, List.map_cons, List.map_nil, List.getElem?_cons_zero, List.getElem?_cons_succ, List.set_cons_zero, List.set_cons_succ, wipeG, DEnds.x, DEnds.loop, Tgt.sto, Tgt.stoL, Option.bind_some, Bool.not_true, Bool.not_false, if_true, if_false, Bool.false_eq_true, reduceCtorEq, ite_true, ite_false, fNe]
      refine ⟨z_size (by simp), by simp, by simp, ?_⟩
      have e1 : deq (.tup [.int (a : Int)]) (.tup [.int (a : Int)]) = true := deq_refl 1 _ (by simp)
      simp only [e1, dSeq, dSkip, dSet, dOwn, dFrz, dIf, dRet, dExp, dApp, dExt, dPutT, dParO, dPar, dFor, dTok, dFz, dLst, dTup, dCons, dNil, vals?, Option.map_some, Option.map_none, dVar, dC, dOp, dB, dNotT, dNotV, dAndV, dOrV, dAndT, dOrT, dIfE, dCall, dCallF, dCal, dCalX, dIt, dItM, dLc, dYes, dRng1, dSl, dPart, dNoPart, dNeg, dMt, dEnum, dSetSort, dRaise, dTry, D.seq, isStr, rv_int, rv_bl, rv_str, rv_non, rv_tup, rv_lst, rv_scr, rv_ty, rv_bor, List.map_cons, List.map_nil, List.getElem?_cons_zero, List.getElem?_cons_succ, List.set_cons_zero, List.set_cons_succ, wipeG, DEnds.x, DEnds.loop, Tgt.sto, Tgt.stoL, Option.bind_some, Bool.not_true, Bool.not_false, if_true, if_false, Bool.false_eq_true, reduceCtorEq, ite_true, ite_false]
      refine ⟨z_size (by decide), b, c, _, rfl, hB, by simp, by simp, fun x hx W1 hB1 _ => ?_⟩
      have hx' : isSeq x = false ∧ fit 0 x = true := by
        simp only [List.mem_cons, List.not_mem_nil, or_false] at hx
        rcases hx with rfl | rfl | rfl | rfl
        · exact ⟨rfl, by simp⟩
        · exact ⟨rfl, by simp⟩
        · exact ⟨rfl, by simp; decide +kernel⟩
        · exact ⟨rfl, by simp⟩
      simp only [dSeq, dSkip, dSet, dOwn, dFrz, dIf, dRet, dExp, dApp, dExt, dPutT, dParO, dPar, dFor, dTok, dFz, dLst, dTup, dCons, dNil, vals?, Option.map_some, Option.map_none, dVar, dC, dOp, dB, dNotT, dNotV, dAndV, dOrV, dAndT, dOrT, dIfE, dCall, dCallF, dCal, dCalX, dIt, dItM, dLc, dYes, dRng1, dSl, dPart, dNoPart, dNeg, dMt, dEnum, dSetSort, dRaise, dTry, D.seq, isStr, rv_int, rv_bl, rv_str, rv_non, rv_tup, rv_lst, rv_scr, rv_ty, rv_bor, List.map_cons, List.map_nil, List.getElem?_cons_zero, List.getElem?_cons_succ, List.set_cons_zero, List.set_cons_succ, wipeG, DEnds.x, DEnds.loop, Tgt.sto, Tgt.stoL, Option.bind_some, Bool.not_true, Bool.not_false, if_true, if_false, Bool.false_eq_true, reduceCtorEq, ite_true, ite_false]
      refine ⟨x, rfl, fit_mono hx'.2 (by decide), .inl ⟨fun xs e => ?_, ?_⟩⟩
      · rw [asT_atom hx'.1] at e
        subst e
        cases hx'.1
      · simp only [dSeq, dSkip, dSet, dOwn, dFrz, dIf, dRet, dExp, dApp, dExt, dPutT, dParO, dPar, dFor, dTok, dFz, dLst, dTup, dCons, dNil, vals?, Option.map_some, Option.map_none, dVar, dC, dOp, dB, dNotT, dNotV, dAndV, dOrV, dAndT, dOrT, dIfE, dCall, dCallF, dCal, dCalX, dIt, dItM, dLc, dYes, dRng1, dSl, dPart, dNoPart, dNeg, dMt, dEnum, dSetSort, dRaise, dTry, D.seq, isStr, rv_int, rv_bl, rv_str, rv_non, rv_tup, rv_lst, rv_scr, rv_ty, rv_bor, List.map_cons, List.map_nil, List.getElem?_cons_zero, List.getElem?_cons_succ, List.set_cons_zero, List.set_cons_succ, wipeG, DEnds.x, DEnds.loop, Tgt.sto, Tgt.stoL, Option.bind_some, Bool.not_true, Bool.not_false, if_true, if_false, Bool.false_eq_true, reduceCtorEq, ite_true, ite_false]
        refine ⟨z_size (by decide), by simp, by simp, ?_⟩
        have e2 : deq (.tup [.int (-1)]) (.tup [.int (-1)]) = true := deq_refl 1 _ (by simp)
        simp only [e2, dSeq, dSkip, dSet, dOwn, dFrz, dIf, dRet, dExp, dApp, dExt, dPutT, dParO, dPar, dFor, dTok, dFz, dLst, dTup, dCons, dNil, vals?, Option.map_some, Option.map_none, dVar, dC, dOp, dB, dNotT, dNotV, dAndV, dOrV, dAndT, dOrT, dIfE, dCall, dCallF, dCal, dCalX, dIt, dItM, dLc, dYes, dRng1, dSl, dPart, dNoPart, dNeg, dMt, dEnum, dSetSort, dRaise, dTry, D.seq, isStr, rv_int, rv_bl, rv_str, rv_non, rv_tup, rv_lst, rv_scr, rv_ty, rv_bor, List.map_cons, List.map_nil, List.getElem?_cons_zero, List.getElem?_cons_succ, List.set_cons_zero, List.set_cons_succ, wipeG, DEnds.x, DEnds.loop, Tgt.sto, Tgt.stoL, Option.bind_some, Bool.not_true, Bool.not_false, if_true, if_false, Bool.false_eq_true, reduceCtorEq, ite_true, ite_false]
        exact hJ _ _ ⟨hB1, rfl⟩
  rintro _ W ⟨hB, rfl⟩
  refine frz_skip rfl ?_
  simp only [dSeq, dSkip, dSet, dOwn, dFrz, dIf, dRet, dExp, dApp, dExt, dPutT, dParO, dPar, dFor, dTok, dFz, dLst, dTup, dCons, dNil, vals?, Option.map_some, Option.map_none, dVar, dC, dOp, dB, dNotT, dNotV, dAndV, dOrV, dAndT, dOrT, dIfE, dCall, dCallF, dCal, dCalX, dIt, dItM, dLc, dYes, dRng1, dSl, dPart, dNoPart, dNeg, dMt, dEnum, dSetSort, dRaise, dTry, D.seq, isStr, rv_int, rv_bl, rv_str, rv_non, rv_tup, rv_lst, rv_scr, rv_ty, rv_bor, List.map_cons, List.map_nil, List.getElem?_cons_zero, List.getElem?_cons_succ, List.set_cons_zero, List.set_cons_succ, wipeG, DEnds.x, DEnds.loop, Tgt.sto, Tgt.stoL, Option.bind_some, Bool.not_true, Bool.not_false, if_true, if_false, Bool.false_eq_true, reduceCtorEq, ite_true, ite_false]
  refine cross_go hU hL (.inl rfl) ?_
  simp only [dSeq, dSkip, dSet, dOwn, dFrz, dIf, dRet, dExp, dApp, dExt, dPutT, dParO, dPar, dFor, dTok, dFz, dLst, dTup, dCons, dNil, vals?, Option.map_some, Option.map_none, dVar, dC, dOp, dB, dNotT, dNotV, dAndV, dOrV, dAndT, dOrT, dIfE, dCall, dCallF, dCal, dCalX, dIt, dItM, dLc, dYes, dRng1, dSl, dPart, dNoPart, dNeg, dMt, dEnum, dSetSort, dRaise, dTry, D.seq, isStr, rv_int, rv_bl, rv_str, rv_non, rv_tup, rv_lst, rv_scr, rv_ty, rv_bor, List.map_cons, List.map_nil, List.getElem?_cons_zero, List.getElem?_cons_succ, List.set_cons_zero, List.set_cons_succ, wipeG, DEnds.x, DEnds.loop, Tgt.sto, Tgt.stoL, Option.bind_some, Bool.not_true, Bool.not_false, if_true, if_false, Bool.false_eq_true, reduceCtorEq, ite_true, ite_false]
  refine repr_res hU hH ?_
  simp only [dSeq, dSkip, dSet, dOwn, dFrz, dIf, dRet, dExp, dApp, dExt, dPutT, dParO, dPar, dFor, dTok, dFz, dLst, dTup, dCons, dNil, vals?, Option.map_some, Option.map_none, dVar, dC, dOp, dB, dNotT, dNotV, dAndV, dOrV, dAndT, dOrT, dIfE, dCall, dCallF, dCal, dCalX, dIt, dItM, dLc, dYes, dRng1, dSl, dPart, dNoPart, dNeg, dMt, dEnum, dSetSort, dRaise, dTry, D.seq, isStr, rv_int, rv_bl, rv_str, rv_non, rv_tup, rv_lst, rv_scr, rv_ty, rv_bor, List.map_cons, List.map_nil, List.getElem?_cons_zero, List.getElem?_cons_succ, List.set_cons_zero, List.set_cons_succ, wipeG, DEnds.x, DEnds.loop, Tgt.sto, Tgt.stoL, Option.bind_some, Bool.not_true, Bool.not_false, if_true, if_false, Bool.false_eq_true, reduceCtorEq, ite_true, ite_false]
  refine repr_res hU hH ?_
  simp only [dSeq, dSkip, dSet, dOwn, dFrz, dIf, dRet, dExp, dApp, dExt, dPutT, dParO, dPar, dFor, dTok, dFz, dLst, dTup, dCons, dNil, vals?, Option.map_some, Option.map_none, dVar, dC, dOp, dB, dNotT, dNotV, dAndV, dOrV, dAndT, dOrT, dIfE, dCall, dCallF, dCal, dCalX, dIt, dItM, dLc, dYes, dRng1, dSl, dPart, dNoPart, dNeg, dMt, dEnum, dSetSort, dRaise, dTry, D.seq, isStr, rv_int, rv_bl, rv_str, rv_non, rv_tup, rv_lst, rv_scr, rv_ty, rv_bor, List.map_cons, List.map_nil, List.getElem?_cons_zero, List.getElem?_cons_succ, List.set_cons_zero, List.set_cons_succ, wipeG, DEnds.x, DEnds.loop, Tgt.sto, Tgt.stoL, Option.bind_some, Bool.not_true, Bool.not_false, if_true, if_false, Bool.false_eq_true, reduceCtorEq, ite_true, ite_false, fEqS, decide_true]
  exact q _ hB
theorem len_law : ∀ ds W Q E, sp_law ds W Q E → ds.length = ["script"].length := fun ds W Q E h => by
  obtain ⟨ns, rfl, _⟩ := h; rfl
theorem wp_law : ∀ ds W Q E, sp_law ds W Q E → t_law { nx := fun _ W' => Q .non W', rt := Q } (startG ["script", "box", "turn"] ds) W := fun ds W Q E h => by
  obtain ⟨ns, rfl, hn, q⟩ := h
  show t_law _ [.fz (.scr ns), .no, .no] W
  simp only [t_law, dSeq, dSkip, dSet, dOwn, dFrz, dIf, dRet, dExp, dApp, dExt, dPutT, dParO, dPar, dFor, dTok, dFz, dLst, dTup, dCons, dNil, vals?, Option.map_some, Option.map_none, dVar, dC, dOp, dB, dNotT, dNotV, dAndV, dOrV, dAndT, dOrT, dIfE, dCall, dCallF, dCal, dCalX, dIt, dItM, dLc, dYes, dRng1, dSl, dPart, dNoPart, dNeg, dMt, dEnum, dSetSort, dRaise, dTry, D.seq, isStr, rv_int, rv_bl, rv_str, rv_non, rv_tup, rv_lst, rv_scr, rv_ty, rv_bor, List.map_cons, List.map_nil, List.getElem?_cons_zero, List.getElem?_cons_succ, List.set_cons_zero, List.set_cons_succ, wipeG, DEnds.x, DEnds.loop, Tgt.sto, Tgt.stoL, Option.bind_some, Bool.not_true, Bool.not_false, if_true, if_false, Bool.false_eq_true, reduceCtorEq, ite_true, ite_false]
  refine ⟨ns, rfl, hn, fun b c W' hB => ?_⟩
  simp only [dSeq, dSkip, dSet, dOwn, dFrz, dIf, dRet, dExp, dApp, dExt, dPutT, dParO, dPar, dFor, dTok, dFz, dLst, dTup, dCons, dNil, vals?, Option.map_some, Option.map_none, dVar, dC, dOp, dB, dNotT, dNotV, dAndV, dOrV, dAndT, dOrT, dIfE, dCall, dCallF, dCal, dCalX, dIt, dItM, dLc, dYes, dRng1, dSl, dPart, dNoPart, dNeg, dMt, dEnum, dSetSort, dRaise, dTry, D.seq, isStr, rv_int, rv_bl, rv_str, rv_non, rv_tup, rv_lst, rv_scr, rv_ty, rv_bor, List.map_cons, List.map_nil, List.getElem?_cons_zero, List.getElem?_cons_succ, List.set_cons_zero, List.set_cons_succ, wipeG, DEnds.x, DEnds.loop, Tgt.sto, Tgt.stoL, Option.bind_some, Bool.not_true, Bool.not_false, if_true, if_false, Bool.false_eq_true, reduceCtorEq, ite_true, ite_false]
  refine ⟨by decide, by decide, ?_⟩
  refine forGo_inv (fun items Γ W' => ∃ s2, Γ = [.fz (.scr ns), .fz (.tok b), s2] ∧ BoxAt W' b c) (fun d r Γ W' J hI hJ => ?_) (fun Γ W' hI => ?_) _ _ _ ⟨.no, rfl, hB⟩
  · obtain ⟨s2, rfl, hB'⟩ := hI
    refine ⟨_, rfl, ?_⟩
    simp only [dSeq, dSkip, dSet, dOwn, dFrz, dIf, dRet, dExp, dApp, dExt, dPutT, dParO, dPar, dFor, dTok, dFz, dLst, dTup, dCons, dNil, vals?, Option.map_some, Option.map_none, dVar, dC, dOp, dB, dNotT, dNotV, dAndV, dOrV, dAndT, dOrT, dIfE, dCall, dCallF, dCal, dCalX, dIt, dItM, dLc, dYes, dRng1, dSl, dPart, dNoPart, dNeg, dMt, dEnum, dSetSort, dRaise, dTry, D.seq, isStr, rv_int, rv_bl, rv_str, rv_non, rv_tup, rv_lst, rv_scr, rv_ty, rv_bor, List.map_cons, List.map_nil, List.getElem?_cons_zero, List.getElem?_cons_succ, List.set_cons_zero, List.set_cons_succ, wipeG, DEnds.x, DEnds.loop, Tgt.sto, Tgt.stoL, Option.bind_some, Bool.not_true, Bool.not_false, if_true, if_false, Bool.false_eq_true, reduceCtorEq, ite_true, ite_false]
    refine ⟨b, c, rfl, hB', fun W2 hB2 => ?_⟩
    simp only [dSeq, dSkip, dSet, dOwn, dFrz, dIf, dRet, dExp, dApp, dExt, dPutT, dParO, dPar, dFor, dTok, dFz, dLst, dTup, dCons, dNil, vals?, Option.map_some, Option.map_none, dVar, dC, dOp, dB, dNotT, dNotV, dAndV, dOrV, dAndT, dOrT, dIfE, dCall, dCallF, dCal, dCalX, dIt, dItM, dLc, dYes, dRng1, dSl, dPart, dNoPart, dNeg, dMt, dEnum, dSetSort, dRaise, dTry, D.seq, isStr, rv_int, rv_bl, rv_str, rv_non, rv_tup, rv_lst, rv_scr, rv_ty, rv_bor, List.map_cons, List.map_nil, List.getElem?_cons_zero, List.getElem?_cons_succ, List.set_cons_zero, List.set_cons_succ, wipeG, DEnds.x, DEnds.loop, Tgt.sto, Tgt.stoL, Option.bind_some, Bool.not_true, Bool.not_false, if_true, if_false, Bool.false_eq_true, reduceCtorEq, ite_true, ite_false]
    exact hJ _ _ ⟨_, rfl, hB2⟩
  · obtain ⟨s2, rfl, hB'⟩ := hI
    simp only [dSeq, dSkip, dSet, dOwn, dFrz, dIf, dRet, dExp, dApp, dExt, dPutT, dParO, dPar, dFor, dTok, dFz, dLst, dTup, dCons, dNil, vals?, Option.map_some, Option.map_none, dVar, dC, dOp, dB, dNotT, dNotV, dAndV, dOrV, dAndT, dOrT, dIfE, dCall, dCallF, dCal, dCalX, dIt, dItM, dLc, dYes, dRng1, dSl, dPart, dNoPart, dNeg, dMt, dEnum, dSetSort, dRaise, dTry, D.seq, isStr, rv_int, rv_bl, rv_str, rv_non, rv_tup, rv_lst, rv_scr, rv_ty, rv_bor, List.map_cons, List.map_nil, List.getElem?_cons_zero, List.getElem?_cons_succ, List.set_cons_zero, List.set_cons_succ, wipeG, DEnds.x, DEnds.loop, Tgt.sto, Tgt.stoL, Option.bind_some, Bool.not_true, Bool.not_false, if_true, if_false, Bool.false_eq_true, reduceCtorEq, ite_true, ite_false]
    exact q _
end K47

set_option Elab.async false
set_option linter.all false
set_option maxRecDepth 100000
set_option maxHeartbeats 4000000
/-! K47T: each def keeps its promise; the end. -/
namespace K47
open PySem PySem.Spec PyProof.Rows L2 DL
theorem mono_is_integer : MonoP sp_is_integer := fun ds W Q Q' E E' hQ hE h => by
  obtain ⟨d, h1, h2, q⟩ := h; exact ⟨d, h1, h2, hQ _ _ q⟩
theorem mono_is_number : MonoP sp_is_number := fun ds W Q Q' E E' hQ hE h => by
  obtain ⟨d, h1, h2, q⟩ := h; exact ⟨d, h1, h2, hQ _ _ q⟩
theorem mono_is_sequence : MonoP sp_is_sequence := fun ds W Q Q' E E' hQ hE h => by
  obtain ⟨d, h1, h2, q⟩ := h; exact ⟨d, h1, h2, hQ _ _ q⟩
theorem mono_as_tuples (n : Nat) : MonoP (sp_as_tuples n) := fun ds W Q Q' E E' hQ hE h => by
  cases n with
  | zero => exact h.elim
  | succ n => obtain ⟨d, h1, h2, q⟩ := h; exact ⟨d, h1, h2, hQ _ _ q⟩
theorem mono_least_ones : MonoP sp_least_ones := fun ds W Q Q' E E' hQ hE h => by
  obtain ⟨U, Ls, h1, h2, h3, h4, h5, q⟩ := h; exact ⟨U, Ls, h1, h2, h3, h4, h5, hQ _ _ q⟩
theorem mono_put_in : MonoP sp_put_in := fun ds W Q Q' E E' hQ hE h => by
  obtain ⟨U, l, m, h1, h2, h3, h4, q⟩ := h; exact ⟨U, l, m, h1, h2, h3, h4, hQ _ _ q⟩
theorem mono_is_mark : MonoP sp_is_mark := fun ds W Q Q' E E' hQ hE h => by
  obtain ⟨d, h1, h2, q⟩ := h; exact ⟨d, h1, h2, hQ _ _ q⟩
theorem mono_is_lot_of_marks : MonoP sp_is_lot_of_marks := fun ds W Q Q' E E' hQ hE h => by
  obtain ⟨d, h1, h2, h3, q⟩ := h; exact ⟨d, h1, h2, h3, hQ _ _ q⟩
theorem mono_crossed : MonoP sp_crossed := fun ds W Q Q' E E' hQ hE h => by
  obtain ⟨U, Ls, h1, h2, h3, q⟩ := h; exact ⟨U, Ls, h1, h2, h3, hQ _ _ q⟩
theorem mono_crossings_of (C : Addr) : MonoP (sp_crossings_of C) := fun ds W Q Q' E E' hQ hE h => by
  obtain ⟨d, h1, h2, h3⟩ := h
  refine ⟨d, h1, h2, ?_⟩
  rcases h3 with ⟨U, lots, g1, g2, g3, q⟩ | ⟨g1, q⟩ | ⟨xs, ys, z, g1, g2, g3, g4, q⟩
  · exact .inl ⟨U, lots, g1, g2, g3, hQ _ _ q⟩
  · exact .inr (.inl ⟨g1, hE _ _ _ q⟩)
  · exact .inr (.inr ⟨xs, ys, z, g1, g2, g3, g4, hE _ _ _ q⟩)
theorem mono_law_box : MonoP sp_law_box := fun ds W Q Q' E E' hQ hE h => by
  obtain ⟨ns, h1, h2, q⟩ := h; exact ⟨ns, h1, h2, fun b c W' hB => hQ _ _ (q b c W' hB)⟩
theorem mono_law_draw : MonoP sp_law_draw := fun ds W Q Q' E E' hQ hE h => by
  obtain ⟨b, c, m, h1, h2, h3, h4, q⟩ := h; exact ⟨b, c, m, h1, h2, h3, h4, fun d W' g0 g1 g2 g3 => hQ _ _ (q d W' g0 g1 g2 g3)⟩
theorem mono_law_pick : MonoP sp_law_pick := fun ds W Q Q' E E' hQ hE h => by
  obtain ⟨b, c, m, h1, h2, h3, h4, q⟩ := h; exact ⟨b, c, m, h1, h2, h3, h4, fun x hx W' g0 g1 => hQ _ _ (q x hx W' g0 g1)⟩
theorem mono_law_name : MonoP sp_law_name := fun ds W Q Q' E E' hQ hE h => by
  obtain ⟨b, c, u, h1, h2, h3, h4, h5, q⟩ := h; exact ⟨b, c, u, h1, h2, h3, h4, h5, fun w W' g0 g1 g2 => hQ _ _ (q w W' g0 g1 g2)⟩
theorem mono_law_some : MonoP sp_law_some := fun ds W Q Q' E E' hQ hE h => by
  obtain ⟨d, h1, h2, q⟩ := h; exact ⟨d, h1, h2, hQ _ _ q⟩
theorem mono_law_is_within : MonoP sp_law_is_within := fun ds W Q Q' E E' hQ hE h => by
  obtain ⟨d, k, h1, h2, h3, q⟩ := h; exact ⟨d, k, h1, h2, h3, hQ _ _ q⟩
theorem mono_law_least : MonoP sp_law_least := fun ds W Q Q' E E' hQ hE h => by
  obtain ⟨U, Ls, h1, h2, h3, h4, q⟩ := h; exact ⟨U, Ls, h1, h2, h3, h4, hQ _ _ q⟩
theorem mono_law_crossings : MonoP sp_law_crossings := fun ds W Q Q' E E' hQ hE h => by
  obtain ⟨U, Ls, h1, h2, h3, q⟩ := h; exact ⟨U, Ls, h1, h2, h3, hQ _ _ q⟩
theorem mono_law_marks : MonoP sp_law_marks := fun ds W Q Q' E E' hQ hE h => by
  obtain ⟨b, c, h1, h2, q⟩ := h; exact ⟨b, c, h1, h2, fun U W' g0 g1 g2 => hQ _ _ (q U W' g0 g1 g2)⟩
theorem mono_law_refused : MonoP sp_law_refused := fun ds W Q Q' E E' hQ hE h => by
  obtain ⟨d, h1, h2, h3⟩ := h
  refine ⟨d, h1, h2, ?_⟩
  rcases h3 with ⟨g1, q⟩ | ⟨xs, ys, z, g1, g2, g3, g4, q⟩
  · exact .inl ⟨g1, hQ _ _ q⟩
  · exact .inr ⟨xs, ys, z, g1, g2, g3, g4, hQ _ _ q⟩
theorem mono_law_wrong : MonoP sp_law_wrong := fun ds W Q Q' E E' hQ hE h => by
  obtain ⟨b, c, U, h1, h2, h3, h4, q⟩ := h; exact ⟨b, c, U, h1, h2, h3, h4, fun z W' g0 g1 => hQ _ _ (q z W' g0 g1)⟩
theorem mono_law_once : MonoP sp_law_once := fun ds W Q Q' E E' hQ hE h => by
  obtain ⟨b, c, h1, h2, q⟩ := h; exact ⟨b, c, h1, h2, fun W' g0 => hQ _ _ (q W' g0)⟩
theorem mono_law : MonoP sp_law := fun ds W Q Q' E E' hQ hE h => by
  obtain ⟨ns, h1, h2, q⟩ := h; exact ⟨ns, h1, h2, fun W' => hQ _ _ (q W')⟩
theorem cal_as_tuples {P : Program} {w : World} {K : PySem.W.Frag} {mg : Str → Option Value} {base : Heap} {f : Addr} {fd : FuncData} (F : Fun K "as_tuples" "as_tuples" s_as_tuples f fd) (a : DAt K mg "as_tuples" f fd ["value"]) (T : Txt mg) (c : DCal P w K mg base CX0 2 "is_sequence" sp_is_sequence) : ∀ n : Nat, DCal P w K mg base CX0 (n + 2) "as_tuples" (sp_as_tuples n)
  | 0 => a.none
  | n + 1 => a.cal (fn0 F sc_as_tuples (len_as_tuples (n + 1)) (fun cdv A outer s H E hr => d_as_tuples T c (cal_as_tuples F a T c n) hr) (wp_as_tuples n)) (mono_as_tuples _)
theorem ok_is_integer {P : Program} {w : World} {K : PySem.W.Frag} {mg : Str → Option Value} {base : Heap} {f : Addr} {fd : FuncData} (F : Fun K "is_integer" "is_integer" s_is_integer f fd) (T : Txt mg) : FnOk P w K mg base CX0 2 f fd ["value"] (toSp K sp_is_integer) :=
  fn0 F sc_is_integer len_is_integer (fun cdv A outer s H E hr => d_is_integer T hr) (wp_is_integer)
theorem ok_is_number {P : Program} {w : World} {K : PySem.W.Frag} {mg : Str → Option Value} {base : Heap} {f : Addr} {fd : FuncData} (F : Fun K "is_number" "is_number" s_is_number f fd) (T : Txt mg) (c_is_integer : DCal P w K mg base CX0 2 "is_integer" sp_is_integer) : FnOk P w K mg base CX0 3 f fd ["value"] (toSp K sp_is_number) :=
  fn0 F sc_is_number len_is_number (fun cdv A outer s H E hr => d_is_number T c_is_integer hr) (wp_is_number)
theorem ok_is_sequence {P : Program} {w : World} {K : PySem.W.Frag} {mg : Str → Option Value} {base : Heap} {f : Addr} {fd : FuncData} (F : Fun K "is_sequence" "is_sequence" s_is_sequence f fd) (T : Txt mg) : FnOk P w K mg base CX0 2 f fd ["value"] (toSp K sp_is_sequence) :=
  fn0 F sc_is_sequence len_is_sequence (fun cdv A outer s H E hr => d_is_sequence T hr) (wp_is_sequence)
theorem ok_least_ones {P : Program} {w : World} {K : PySem.W.Frag} {mg : Str → Option Value} {base : Heap} {f : Addr} {fd : FuncData} (F : Fun K "least_ones" "least_ones" s_least_ones f fd) (T : Txt mg) : FnOk P w K mg base CX0 2 f fd ["lots"] (toSp K sp_least_ones) :=
  fn0 F sc_least_ones len_least_ones (fun cdv A outer s H E hr => d_least_ones T hr) (wp_least_ones)
theorem ok_put_in {P : Program} {w : World} {K : PySem.W.Frag} {mg : Str → Option Value} {base : Heap} {f : Addr} {fd : FuncData} (F : Fun K "put_in" "put_in" s_put_in f fd) (T : Txt mg) : FnOk P w K mg base CX0 2 f fd ["lot", "guard"] (toSp K sp_put_in) :=
  fn0 F sc_put_in len_put_in (fun cdv A outer s H E hr => d_put_in T hr) (wp_put_in)
theorem ok_is_mark {P : Program} {w : World} {K : PySem.W.Frag} {mg : Str → Option Value} {base : Heap} {f : Addr} {fd : FuncData} (F : Fun K "is_mark" "is_mark" s_is_mark f fd) (T : Txt mg) (c_is_number : DCal P w K mg base CX0 3 "is_number" sp_is_number) : FnOk P w K mg base CX0 4 f fd ["value"] (toSp K sp_is_mark) :=
  fn0 F sc_is_mark len_is_mark (fun cdv A outer s H E hr => d_is_mark T c_is_number hr) (wp_is_mark)
theorem ok_is_lot_of_marks {P : Program} {w : World} {K : PySem.W.Frag} {mg : Str → Option Value} {base : Heap} {f : Addr} {fd : FuncData} (F : Fun K "is_lot_of_marks" "is_lot_of_marks" s_is_lot_of_marks f fd) (T : Txt mg) (c_is_mark : DCal P w K mg base CX0 4 "is_mark" sp_is_mark) : FnOk P w K mg base CX0 5 f fd ["value"] (toSp K sp_is_lot_of_marks) :=
  fn0 F sc_is_lot_of_marks len_is_lot_of_marks (fun cdv A outer s H E hr => d_is_lot_of_marks T c_is_mark hr) (wp_is_lot_of_marks)
theorem ok_crossed {P : Program} {w : World} {K : PySem.W.Frag} {mg : Str → Option Value} {base : Heap} {f : Addr} {fd : FuncData} (F : Fun K "crossed" "crossed" s_crossed f fd) (T : Txt mg) (c_put_in : DCal P w K mg base CX0 2 "put_in" sp_put_in) (c_least_ones : DCal P w K mg base CX0 2 "least_ones" sp_least_ones) : FnOk P w K mg base CX0 3 f fd ["lots"] (toSp K sp_crossed) :=
  fn0 F sc_crossed len_crossed (fun cdv A outer s H E hr => d_crossed T c_put_in c_least_ones hr) (wp_crossed)
theorem ok_crossings_of {P : Program} {w : World} {K : PySem.W.Frag} {mg : Str → Option Value} {base : Heap} {f : Addr} {fd : FuncData} {C_InvalidLots L_InvalidLots f_InvalidLots : Addr} (F : Fun K "crossings_of" "crossings_of" s_crossings_of f fd) (T : Txt mg) (x_InvalidLots : PySem.ErrY.Txt P K mg "InvalidLots" "at" "no such row of lots" C_InvalidLots L_InvalidLots f_InvalidLots) (c_as_tuples : DCal P w K mg base CX0 6 "as_tuples" (sp_as_tuples 4)) (c_is_lot_of_marks : DCal P w K mg base CX0 5 "is_lot_of_marks" sp_is_lot_of_marks) (c_crossed : DCal P w K mg base CX0 3 "crossed" sp_crossed) : FnOk P w K mg base (L2.CX P w) 7 f fd ["lots"] (toSp K (sp_crossings_of C_InvalidLots)) :=
  fnX F sc_crossings_of len_crossings_of (fun cdv A outer s H E hr => d_crossings_of T x_InvalidLots c_as_tuples c_is_lot_of_marks c_crossed hr) (wp_crossings_of (C_InvalidLots := C_InvalidLots))
theorem ok_law_box {P : Program} {w : World} {K : PySem.W.Frag} {mg : Str → Option Value} {base : Heap} {f : Addr} {fd : FuncData} (F : Fun K "_law_box" "_law_box" s_law_box f fd) (T : Txt mg) : FnOk P w K mg base CX0 2 f fd ["script"] (toSp K sp_law_box) :=
  fn0 F sc_law_box len_law_box (fun cdv A outer s H E hr => d_law_box T hr) (wp_law_box)
theorem ok_law_draw {P : Program} {w : World} {K : PySem.W.Frag} {mg : Str → Option Value} {base : Heap} {f : Addr} {fd : FuncData} (F : Fun K "_law_draw" "_law_draw" s_law_draw f fd) (T : Txt mg) : FnOk P w K mg base CX0 2 f fd ["box", "many"] (toSp K sp_law_draw) :=
  fn0 F sc_law_draw len_law_draw (fun cdv A outer s H E hr => d_law_draw T hr) (wp_law_draw)
theorem ok_law_pick {P : Program} {w : World} {K : PySem.W.Frag} {mg : Str → Option Value} {base : Heap} {f : Addr} {fd : FuncData} (F : Fun K "_law_pick" "_law_pick" s_law_pick f fd) (T : Txt mg) (c_law_draw : DCal P w K mg base CX0 2 "_law_draw" sp_law_draw) : FnOk P w K mg base CX0 3 f fd ["box", "some"] (toSp K sp_law_pick) :=
  fn0 F sc_law_pick len_law_pick (fun cdv A outer s H E hr => d_law_pick T c_law_draw hr) (wp_law_pick)
theorem ok_law_name {P : Program} {w : World} {K : PySem.W.Frag} {mg : Str → Option Value} {base : Heap} {f : Addr} {fd : FuncData} (F : Fun K "_law_name" "_law_name" s_law_name f fd) (T : Txt mg) (c_law_draw : DCal P w K mg base CX0 2 "_law_draw" sp_law_draw) (c_law_pick : DCal P w K mg base CX0 3 "_law_pick" sp_law_pick) : FnOk P w K mg base CX0 4 f fd ["box", "used"] (toSp K sp_law_name) :=
  fn0 F sc_law_name len_law_name (fun cdv A outer s H E hr => d_law_name T c_law_draw c_law_pick hr) (wp_law_name)
theorem ok_law_some {P : Program} {w : World} {K : PySem.W.Frag} {mg : Str → Option Value} {base : Heap} {f : Addr} {fd : FuncData} (F : Fun K "_law_some" "_law_some" s_law_some f fd) (T : Txt mg) : FnOk P w K mg base CX0 2 f fd ["guards"] (toSp K sp_law_some) :=
  fn0 F sc_law_some len_law_some (fun cdv A outer s H E hr => d_law_some T hr) (wp_law_some)
theorem ok_law_is_within {P : Program} {w : World} {K : PySem.W.Frag} {mg : Str → Option Value} {base : Heap} {f : Addr} {fd : FuncData} (F : Fun K "_law_is_within" "_law_is_within" s_law_is_within f fd) (T : Txt mg) : FnOk P w K mg base CX0 2 f fd ["lot", "other"] (toSp K sp_law_is_within) :=
  fn0 F sc_law_is_within len_law_is_within (fun cdv A outer s H E hr => d_law_is_within T hr) (wp_law_is_within)
theorem ok_law_least {P : Program} {w : World} {K : PySem.W.Frag} {mg : Str → Option Value} {base : Heap} {f : Addr} {fd : FuncData} (F : Fun K "_law_least" "_law_least" s_law_least f fd) (T : Txt mg) (c_law_is_within : DCal P w K mg base CX0 2 "_law_is_within" sp_law_is_within) : FnOk P w K mg base CX0 3 f fd ["lots"] (toSp K sp_law_least) :=
  fn0 F sc_law_least len_law_least (fun cdv A outer s H E hr => d_law_least T c_law_is_within hr) (wp_law_least)
theorem ok_law_crossings {P : Program} {w : World} {K : PySem.W.Frag} {mg : Str → Option Value} {base : Heap} {f : Addr} {fd : FuncData} (F : Fun K "_law_crossings" "_law_crossings" s_law_crossings f fd) (T : Txt mg) (c_law_some : DCal P w K mg base CX0 2 "_law_some" sp_law_some) (c_law_least : DCal P w K mg base CX0 3 "_law_least" sp_law_least) : FnOk P w K mg base CX0 4 f fd ["guards", "lots"] (toSp K sp_law_crossings) :=
  fn0 F sc_law_crossings len_law_crossings (fun cdv A outer s H E hr => d_law_crossings T c_law_some c_law_least hr) (wp_law_crossings)
theorem ok_law_marks {P : Program} {w : World} {K : PySem.W.Frag} {mg : Str → Option Value} {base : Heap} {f : Addr} {fd : FuncData} (F : Fun K "_law_marks" "_law_marks" s_law_marks f fd) (T : Txt mg) (c_law_draw : DCal P w K mg base CX0 2 "_law_draw" sp_law_draw) (c_law_name : DCal P w K mg base CX0 4 "_law_name" sp_law_name) (c_law_pick : DCal P w K mg base CX0 3 "_law_pick" sp_law_pick) : FnOk P w K mg base CX0 5 f fd ["box"] (toSp K sp_law_marks) :=
  fn0 F sc_law_marks len_law_marks (fun cdv A outer s H E hr => d_law_marks T c_law_draw c_law_name c_law_pick hr) (wp_law_marks)
theorem ok_law_refused {P : Program} {w : World} {K : PySem.W.Frag} {mg : Str → Option Value} {base : Heap} {f : Addr} {fd : FuncData} {C_InvalidLots L_InvalidLots f_InvalidLots : Addr} (F : Fun K "_law_refused" "_law_refused" s_law_refused f fd) (T : Txt mg) (x_InvalidLots : PySem.ErrY.Txt P K mg "InvalidLots" "at" "no such row of lots" C_InvalidLots L_InvalidLots f_InvalidLots) (c_crossings_of : DCal P w K mg base (L2.CX P w) 7 "crossings_of" (sp_crossings_of C_InvalidLots)) : FnOk P w K mg base (L2.CX P w) 8 f fd ["value"] (toSp K sp_law_refused) :=
  fnX F sc_law_refused len_law_refused (fun cdv A outer s H E hr => d_law_refused T x_InvalidLots c_crossings_of hr) (wp_law_refused (C_InvalidLots := C_InvalidLots))
theorem ok_law_wrong {P : Program} {w : World} {K : PySem.W.Frag} {mg : Str → Option Value} {base : Heap} {f : Addr} {fd : FuncData} (F : Fun K "_law_wrong" "_law_wrong" s_law_wrong f fd) (T : Txt mg) (c_law_pick : DCal P w K mg base CX0 3 "_law_pick" sp_law_pick) : FnOk P w K mg base CX0 4 f fd ["box", "marks"] (toSp K sp_law_wrong) :=
  fn0 F sc_law_wrong len_law_wrong (fun cdv A outer s H E hr => d_law_wrong T c_law_pick hr) (wp_law_wrong)
theorem ok_law_once {P : Program} {w : World} {K : PySem.W.Frag} {mg : Str → Option Value} {base : Heap} {f : Addr} {fd : FuncData} {C_InvalidLots L_InvalidLots f_InvalidLots : Addr} (F : Fun K "_law_once" "_law_once" s_law_once f fd) (T : Txt mg) (x_InvalidLots : PySem.ErrY.Txt P K mg "InvalidLots" "at" "no such row of lots" C_InvalidLots L_InvalidLots f_InvalidLots) (c_law_marks : DCal P w K mg base CX0 5 "_law_marks" sp_law_marks) (c_law_draw : DCal P w K mg base CX0 2 "_law_draw" sp_law_draw) (c_law_crossings : DCal P w K mg base CX0 4 "_law_crossings" sp_law_crossings) (c_crossings_of : DCal P w K mg base (L2.CX P w) 7 "crossings_of" (sp_crossings_of C_InvalidLots)) (c_law_least : DCal P w K mg base CX0 3 "_law_least" sp_law_least) (c_law_wrong : DCal P w K mg base CX0 4 "_law_wrong" sp_law_wrong) (c_law_refused : DCal P w K mg base (L2.CX P w) 8 "_law_refused" sp_law_refused) (c_law_pick : DCal P w K mg base CX0 3 "_law_pick" sp_law_pick) : FnG P w K mg base CX0 9 f fd ["box"] (toSp K sp_law_once) :=
  fn0G F sc_law_once len_law_once (fun cdv A outer s H E hr => d_law_once T x_InvalidLots c_law_marks c_law_draw c_law_crossings c_crossings_of c_law_least c_law_wrong c_law_refused c_law_pick hr) (wp_law_once (C_InvalidLots := C_InvalidLots))
theorem ok_law {P : Program} {w : World} {K : PySem.W.Frag} {mg : Str → Option Value} {base : Heap} {f : Addr} {fd : FuncData} (F : Fun K "law" "law" s_law f fd) (T : Txt mg) (c_law_box : DCal P w K mg base CX0 2 "_law_box" sp_law_box) (c_law_once : DCalG P w K mg base CX0 9 "_law_once" sp_law_once) : FnG P w K mg base CX0 10 f fd ["script"] (toSp K sp_law) :=
  fn0G F sc_law len_law (fun cdv A outer s H E hr => d_law T c_law_box c_law_once hr) (wp_law)
theorem exm_self {K : PySem.W.Frag} {S : Addr} (h1 : PySem.W.subIn K (.ref S) (.type "BaseException") = some true) (h2 : PySem.W.isClsIn K S = true) (h3 : PySem.W.typeIn K (.ref S) = some (.type "type")) (h4 : PySem.W.subIn K (.ref S) (.ref S) = some true) :
    PySem.W.exmOne K (.ref S) (.ref S) = some true := by
  have e1 : (PySem.W.subIn K (.ref S) (.type "BaseException") == some true) = true := by rw [h1] <;> rfl
  have e2 : ((PySem.W.clsIn K S).isSome && PySem.W.typeIn K (.ref S) == some (.type "type")) = true := by
    have h2' : (PySem.W.clsIn K S).isSome = true := h2
    rw [h2', h3] <;> rfl
  show (if (PySem.W.subIn K (.ref S) (.type "BaseException") == some true) = true then (if ((PySem.W.clsIn K S).isSome && PySem.W.typeIn K (.ref S) == some (.type "type")) = true then PySem.W.subIn K (.ref S) (.ref S) else none) else none) = some true
  rw [if_pos e1, if_pos e2]
  exact h4
theorem along_of {K : PySem.W.Frag} {L : Addr} {nm q : Str} {Ns : Addr} {bs sub tail : List Value} {sn : List Str} {ab : Bool} {col : Option Bool} {dd : Option Addr} {k0 k1 k2 k3 k5 : Option Value} {nw : String} {name : Str} {r : Option Value}
    (hL : K.lookup L = some (excClassObj nm q L Ns bs tail true sn sub ab col dd k0 k1 k2 k3 k5 nw)) (hf : PySem.W.findIn K (.ref L) name = some r) : PySem.W.alongIn K name (.ref L :: tail) = some r := by
  obtain ⟨cd, h1, h2⟩ := PySem.W.kw_along hf
  have h3 : PySem.W.clsIn K L = some { name := nm, bases := bs, mro := .ref L :: tail, ns := Ns, qualname := q, hasDict := true, slotNames := sn, subclasses := sub, abstract := ab, collection := col, hasDel := false } := by
    unfold PySem.W.clsIn
    rw [hL] <;> rfl
  rw [h3] at h1
  cases h1
  exact h2
theorem all_mk {l : PySem.W.OpenLaw} {w : World} {K : PySem.W.Frag} {h : Heap} {mg : Str → Option Value} {fa C L fI f0 f1 f2 f3 f4 f5 f6 f7 f8 f9 f10 f11 f12 f13 f14 f15 f16 f17 f18 f19 f20 f21 f22 : Addr} (X : K.In h) (G : h.Ns mainGlobals mg) (hfa : mg "law" = some (.ref fa))
    {od0 an0 od1 an1 od2 an2 od3 an3 od4 an4 od5 an5 od6 an6 od7 an7 od8 an8 od9 an9 od10 an10 od11 an11 od12 an12 od13 an13 od14 an14 od15 an15 od16 an16 od17 an17 od18 an18 od19 an19 od20 an20 od21 an21 od22 an22 : Option Addr} {sl0 sl1 sl2 sl3 sl4 sl5 sl6 sl7 sl8 sl9 sl10 sl11 sl12 sl13 sl14 sl15 sl16 sl17 sl18 sl19 sl20 sl21 sl22 : Array (Option Value)} {oc0 kV0 dc0 pm0 cd0 ct0 oc1 kV1 dc1 pm1 cd1 ct1 oc2 kV2 dc2 pm2 cd2 ct2 oc3 kV3 dc3 pm3 cd3 ct3 oc4 kV4 dc4 pm4 cd4 ct4 oc5 kV5 dc5 pm5 cd5 ct5 oc6 kV6 dc6 pm6 cd6 ct6 oc7 kV7 dc7 pm7 cd7 ct7 oc8 kV8 dc8 pm8 cd8 ct8 oc9 kV9 dc9 pm9 cd9 ct9 oc10 kV10 dc10 pm10 cd10 ct10 oc11 kV11 dc11 pm11 cd11 ct11 oc12 kV12 dc12 pm12 cd12 ct12 oc13 kV13 dc13 pm13 cd13 ct13 oc14 kV14 dc14 pm14 cd14 ct14 oc15 kV15 dc15 pm15 cd15 ct15 oc16 kV16 dc16 pm16 cd16 ct16 oc17 kV17 dc17 pm17 cd17 ct17 oc18 kV18 dc18 pm18 cd18 ct18 oc19 kV19 dc19 pm19 cd19 ct19 oc20 kV20 dc20 pm20 cd20 ct20 oc21 kV21 dc21 pm21 cd21 ct21 oc22 kV22 dc22 pm22 cd22 ct22 : Value}
    {nmL qL : Str} {NsL : Addr} {bsL subL : List Value} {snL : List Str} {abL : Bool} {colL : Option Bool} {ddL : Option Addr} {j0 j1 j2 j3 j5 : Option Value}
    {nmC qC : Str} {NsC : Addr} {bs sub : List Value} {sn : List Str} {ab : Bool} {col : Option Bool} {dd : Option Addr} {k0 k1 k2 k3 k5 : Option Value}
    {ocI kVI dcI pmI ctI : Value} {odI anI : Option Addr} {cdI ccI : Addr} {osI : Array (Option Value)} {jI : Nat} {p1 p2 a1 a2 a3 a4 a5 a6 q1 q2 q3 q4 : Pos} {qI : Str} {cdO : Value} {cdD : Option Addr} {cvs : Array Value} {cdS : Array (Option Value)} {file : Str} {tf : Tok} {clO : Value} {clD : Option Addr} {clS : Array (Option Value)}
    (a_is_integer : PySem.W.nsIn K mainGlobals "is_integer" = some (some (.ref f0))) (l_is_integer : K.lookup f0 = some ⟨oc0, od0, .func (PySem.W.fnOf "is_integer" "is_integer" (defArgs s_is_integer) (defBody s_is_integer) (defScope s_is_integer) .none kV0 dc0 pm0 an0 cd0 ct0), sl0⟩) (c_is_integer : PySem.W.codeIn K cd0 "is_integer" = true) (k_is_integer : PySem.W.keepIn K (.ref f0) = true)
    (a_is_number : PySem.W.nsIn K mainGlobals "is_number" = some (some (.ref f1))) (l_is_number : K.lookup f1 = some ⟨oc1, od1, .func (PySem.W.fnOf "is_number" "is_number" (defArgs s_is_number) (defBody s_is_number) (defScope s_is_number) .none kV1 dc1 pm1 an1 cd1 ct1), sl1⟩) (c_is_number : PySem.W.codeIn K cd1 "is_number" = true) (k_is_number : PySem.W.keepIn K (.ref f1) = true)
    (a_is_sequence : PySem.W.nsIn K mainGlobals "is_sequence" = some (some (.ref f2))) (l_is_sequence : K.lookup f2 = some ⟨oc2, od2, .func (PySem.W.fnOf "is_sequence" "is_sequence" (defArgs s_is_sequence) (defBody s_is_sequence) (defScope s_is_sequence) .none kV2 dc2 pm2 an2 cd2 ct2), sl2⟩) (c_is_sequence : PySem.W.codeIn K cd2 "is_sequence" = true) (k_is_sequence : PySem.W.keepIn K (.ref f2) = true)
    (a_as_tuples : PySem.W.nsIn K mainGlobals "as_tuples" = some (some (.ref f3))) (l_as_tuples : K.lookup f3 = some ⟨oc3, od3, .func (PySem.W.fnOf "as_tuples" "as_tuples" (defArgs s_as_tuples) (defBody s_as_tuples) (defScope s_as_tuples) .none kV3 dc3 pm3 an3 cd3 ct3), sl3⟩) (c_as_tuples : PySem.W.codeIn K cd3 "as_tuples" = true) (k_as_tuples : PySem.W.keepIn K (.ref f3) = true)
    (a_least_ones : PySem.W.nsIn K mainGlobals "least_ones" = some (some (.ref f4))) (l_least_ones : K.lookup f4 = some ⟨oc4, od4, .func (PySem.W.fnOf "least_ones" "least_ones" (defArgs s_least_ones) (defBody s_least_ones) (defScope s_least_ones) .none kV4 dc4 pm4 an4 cd4 ct4), sl4⟩) (c_least_ones : PySem.W.codeIn K cd4 "least_ones" = true) (k_least_ones : PySem.W.keepIn K (.ref f4) = true)
    (a_put_in : PySem.W.nsIn K mainGlobals "put_in" = some (some (.ref f5))) (l_put_in : K.lookup f5 = some ⟨oc5, od5, .func (PySem.W.fnOf "put_in" "put_in" (defArgs s_put_in) (defBody s_put_in) (defScope s_put_in) .none kV5 dc5 pm5 an5 cd5 ct5), sl5⟩) (c_put_in : PySem.W.codeIn K cd5 "put_in" = true) (k_put_in : PySem.W.keepIn K (.ref f5) = true)
    (a_is_mark : PySem.W.nsIn K mainGlobals "is_mark" = some (some (.ref f6))) (l_is_mark : K.lookup f6 = some ⟨oc6, od6, .func (PySem.W.fnOf "is_mark" "is_mark" (defArgs s_is_mark) (defBody s_is_mark) (defScope s_is_mark) .none kV6 dc6 pm6 an6 cd6 ct6), sl6⟩) (c_is_mark : PySem.W.codeIn K cd6 "is_mark" = true) (k_is_mark : PySem.W.keepIn K (.ref f6) = true)
    (a_is_lot_of_marks : PySem.W.nsIn K mainGlobals "is_lot_of_marks" = some (some (.ref f7))) (l_is_lot_of_marks : K.lookup f7 = some ⟨oc7, od7, .func (PySem.W.fnOf "is_lot_of_marks" "is_lot_of_marks" (defArgs s_is_lot_of_marks) (defBody s_is_lot_of_marks) (defScope s_is_lot_of_marks) .none kV7 dc7 pm7 an7 cd7 ct7), sl7⟩) (c_is_lot_of_marks : PySem.W.codeIn K cd7 "is_lot_of_marks" = true) (k_is_lot_of_marks : PySem.W.keepIn K (.ref f7) = true)
    (a_crossed : PySem.W.nsIn K mainGlobals "crossed" = some (some (.ref f8))) (l_crossed : K.lookup f8 = some ⟨oc8, od8, .func (PySem.W.fnOf "crossed" "crossed" (defArgs s_crossed) (defBody s_crossed) (defScope s_crossed) .none kV8 dc8 pm8 an8 cd8 ct8), sl8⟩) (c_crossed : PySem.W.codeIn K cd8 "crossed" = true) (k_crossed : PySem.W.keepIn K (.ref f8) = true)
    (a_crossings_of : PySem.W.nsIn K mainGlobals "crossings_of" = some (some (.ref f9))) (l_crossings_of : K.lookup f9 = some ⟨oc9, od9, .func (PySem.W.fnOf "crossings_of" "crossings_of" (defArgs s_crossings_of) (defBody s_crossings_of) (defScope s_crossings_of) .none kV9 dc9 pm9 an9 cd9 ct9), sl9⟩) (c_crossings_of : PySem.W.codeIn K cd9 "crossings_of" = true) (k_crossings_of : PySem.W.keepIn K (.ref f9) = true)
    (a_law_box : PySem.W.nsIn K mainGlobals "_law_box" = some (some (.ref f10))) (l_law_box : K.lookup f10 = some ⟨oc10, od10, .func (PySem.W.fnOf "_law_box" "_law_box" (defArgs s_law_box) (defBody s_law_box) (defScope s_law_box) .none kV10 dc10 pm10 an10 cd10 ct10), sl10⟩) (c_law_box : PySem.W.codeIn K cd10 "_law_box" = true) (k_law_box : PySem.W.keepIn K (.ref f10) = true)
    (a_law_draw : PySem.W.nsIn K mainGlobals "_law_draw" = some (some (.ref f11))) (l_law_draw : K.lookup f11 = some ⟨oc11, od11, .func (PySem.W.fnOf "_law_draw" "_law_draw" (defArgs s_law_draw) (defBody s_law_draw) (defScope s_law_draw) .none kV11 dc11 pm11 an11 cd11 ct11), sl11⟩) (c_law_draw : PySem.W.codeIn K cd11 "_law_draw" = true) (k_law_draw : PySem.W.keepIn K (.ref f11) = true)
    (a_law_pick : PySem.W.nsIn K mainGlobals "_law_pick" = some (some (.ref f12))) (l_law_pick : K.lookup f12 = some ⟨oc12, od12, .func (PySem.W.fnOf "_law_pick" "_law_pick" (defArgs s_law_pick) (defBody s_law_pick) (defScope s_law_pick) .none kV12 dc12 pm12 an12 cd12 ct12), sl12⟩) (c_law_pick : PySem.W.codeIn K cd12 "_law_pick" = true) (k_law_pick : PySem.W.keepIn K (.ref f12) = true)
    (a_law_name : PySem.W.nsIn K mainGlobals "_law_name" = some (some (.ref f13))) (l_law_name : K.lookup f13 = some ⟨oc13, od13, .func (PySem.W.fnOf "_law_name" "_law_name" (defArgs s_law_name) (defBody s_law_name) (defScope s_law_name) .none kV13 dc13 pm13 an13 cd13 ct13), sl13⟩) (c_law_name : PySem.W.codeIn K cd13 "_law_name" = true) (k_law_name : PySem.W.keepIn K (.ref f13) = true)
    (a_law_some : PySem.W.nsIn K mainGlobals "_law_some" = some (some (.ref f14))) (l_law_some : K.lookup f14 = some ⟨oc14, od14, .func (PySem.W.fnOf "_law_some" "_law_some" (defArgs s_law_some) (defBody s_law_some) (defScope s_law_some) .none kV14 dc14 pm14 an14 cd14 ct14), sl14⟩) (c_law_some : PySem.W.codeIn K cd14 "_law_some" = true) (k_law_some : PySem.W.keepIn K (.ref f14) = true)
    (a_law_is_within : PySem.W.nsIn K mainGlobals "_law_is_within" = some (some (.ref f15))) (l_law_is_within : K.lookup f15 = some ⟨oc15, od15, .func (PySem.W.fnOf "_law_is_within" "_law_is_within" (defArgs s_law_is_within) (defBody s_law_is_within) (defScope s_law_is_within) .none kV15 dc15 pm15 an15 cd15 ct15), sl15⟩) (c_law_is_within : PySem.W.codeIn K cd15 "_law_is_within" = true) (k_law_is_within : PySem.W.keepIn K (.ref f15) = true)
    (a_law_least : PySem.W.nsIn K mainGlobals "_law_least" = some (some (.ref f16))) (l_law_least : K.lookup f16 = some ⟨oc16, od16, .func (PySem.W.fnOf "_law_least" "_law_least" (defArgs s_law_least) (defBody s_law_least) (defScope s_law_least) .none kV16 dc16 pm16 an16 cd16 ct16), sl16⟩) (c_law_least : PySem.W.codeIn K cd16 "_law_least" = true) (k_law_least : PySem.W.keepIn K (.ref f16) = true)
    (a_law_crossings : PySem.W.nsIn K mainGlobals "_law_crossings" = some (some (.ref f17))) (l_law_crossings : K.lookup f17 = some ⟨oc17, od17, .func (PySem.W.fnOf "_law_crossings" "_law_crossings" (defArgs s_law_crossings) (defBody s_law_crossings) (defScope s_law_crossings) .none kV17 dc17 pm17 an17 cd17 ct17), sl17⟩) (c_law_crossings : PySem.W.codeIn K cd17 "_law_crossings" = true) (k_law_crossings : PySem.W.keepIn K (.ref f17) = true)
    (a_law_marks : PySem.W.nsIn K mainGlobals "_law_marks" = some (some (.ref f18))) (l_law_marks : K.lookup f18 = some ⟨oc18, od18, .func (PySem.W.fnOf "_law_marks" "_law_marks" (defArgs s_law_marks) (defBody s_law_marks) (defScope s_law_marks) .none kV18 dc18 pm18 an18 cd18 ct18), sl18⟩) (c_law_marks : PySem.W.codeIn K cd18 "_law_marks" = true) (k_law_marks : PySem.W.keepIn K (.ref f18) = true)
    (a_law_refused : PySem.W.nsIn K mainGlobals "_law_refused" = some (some (.ref f19))) (l_law_refused : K.lookup f19 = some ⟨oc19, od19, .func (PySem.W.fnOf "_law_refused" "_law_refused" (defArgs s_law_refused) (defBody s_law_refused) (defScope s_law_refused) .none kV19 dc19 pm19 an19 cd19 ct19), sl19⟩) (c_law_refused : PySem.W.codeIn K cd19 "_law_refused" = true) (k_law_refused : PySem.W.keepIn K (.ref f19) = true)
    (a_law_wrong : PySem.W.nsIn K mainGlobals "_law_wrong" = some (some (.ref f20))) (l_law_wrong : K.lookup f20 = some ⟨oc20, od20, .func (PySem.W.fnOf "_law_wrong" "_law_wrong" (defArgs s_law_wrong) (defBody s_law_wrong) (defScope s_law_wrong) .none kV20 dc20 pm20 an20 cd20 ct20), sl20⟩) (c_law_wrong : PySem.W.codeIn K cd20 "_law_wrong" = true) (k_law_wrong : PySem.W.keepIn K (.ref f20) = true)
    (a_law_once : PySem.W.nsIn K mainGlobals "_law_once" = some (some (.ref f21))) (l_law_once : K.lookup f21 = some ⟨oc21, od21, .func (PySem.W.fnOf "_law_once" "_law_once" (defArgs s_law_once) (defBody s_law_once) (defScope s_law_once) .none kV21 dc21 pm21 an21 cd21 ct21), sl21⟩) (c_law_once : PySem.W.codeIn K cd21 "_law_once" = true) (k_law_once : PySem.W.keepIn K (.ref f21) = true)
    (a_law : PySem.W.nsIn K mainGlobals "law" = some (some (.ref f22))) (l_law : K.lookup f22 = some ⟨oc22, od22, .func (PySem.W.fnOf "law" "law" (defArgs s_law) (defBody s_law) (defScope s_law) .none kV22 dc22 pm22 an22 cd22 ct22), sl22⟩) (c_law : PySem.W.codeIn K cd22 "law" = true) (k_law : PySem.W.keepIn K (.ref f22) = true)
    (z_abs : PySem.W.nsIn K mainGlobals "abs" = some none)
    (z_all : PySem.W.nsIn K mainGlobals "all" = some none)
    (z_any : PySem.W.nsIn K mainGlobals "any" = some none)
    (z_bool : PySem.W.nsIn K mainGlobals "bool" = some none)
    (z_enumerate : PySem.W.nsIn K mainGlobals "enumerate" = some none)
    (z_int : PySem.W.nsIn K mainGlobals "int" = some none)
    (z_isinstance : PySem.W.nsIn K mainGlobals "isinstance" = some none)
    (z_len : PySem.W.nsIn K mainGlobals "len" = some none)
    (z_list : PySem.W.nsIn K mainGlobals "list" = some none)
    (z_range : PySem.W.nsIn K mainGlobals "range" = some none)
    (z_repr : PySem.W.nsIn K mainGlobals "repr" = some none)
    (z_sorted : PySem.W.nsIn K mainGlobals "sorted" = some none)
    (z_str : PySem.W.nsIn K mainGlobals "str" = some none)
    (z_tuple : PySem.W.nsIn K mainGlobals "tuple" = some none)
    (xa : PySem.W.nsIn K mainGlobals "InvalidLots" = some (some (.ref C)))
    (xL : K.lookup C = some (excClassObj nmC qC C NsC bs [.ref L, .type "Exception", .type "BaseException", .type "object"] true sn sub ab col dd k0 k1 k2 k3 k5 "Exception.__new__"))
    (xsa : PySem.W.findIn K (.ref C) "__setattr__" = some (some (.builtin "object.__setattr__")))
    (xga : PySem.W.findIn K (.ref C) "__getattribute__" = some (some (.builtin "BaseException.__getattribute__")))
    (xgg : PySem.W.findIn K (.ref C) "__getattr__" = some none)
    (xno : PySem.W.findIn K (.ref C) "at" = some none)
    (xi : PySem.W.findIn K (.ref C) "__init__" = some (some (.ref fI)))
    (xt : PySem.W.typeIn K (.ref fI) = some (.type "function"))
    (xk : PySem.W.keepIn K (.ref C) = true)
    (xb : PySem.W.subIn K (.ref C) (.type "BaseException") = some true)
    (xe : PySem.W.subIn K (.ref C) (.type "Exception") = some true)
    (xty : PySem.W.typeIn K (.ref C) = some (.type "type"))
    (xhd : PySem.W.hasDictIn K C = true)
    (xis : PySem.W.isClsIn K C = true)
    (xss : PySem.W.subIn K (.ref C) (.ref C) = some true)
    (xm : PySem.W.mroIn K C (.ref C) = some true)
    (xnp : PySem.W.nsIn K cStatics "thirdparty.any" = some none)
    (xL2 : K.lookup L = some (excClassObj nmL qL L NsL bsL [.type "Exception", .type "BaseException", .type "object"] true snL subL abL colL ddL j0 j1 j2 j3 j5 "Exception.__new__"))
    (xal : PySem.W.findIn K (.ref L) "__init__" = some (some (.builtin "Exception.__init__")))
    (xsu : PySem.W.nsIn K mainGlobals "super" = some none)
    (xtop : (l.prog.main.scope.names.lookup ("super" : Str)).isSome = false)
    (xf : K.lookup fI = some ⟨ocI, odI, .func (PySem.W.fnX "__init__" qI (PySem.ErrY.iA "at" p1 p2) (PySem.ErrY.iB "at" "no such row of lots" jI a1 a2 a3 a4 a5 a6 q1 q2 q3 q4) (PySem.ErrY.iS "at") [("__class__", ccI)] .none kVI dcI pmI anI (.ref cdI) ctI), osI⟩)
    (xfc : PySem.W.codeIn K (.ref cdI) qI = true)
    (xfd : K.lookup cdI = some ⟨cdO, cdD, .fields cvs, cdS⟩)
    (xfv : cvs[2]? = some (.str file tf))
    (xff : ((l.prog.main.file : Str) == file) = true)
    (xfl : K.lookup ccI = some ⟨clO, clD, .cell (some (.ref C)), clS⟩)
    (xln : PySem.ErrY.LineOk "no such row of lots" jI a1 a2 a3 a4 a5)
    : ∃ fd : FuncData, (∀ (s : Shared) (u : Value), BindsTo s fd ⟨[u], []⟩ [("script", u)]) ∧ ∀ base : Heap, K.In base → base.Ns mainGlobals mg → FnG l.prog w K mg base CX0 10 fa fd ["script"] (toSp K sp_law) := by
  have e := hfa.symm.trans (PySem.W.mg_of X G a_law)
  cases e
  have T : Txt mg := ⟨PySem.W.mg_none_of X G z_abs, PySem.W.mg_none_of X G z_all, PySem.W.mg_none_of X G z_any, PySem.W.mg_none_of X G z_bool, PySem.W.mg_none_of X G z_enumerate, PySem.W.mg_none_of X G z_int, PySem.W.mg_none_of X G z_isinstance, PySem.W.mg_none_of X G z_len, PySem.W.mg_none_of X G z_list, PySem.W.mg_none_of X G z_range, PySem.W.mg_none_of X G z_repr, PySem.W.mg_none_of X G z_sorted, PySem.W.mg_none_of X G z_str, PySem.W.mg_none_of X G z_tuple⟩
  have x : PySem.ErrY.Txt l.prog K mg "InvalidLots" "at" "no such row of lots" C L fI :=
    { gC := PySem.W.mg_of X G xa, cls := ⟨_, _, _, _, _, _, _, _, _, _, _, _, _, _, xL⟩, sa := xsa, ga := xga, gg := xgg, noN := xno, iC := xi, tC := xt, kC := xk, exC := xb, exE := xe, tyC := xty, hdC := xhd, te := exm_self xb xis xty xss, mC := xm, noP := xnp, along := along_of xL2 xal, noS := PySem.W.mg_none_of X G xsu, top := xtop,
      fn := ⟨_, _, _, _, _, _, _, _, _, _, _, _, _, _, _, _, _, _, _, _, _, _, _, _, _, _, _, _, _, _, _, _, _, xf, xfc, xfd, xfv, xff, xfl, xln⟩ }
  have F_is_integer := fun_mk (st := s_is_integer) l_is_integer c_is_integer k_is_integer
  have b_is_integer := F_is_integer.binds (ps := ["value"]) fun _ _ _ _ _ _ us hl => match us, hl with | [_], _ => rfl
  have t_is_integer : DAt K mg "is_integer" f0 _ ["value"] := ⟨PySem.W.mg_of X G a_is_integer, k_is_integer, b_is_integer⟩
  have F_is_number := fun_mk (st := s_is_number) l_is_number c_is_number k_is_number
  have b_is_number := F_is_number.binds (ps := ["value"]) fun _ _ _ _ _ _ us hl => match us, hl with | [_], _ => rfl
  have t_is_number : DAt K mg "is_number" f1 _ ["value"] := ⟨PySem.W.mg_of X G a_is_number, k_is_number, b_is_number⟩
  have F_is_sequence := fun_mk (st := s_is_sequence) l_is_sequence c_is_sequence k_is_sequence
  have b_is_sequence := F_is_sequence.binds (ps := ["value"]) fun _ _ _ _ _ _ us hl => match us, hl with | [_], _ => rfl
  have t_is_sequence : DAt K mg "is_sequence" f2 _ ["value"] := ⟨PySem.W.mg_of X G a_is_sequence, k_is_sequence, b_is_sequence⟩
  have F_as_tuples := fun_mk (st := s_as_tuples) l_as_tuples c_as_tuples k_as_tuples
  have b_as_tuples := F_as_tuples.binds (ps := ["value"]) fun _ _ _ _ _ _ us hl => match us, hl with | [_], _ => rfl
  have t_as_tuples : DAt K mg "as_tuples" f3 _ ["value"] := ⟨PySem.W.mg_of X G a_as_tuples, k_as_tuples, b_as_tuples⟩
  have F_least_ones := fun_mk (st := s_least_ones) l_least_ones c_least_ones k_least_ones
  have b_least_ones := F_least_ones.binds (ps := ["lots"]) fun _ _ _ _ _ _ us hl => match us, hl with | [_], _ => rfl
  have t_least_ones : DAt K mg "least_ones" f4 _ ["lots"] := ⟨PySem.W.mg_of X G a_least_ones, k_least_ones, b_least_ones⟩
  have F_put_in := fun_mk (st := s_put_in) l_put_in c_put_in k_put_in
  have b_put_in := F_put_in.binds (ps := ["lot", "guard"]) fun _ _ _ _ _ _ us hl => match us, hl with | [_, _], _ => rfl
  have t_put_in : DAt K mg "put_in" f5 _ ["lot", "guard"] := ⟨PySem.W.mg_of X G a_put_in, k_put_in, b_put_in⟩
  have F_is_mark := fun_mk (st := s_is_mark) l_is_mark c_is_mark k_is_mark
  have b_is_mark := F_is_mark.binds (ps := ["value"]) fun _ _ _ _ _ _ us hl => match us, hl with | [_], _ => rfl
  have t_is_mark : DAt K mg "is_mark" f6 _ ["value"] := ⟨PySem.W.mg_of X G a_is_mark, k_is_mark, b_is_mark⟩
  have F_is_lot_of_marks := fun_mk (st := s_is_lot_of_marks) l_is_lot_of_marks c_is_lot_of_marks k_is_lot_of_marks
  have b_is_lot_of_marks := F_is_lot_of_marks.binds (ps := ["value"]) fun _ _ _ _ _ _ us hl => match us, hl with | [_], _ => rfl
  have t_is_lot_of_marks : DAt K mg "is_lot_of_marks" f7 _ ["value"] := ⟨PySem.W.mg_of X G a_is_lot_of_marks, k_is_lot_of_marks, b_is_lot_of_marks⟩
  have F_crossed := fun_mk (st := s_crossed) l_crossed c_crossed k_crossed
  have b_crossed := F_crossed.binds (ps := ["lots"]) fun _ _ _ _ _ _ us hl => match us, hl with | [_], _ => rfl
  have t_crossed : DAt K mg "crossed" f8 _ ["lots"] := ⟨PySem.W.mg_of X G a_crossed, k_crossed, b_crossed⟩
  have F_crossings_of := fun_mk (st := s_crossings_of) l_crossings_of c_crossings_of k_crossings_of
  have b_crossings_of := F_crossings_of.binds (ps := ["lots"]) fun _ _ _ _ _ _ us hl => match us, hl with | [_], _ => rfl
  have t_crossings_of : DAt K mg "crossings_of" f9 _ ["lots"] := ⟨PySem.W.mg_of X G a_crossings_of, k_crossings_of, b_crossings_of⟩
  have F_law_box := fun_mk (st := s_law_box) l_law_box c_law_box k_law_box
  have b_law_box := F_law_box.binds (ps := ["script"]) fun _ _ _ _ _ _ us hl => match us, hl with | [_], _ => rfl
  have t_law_box : DAt K mg "_law_box" f10 _ ["script"] := ⟨PySem.W.mg_of X G a_law_box, k_law_box, b_law_box⟩
  have F_law_draw := fun_mk (st := s_law_draw) l_law_draw c_law_draw k_law_draw
  have b_law_draw := F_law_draw.binds (ps := ["box", "many"]) fun _ _ _ _ _ _ us hl => match us, hl with | [_, _], _ => rfl
  have t_law_draw : DAt K mg "_law_draw" f11 _ ["box", "many"] := ⟨PySem.W.mg_of X G a_law_draw, k_law_draw, b_law_draw⟩
  have F_law_pick := fun_mk (st := s_law_pick) l_law_pick c_law_pick k_law_pick
  have b_law_pick := F_law_pick.binds (ps := ["box", "some"]) fun _ _ _ _ _ _ us hl => match us, hl with | [_, _], _ => rfl
  have t_law_pick : DAt K mg "_law_pick" f12 _ ["box", "some"] := ⟨PySem.W.mg_of X G a_law_pick, k_law_pick, b_law_pick⟩
  have F_law_name := fun_mk (st := s_law_name) l_law_name c_law_name k_law_name
  have b_law_name := F_law_name.binds (ps := ["box", "used"]) fun _ _ _ _ _ _ us hl => match us, hl with | [_, _], _ => rfl
  have t_law_name : DAt K mg "_law_name" f13 _ ["box", "used"] := ⟨PySem.W.mg_of X G a_law_name, k_law_name, b_law_name⟩
  have F_law_some := fun_mk (st := s_law_some) l_law_some c_law_some k_law_some
  have b_law_some := F_law_some.binds (ps := ["guards"]) fun _ _ _ _ _ _ us hl => match us, hl with | [_], _ => rfl
  have t_law_some : DAt K mg "_law_some" f14 _ ["guards"] := ⟨PySem.W.mg_of X G a_law_some, k_law_some, b_law_some⟩
  have F_law_is_within := fun_mk (st := s_law_is_within) l_law_is_within c_law_is_within k_law_is_within
  have b_law_is_within := F_law_is_within.binds (ps := ["lot", "other"]) fun _ _ _ _ _ _ us hl => match us, hl with | [_, _], _ => rfl
  have t_law_is_within : DAt K mg "_law_is_within" f15 _ ["lot", "other"] := ⟨PySem.W.mg_of X G a_law_is_within, k_law_is_within, b_law_is_within⟩
  have F_law_least := fun_mk (st := s_law_least) l_law_least c_law_least k_law_least
  have b_law_least := F_law_least.binds (ps := ["lots"]) fun _ _ _ _ _ _ us hl => match us, hl with | [_], _ => rfl
  have t_law_least : DAt K mg "_law_least" f16 _ ["lots"] := ⟨PySem.W.mg_of X G a_law_least, k_law_least, b_law_least⟩
  have F_law_crossings := fun_mk (st := s_law_crossings) l_law_crossings c_law_crossings k_law_crossings
  have b_law_crossings := F_law_crossings.binds (ps := ["guards", "lots"]) fun _ _ _ _ _ _ us hl => match us, hl with | [_, _], _ => rfl
  have t_law_crossings : DAt K mg "_law_crossings" f17 _ ["guards", "lots"] := ⟨PySem.W.mg_of X G a_law_crossings, k_law_crossings, b_law_crossings⟩
  have F_law_marks := fun_mk (st := s_law_marks) l_law_marks c_law_marks k_law_marks
  have b_law_marks := F_law_marks.binds (ps := ["box"]) fun _ _ _ _ _ _ us hl => match us, hl with | [_], _ => rfl
  have t_law_marks : DAt K mg "_law_marks" f18 _ ["box"] := ⟨PySem.W.mg_of X G a_law_marks, k_law_marks, b_law_marks⟩
  have F_law_refused := fun_mk (st := s_law_refused) l_law_refused c_law_refused k_law_refused
  have b_law_refused := F_law_refused.binds (ps := ["value"]) fun _ _ _ _ _ _ us hl => match us, hl with | [_], _ => rfl
  have t_law_refused : DAt K mg "_law_refused" f19 _ ["value"] := ⟨PySem.W.mg_of X G a_law_refused, k_law_refused, b_law_refused⟩
  have F_law_wrong := fun_mk (st := s_law_wrong) l_law_wrong c_law_wrong k_law_wrong
  have b_law_wrong := F_law_wrong.binds (ps := ["box", "marks"]) fun _ _ _ _ _ _ us hl => match us, hl with | [_, _], _ => rfl
  have t_law_wrong : DAt K mg "_law_wrong" f20 _ ["box", "marks"] := ⟨PySem.W.mg_of X G a_law_wrong, k_law_wrong, b_law_wrong⟩
  have F_law_once := fun_mk (st := s_law_once) l_law_once c_law_once k_law_once
  have b_law_once := F_law_once.binds (ps := ["box"]) fun _ _ _ _ _ _ us hl => match us, hl with | [_], _ => rfl
  have t_law_once : DAt K mg "_law_once" f21 _ ["box"] := ⟨PySem.W.mg_of X G a_law_once, k_law_once, b_law_once⟩
  have F_law := fun_mk (st := s_law) l_law c_law k_law
  have b_law := F_law.binds (ps := ["script"]) fun _ _ _ _ _ _ us hl => match us, hl with | [_], _ => rfl
  refine ⟨PySem.W.fnOf "law" "law" (defArgs s_law) (defBody s_law) (defScope s_law) .none kV22 dc22 pm22 an22 cd22 ct22, fun s v => .of_eq rfl, fun base _ _ => ?_⟩
  have q_is_integer := t_is_integer.cal (ok_is_integer (P := l.prog) (w := w) (base := base) F_is_integer T) mono_is_integer
  have q_is_number := t_is_number.cal (ok_is_number (P := l.prog) (w := w) (base := base) F_is_number T q_is_integer) mono_is_number
  have q_is_sequence := t_is_sequence.cal (ok_is_sequence (P := l.prog) (w := w) (base := base) F_is_sequence T) mono_is_sequence
  have q_as_tuples := cal_as_tuples (P := l.prog) (w := w) (base := base) F_as_tuples t_as_tuples T q_is_sequence 4
  have q_least_ones := t_least_ones.cal (ok_least_ones (P := l.prog) (w := w) (base := base) F_least_ones T) mono_least_ones
  have q_put_in := t_put_in.cal (ok_put_in (P := l.prog) (w := w) (base := base) F_put_in T) mono_put_in
  have q_is_mark := t_is_mark.cal (ok_is_mark (P := l.prog) (w := w) (base := base) F_is_mark T q_is_number) mono_is_mark
  have q_is_lot_of_marks := t_is_lot_of_marks.cal (ok_is_lot_of_marks (P := l.prog) (w := w) (base := base) F_is_lot_of_marks T q_is_mark) mono_is_lot_of_marks
  have q_crossed := t_crossed.cal (ok_crossed (P := l.prog) (w := w) (base := base) F_crossed T q_put_in q_least_ones) mono_crossed
  have q_crossings_of := t_crossings_of.cal (ok_crossings_of (P := l.prog) (w := w) (base := base) F_crossings_of T x q_as_tuples q_is_lot_of_marks q_crossed) (mono_crossings_of _)
  have q_law_box := t_law_box.cal (ok_law_box (P := l.prog) (w := w) (base := base) F_law_box T) mono_law_box
  have q_law_draw := t_law_draw.cal (ok_law_draw (P := l.prog) (w := w) (base := base) F_law_draw T) mono_law_draw
  have q_law_pick := t_law_pick.cal (ok_law_pick (P := l.prog) (w := w) (base := base) F_law_pick T q_law_draw) mono_law_pick
  have q_law_name := t_law_name.cal (ok_law_name (P := l.prog) (w := w) (base := base) F_law_name T q_law_draw q_law_pick) mono_law_name
  have q_law_some := t_law_some.cal (ok_law_some (P := l.prog) (w := w) (base := base) F_law_some T) mono_law_some
  have q_law_is_within := t_law_is_within.cal (ok_law_is_within (P := l.prog) (w := w) (base := base) F_law_is_within T) mono_law_is_within
  have q_law_least := t_law_least.cal (ok_law_least (P := l.prog) (w := w) (base := base) F_law_least T q_law_is_within) mono_law_least
  have q_law_crossings := t_law_crossings.cal (ok_law_crossings (P := l.prog) (w := w) (base := base) F_law_crossings T q_law_some q_law_least) mono_law_crossings
  have q_law_marks := t_law_marks.cal (ok_law_marks (P := l.prog) (w := w) (base := base) F_law_marks T q_law_draw q_law_name q_law_pick) mono_law_marks
  have q_law_refused := t_law_refused.cal (ok_law_refused (P := l.prog) (w := w) (base := base) F_law_refused T x q_crossings_of) mono_law_refused
  have q_law_wrong := t_law_wrong.cal (ok_law_wrong (P := l.prog) (w := w) (base := base) F_law_wrong T q_law_pick) mono_law_wrong
  have q_law_once := t_law_once.calG (ok_law_once (P := l.prog) (w := w) (base := base) F_law_once T x q_law_marks q_law_draw q_law_crossings q_crossings_of q_law_least q_law_wrong q_law_refused q_law_pick) mono_law_once
  exact ok_law F_law T q_law_box q_law_once
end K47

open PySem PySem.W PyProof.Rows
set_option maxHeartbeats 0 in
theorem PySem.Challenge.cw_lateno_k47_whole_crossings_of_any_lots_holds : PySem.Challenge.rw_lateno_k47_whole_crossings_of_any_lots.Holds := by
  w_on; o_law; k_head; (case hw => w_witness2)
  k_fill
  refine DL.walk_ofG (l := PySem.Challenge.rw_lateno_k47_whole_crossings_of_any_lots) (n := 63) (k := 10) (x := "script") (p := K47.sp_law) rfl (by decide) rfl ⟨rfl, by decide, by decide⟩ (fun w h Y => PySem.W.kIn_of Y) ?F K47.mono_law (fun ns hn => ⟨ns, rfl, hn, fun _ => rfl⟩)
  case F =>
    intro w mg fa h KX G hmg
    refine' K47.all_mk KX G hmg ?a_is_integer ?l_is_integer ?c_is_integer ?k_is_integer ?a_is_number ?l_is_number ?c_is_number ?k_is_number ?a_is_sequence ?l_is_sequence ?c_is_sequence ?k_is_sequence ?a_as_tuples ?l_as_tuples ?c_as_tuples ?k_as_tuples ?a_least_ones ?l_least_ones ?c_least_ones ?k_least_ones ?a_put_in ?l_put_in ?c_put_in ?k_put_in ?a_is_mark ?l_is_mark ?c_is_mark ?k_is_mark ?a_is_lot_of_marks ?l_is_lot_of_marks ?c_is_lot_of_marks ?k_is_lot_of_marks ?a_crossed ?l_crossed ?c_crossed ?k_crossed ?a_crossings_of ?l_crossings_of ?c_crossings_of ?k_crossings_of ?a_law_box ?l_law_box ?c_law_box ?k_law_box ?a_law_draw ?l_law_draw ?c_law_draw ?k_law_draw ?a_law_pick ?l_law_pick ?c_law_pick ?k_law_pick ?a_law_name ?l_law_name ?c_law_name ?k_law_name ?a_law_some ?l_law_some ?c_law_some ?k_law_some ?a_law_is_within ?l_law_is_within ?c_law_is_within ?k_law_is_within ?a_law_least ?l_law_least ?c_law_least ?k_law_least ?a_law_crossings ?l_law_crossings ?c_law_crossings ?k_law_crossings ?a_law_marks ?l_law_marks ?c_law_marks ?k_law_marks ?a_law_refused ?l_law_refused ?c_law_refused ?k_law_refused ?a_law_wrong ?l_law_wrong ?c_law_wrong ?k_law_wrong ?a_law_once ?l_law_once ?c_law_once ?k_law_once ?a_law ?l_law ?c_law ?k_law ?z_abs ?z_all ?z_any ?z_bool ?z_enumerate ?z_int ?z_isinstance ?z_len ?z_list ?z_range ?z_repr ?z_sorted ?z_str ?z_tuple ?xa ?xL ?xsa ?xga ?xgg ?xno ?xi ?xt ?xk ?xb ?xe ?xty ?xhd ?xis ?xss ?xm ?xnp ?xL2 ?xal ?xsu ?xtop ?xf ?xfc ?xfd ?xfv ?xff ?xfl ?xln
    (case a_is_integer => k_is); (case l_is_integer => k_is); (case c_is_integer => k_is); (case k_is_integer => k_is); (case a_is_number => k_is); (case l_is_number => k_is); (case c_is_number => k_is); (case k_is_number => k_is); (case a_is_sequence => k_is); (case l_is_sequence => k_is); (case c_is_sequence => k_is); (case k_is_sequence => k_is); (case a_as_tuples => k_is); (case l_as_tuples => k_is); (case c_as_tuples => k_is); (case k_as_tuples => k_is); (case a_least_ones => k_is); (case l_least_ones => k_is); (case c_least_ones => k_is); (case k_least_ones => k_is); (case a_put_in => k_is); (case l_put_in => k_is); (case c_put_in => k_is); (case k_put_in => k_is); (case a_is_mark => k_is); (case l_is_mark => k_is); (case c_is_mark => k_is); (case k_is_mark => k_is); (case a_is_lot_of_marks => k_is); (case l_is_lot_of_marks => k_is); (case c_is_lot_of_marks => k_is); (case k_is_lot_of_marks => k_is); (case a_crossed => k_is); (case l_crossed => k_is); (case c_crossed => k_is); (case k_crossed => k_is); (case a_crossings_of => k_is); (case l_crossings_of => k_is); (case c_crossings_of => k_is); (case k_crossings_of => k_is); (case a_law_box => k_is); (case l_law_box => k_is); (case c_law_box => k_is); (case k_law_box => k_is); (case a_law_draw => k_is); (case l_law_draw => k_is); (case c_law_draw => k_is); (case k_law_draw => k_is); (case a_law_pick => k_is); (case l_law_pick => k_is); (case c_law_pick => k_is); (case k_law_pick => k_is); (case a_law_name => k_is); (case l_law_name => k_is); (case c_law_name => k_is); (case k_law_name => k_is); (case a_law_some => k_is); (case l_law_some => k_is); (case c_law_some => k_is); (case k_law_some => k_is); (case a_law_is_within => k_is); (case l_law_is_within => k_is); (case c_law_is_within => k_is); (case k_law_is_within => k_is); (case a_law_least => k_is); (case l_law_least => k_is); (case c_law_least => k_is); (case k_law_least => k_is); (case a_law_crossings => k_is); (case l_law_crossings => k_is); (case c_law_crossings => k_is); (case k_law_crossings => k_is); (case a_law_marks => k_is); (case l_law_marks => k_is); (case c_law_marks => k_is); (case k_law_marks => k_is); (case a_law_refused => k_is); (case l_law_refused => k_is); (case c_law_refused => k_is); (case k_law_refused => k_is); (case a_law_wrong => k_is); (case l_law_wrong => k_is); (case c_law_wrong => k_is); (case k_law_wrong => k_is); (case a_law_once => k_is); (case l_law_once => k_is); (case c_law_once => k_is); (case k_law_once => k_is); (case a_law => k_is); (case l_law => k_is); (case c_law => k_is); (case k_law => k_is); (case z_abs => k_is); (case z_all => k_is); (case z_any => k_is); (case z_bool => k_is); (case z_enumerate => k_is); (case z_int => k_is); (case z_isinstance => k_is); (case z_len => k_is); (case z_list => k_is); (case z_range => k_is); (case z_repr => k_is); (case z_sorted => k_is); (case z_str => k_is); (case z_tuple => k_is); (case xa => k_is); (case xL => k_is); (case xsa => k_is); (case xga => k_is); (case xgg => k_is); (case xno => k_is); (case xi => k_is); (case xt => k_is); (case xk => k_is); (case xb => k_is); (case xe => k_is); (case xty => k_is); (case xhd => k_is); (case xis => k_is); (case xm => k_is); (case xnp => k_is); (case xL2 => k_is); (case xal => k_is); (case xsu => k_is); (case xf => k_is); (case xfc => k_is); (case xfd => k_is); (case xfl => k_is)
    (case xss => first | rfl | k_is); (case xtop => kernel_rfl); (case xfv => first | rfl | k_is); (case xff => first | rfl | kernel_rfl); (case xln => exact fun env => ⟨_, rfl⟩)
