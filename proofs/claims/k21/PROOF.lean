import PyProof.Rows.All
import Wide.All
import OpenK.AllK
import Wide.FinOn
import HandS.ForMost
import HandS.Walk
import HandS.IsInst
import HandS.Wide
import HandS.Steps
import PyProof.StrLawsChain
import HandS.SortRule
import HandS.SortInts
import HandS.TupAny
import HandS.Style
import PyProof.ReprRoads
import PyProof.ReprLen
import PyProof.StrLawsRepr
import HandS.ListItems
import HandS.Iter
import PyProof.P3Eq
import PySem.Challenge.RW_bothhistories_k21_what_is_taken
set_option Elab.async false
set_option linter.all false
set_option maxRecDepth 100000
set_option maxHeartbeats 4000000
/-! B0: the data level. A frozen heap G within the heap H; what a value is as data in G; slots that hold data, own lists, own dicts; readings of expressions and statements over these. -/
namespace B
open PySem PySem.Spec PyProof.Rows L2

def keyD : Key → PyData
  | .inl i => .int i
  | .inr x => .str x
mutual
inductive Dt (G : Hp) : V → PyData → Prop
  | non : Dt G .non .none
  | bl (b : Bool) : Dt G (.bl b) (.bool b)
  | int (i : Int) : Dt G (.int i) (.int i)
  | str (x : Str) : Dt G (.str x) (.str x)
  | lst {a : Addr} {xs : List V} {ds : List PyData} : G a = some (.lst xs) → DtA G xs ds → Dt G (.ref a) (.list ds)
  | tup {a : Addr} {xs : List V} {ds : List PyData} : G a = some (.tup xs) → DtA G xs ds → Dt G (.ref a) (.tuple ds)
  | dct {a : Addr} {kvs : List (Key × V)} {es : List (PyData × PyData)} : G a = some (.dK kvs) → DtK G kvs es → Dt G (.ref a) (.dict es)
inductive DtA (G : Hp) : List V → List PyData → Prop
  | nil : DtA G [] []
  | cons {v : V} {vs : List V} {d : PyData} {ds : List PyData} : Dt G v d → DtA G vs ds → DtA G (v :: vs) (d :: ds)
inductive DtK (G : Hp) : List (Key × V) → List (PyData × PyData) → Prop
  | nil : DtK G [] []
  | cons {k : Key} {v : V} {d : PyData} {kvs : List (Key × V)} {es : List (PyData × PyData)} : Dt G v d → DtK G kvs es → DtK G ((k, v) :: kvs) ((keyD k, d) :: es)
end
mutual
theorem Dt.mono {G G' : Hp} (e : Same G G') : ∀ {v : V} {d : PyData}, Dt G v d → Dt G' v d
  | _, _, .non => .non
  | _, _, .bl b => .bl b
  | _, _, .int i => .int i
  | _, _, .str x => .str x
  | _, _, .lst h r => .lst (e _ _ h) (DtA.mono e r)
  | _, _, .tup h r => .tup (e _ _ h) (DtA.mono e r)
  | _, _, .dct h r => .dct (e _ _ h) (DtK.mono e r)
theorem DtA.mono {G G' : Hp} (e : Same G G') : ∀ {vs : List V} {ds : List PyData}, DtA G vs ds → DtA G' vs ds
  | _, _, .nil => .nil
  | _, _, .cons h r => .cons (Dt.mono e h) (DtA.mono e r)
theorem DtK.mono {G G' : Hp} (e : Same G G') : ∀ {vs : List (Key × V)} {ds : List (PyData × PyData)}, DtK G vs ds → DtK G' vs ds
  | _, _, .nil => .nil
  | _, _, .cons h r => .cons (Dt.mono e h) (DtK.mono e r)
end
theorem DtA.length {G : Hp} : ∀ {vs : List V} {ds : List PyData}, DtA G vs ds → vs.length = ds.length
  | _, _, .nil => rfl
  | _, _, .cons _ r => by rw [List.length_cons, List.length_cons, DtA.length r]
theorem DtA.get {G : Hp} : ∀ {vs : List V} {ds : List PyData} {i : Nat} {v : V}, DtA G vs ds → vs[i]? = some v → ∃ d, ds[i]? = some d ∧ Dt G v d
  | _, _, _, _, .nil, e => by simp at e
  | _, _, 0, _, .cons h _, e => by simp at e; subst e; exact ⟨_, rfl, h⟩
  | _, _, i + 1, v, .cons _ t, e => by
    obtain ⟨d, h1, h2⟩ := DtA.get (i := i) (v := v) t (by simpa using e)
    exact ⟨d, by simpa using h1, h2⟩
theorem DtA.getD {G : Hp} : ∀ {vs : List V} {ds : List PyData} {i : Nat} {d : PyData}, DtA G vs ds → ds[i]? = some d → ∃ v, vs[i]? = some v ∧ Dt G v d
  | _, _, _, _, .nil, e => by simp at e
  | _, _, 0, _, .cons h _, e => by simp at e; subst e; exact ⟨_, rfl, h⟩
  | _, _, i + 1, d, .cons _ t, e => by
    obtain ⟨v, h1, h2⟩ := DtA.getD (i := i) (d := d) t (by simpa using e)
    exact ⟨v, by simpa using h1, h2⟩
theorem DtA.append {G : Hp} : ∀ {vs ws : List V} {ds es : List PyData}, DtA G vs ds → DtA G ws es → DtA G (vs ++ ws) (ds ++ es)
  | _, _, _, _, .nil, s => s
  | _, _, _, _, .cons h t, s => .cons h (DtA.append t s)
theorem DtA.one {G : Hp} {v : V} {d : PyData} (h : Dt G v d) : DtA G [v] [d] := .cons h .nil
theorem DtA.take {G : Hp} : ∀ {vs : List V} {ds : List PyData} (n : Nat), DtA G vs ds → DtA G (vs.take n) (ds.take n)
  | _, _, 0, _ => .nil
  | _, _, _ + 1, .nil => .nil
  | _, _, n + 1, .cons h t => .cons h (DtA.take n t)
theorem DtA.drop {G : Hp} : ∀ {vs : List V} {ds : List PyData} (n : Nat), DtA G vs ds → DtA G (vs.drop n) (ds.drop n)
  | _, _, 0, r => r
  | _, _, _ + 1, .nil => .nil
  | _, _, n + 1, .cons _ t => DtA.drop n t
theorem DtA.strs {G : Hp} : ∀ zs : List Str, DtA G (zs.map V.str) (zs.map PyData.str)
  | [] => .nil
  | z :: r => .cons (.str z) (DtA.strs r)
theorem DtA.bls {G : Hp} : ∀ zs : List Bool, DtA G (zs.map V.bl) (zs.map PyData.bool)
  | [] => .nil
  | z :: r => .cons (.bl z) (DtA.bls r)
theorem DtA.of_bls {G : Hp} : ∀ {zs : List Bool} {vs : List V}, DtA G vs (zs.map PyData.bool) → vs = zs.map V.bl
  | [], _, .nil => rfl
  | z :: r, _, .cons h t => by cases h; rw [DtA.of_bls t]; rfl
theorem DtA.of_strs {G : Hp} : ∀ {zs : List Str} {vs : List V}, DtA G vs (zs.map PyData.str) → vs = zs.map V.str
  | [], _, .nil => rfl
  | z :: r, _, .cons h t => by cases h; rw [DtA.of_strs t]; rfl
theorem DtA.of_ints {G : Hp} : ∀ {zs : List Int} {vs : List V}, DtA G vs (zs.map PyData.int) → vs = zs.map V.int
  | [], _, .nil => rfl
  | z :: r, _, .cons h t => by cases h; rw [DtA.of_ints t]; rfl
theorem Same.new {H : Hp} {p : Addr} {o : HO} (h : H p = none) : Same H (upd H p o) := fun a u e => by
  rw [upd_ne (ne_of_none e h)]
  exact e

/-! ### what is new, what is kept -/
/-- G' has more than G, only where H had nothing -/
def Nw (G H G' : Hp) : Prop := Same G G' ∧ ∀ a, G' a ≠ none → G a ≠ none ∨ H a = none
def Fr (M : Addr → Prop) (H H' : Hp) : Prop := ∀ a o, ¬ M a → H a = some o → H' a = some o
theorem Nw.refl (G H : Hp) : Nw G H G := ⟨Same.refl G, fun _ h => .inl h⟩
theorem Fr.refl (M : Addr → Prop) (H : Hp) : Fr M H H := fun _ _ _ h => h
theorem Fr.of_same {M : Addr → Prop} {H H' : Hp} (h : Same H H') : Fr M H H' := fun a o _ e => h a o e
theorem Fr.trans {M : Addr → Prop} {H H1 H2 : Hp} (h : Fr M H H1) (k : Fr M H1 H2) : Fr M H H2 := fun a o m e => k a o m (h a o m e)
/-- from G in H to G' in H': new things, M changed alone -/
structure Ext (M : Addr → Prop) (G H G' H' : Hp) : Prop where
  nw : Nw G H G'
  fr : Fr M H H'
  dm : ∀ a, H' a = none → H a = none
theorem Ext.refl (M : Addr → Prop) (G H : Hp) : Ext M G H G H := ⟨Nw.refl G H, Fr.refl M H, fun _ h => h⟩
theorem Ext.trans {M : Addr → Prop} {G H G1 H1 G2 H2 : Hp} (a : Ext M G H G1 H1) (b : Ext M G1 H1 G2 H2) : Ext M G H G2 H2 :=
  ⟨⟨a.nw.1.trans b.nw.1, fun x h => (b.nw.2 x h).elim (fun z => a.nw.2 x z) fun z => .inr (a.dm x z)⟩, a.fr.trans b.fr, fun x h => a.dm x (b.dm x h)⟩
theorem Ext.same {M : Addr → Prop} {G H G' H' : Hp} (n : Nw G H G') (s : Same H H') : Ext M G H G' H' := ⟨n, Fr.of_same s, fun _ h => Same.free s h⟩
theorem Ext.gg {M : Addr → Prop} {G H G' H' : Hp} (a : Ext M G H G' H') : Same G G' := a.nw.1
theorem ne_none {H : Hp} {a : Addr} (h : H a ≠ none) : ∃ o, H a = some o := Option.ne_none_iff_exists'.mp h

/-- what may be changed: where, and what holds of it (by a count) -/
structure Mu where
  M : Addr → Prop
  I : Nat → Hp → Prop
  st : ∀ c H H', (∀ a o, M a → H a = some o → H' a = some o) → I c H → I c H'
  dom : ∀ c H a, I c H → M a → H a ≠ none
  up : ∀ c c' H, c ≤ c' → I c H → I c' H
def pureMu : Mu := ⟨fun _ => False, fun _ _ => True, fun _ _ _ _ _ => trivial, fun _ _ _ _ h => h.elim, fun _ _ _ _ _ => trivial⟩

/-- what a def has made and may change: a list, a dict, a dict that is locked -/
inductive Ow where
  | lst (ds : List PyData)
  | dct (es : List (Key × PyData))
  | lck (p : Addr) (od : Obj) (kvs : List (Key × V)) (es : List (Key × PyData))
inductive Sl where
  | un
  | dat (d : PyData)
  | ow (k : Ow)
  | raw (v : V)
@[reducible] def Sl.own (ds : List PyData) : Sl := .ow (.lst ds)
@[reducible] def Sl.map (es : List (Key × PyData)) : Sl := .ow (.dct es)
inductive DtM (G : Hp) : List (Key × V) → List (Key × PyData) → Prop
  | nil : DtM G [] []
  | cons {k : Key} {v : V} {d : PyData} {kvs : List (Key × V)} {es : List (Key × PyData)} : Dt G v d → DtM G kvs es → DtM G ((k, v) :: kvs) ((k, d) :: es)
theorem DtM.mono {G G' : Hp} (e : Same G G') : ∀ {vs : List (Key × V)} {ds : List (Key × PyData)}, DtM G vs ds → DtM G' vs ds
  | _, _, .nil => .nil
  | _, _, .cons h r => .cons (h.mono e) (DtM.mono e r)
def OwOk (G : Hp) : Ow → Addr → HO → Prop
  | .lst ds, _, u => ∃ vs, u = .lst vs ∧ DtA G vs ds
  | .dct es, _, u => ∃ kvs, u = .dK kvs ∧ DtM G kvs es
  | .lck q od kvs es, p, u => p = q ∧ u = .frz od (.dK kvs) ∧ DtM G kvs es
theorem OwOk.mono {G G' : Hp} (e : Same G G') {k : Ow} {p : Addr} {u : HO} (h : OwOk G k p u) : OwOk G' k p u := by
  cases k with
  | lst ds => obtain ⟨vs, a, b⟩ := h; exact ⟨vs, a, b.mono e⟩
  | dct ds => obtain ⟨vs, a, b⟩ := h; exact ⟨vs, a, b.mono e⟩
  | lck q od kvs es => exact ⟨h.1, h.2.1, h.2.2.mono e⟩
def SlOk (G H0 H : Hp) : Sl → Option V → Prop
  | .un, _ => True
  | .dat d, o => ∃ v, o = some v ∧ Dt G v d
  | .ow k, o => ∃ p u, o = some (.ref p) ∧ H0 p = none ∧ G p = none ∧ H p = some u ∧ OwOk G k p u
  | .raw v, o => o = some v
def Owns (Γ : List Sl) (σ : L2.St) (i : Nat) (p : Addr) : Prop := (∃ k, Γ[i]? = some (.ow k)) ∧ σ[i]? = some (some (.ref p))
/-- the state: H_0, G_0 the entry's; G what is frozen; c the count -/
structure Stt (μ : Mu) (G0 H0 G : Hp) (Γ : List Sl) (c : Nat) (σ : L2.St) (H : Hp) : Prop where
  len : σ.length = Γ.length
  new : Nw G0 H0 G
  sub : Same G H
  fr : Fr μ.M H0 H
  ent : ∀ a, μ.M a → H0 a ≠ none ∧ G0 a = none
  inv : μ.I c H
  sl : ∀ (i : Nat) (s : Sl), Γ[i]? = some s → ∃ o, σ[i]? = some o ∧ SlOk G H0 H s o
  dj : ∀ (i j : Nat) (p : Addr), Owns Γ σ i p → Owns Γ σ j p → i = j
section
variable {μ : Mu} {G0 H0 G G' : Hp} {Γ : List Sl} {c c' : Nat} {σ : L2.St} {H H' : Hp}
theorem Stt.h0 (S : Stt μ G0 H0 G Γ c σ H) {a : Addr} (h : H a = none) : H0 a = none := by
  cases e : H0 a with
  | none => rfl
  | some o =>
    by_cases m : μ.M a
    · exact absurd h (μ.dom c H a S.inv m)
    · rw [S.fr a o m e] at h; cases h
theorem Stt.gM (S : Stt μ G0 H0 G Γ c σ H) {a : Addr} (m : μ.M a) : G a = none := by
  cases e : G a with
  | none => rfl
  | some o =>
    rcases S.new.2 a (by rw [e]; simp) with h | h
    · exact absurd (S.ent a m).2 h
    · exact absurd h (S.ent a m).1
theorem Nw.trans (S : Stt μ G0 H0 G Γ c σ H) (n : Nw G H G') : Nw G0 H0 G' := by
  refine ⟨S.new.1.trans n.1, fun a h => ?_⟩
  rcases n.2 a h with h1 | h1
  · exact S.new.2 a h1
  · exact .inr (S.h0 h1)
theorem SlOk.ext {s : Sl} {o : Option V} (n : Nw G H G') (hf : ∀ p, H0 p = none → ∀ u, H p = some u → H' p = some u) (h : SlOk G H0 H s o) : SlOk G' H0 H' s o := by
  have free : ∀ p u, G p = none → H p = some u → G' p = none := fun p u g h => by
    cases e : G' p with
    | none => rfl
    | some w =>
      rcases n.2 p (by rw [e]; simp) with q | q
      · exact absurd g q
      · rw [h] at q; cases q
  cases s with
  | un => trivial
  | dat d => obtain ⟨v, e, h⟩ := h; exact ⟨v, e, h.mono n.1⟩
  | ow k => obtain ⟨p, u, e, h0, g, h1, h2⟩ := h; exact ⟨p, u, e, h0, free p _ g h1, hf p h0 _ h1, h2.mono n.1⟩
  | raw v => exact h
/-- the state behind what made new things and changed M alone -/
theorem Stt.ext (S : Stt μ G0 H0 G Γ c σ H) (n : Nw G H G') (s : Same G' H') (f : Fr μ.M H H') (i : μ.I c' H') : Stt μ G0 H0 G' Γ c' σ H' where
  len := S.len
  new := n.trans S
  sub := s
  fr := S.fr.trans f
  ent := S.ent
  inv := i
  sl := fun j s e => by
    obtain ⟨o, h1, h2⟩ := S.sl j s e
    exact ⟨o, h1, h2.ext n fun p h0 u hu => f p u (fun m => (S.ent p m).1 h0) hu⟩
  dj := S.dj
theorem Stt.same (S : Stt μ G0 H0 G Γ c σ H) (n : Nw G H G') (s : Same G' H') (f : Same H H') : Stt μ G0 H0 G' Γ c σ H' :=
  S.ext n s (Fr.of_same f) (μ.st c H H' (fun a o _ e => f a o e) S.inv)
theorem Stt.up (S : Stt μ G0 H0 G Γ c σ H) (h : c ≤ c') : Stt μ G0 H0 G Γ c' σ H :=
  ⟨S.len, S.new, S.sub, S.fr, S.ent, μ.up c c' H h S.inv, S.sl, S.dj⟩
/-- a new frozen object -/
theorem Nw.upd {p : Addr} {o : HO} (h : H p = none) (s : Same G H) : Nw G H (upd G p o) := by
  have g : G p = none := Same.free s h
  refine ⟨Same.new g, fun a e => ?_⟩
  by_cases q : a = p
  · subst q; exact .inr h
  · rw [upd_ne q] at e; exact .inl e
theorem Same.upd2 {p : Addr} {o : HO} (s : Same G H) : Same (upd G p o) (upd H p o) := fun a u e => by
  by_cases q : a = p
  · subst q; rw [upd_same] at e ⊢; exact e
  · rw [upd_ne q] at e ⊢; exact s a u e
theorem Stt.laid (S : Stt μ G0 H0 G Γ c σ H) {p : Addr} {o : HO} (h : H p = none) : Stt μ G0 H0 (upd G p o) Γ c σ (upd H p o) :=
  S.same (Nw.upd h S.sub) (Same.upd2 S.sub) (Same.new h)
/-- a slot is set to data -/
theorem Stt.set (S : Stt μ G0 H0 G Γ c σ H) {i : Nat} {v : V} {s : Sl} (h : SlOk G H0 H s (some v)) (hn : ∀ p, Owns (Γ.set i s) (σ.set i (some v)) i p → ∀ j, j ≠ i → ¬ Owns Γ σ j p) : Stt μ G0 H0 G (Γ.set i s) c (σ.set i (some v)) H where
  len := by rw [List.length_set, List.length_set]; exact S.len
  new := S.new
  sub := S.sub
  fr := S.fr
  ent := S.ent
  inv := S.inv
  sl := fun j t e => by
    by_cases q : j = i
    · subst q
      have hl : j < Γ.length := by
        have := (List.getElem?_eq_some_iff.mp e).1
        rw [List.length_set] at this; exact this
      rw [List.getElem?_set_self hl] at e
      cases e
      exact ⟨some v, List.getElem?_set_self (by rw [S.len]; exact hl), h⟩
    · rw [List.getElem?_set_ne (Ne.symm q)] at e ⊢
      exact S.sl j t e
  dj := fun j k p a b => by
    have oth : ∀ m, m ≠ i → Owns (Γ.set i s) (σ.set i (some v)) m p → Owns Γ σ m p := fun m q o => by
      unfold Owns at o ⊢
      rw [List.getElem?_set_ne (Ne.symm q), List.getElem?_set_ne (Ne.symm q)] at o
      exact o
    by_cases q : j = i
    · subst q
      by_cases q2 : k = j
      · exact q2.symm
      · exact absurd (oth k q2 b) (hn p a k q2)
    · by_cases q2 : k = i
      · subst q2
        exact absurd (oth j q a) (hn p b j q)
      · exact S.dj j k p (oth j q a) (oth k q2 b)
theorem Stt.setD (S : Stt μ G0 H0 G Γ c σ H) {i : Nat} {v : V} {d : PyData} (h : Dt G v d) : Stt μ G0 H0 G (Γ.set i (.dat d)) c (σ.set i (some v)) H :=
  S.set ⟨v, rfl, h⟩ fun p o j _ _ => by
    obtain ⟨k, e⟩ := o.1
    have hi : i < Γ.length := by
      have := (List.getElem?_eq_some_iff.mp e).1
      rw [List.length_set] at this
      exact this
    rw [List.getElem?_set_self hi] at e
    cases e
/-- the slots forgotten -/
theorem Stt.nil (S : Stt μ G0 H0 G Γ c σ H) : Stt μ G0 H0 G [] c [] H :=
  ⟨rfl, S.new, S.sub, S.fr, S.ent, S.inv, fun i s e => by simp at e, fun i j p a _ => by obtain ⟨_, e⟩ := a.1; simp at e⟩
theorem Stt.var (S : Stt μ G0 H0 G Γ c σ H) {i : Nat} {d : PyData} (h : Γ[i]? = some (.dat d)) : ∃ v, σ[i]? = some (some v) ∧ Dt G v d := by
  obtain ⟨o, e, v, rfl, q⟩ := S.sl i _ h
  exact ⟨v, e, q⟩
theorem Stt.raw (S : Stt μ G0 H0 G Γ c σ H) {i : Nat} {v : V} (h : Γ[i]? = some (.raw v)) : σ[i]? = some (some v) := by
  obtain ⟨o, e, rfl⟩ := S.sl i _ h
  exact e
end

/-! ### readings over data -/
def CM : Nat := 1000000
def Ev (μ : Mu) (te : TE) (Γ : List Sl) (n : Nat) (P : PyData → Prop) : Prop :=
  ∀ (G0 H0 G : Hp) (c : Nat) (σ : L2.St) (H : Hp) (Q : VK), Stt μ G0 H0 G Γ c σ H → c + n ≤ CM →
    (∀ d v G' H', P d → Stt μ G0 H0 G' Γ (c + n) σ H' → Ext μ.M G H G' H' → Dt G' v d → Q v H') → te σ H Q
def EvT (μ : Mu) (tt : TT) (Γ : List Sl) (n : Nat) (P : Bool → Prop) : Prop :=
  ∀ (G0 H0 G : Hp) (c : Nat) (σ : L2.St) (H : Hp) (Q : Bool → Hp → Prop), Stt μ G0 H0 G Γ c σ H → c + n ≤ CM →
    (∀ b G' H', P b → Stt μ G0 H0 G' Γ (c + n) σ H' → Ext μ.M G H G' H' → Q b H') → tt σ H Q
def EvA (μ : Mu) (ta : TA) (Γ : List Sl) (n : Nat) (P : List PyData → Prop) : Prop :=
  ∀ (G0 H0 G : Hp) (c : Nat) (σ : L2.St) (H : Hp) (Q : List V → Hp → Prop), Stt μ G0 H0 G Γ c σ H → c + n ≤ CM →
    (∀ ds vs G' H', P ds → Stt μ G0 H0 G' Γ (c + n) σ H' → Ext μ.M G H G' H' → DtA G' vs ds → Q vs H') → ta σ H Q
/-- a two-place operation on data: from x, y (in G) it gives z -/
def RD (r : R2) (x y z : PyData) : Prop := ∀ (G H : Hp) (v w : V) (Q : VK), Same G H → Dt G v x → Dt G w y →
  (∀ u G' H', Nw G H G' → Same G' H' → Same H H' → Dt G' u z → Q u H') → r v w H Q
def RU (r : V → Hp → VK → Prop) (x z : PyData) : Prop := ∀ (G H : Hp) (v : V) (Q : VK), Same G H → Dt G v x →
  (∀ u G' H', Nw G H G' → Same G' H' → Same H H' → Dt G' u z → Q u H') → r v H Q
def RC (r : List V → Hp → VK → Prop) (xs : List PyData) (z : PyData) : Prop := ∀ (G H : Hp) (vs : List V) (Q : VK), Same G H → DtA G vs xs →
  (∀ u G' H', Nw G H G' → Same G' H' → Same H H' → Dt G' u z → Q u H') → r vs H Q
/-- a method of a built-in type -/
def RM (r : V → List V → Hp → VK → Prop) (x : PyData) (xs : List PyData) (z : PyData) : Prop := ∀ (G H : Hp) (v : V) (vs : List V) (Q : VK), Same G H → Dt G v x → DtA G vs xs →
  (∀ u G' H', Nw G H G' → Same G' H' → Same H H' → Dt G' u z → Q u H') → r v vs H Q
section
variable {μ : Mu} {Γ : List Sl} {n n1 n2 : Nat} {P P1 P2 : PyData → Prop} {ta tb te : TE} {t u : TT} {x y z d : PyData} {r : R2} {K : PySem.W.Frag}
theorem Ev.imp (h : Ev μ te Γ n P1) (k : ∀ d, P1 d → P d) : Ev μ te Γ n P := fun G0 H0 G c σ H Q S l q => h G0 H0 G c σ H Q S l fun d v G' H' p => q d v G' H' (k d p)
theorem Ev.is (h : Ev μ te Γ n (Eq x)) (e : x = y) : Ev μ te Γ n (Eq y) := by rw [← e]; exact h
theorem Ev.cnt (h : Ev μ te Γ n1 P) (e : n1 ≤ n) : Ev μ te Γ n P := fun G0 H0 G c σ H Q S l q =>
  h G0 H0 G c σ H Q S (by omega) fun d v G' H' p S' => q d v G' H' p (S'.up (by omega))
theorem EvT.imp {P1 P : Bool → Prop} (h : EvT μ t Γ n P1) (k : ∀ d, P1 d → P d) : EvT μ t Γ n P := fun G0 H0 G c σ H Q S l q => h G0 H0 G c σ H Q S l fun d G' H' p => q d G' H' (k d p)
theorem EvT.is {x y : Bool} (h : EvT μ t Γ n (Eq x)) (e : x = y) : EvT μ t Γ n (Eq y) := by rw [← e]; exact h
theorem ev_var {i : Nat} (h : Γ[i]? = some (.dat d)) : Ev μ (tVar i) Γ 0 (Eq d) := fun G0 H0 G c σ H Q S _ q => by
  obtain ⟨v, e, hd⟩ := S.var h
  exact ⟨v, e, q d v G H rfl S (Ext.refl _ G H) hd⟩
theorem ev_int {i : Int} : Ev μ (tC (.int i)) Γ 0 (Eq (.int i)) := fun _ _ G _ _ H _ S _ q => q _ _ G H rfl S (Ext.refl _ G H) (.int i)
theorem ev_str {i : Str} : Ev μ (tC (.str i)) Γ 0 (Eq (.str i)) := fun _ _ G _ _ H _ S _ q => q _ _ G H rfl S (Ext.refl _ G H) (.str i)
theorem ev_bl {i : Bool} : Ev μ (tC (.bl i)) Γ 0 (Eq (.bool i)) := fun _ _ G _ _ H _ S _ q => q _ _ G H rfl S (Ext.refl _ G H) (.bl i)
theorem ev_non : Ev μ (tC .non) Γ 0 (Eq .none) := fun _ _ G _ _ H _ S _ q => q _ _ G H rfl S (Ext.refl _ G H) .non
/-- a two-place operation, all at once -/
theorem ev_opP (ha : Ev μ ta Γ n1 P1) (hb : Ev μ tb Γ n2 P2) (hr : ∀ x y, P1 x → P2 y → ∃ z, RD r x y z ∧ P z) : Ev μ (tOp r ta tb) Γ (n1 + n2) P := fun G0 H0 G c σ H Q S l q =>
  ha G0 H0 G c σ H _ S (by omega) fun x v G1 H1 p1 S1 e1 d1 => hb G0 H0 G1 (c + n1) σ H1 _ S1 (by omega) fun y w G2 H2 p2 S2 e2 d2 => by
    obtain ⟨z, h, pz⟩ := hr x y p1 p2
    refine h G2 H2 v w Q S2.sub (d1.mono e2.gg) d2 fun u G' H' nw s s' du => ?_
    have S3 := S2.same nw s s'
    rw [Nat.add_assoc] at S3
    exact q z u G' H' pz S3 ((e1.trans e2).trans (.same nw s')) du
theorem ev_op (ha : Ev μ ta Γ n1 (Eq x)) (hb : Ev μ tb Γ n2 (Eq y)) (hr : RD r x y z) : Ev μ (tOp r ta tb) Γ (n1 + n2) (Eq z) :=
  ev_opP ha hb fun _ _ e1 e2 => ⟨z, e1 ▸ e2 ▸ hr, rfl⟩
theorem ev_unP {r : V → Hp → VK → Prop} (ha : Ev μ ta Γ n P1) (hr : ∀ x, P1 x → ∃ z, RU r x z ∧ P z) : Ev μ (tUn r ta) Γ n P := fun G0 H0 G c σ H Q S l q =>
  ha G0 H0 G c σ H _ S l fun x v G1 H1 p1 S1 e1 d1 => by
    obtain ⟨z, h, pz⟩ := hr x p1
    exact h G1 H1 v Q S1.sub d1 fun u G' H' nw s s' du => q z u G' H' pz (S1.same nw s s') (e1.trans (.same nw s')) du
theorem ev_un {r : V → Hp → VK → Prop} (ha : Ev μ ta Γ n (Eq x)) (hr : RU r x z) : Ev μ (tUn r ta) Γ n (Eq z) := ev_unP ha fun _ e => ⟨z, e ▸ hr, rfl⟩
theorem ea_nil : EvA μ tNil Γ 0 (Eq []) := fun _ _ G _ _ H _ S _ q => q _ _ G H rfl S (Ext.refl _ G H) .nil
theorem ea_consP {tr : TA} {P2 P : List PyData → Prop} (ha : Ev μ ta Γ n1 P1) (hb : EvA μ tr Γ n2 P2) (hr : ∀ x y, P1 x → P2 y → P (x :: y)) : EvA μ (tCons ta tr) Γ (n1 + n2) P := fun G0 H0 G c σ H Q S l q =>
  ha G0 H0 G c σ H _ S (by omega) fun x v G1 H1 p1 S1 e1 d1 => hb G0 H0 G1 (c + n1) σ H1 _ S1 (by omega) fun y w G2 H2 p2 S2 e2 d2 => by
    rw [Nat.add_assoc] at S2
    exact q _ _ G2 H2 (hr x y p1 p2) S2 (e1.trans e2) (.cons (d1.mono e2.gg) d2)
theorem ea_cons {tr : TA} {xs : List PyData} (ha : Ev μ ta Γ n1 (Eq x)) (hb : EvA μ tr Γ n2 (Eq xs)) : EvA μ (tCons ta tr) Γ (n1 + n2) (Eq (x :: xs)) :=
  ea_consP ha hb fun _ _ e1 e2 => e1 ▸ e2 ▸ rfl
theorem EvA.imp {ta : TA} {P1 P : List PyData → Prop} (h : EvA μ ta Γ n P1) (k : ∀ d, P1 d → P d) : EvA μ ta Γ n P := fun G0 H0 G c σ H Q S l q => h G0 H0 G c σ H Q S l fun d v G' H' p => q d v G' H' (k d p)
theorem ev_lst {ta : TA} {P1 : List PyData → Prop} (h : EvA μ ta Γ n P1) (hl : ∀ xs, P1 xs → xs.length ≤ 100000) : Ev μ (tLst ta) Γ n (fun d => ∃ xs, P1 xs ∧ d = .list xs) := fun G0 H0 G c σ H Q S l q =>
  h G0 H0 G c σ H _ S l fun ds vs G1 H1 p1 S1 e1 d1 => ⟨by rw [d1.length]; exact Nat.le_trans (hl ds p1) (by decide), fun p hp =>
    q _ _ _ _ ⟨ds, p1, rfl⟩ (S1.laid hp) (e1.trans (.same (Nw.upd hp S1.sub) (Same.new hp))) (.lst upd_same (d1.mono (Nw.upd hp S1.sub).1))⟩
theorem ev_tup {ta : TA} {P1 : List PyData → Prop} (h : EvA μ ta Γ n P1) (hl : ∀ xs, P1 xs → xs.length ≤ 100000) : Ev μ (tTup ta) Γ n (fun d => ∃ xs, P1 xs ∧ d = .tuple xs) := fun G0 H0 G c σ H Q S l q =>
  h G0 H0 G c σ H _ S l fun ds vs G1 H1 p1 S1 e1 d1 => ⟨by rw [d1.length]; exact Nat.le_trans (hl ds p1) (by decide), fun p hp =>
    q _ _ _ _ ⟨ds, p1, rfl⟩ (S1.laid hp) (e1.trans (.same (Nw.upd hp S1.sub) (Same.new hp))) (.tup upd_same (d1.mono (Nw.upd hp S1.sub).1))⟩
theorem ev_lstE {ta : TA} {xs : List PyData} (h : EvA μ ta Γ n (Eq xs)) (hl : xs.length ≤ 100000 := by decide) : Ev μ (tLst ta) Γ n (Eq (.list xs)) :=
  (ev_lst h fun _ e => e ▸ hl).imp fun d ⟨ys, e1, e2⟩ => by rw [e2, ← e1]
theorem ev_tupE {ta : TA} {xs : List PyData} (h : EvA μ ta Γ n (Eq xs)) (hl : xs.length ≤ 100000 := by decide) : Ev μ (tTup ta) Γ n (Eq (.tuple xs)) :=
  (ev_tup h fun _ e => e ▸ hl).imp fun d ⟨ys, e1, e2⟩ => by rw [e2, ← e1]
/-- a built-in's call -/
theorem ev_cbP {r : List V → Hp → VK → Prop} {ta : TA} {P1 : List PyData → Prop} (ha : EvA μ ta Γ n P1) (hr : ∀ xs, P1 xs → ∃ z, RC r xs z ∧ P z) : Ev μ (tCB r ta) Γ n P := fun G0 H0 G c σ H Q S l q =>
  ha G0 H0 G c σ H _ S l fun x v G1 H1 p1 S1 e1 d1 => by
    obtain ⟨z, h, pz⟩ := hr x p1
    exact h G1 H1 v Q S1.sub d1 fun u G' H' nw s s' du => q z u G' H' pz (S1.same nw s s') (e1.trans (.same nw s')) du
theorem ev_cb {r : List V → Hp → VK → Prop} {ta : TA} {xs : List PyData} (ha : EvA μ ta Γ n (Eq xs)) (hr : RC r xs z) : Ev μ (tCB r ta) Γ n (Eq z) := ev_cbP ha fun _ e => ⟨z, e ▸ hr, rfl⟩
/-- a method of a text -/
theorem ev_m1P {r : V → List V → Hp → VK → Prop} (ha : Ev μ ta Γ n1 P1) (hb : Ev μ tb Γ n2 P2) (hx : ∀ x, P1 x → ∃ s, x = .str s) (hr : ∀ x y, P1 x → P2 y → ∃ z, RM r x [y] z ∧ P z) : Ev μ (tM1 r ta tb) Γ (n1 + n2) P := fun G0 H0 G c σ H Q S l q =>
  ha G0 H0 G c σ H _ S (by omega) fun x v G1 H1 p1 S1 e1 d1 => by
    obtain ⟨s, rfl⟩ := hx x p1
    refine ⟨by cases d1; exact ⟨s, rfl⟩, ?_⟩
    refine hb G0 H0 G1 (c + n1) σ H1 _ S1 (by omega) fun y w G2 H2 p2 S2 e2 d2 => ?_
    obtain ⟨z, h, pz⟩ := hr _ y p1 p2
    refine h G2 H2 v [w] Q S2.sub (d1.mono e2.gg) (.one d2) fun u G' H' nw s s' du => ?_
    have S3 := S2.same nw s s'
    rw [Nat.add_assoc] at S3
    exact q z u G' H' pz S3 ((e1.trans e2).trans (.same nw s')) du
theorem ev_m1 {r : V → List V → Hp → VK → Prop} {s : Str} (ha : Ev μ ta Γ n1 (Eq (.str s))) (hb : Ev μ tb Γ n2 (Eq y)) (hr : RM r (.str s) [y] z) : Ev μ (tM1 r ta tb) Γ (n1 + n2) (Eq z) :=
  ev_m1P ha hb (fun _ e => ⟨s, e.symm⟩) fun _ _ e1 e2 => ⟨z, e1 ▸ e2 ▸ hr, rfl⟩
/-! ### tests -/
theorem et_testP {P : Bool → Prop} (h : Ev μ te Γ n P1) (hb : ∀ d, P1 d → ∃ b, d = .bool b ∧ P b) : EvT μ (tTest te) Γ n P := fun G0 H0 G c σ H Q S l q =>
  h G0 H0 G c σ H _ S l fun d v G1 H1 p1 S1 e1 d1 => by
    obtain ⟨b, rfl, pb⟩ := hb d p1
    cases d1
    exact ⟨b, rfl, q b G1 H1 pb S1 e1⟩
theorem et_test {b : Bool} (h : Ev μ te Γ n (Eq (.bool b))) : EvT μ (tTest te) Γ n (Eq b) := et_testP h fun d e => ⟨b, e.symm, rfl⟩
theorem et_B {b : Bool} (h : Ev μ te Γ n (Eq (.bool b))) : EvT μ (tB te) Γ n (Eq b) := fun G0 H0 G c σ H Q S l q =>
  h G0 H0 G c σ H _ S l fun d v G1 H1 p1 S1 e1 d1 => by
    cases p1
    cases d1
    exact ⟨b, rfl, q b G1 H1 rfl S1 e1⟩
theorem et_not {b : Bool} (h : EvT μ t Γ n (Eq b)) : EvT μ (tNot t) Γ n (Eq (!b)) := fun G0 H0 G c σ H Q S l q =>
  h G0 H0 G c σ H _ S l fun d G1 H1 p1 => q (!d) G1 H1 (by rw [p1])
theorem et_and {a b : Bool} (h1 : EvT μ t Γ n1 (Eq a)) (h2 : a = true → EvT μ u Γ n2 (Eq b)) : EvT μ (tAnd t u) Γ (n1 + n2) (Eq (a && b)) := fun G0 H0 G c σ H Q S l q =>
  h1 G0 H0 G c σ H _ S (by omega) fun d G1 H1 p1 S1 e1 => by
    subst p1
    cases a with
    | true =>
      refine iteT (h2 rfl G0 H0 G1 (c + n1) σ H1 _ S1 (by omega) fun d2 G2 H2 p2 S2 e2 => ?_)
      rw [Nat.add_assoc] at S2
      exact q d2 G2 H2 (by rw [← p2]; rfl) S2 (e1.trans e2)
    | false => exact iteF (q false G1 H1 rfl (S1.up (by omega)) e1)
theorem et_or {a b : Bool} (h1 : EvT μ t Γ n1 (Eq a)) (h2 : a = false → EvT μ u Γ n2 (Eq b)) : EvT μ (tOr t u) Γ (n1 + n2) (Eq (a || b)) := fun G0 H0 G c σ H Q S l q =>
  h1 G0 H0 G c σ H _ S (by omega) fun d G1 H1 p1 S1 e1 => by
    subst p1
    cases a with
    | false =>
      refine iteF (h2 rfl G0 H0 G1 (c + n1) σ H1 _ S1 (by omega) fun d2 G2 H2 p2 S2 e2 => ?_)
      rw [Nat.add_assoc] at S2
      exact q d2 G2 H2 (by rw [← p2]; rfl) S2 (e1.trans e2)
    | true => exact iteT (q true G1 H1 rfl (S1.up (by omega)) e1)
theorem ev_andV {a : Bool} (h1 : Ev μ ta Γ n1 (Eq (.bool a))) (h2 : a = true → Ev μ tb Γ n2 (Eq y)) : Ev μ (tAndV ta tb) Γ (n1 + n2) (Eq (if a = true then y else .bool false)) := fun G0 H0 G c σ H Q S l q =>
  h1 G0 H0 G c σ H _ S (by omega) fun d v G1 H1 p1 S1 e1 d1 => by
    subst p1
    cases d1
    refine ⟨a, rfl, ?_⟩
    cases a with
    | true =>
      refine iteT (h2 rfl G0 H0 G1 (c + n1) σ H1 _ S1 (by omega) fun d2 v2 G2 H2 p2 S2 e2 d2' => ?_)
      rw [Nat.add_assoc] at S2
      exact q d2 v2 G2 H2 (by rw [← p2]; rfl) S2 (e1.trans e2) d2'
    | false => exact iteF (q _ _ G1 H1 rfl (S1.up (by omega)) e1 (.bl false))
theorem ev_orV {a : Bool} (h1 : Ev μ ta Γ n1 (Eq (.bool a))) (h2 : a = false → Ev μ tb Γ n2 (Eq y)) : Ev μ (tOrV ta tb) Γ (n1 + n2) (Eq (if a = true then .bool true else y)) := fun G0 H0 G c σ H Q S l q =>
  h1 G0 H0 G c σ H _ S (by omega) fun d v G1 H1 p1 S1 e1 d1 => by
    subst p1
    cases d1
    refine ⟨a, rfl, ?_⟩
    cases a with
    | false =>
      refine iteF (h2 rfl G0 H0 G1 (c + n1) σ H1 _ S1 (by omega) fun d2 v2 G2 H2 p2 S2 e2 d2' => ?_)
      rw [Nat.add_assoc] at S2
      exact q d2 v2 G2 H2 (by rw [← p2]; rfl) S2 (e1.trans e2) d2'
    | true => exact iteT (q _ _ G1 H1 rfl (S1.up (by omega)) e1 (.bl true))
theorem ev_notV {a : Bool} (h1 : Ev μ ta Γ n (Eq (.bool a))) : Ev μ (tNotV ta) Γ n (Eq (.bool (!a))) := fun G0 H0 G c σ H Q S l q =>
  h1 G0 H0 G c σ H _ S l fun d v G1 H1 p1 S1 e1 d1 => by
    subst p1
    cases d1
    exact ⟨a, rfl, q _ _ G1 H1 rfl S1 e1 (.bl _)⟩
theorem ev_if {b : Bool} (h : EvT μ t Γ n (Eq b)) (h1 : b = true → Ev μ ta Γ n1 P) (h2 : b = false → Ev μ tb Γ n2 P) : Ev μ (tIf t ta tb) Γ (n + max n1 n2) P := fun G0 H0 G c σ H Q S l q =>
  h G0 H0 G c σ H _ S (by omega) fun d G1 H1 p1 S1 e1 => by
    subst p1
    cases b with
    | true =>
      refine iteT (h1 rfl G0 H0 G1 (c + n) σ H1 _ S1 (by omega) fun d2 v2 G2 H2 p2 S2 e2 d2' => ?_)
      exact q d2 v2 G2 H2 p2 (S2.up (by omega)) (e1.trans e2) d2'
    | false =>
      refine iteF (h2 rfl G0 H0 G1 (c + n) σ H1 _ S1 (by omega) fun d2 v2 G2 H2 p2 S2 e2 d2' => ?_)
      exact q d2 v2 G2 H2 p2 (S2.up (by omega)) (e1.trans e2) d2'
end
end B

/-! B1: defs whose promise is kept where no repr is under way (guards = some []); statements over data. -/
namespace B
open PySem PySem.Spec PyProof.Rows L2

/-- as FnOk, where no repr is under way around the call -/
structure FnG (P : Program) (w : World) (K : PySem.W.Frag) (mg : Str → Option Value) (base : Heap) (CX : CXT) (k : Nat) (f : Addr) (fd : FuncData) (ps : List Str) (sp : Sp) : Prop where
  many : ∀ vs H Q E, sp vs H Q E → vs.length = ps.length
  runs : ∀ (A : Around) (fs : List Env) (s : Shared) (H : Hp) (given : Args) (us : List Value) (vs : List V) (Q : VK) (E : XK), A.guards = some [] → Room k A → Env0 P w K mg base A fs s H →
    BindsTo s fd given (ps.zip us) → Vals vs us → sp vs H Q E → codeAny (model P w) A (.call (.ref f) given) (CR CX fs P w H s Q E) s
section
variable {P : Program} {w : World} {K : PySem.W.Frag} {mg : Str → Option Value} {base : Heap} {CX : CXT}
theorem FnG.mono {j k : Nat} {f : Addr} {fd : FuncData} {ps : List Str} {sp : Sp} (F : FnG P w K mg base CX j f fd ps sp) (h : j ≤ k) : FnG P w K mg base CX k f fd ps sp :=
  ⟨F.many, fun A fs s H g us vs Q E hg hr => F.runs A fs s H g us vs Q E hg (hr.mono h)⟩
theorem FnG.of_ok {k : Nat} {f : Addr} {fd : FuncData} {ps : List Str} {sp : Sp} (F : FnOk P w K mg base CX k f fd ps sp) : FnG P w K mg base CX k f fd ps sp :=
  ⟨F.len, fun A fs s H g us vs Q E _ hr => F.run A fs s H g us vs Q E hr⟩
theorem FnG.imp {k : Nat} {f : Addr} {fd : FuncData} {ps : List Str} {sp sp' : Sp} (F : FnG P w K mg base CX k f fd ps sp) (h : ∀ vs H Q E, sp' vs H Q E → sp vs H Q E) : FnG P w K mg base CX k f fd ps sp' :=
  ⟨fun vs H Q E q => F.many vs H Q E (h vs H Q E q), fun A fs s H g us vs Q E hg hr he hb hv q => F.runs A fs s H g us vs Q E hg hr he hb hv (h vs H Q E q)⟩
/-- a def's body, the guards known: X is the body's context -/
theorem Fun.okG {x qual : Str} {st : Stmt} {f : Addr} {fd : FuncData} {N ps : List Str} {k : Nat} {sp : Sp} (F : Fun K x qual st f fd) (S : FnScope N ps (defScope st)) (hlen : ∀ vs H Q E, sp vs H Q E → vs.length = ps.length)
    (body : ∀ (cdv : Value) (A : Around) (fs : List Env) (s : Shared) (H : Hp) (vs : List V) (Q : VK) (E : XK), A.guards = some [] → Room k (A.deeper (envOfC qual (defScope st) s.heap.objs.size f cdv)) → sp vs H Q E →
      ∃ t, PSs (cxOf CX P w K mg base N qual (defScope st) f cdv A fs s H E) (defBody st) t ∧ t { nx := fun _ H' => Q .non H', rt := Q } (start N vs) H) :
    FnG P w K mg base CX (k + 1) f fd ps sp := by
  obtain ⟨oc, od, kV, doc, pm, an, cdv, ct, osl, rfl, lk, hcd⟩ := F.ex
  refine ⟨hlen, fun A fs s H g us vs Q E hg hr env hb rel want => ?_⟩
  have inK : K.In s.heap := env.mod.kin.keeps fun b o e => (env.bs b o e).1
  have nolim : s.heap.NoLimit := env.mod.nolimit.keeps fun b o e => (env.bs b o e).1
  have kinds : ∀ y ∈ ps.zip us, (defScope st).names.lookup y.1 = some .local ∨
      ((defScope st).names.lookup y.1 = some .cell ∧ ((cellsFrom (s.heap.objs.size + 1) (defScope st).names []).lookup y.1).isSome = true) := by
    rintro ⟨nm, u⟩ hy
    exact (S.par nm (List.of_mem_zip hy).1).imp id fun c => ⟨c, PySem.W.cellsFrom_some _ _ _ (.inl c)⟩
  apply codeAny_call_function hr.depth (inK _ _ lk) rfl S.co S.gen rfl (PySem.W.codeRec_of inK hcd)
  refine hb _ _ _ _ (wpAny_newFunctionEnv_cells S.kind kinds fun ev hev s1 inC => ?_)
  cases hev
  refine ⟨nolim.keeps inC.toInCall.keep, codeAny_func ?_⟩
  obtain ⟨t, ht, go⟩ := body cdv A fs s H vs Q E hg (hr.deeper _) want
  have I0 := inv_start (CX := CX) (E := E) S hr.hd env (hlen _ _ _ _ want) rel inC
  refine wpAny_mono (ht.run [] s1 (start N vs) H _ I0 go) ?_ fun e s' z => z
  intro fl s' z
  cases fl with
  | ret u =>
    obtain ⟨v, σ', H', J, rv, q⟩ := z
    exact ⟨v, H', J.os, J.bare, J.base, J.hok, rv, q⟩
  | next =>
    obtain ⟨σ', H', J, q⟩ := z
    exact ⟨.non, H', J.os, J.bare, J.base, J.hok, rfl, q⟩
  | brk => exact z.elim fun _ z => z.elim fun _ z => z.2.elim
  | cont => exact z.elim fun _ z => z.elim fun _ z => z.2.elim
/-- .. where nothing that is raised leaves the body -/
theorem Fun.okN {x qual : Str} {st : Stmt} {f : Addr} {fd : FuncData} {N ps : List Str} {k : Nat} {sp : Sp} (F : Fun K x qual st f fd) (S : FnScope N ps (defScope st)) (hlen : ∀ vs H Q E, sp vs H Q E → vs.length = ps.length)
    (body : ∀ (cdv : Value) (A : Around) (fs : List Env) (s : Shared) (H : Hp) (vs : List V) (Q : VK) (E : XK), A.guards = some [] → Room k (A.deeper (envOfC qual (defScope st) s.heap.objs.size f cdv)) → sp vs H Q E →
      ∃ t, PSs (cxOf CX0 P w K mg base N qual (defScope st) f cdv A fs s H E).nox (defBody st) t ∧ t { nx := fun _ H' => Q .non H', rt := Q } (start N vs) H) :
    FnG P w K mg base CX0 (k + 1) f fd ps sp :=
  Fun.okG F S hlen fun cdv A fs s H vs Q E hg hr q => let ⟨t, h, go⟩ := body cdv A fs s H vs Q E hg hr q; ⟨t, h.nox, go⟩
end
section
variable {X : Cx} {CX : CXT} {k : Nat} {f : Addr} {fd : FuncData} {ps ks : List Str} {sp : Sp} {dvs : List V} {ds : List Value} {E : XK} {x : Str} {p pos : Pos} {e : Expr} {es : List Expr} {kws : List Keyword} {t tk : TA}
theorem ends_call {pins : List (Addr × Obj)} {σ : L2.St} {H : Hp} {s : Shared} {Q : VK} (hx : Passes CX X E) (I : Inv X pins σ H s) {r : Result} {s' : Shared} (h : CR CX X.stack X.prog X.w H s Q E r s') :
    match r with
    | .ok (.ret u) => EP X pins σ Q u s'
    | .ok _ => False
    | .error e => X.xe e s' := by
  cases r with
  | error e => exact hx pins σ H s e s' I h
  | ok fl => cases fl <;> first | exact I.after h | exact h
theorem runG {pins : List (Addr × Obj)} {σ : L2.St} {H : Hp} {s : Shared} {Q : VK} {us : List Value} {vs : List V} (F : FnG X.prog X.w X.K X.mg X.base CX k f fd ps sp) (hg : X.A.guards = some []) (hr : Room k X.A) (hb : Binds X.K fd ps ds) (hd : Vals dvs ds) (hx : Passes CX X E)
    (I : Inv X pins σ H s) (r : Vals vs us) (h : sp (vs ++ dvs) H Q E) : wpAny (model X.prog X.w) X.A (call (.ref f) us) (EP X pins σ Q) X.xe s := by
  have rel := r.append hd
  have many := F.many _ _ _ _ h
  rw [rel.length] at many
  refine wpAny_call (codeAny_mono (F.runs X.A X.stack s H ⟨us, []⟩ (us ++ ds) (vs ++ dvs) Q E hg hr I.env0 (hb s us I.kIn many) rel h) fun res s' z => ?_)
  have z' := ends_call hx I z
  cases res with
  | error e => exact z'
  | ok fl => cases fl <;> first | exact z' | exact z'.elim
theorem runGK {pins : List (Addr × Obj)} {σ : L2.St} {H : Hp} {s : Shared} {Q : VK} {us ws : List Value} {vs zs : List V} {g : List Value → List Value → List Value} {gV : List V → List V → List V} (F : FnG X.prog X.w X.K X.mg X.base CX k f fd ps sp) (hg : X.A.guards = some [])
    (hr : Room k X.A) (hb : KBinds X.K fd ps ks g gV) (hx : Passes CX X E) (I : Inv X pins σ H s) (r : Vals vs us) (rz : Vals zs ws) (h : sp (gV vs zs) H Q E) : wpAny (model X.prog X.w) X.A (call (.ref f) us (ks.zip ws)) (EP X pins σ Q) X.xe s := by
  have rel := hb.rel r rz
  have many := F.many _ _ _ _ h
  rw [rel.length] at many
  refine wpAny_call (codeAny_mono (F.runs X.A X.stack s H ⟨us, ks.zip ws⟩ (g us ws) (gV vs zs) Q E hg hr I.env0 (hb.to s us ws I.kIn many) rel h) fun res s' z => ?_)
  have z' := ends_call hx I z
  cases res with
  | error e => exact z'
  | ok fl => cases fl <;> first | exact z' | exact z'.elim
/-- f(e, ..) -/
theorem pc_call (F : FnG X.prog X.w X.K X.mg X.base CX k f fd ps sp) (hG : X.A.guards = some []) (hr : Room k X.A) (hg : Gl X x) (hm : X.mg x = some (.ref f)) (hk : PySem.W.keepIn X.K (.ref f) = true) (hb : Binds X.K fd ps ds) (hd : Vals dvs ds) (hx : Passes CX X E)
    (ha : PA X (e :: es) t) (hdb : (x == ("__debug__" : Str)) = false := by decide) (he : starEach (e :: es) X.env = (false, eval e X.env) :: starEach es X.env := by rfl) (hpl : (backTo pos (starEach es X.env)).any (·.1) = false := by rfl) :
    PE X (.Call (.Name x p) (e :: es) [] pos) (tCall sp dvs E t) := ⟨fun pins s σ H Q I h =>
  wpAny_Call_Name_kw (ld_glob I hg hm (PySem.W.callWith_K (h₀ := X.base) I.mod.kin hk (thn (ha.run pos pins s σ H _ I h) fun us s1 ⟨vs, H1, I1, r, q⟩ => ⟨I1.kIn, runG F hG hr hb hd hx I1 r q⟩) he hpl) hdb)⟩
/-- f() -/
theorem pc_call0 (F : FnG X.prog X.w X.K X.mg X.base CX k f fd ps sp) (hG : X.A.guards = some []) (hr : Room k X.A) (hg : Gl X x) (hm : X.mg x = some (.ref f)) (hk : PySem.W.keepIn X.K (.ref f) = true) (hb : Binds X.K fd ps ds) (hd : Vals dvs ds) (hx : Passes CX X E)
    (hdb : (x == ("__debug__" : Str)) = false := by decide) : PE X (.Call (.Name x p) [] [] pos) (tCall sp dvs E tNil) := ⟨fun pins s σ H Q I h =>
  wpAny_Call_Name_kw (ld_glob I hg hm (PySem.W.callWith_K0 I.kIn hk (runG (us := []) F hG hr hb hd hx I .nil h)) hdb)⟩
/-- f(e, .., k = v, ..) -/
theorem pc_callK {g : List Value → List Value → List Value} {gV : List V → List V → List V} (F : FnG X.prog X.w X.K X.mg X.base CX k f fd ps sp) (hG : X.A.guards = some []) (hr : Room k X.A) (hg : Gl X x) (hm : X.mg x = some (.ref f)) (hk : PySem.W.keepIn X.K (.ref f) = true)
    (hb : KBinds X.K fd ps ks g gV) (hx : Passes CX X E) (ha : PA X (e :: es) t) (hkw : PK X kws tk) (hall : (backToKw pos (keywordEach kws X.env)).all (·.1.isSome) = true := by rfl) (hks : (backToKw pos (keywordEach kws X.env)).filterMap (·.1) = ks := by rfl)
    (hdb : (x == ("__debug__" : Str)) = false := by decide) (he : starEach (e :: es) X.env = (false, eval e X.env) :: starEach es X.env := by rfl)
    (hpl : ((backTo pos (starEach (e :: es) X.env)).any (·.1) || (backToKw pos (keywordEach kws X.env)).any (·.1.isNone)) = false := by rfl) :
    PE X (.Call (.Name x p) (e :: es) kws pos) (tCallK sp gV E t tk) := ⟨fun pins s σ H Q I h =>
  wpAny_Call_Name_kw (ld_glob I hg hm (PySem.W.callWith_KW (h₀ := X.base) I.mod.kin hk hall (thn (ha.run pos pins s σ H _ I h) fun us s1 ⟨vs, H1, I1, r, q⟩ =>
    thn (hkw.run pos pins s1 σ H1 _ I1 q) fun ws s2 ⟨zs, H2, I2, rz, q2⟩ => ⟨I2.kIn, by rw [hks]; exact runGK F hG hr hb hx I2 r rz q2⟩) hpl he) hdb)⟩
end
end B
namespace B
open PySem PySem.Spec PyProof.Rows L2
/-- f(k = v, ..) -/
theorem pc_callK0 {X : Cx} {CX : CXT} {k : Nat} {f : Addr} {fd : FuncData} {ps ks : List Str} {sp : Sp} {E : XK} {x : Str} {p pos : Pos} {kws : List Keyword} {tk : TA} {g : List Value → List Value → List Value} {gV : List V → List V → List V} (F : FnG X.prog X.w X.K X.mg X.base CX k f fd ps sp)
    (hG : X.A.guards = some []) (hr : Room k X.A) (hg : Gl X x) (hm : X.mg x = some (.ref f)) (hk : PySem.W.keepIn X.K (.ref f) = true) (hb : KBinds X.K fd ps ks g gV) (hx : Passes CX X E) (hkw : PK X kws tk)
    (hall : (backToKw pos (keywordEach kws X.env)).all (·.1.isSome) = true := by rfl) (hks : (backToKw pos (keywordEach kws X.env)).filterMap (·.1) = ks := by rfl) (hdb : (x == ("__debug__" : Str)) = false := by decide)
    (hpl : ((backTo pos (starEach [] X.env)).any (·.1) || (backToKw pos (keywordEach kws X.env)).any (·.1.isNone)) = false := by rfl) :
    PE X (.Call (.Name x p) [] kws pos) (tCallK sp gV E tNil tk) := ⟨fun pins s σ H Q I h =>
  wpAny_Call_Name_kw (ld_glob I hg hm (PySem.W.callWith_KW0 (h₀ := X.base) I.mod.kin hk hall (thn (hkw.run pos pins s σ H _ I h) fun ws s2 ⟨zs, H2, I2, rz, q2⟩ =>
    ⟨I2.kIn, by rw [hks]; exact runGK (us := []) F hG hr hb hx I2 .nil rz q2⟩) hpl) hdb)⟩
end B

/-! B2: targets, walks, comprehensions, statements, promises over data. -/
namespace B
open PySem PySem.Spec PyProof.Rows L2

/-! ### slots forgotten -/
def wipeG (Γ : List Sl) : List Nat → List Sl
  | [] => Γ
  | v :: vs => (wipeG Γ vs).set v .un
theorem set_none_comm (σ : L2.St) (i j : Nat) (v : Option V) : i ≠ j → (σ.set i v).set j none = (σ.set j none).set i v := fun h => List.set_comm _ _ h
theorem wipe_set_mem {j : Nat} {v : Option V} : ∀ {vs : List Nat} (σ : L2.St), j ∈ vs → wipe (σ.set j v) vs = wipe σ vs
  | [], _, h => by simp at h
  | w :: ws, σ, h => by
    by_cases hm : j ∈ ws
    · show (wipe (σ.set j v) ws).set w none = (wipe σ ws).set w none
      rw [wipe_set_mem σ hm]
    · have e : j = w := by
        rcases List.mem_cons.mp h with e | e
        · exact e
        · exact absurd e hm
      subst e
      show (wipe (σ.set j v) ws).set j none = (wipe σ ws).set j none
      have : ∀ (us : List Nat) (τ : L2.St), j ∉ us → wipe (τ.set j v) us = (wipe τ us).set j v := by
        intro us
        induction us with
        | nil => intro τ _; rfl
        | cons u us ih =>
          intro τ hu
          have h1 : j ≠ u := fun e => hu (by rw [e]; exact List.mem_cons_self)
          have h2 : j ∉ us := fun e => hu (List.mem_cons_of_mem _ e)
          show (wipe (τ.set j v) us).set u none = ((wipe τ us).set u none).set j v
          rw [ih τ h2, List.set_comm _ _ h1]
      rw [this ws σ hm, List.set_set]
theorem wipe_wipe : ∀ (vs : List Nat) (σ : L2.St) (us : List Nat), (∀ v ∈ vs, v ∈ us) → wipe (wipe σ vs) us = wipe σ us
  | [], _, _, _ => rfl
  | v :: vs, σ, us, h => by
    show wipe ((wipe σ vs).set v none) us = wipe σ us
    rw [wipe_set_mem _ (h v List.mem_cons_self), wipe_wipe vs σ us fun w hw => h w (List.mem_cons_of_mem _ hw)]
section
variable {μ : Mu} {G0 H0 G G' : Hp} {Γ : List Sl} {c c' : Nat} {σ : L2.St} {H H' : Hp}
theorem Stt.unset (S : Stt μ G0 H0 G Γ c σ H) {i : Nat} {o : Option V} : Stt μ G0 H0 G (Γ.set i .un) c (σ.set i o) H where
  len := by rw [List.length_set, List.length_set]; exact S.len
  new := S.new
  sub := S.sub
  fr := S.fr
  ent := S.ent
  inv := S.inv
  sl := fun j t e => by
    by_cases q : j = i
    · subst q
      have hl : j < Γ.length := by
        have := (List.getElem?_eq_some_iff.mp e).1
        rw [List.length_set] at this; exact this
      rw [List.getElem?_set_self hl] at e
      cases e
      exact ⟨o, List.getElem?_set_self (by rw [S.len]; exact hl), trivial⟩
    · rw [List.getElem?_set_ne (Ne.symm q)] at e ⊢
      exact S.sl j t e
  dj := fun j k p a b => by
    have key : ∀ m, Owns (Γ.set i .un) (σ.set i o) m p → m ≠ i := fun m z q => by
      subst q
      obtain ⟨k, e⟩ := z.1
      have hl : m < Γ.length := by
        have := (List.getElem?_eq_some_iff.mp e).1
        rw [List.length_set] at this; exact this
      rw [List.getElem?_set_self hl] at e
      cases e
    have oth : ∀ m, Owns (Γ.set i .un) (σ.set i o) m p → Owns Γ σ m p := fun m z => by
      have q := key m z
      unfold Owns at z ⊢
      rw [List.getElem?_set_ne (Ne.symm q), List.getElem?_set_ne (Ne.symm q)] at z
      exact z
    exact S.dj j k p (oth j a) (oth k b)
theorem Stt.wipe (S : Stt μ G0 H0 G Γ c σ H) : ∀ vs : List Nat, Stt μ G0 H0 G (wipeG Γ vs) c (L2.wipe σ vs) H
  | [] => S
  | v :: vs => (Stt.wipe S vs).unset
end

/-! ### targets -/
def EvG (g : TG) (d : PyData) (is : List Nat) (Γ Γ' : List Sl) : Prop :=
  ∀ (μ : Mu) (G0 H0 G : Hp) (c : Nat) (σ : L2.St) (H : Hp) (v : V) (Q : L2.St → Hp → Prop), Stt μ G0 H0 G Γ c σ H → Dt G v d →
    (∀ σ', Stt μ G0 H0 G Γ' c σ' H → (∀ vs, (∀ i ∈ is, i ∈ vs) → wipe σ' vs = wipe σ vs) → Q σ' H) → g v σ H Q
def EvGs (g : TGs) (ds : List PyData) (is : List Nat) (Γ Γ' : List Sl) : Prop :=
  ∀ (μ : Mu) (G0 H0 G : Hp) (c : Nat) (σ : L2.St) (H : Hp) (vs : List V) (Q : L2.St → Hp → Prop), Stt μ G0 H0 G Γ c σ H → DtA G vs ds →
    (∀ σ', Stt μ G0 H0 G Γ' c σ' H → (∀ vs, (∀ i ∈ is, i ∈ vs) → wipe σ' vs = wipe σ vs) → Q σ' H) → g vs σ H Q
theorem eg_name {i : Nat} {d : PyData} {Γ : List Sl} : EvG (gName i) d [i] Γ (Γ.set i (.dat d)) := fun μ G0 H0 G c σ H v Q S h q =>
  q _ (S.setD h) fun vs hv => wipe_set_mem σ (hv i List.mem_cons_self)
theorem egs_nil {Γ : List Sl} : EvGs gNil [] [] Γ Γ := fun μ G0 H0 G c σ H v Q S h q => by
  cases h
  exact ⟨rfl, q σ S fun _ _ => rfl⟩
theorem egs_cons {g : TG} {gs : TGs} {d : PyData} {ds : List PyData} {is js : List Nat} {Γ Γ1 Γ2 : List Sl} (h1 : EvG g d is Γ Γ1) (h2 : EvGs gs ds js Γ1 Γ2) : EvGs (gCons g gs) (d :: ds) (is ++ js) Γ Γ2 := fun μ G0 H0 G c σ H vs Q S h q => by
  cases h with
  | cons a b =>
    refine ⟨_, _, rfl, h1 μ G0 H0 G c σ H _ _ S a fun σ1 S1 w1 => h2 μ G0 H0 G c σ1 H _ _ S1 b fun σ2 S2 w2 => q σ2 S2 fun us hu => ?_⟩
    rw [w2 us fun i hi => hu i (List.mem_append_right _ hi), w1 us fun i hi => hu i (List.mem_append_left _ hi)]
theorem eg_tup {K : PySem.W.Frag} {n : Nat} {gs : TGs} {ds : List PyData} {is : List Nat} {Γ Γ' : List Sl} (h : EvGs gs ds is Γ Γ') (hn : ds.length = n) : EvG (gTup K n gs) (.tuple ds) is Γ Γ' := fun μ G0 H0 G c σ H v Q S hd q => by
  cases hd with
  | tup e r => exact ⟨_, _, rfl, SqT.of (S.sub _ _ e), by rw [r.length]; exact hn, h μ G0 H0 G c σ H _ _ S r q⟩

/-! ### walks -/
/-- J gives ds, one by one, while G stands and the pins hold -/
structure DWalk (J : It) (G : Hp) (pins : List (Addr × HO)) (ds : List PyData) : Prop where
  go : ∀ i H, i < ds.length → Same G H → (∀ p ∈ pins, H p.1 = some p.2) → J.go i H
  stop : ∀ H, Same G H → (∀ p ∈ pins, H p.1 = some p.2) → J.stop ds.length H
  yld : ∀ i H G1 x H', i < ds.length → Same G G1 → Same G1 H → (∀ p ∈ pins, H p.1 = some p.2) → J.yld i H x H' → ∃ G2 d, ds[i]? = some d ∧ Nw G1 H G2 ∧ Same G2 H' ∧ Same H H' ∧ Dt G2 x d
theorem DWalk.mono {J : It} {G G' : Hp} {pins : List (Addr × HO)} {ds : List PyData} (w : DWalk J G pins ds) (e : Same G G') : DWalk J G' pins ds :=
  ⟨fun i H hi s p => w.go i H hi (e.trans s) p, fun H s p => w.stop H (e.trans s) p, fun i H G1 x H' hi s s1 p y => w.yld i H G1 x H' hi (e.trans s) s1 p y⟩
def EvI (μ : Mu) (wi : TI) (Γ : List Sl) (n : Nat) (P : List PyData → Prop) : Prop :=
  ∀ (G0 H0 G : Hp) (c : Nat) (σ : L2.St) (H : Hp) (R : It → Hp → Prop), Stt μ G0 H0 G Γ c σ H → c + n ≤ CM →
    (∀ ds J pins G' H', P ds → Stt μ G0 H0 G' Γ (c + n) σ H' → Ext μ.M G H G' H' → DWalk J G' pins ds → (∀ p ∈ pins, ¬ μ.M p.1 ∧ H' p.1 = some p.2) → R J H') → wi σ H R
/-- .. without pins -/
def EvW (μ : Mu) (wi : TI) (Γ : List Sl) (n : Nat) (P : List PyData → Prop) : Prop :=
  ∀ (G0 H0 G : Hp) (c : Nat) (σ : L2.St) (H : Hp) (R : It → Hp → Prop), Stt μ G0 H0 G Γ c σ H → c + n ≤ CM →
    (∀ ds J G' H', P ds → Stt μ G0 H0 G' Γ (c + n) σ H' → Ext μ.M G H G' H' → DWalk J G' [] ds → R J H') → wi σ H R
theorem EvW.i {μ : Mu} {wi : TI} {Γ : List Sl} {n : Nat} {P : List PyData → Prop} (h : EvW μ wi Γ n P) : EvI μ wi Γ n P := fun G0 H0 G c σ H R S l q =>
  h G0 H0 G c σ H R S l fun ds J G' H' p S' e w => q ds J [] G' H' p S' e w fun p hp => by simp at hp
theorem EvI.imp {μ : Mu} {wi : TI} {Γ : List Sl} {n : Nat} {P P' : List PyData → Prop} (h : EvI μ wi Γ n P) (k : ∀ d, P d → P' d) : EvI μ wi Γ n P' := fun G0 H0 G c σ H Q S l q => h G0 H0 G c σ H Q S l fun ds J pins G' H' p => q ds J pins G' H' (k ds p)
theorem EvW.imp {μ : Mu} {wi : TI} {Γ : List Sl} {n : Nat} {P P' : List PyData → Prop} (h : EvW μ wi Γ n P) (k : ∀ d, P d → P' d) : EvW μ wi Γ n P' := fun G0 H0 G c σ H Q S l q => h G0 H0 G c σ H Q S l fun ds J G' H' p => q ds J G' H' (k ds p)
section
variable {μ : Mu} {Γ : List Sl} {n : Nat} {K : PySem.W.Frag} {te : TE} {ta : TA}
theorem dwalk_at {J : It} {xs : List V} {G : Hp} {C : Hp → Prop} {pins : List (Addr × HO)} {ds : List PyData} (w : Walk J xs.length C (YAt xs)) (hC : ∀ H, Same G H → (∀ p ∈ pins, H p.1 = some p.2) → C H) (hd : DtA G xs ds) : DWalk J G pins ds := by
  have hl := hd.length
  refine ⟨fun i H hi s p => w.goes i H (by omega) (hC H s p), fun H s p => by rw [← hl]; exact w.stops H (hC H s p), fun i H G1 x H' hi s s1 p y => ?_⟩
  obtain ⟨e1, e2⟩ := w.yields i H x H' (by omega) (hC H (s.trans s1) p) y
  subst e1
  obtain ⟨d, h1, h2⟩ := hd.get e2
  exact ⟨G1, d, h1, Nw.refl _ _, s1, Same.refl _, h2.mono s⟩
theorem dwalk_fn {J : It} {f : Nat → V} {G : Hp} {C : Hp → Prop} {pins : List (Addr × HO)} {ds : List PyData} (w : Walk J ds.length C (YFn f)) (hC : ∀ H, C H) (hd : ∀ i d, ds[i]? = some d → Dt G (f i) d) : DWalk J G pins ds := by
  refine ⟨fun i H hi s p => w.goes i H hi (hC H), fun H s p => w.stops H (hC H), fun i H G1 x H' hi s s1 p y => ?_⟩
  obtain ⟨e1, e2⟩ := w.yields i H x H' hi (hC H) y
  subst e1 e2
  exact ⟨G1, ds[i], List.getElem?_eq_getElem hi, Nw.refl _ _, s1, Same.refl _, (hd i _ (List.getElem?_eq_getElem hi)).mono s⟩
theorem ew_list {P : PyData → Prop} (h : Ev μ te Γ n P) (hl : ∀ d, P d → ∃ ds, d = .list ds) : EvW μ (iList K te) Γ n (fun ds => P (.list ds)) := fun G0 H0 G c σ H R S l q =>
  h G0 H0 G c σ H _ S l fun d v G1 H1 p S1 e hd => by
    obtain ⟨ds, rfl⟩ := hl d p
    cases hd with
    | lst a r => exact ⟨_, rfl, ⟨_, SqL.of (S1.sub _ _ a)⟩, q ds _ G1 H1 p S1 e (dwalk_at walk_list (fun H s _ => SqL.of (s _ _ a)) r)⟩
theorem ew_tup {P : PyData → Prop} (h : Ev μ te Γ n P) (hl : ∀ d, P d → ∃ ds, d = .tuple ds) : EvW μ (iTup K te) Γ n (fun ds => P (.tuple ds)) := fun G0 H0 G c σ H R S l q =>
  h G0 H0 G c σ H _ S l fun d v G1 H1 p S1 e hd => by
    obtain ⟨ds, rfl⟩ := hl d p
    cases hd with
    | tup a r => exact ⟨_, rfl, ⟨_, SqT.of (S1.sub _ _ a)⟩, q ds _ G1 H1 p S1 e (dwalk_at walk_tup (fun H s _ => SqT.of (s _ _ a)) r)⟩
theorem ew_listE {ds : List PyData} (h : Ev μ te Γ n (Eq (.list ds))) : EvW μ (iList K te) Γ n (Eq ds) := (ew_list h fun d e => ⟨ds, e.symm⟩).imp fun d e => by cases e; rfl
theorem ew_tupE {ds : List PyData} (h : Ev μ te Γ n (Eq (.tuple ds))) : EvW μ (iTup K te) Γ n (Eq ds) := (ew_tup h fun d e => ⟨ds, e.symm⟩).imp fun d e => by cases e; rfl
def rngD (lo : Int) (n : Nat) : List PyData := (List.range n).map fun i => .int (lo + (i : Nat))
theorem rngD_len (lo : Int) (n : Nat) : (rngD lo n).length = n := by unfold rngD; rw [List.length_map, List.length_range]
theorem rngD_get {lo : Int} {n i : Nat} {d : PyData} (h : (rngD lo n)[i]? = some d) : d = .int (lo + (i : Nat)) := by
  unfold rngD at h
  have hi := (List.getElem?_eq_some_iff.mp h).1
  rw [List.length_map, List.length_range] at hi
  rw [List.getElem?_map, List.getElem?_range hi] at h
  cases h; rfl
theorem ew_rng1 {P : List PyData → Prop} (h : EvA μ ta Γ n P) (hl : ∀ d, P d → ∃ i : Int, d = [.int i] ∧ i ≤ 1000000 ∧ -1000000 ≤ i) : EvW μ (iRng1 ta) Γ n (fun ds => ∃ i : Int, P [.int i] ∧ ds = rngD 0 i.toNat) := fun G0 H0 G c σ H R S l q =>
  h G0 H0 G c σ H _ S l fun d v G1 H1 p S1 e hd => by
    obtain ⟨i, rfl, b1, b2⟩ := hl d p
    cases hd with
    | cons a r =>
      cases a
      cases r
      refine ⟨i, rfl, by omega, by omega, q _ _ G1 H1 ⟨i, p, rfl⟩ S1 e (dwalk_fn (C := fun _ => True) (by rw [rngD_len]; exact walk_range) (fun _ => trivial) fun j d h => ?_)⟩
      rw [rngD_get h]
      exact .int _
theorem ew_rng1E {i : Int} (h : EvA μ ta Γ n (Eq [.int i])) (h1 : i ≤ 1000000) (h2 : -1000000 ≤ i) : EvW μ (iRng1 ta) Γ n (Eq (rngD 0 i.toNat)) :=
  (ew_rng1 h fun d e => ⟨i, e.symm, h1, h2⟩).imp fun d ⟨j, e1, e2⟩ => by cases e1; exact e2.symm
theorem ew_rng2E {i j : Int} (h : EvA μ ta Γ n (Eq [.int i, .int j])) (h1 : i ≤ 1000000) (h2 : -1000000 ≤ i) (h3 : j ≤ 1000000) (h4 : -1000000 ≤ j) : EvW μ (iRng2 ta) Γ n (Eq (rngD i (j - i).toNat)) := fun G0 H0 G c σ H R S l q =>
  h G0 H0 G c σ H _ S l fun d v G1 H1 p S1 e hd => by
    cases p
    cases hd with
    | cons a r =>
      cases a
      cases r with
      | cons a r =>
        cases a
        cases r
        refine ⟨i, j, rfl, by omega, q _ _ G1 H1 rfl S1 e (dwalk_fn (C := fun _ => True) (by rw [rngD_len]; exact walk_range) (fun _ => trivial) fun j d h => ?_)⟩
        rw [rngD_get h]
        exact .int _
def chD (z : Str) : List PyData := z.cps.toList.map fun c => .str ⟨#[c]⟩
theorem ew_str {z : Str} (h : Ev μ te Γ n (Eq (.str z))) : EvW μ (iStr te) Γ n (Eq (chD z)) := fun G0 H0 G c σ H R S l q =>
  h G0 H0 G c σ H _ S l fun d v G1 H1 p S1 e hd => by
    cases p
    cases hd
    refine ⟨z, rfl, q _ _ G1 H1 rfl S1 e ?_⟩
    have hl : (chD z).length = z.cps.size := by unfold chD; simp
    refine ⟨fun i H hi s p => (walk_str (z := z)).goes i H (by omega) trivial, fun H s p => by rw [hl]; exact (walk_str (z := z)).stops H trivial, fun i H G2 x H' hi s s1 p y => ?_⟩
    obtain ⟨e1, ch, hc, e2⟩ := (walk_str (z := z)).yields i H x H' (by omega) trivial y
    subst e1 e2
    refine ⟨G2, .str ⟨#[ch]⟩, ?_, Nw.refl _ _, s1, Same.refl _, .str _⟩
    unfold chD
    rw [List.getElem?_map, Array.getElem?_toList, hc]; rfl
end

/-! ### comprehensions -/
theorem Stt.of {μ : Mu} {G0 H0 G G' : Hp} {Γ Γ' : List Sl} {c c' : Nat} {σ σ' : L2.St} {H H' : Hp} (S : Stt μ G0 H0 G Γ c σ H) (e : Ext μ.M G H G' H') (S' : Stt μ G0 H0 G' Γ' c' σ' H') : Stt μ G0 H0 G' Γ c' σ H' := S.ext e.nw S'.sub e.fr S'.inv
theorem Ext.out {M : Addr → Prop} {G H G' H' : Hp} {p : Addr} {o : HO} (e : Ext M G H G' H') (g : G p = none) (h : H p = some o) : G' p = none := by
  cases z : G' p with
  | none => rfl
  | some u =>
    rcases e.nw.2 p (by rw [z]; simp) with q | q
    · exact absurd g q
    · rw [h] at q; cases q
section
variable {μ : Mu} {Γ : List Sl} {n k m : Nat} {te : TE} {tt : TT} {wi : TI} {g : TG} {vs is : List Nat}
/-- what stands between two turns of a comprehension: D holds what was made -/
structure LcW (μ : Mu) (G0 H0 G1 H1 : Hp) (Γ : List Sl) (c : Nat) (σ : L2.St) (D : Addr) (R : List PyData → Prop) (H' : Hp) : Prop where
  ex : ∃ G' es us, Stt μ G0 H0 G' Γ c σ H' ∧ Ext μ.M G1 H1 G' H' ∧ G' D = none ∧ H' D = some (.lst us) ∧ DtA G' us es ∧ R es
/-- the general rule: R i tells what was made in the first i turns, w how much was drawn -/
theorem ev_lcR {Pd : List PyData → Prop} {P : PyData → Prop} {w : Nat → Nat} (hi : EvI μ wi Γ n Pd) (hm : ∀ ds, Pd ds → ds.length ≤ 50000) (hv : ∀ i ∈ is, i ∈ vs) (R : List PyData → Nat → List PyData → Prop) (h0 : ∀ ds, Pd ds → R ds 0 []) (hw : ∀ i, w i ≤ w (i + 1)) (hwm : ∀ ds, Pd ds → w ds.length ≤ m)
    (hlen : ∀ ds i es, Pd ds → R ds i es → es.length ≤ i) (hend : ∀ ds es, Pd ds → R ds ds.length es → P (.list es))
    (ht : ∀ ds (i : Nat) d es, Pd ds → ds[i]? = some d → R ds i es → ∃ Γ' f k1 k2 Pe, EvG g d is (wipeG Γ vs) Γ' ∧ EvT μ tt Γ' k1 (Eq f) ∧ (f = true → Ev μ te Γ' k2 Pe ∧ (∀ e, Pe e → R ds (i + 1) (es ++ [e]))) ∧ (f = false → R ds (i + 1) es) ∧ w i + k1 + k2 ≤ w (i + 1)) :
    Ev μ (tLc wi g tt te vs) Γ (n + m) P := fun G0 H0 G c σ H Q S l q => by
  refine hi G0 H0 G c σ H _ S (by omega) fun ds J pins G1 H1 p S1 e1 wk hp => fun D hD => ?_
  have hml := hm ds p
  have hwm' := hwm ds p
  have hwmono : ∀ i j, i ≤ j → w i ≤ w j := fun i j hij => by
    induction hij with
    | refl => exact Nat.le_refl _
    | step _ ih => exact Nat.le_trans ih (hw _)
  have hMD : ¬ μ.M D := fun hm' => (S1.ent D hm').1 (S1.h0 hD)
  refine ⟨fun i left H' => left = ds.length - i ∧ i ≤ ds.length ∧ LcW μ G0 H0 G1 H1 Γ (c + n + w i) σ D (R ds i) H',
    ⟨ds.length, by omega, Nat.zero_le _, ⟨G1, [], [], ?_, .same (Nw.refl _ _) (Same.new hD), Same.free S1.sub hD, upd_same, .nil, h0 ds p⟩⟩, fun i left H' hW => ?_⟩
  · exact (S1.same (G' := G1) (H' := upd H1 D (.lst [])) (Nw.refl _ _) (S1.sub.trans (Same.new hD)) (Same.new hD)).up (by omega)
  · obtain ⟨rfl, hil, G2, es, us, S2, e2, gD, hH, hd, hR⟩ := hW
    have pin2 : ∀ p ∈ pins, H' p.1 = some p.2 := fun p' hp' => e2.fr _ _ (hp p' hp').1 (hp p' hp').2
    by_cases hi : i < ds.length
    · refine .inr ⟨wk.go i H' hi (e2.gg.trans S2.sub) pin2, LcW μ G0 H0 G1 H1 Γ (c + n + w (i + 1)) σ D (R ds (i + 1)), fun H'' z => ⟨ds.length - (i + 1), by omega, rfl, by omega, z⟩, fun x H3 y => ?_⟩
      obtain ⟨G3, d, hdd, nw, s3, s3', hx⟩ := wk.yld i H' G2 x H3 hi e2.gg S2.sub pin2 y
      obtain ⟨Γ', f, k1, k2, Pe, hg, htt, he, hf, hk⟩ := ht ds i d es p hdd hR
      have S3 := S2.same nw s3 s3'
      have e3 : Ext μ.M G2 H' G3 H3 := .same nw s3'
      have hwi := hwmono (i + 1) ds.length (by omega)
      refine hg μ G0 H0 G3 _ _ H3 x _ (S3.wipe vs) hx fun σ' S4 hwp => ⟨?_, ?_⟩
      · rw [hwp vs hv, wipe_wipe vs σ vs fun _ h => h]
      refine htt G0 H0 G3 _ σ' H3 _ S4 (by omega) fun b G5 H5 pb S5 e5 => ?_
      subst pb
      have e35 := e3.trans e5
      have hD5 : H5 D = some (.lst us) := e35.fr _ _ hMD hH
      have gD5 : G5 D = none := e35.out gD hH
      cases f with
      | true =>
        obtain ⟨hev, hRe⟩ := he rfl
        show te σ' H5 _
        refine hev G0 H0 G5 _ σ' H5 _ S5 (by omega) fun d6 v6 G6 H6 p6 S6 e6 hd6 => ?_
        have e36 := e35.trans e6
        have hD6 : H6 D = some (.lst us) := e6.fr _ _ hMD hD5
        have gD6 : G6 D = none := e6.out gD5 hD5
        have hlen' := hlen ds i es p hR
        have fresh : ∀ a o, G6 a = some o → a ≠ D := fun a o ha z => by rw [z, gD6] at ha; cases ha
        refine ⟨us, hD6, ?_, ⟨G6, es ++ [d6], us ++ [v6], ?_, ?_, gD6, upd_same, (hd.mono e36.gg).append (.one hd6), hRe d6 p6⟩⟩
        · rw [hd.length]
          exact Nat.lt_of_le_of_lt hlen' (Nat.lt_of_lt_of_le (show i < 50000 by omega) (by decide))
        · have Sx := (S2.of e36 S6).up (c' := c + n + w (i + 1)) (by omega)
          refine ⟨Sx.len, Sx.new, fun a o ha => by rw [upd_ne (fresh a o ha)]; exact Sx.sub a o ha, fun a o ha hh => ?_, Sx.ent, ?_, fun j s hs => ?_, Sx.dj⟩
          · have : a ≠ D := fun z => by
              subst z
              rw [S1.h0 hD] at hh; cases hh
            rw [upd_ne this]; exact Sx.fr a o ha hh
          · exact μ.st _ H6 _ (fun a o ha hh => by
              have na : a ≠ D := fun z => by rw [z] at ha; exact hMD ha
              rw [upd_ne na]; exact hh) Sx.inv
          · obtain ⟨o, ho, hok⟩ := Sx.sl j s hs
            refine ⟨o, ho, ?_⟩
            have hnD : ∀ q u, Owns Γ σ j q → H6 q = some u → (upd H6 D (.lst (us ++ [v6]))) q = some u := fun q u ow hu => by
              have : q ≠ D := fun z => by
                subst z
                obtain ⟨o1, ho1, hok1⟩ := S1.sl j s hs
                rw [ow.2] at ho1; cases ho1
                obtain ⟨xs, hx⟩ := ow.1
                rw [hx] at hs; cases hs
                obtain ⟨q', vs', z1, _, _, z2, _⟩ := hok1
                cases z1; rw [hD] at z2; cases z2
              rw [upd_ne this]; exact hu
            cases s with
            | un => trivial
            | dat d => exact hok
            | raw v => exact hok
            | ow xs => obtain ⟨q, vs', z1, z2, z3, z4, z5⟩ := hok; subst z1; exact ⟨q, vs', rfl, z2, z3, hnD q _ ⟨⟨_, hs⟩, ho⟩ z4, z5⟩
        · have ee := e2.trans e36
          refine ⟨ee.nw, fun a o ha hh => ?_, fun a ha => ?_⟩
          · rw [upd_ne (fun z => by subst z; rw [hD] at hh; cases hh)]; exact ee.fr a o ha hh
          · by_cases z : a = D
            · subst z; exact hD
            · rw [upd_ne z] at ha; exact ee.dm a ha
      | false =>
        show LcW _ _ _ _ _ _ _ _ _ _ _
        exact ⟨G5, es, us, (S2.of e35 S5).up (by omega), e2.trans e35, gD5, hD5, hd.mono e35.gg, hf rfl⟩
    · have ei : i = ds.length := by omega
      subst ei
      refine .inl ⟨wk.stop H' (e2.gg.trans S2.sub) pin2, ?_⟩
      -- the new list is frozen
      have hnew : Nw G1 H1 (upd G2 D (.lst us)) := ⟨e2.gg.trans (Same.new gD), fun a ha => by
        by_cases z : a = D
        · subst z; exact .inr hD
        · rw [upd_ne z] at ha; exact e2.nw.2 a ha⟩
      have hsub : Same (upd G2 D (.lst us)) H' := fun a o ha => by
        by_cases z : a = D
        · subst z; rw [upd_same] at ha; rw [hH]; exact ha
        · rw [upd_ne z] at ha; exact S2.sub a o ha
      have e4 : Ext μ.M G1 H1 (upd G2 D (.lst us)) H' := ⟨hnew, e2.fr, e2.dm⟩
      refine q _ _ _ H' (hend ds es p hR) ?_ (e1.trans e4) (.lst upd_same (hd.mono (Same.new gD)))
      exact S1.ext hnew hsub e2.fr (μ.up _ _ _ (by omega) S2.inv)
/-- each turn draws k at most and gives something of P -/
theorem ev_lcP {Pd : List PyData → Prop} {P : PyData → Prop} (hi : EvI μ wi Γ n Pd) (hm : ∀ ds, Pd ds → ds.length ≤ m) (hm2 : m ≤ 50000) (hv : ∀ i ∈ is, i ∈ vs)
    (ht : ∀ ds d, Pd ds → d ∈ ds → ∃ Γ', EvG g d is (wipeG Γ vs) Γ' ∧ Ev μ te Γ' k P) :
    Ev μ (tLc wi g tYes te vs) Γ (n + m * k) (fun d => ∃ es ds, d = .list es ∧ Pd ds ∧ es.length = ds.length ∧ ∀ e ∈ es, P e) :=
  ev_lcR (w := fun i => i * k) hi (fun ds p => Nat.le_trans (hm ds p) hm2) hv (fun ds i es => es.length = i ∧ ∀ e ∈ es, P e) (fun _ _ => ⟨rfl, by simp⟩) (fun i => Nat.mul_le_mul_right _ (Nat.le_succ _)) (fun ds p => Nat.mul_le_mul_right _ (hm ds p))
    (fun ds i es _ h => Nat.le_of_eq h.1) (fun ds es p h => ⟨es, ds, rfl, p, h⟩) fun ds i d es p hd hR => by
      obtain ⟨Γ', hg, he⟩ := ht ds d p (List.mem_of_getElem? hd)
      refine ⟨Γ', true, 0, k, P, hg, fun _ _ G c σ H Q S l q => q true G H rfl S (Ext.refl _ G H), fun _ => ⟨he, fun e pe => ⟨by rw [List.length_append, hR.1]; rfl, fun e' he' => ?_⟩⟩, (fun z => by cases z), by rw [Nat.add_mul]; omega⟩
      rcases List.mem_append.mp he' with z | z
      · exact hR.2 e' z
      · rw [List.mem_singleton.mp z]; exact pe
/-- no drawing: what is kept, what is made of it -/
theorem ev_lcE {ds : List PyData} (hi : EvI μ wi Γ n (Eq ds)) (hm : ds.length ≤ 50000) (hv : ∀ i ∈ is, i ∈ vs) (f : PyData → Bool) (h : PyData → PyData)
    (ht : ∀ d, d ∈ ds → ∃ Γ', EvG g d is (wipeG Γ vs) Γ' ∧ EvT μ tt Γ' 0 (Eq (f d)) ∧ (f d = true → Ev μ te Γ' 0 (Eq (h d)))) :
    Ev μ (tLc wi g tt te vs) Γ n (Eq (.list ((ds.filter f).map h))) := by
  have key := ev_lcR (w := fun _ => 0) (m := 0) (P := Eq (.list ((ds.filter f).map h))) hi (fun ds p => by cases p; exact hm) hv (fun ds' i es => es = ((ds'.take i).filter f).map h) (fun _ _ => rfl) (fun _ => Nat.le_refl _) (fun _ _ => Nat.le_refl _)
    (fun ds' i es _ e => by
      rw [e, List.length_map]
      exact Nat.le_trans (List.length_filter_le _ _) (by rw [List.length_take]; omega)) (fun ds' es p e => by cases p; rw [e, List.take_length]) fun ds' i d es p hd hR => by
      cases p
      obtain ⟨Γ', hg, h1, h2⟩ := ht d (List.mem_of_getElem? hd)
      have ht' : ds.take (i + 1) = ds.take i ++ [d] := by rw [List.take_add_one, hd]; rfl
      refine ⟨Γ', f d, 0, 0, Eq (h d), hg, h1, fun z => ⟨h2 z, fun e pe => ?_⟩, fun z => ?_, Nat.le_refl _⟩
      · rw [ht', List.filter_append, List.map_append, ← hR, ← pe]
        simp [z]
      · rw [ht', List.filter_append, List.map_append, ← hR]
        simp [z]
  exact key
theorem et_yes {Γ : List Sl} : EvT μ tYes Γ 0 (Eq true) := fun _ _ G c σ H Q S l q => q true G H rfl S (Ext.refl _ G H)
/-- .. everything is kept -/
theorem ev_lcM {ds : List PyData} (hi : EvI μ wi Γ n (Eq ds)) (hm : ds.length ≤ 50000) (hv : ∀ i ∈ is, i ∈ vs) (h : PyData → PyData)
    (ht : ∀ d, d ∈ ds → ∃ Γ', EvG g d is (wipeG Γ vs) Γ' ∧ Ev μ te Γ' 0 (Eq (h d))) : Ev μ (tLc wi g tYes te vs) Γ n (Eq (.list (ds.map h))) := by
  have := ev_lcE (tt := tYes) hi hm hv (fun _ => true) h fun d hd => let ⟨Γ', a, b⟩ := ht d hd; ⟨Γ', a, et_yes, fun _ => b⟩
  rw [List.filter_eq_self.mpr fun _ _ => rfl] at this
  exact this
end
end B

/-! B3: statements over data; promises; defs. -/
namespace B
open PySem PySem.Spec PyProof.Rows L2

structure Po where
  nx : List Sl → Nat → Prop
  rt : PyData → Nat → Prop
  bk : List Sl → Nat → Prop := fun _ _ => False
  ct : List Sl → Nat → Prop := fun _ _ => False
  /-- what must hold of the slots where it returns -/
  rg : List Sl → Prop := fun _ => True
/-- Gs: what was frozen ahead, and stays -/
structure Leads (μ : Mu) (G0 H0 Gs : Hp) (R : Po) (D : Ends) : Prop where
  nx : ∀ Γ c G σ H, R.nx Γ c → Stt μ G0 H0 G Γ c σ H → Same Gs G → D.nx σ H
  rt : ∀ Γ σ d c v G H, R.rt d c → R.rg Γ → Stt μ G0 H0 G Γ c σ H → Dt G v d → D.rt v H
  bk : ∀ Γ c G σ H, R.bk Γ c → Stt μ G0 H0 G Γ c σ H → Same Gs G → D.bk σ H
  ct : ∀ Γ c G σ H, R.ct Γ c → Stt μ G0 H0 G Γ c σ H → Same Gs G → D.ct σ H
def Go (μ : Mu) (ts : TS) (Γ : List Sl) (c : Nat) (R : Po) : Prop :=
  ∀ (G0 H0 Gs G : Hp) (σ : L2.St) (H : Hp) (D : Ends), Stt μ G0 H0 G Γ c σ H → Same Gs G → Leads μ G0 H0 Gs R D → ts D σ H
section
variable {μ : Mu} {Γ : List Sl} {c n : Nat} {R : Po} {t u ts : TS} {te : TE} {tt : TT} {wi : TI} {g : TG} {P : PyData → Prop} {i j : Nat} {is : List Nat}
theorem go_seq (h : Go μ t Γ c { R with nx := fun Γ' c' => Go μ u Γ' c' R }) : Go μ (tSeq t u) Γ c R := fun G0 H0 Gs G σ H D S gs L =>
  h G0 H0 Gs G σ H { D with nx := u D } S gs ⟨fun Γ' c' G' σ' H' q S' gs' => q G0 H0 Gs G' σ' H' D S' gs' L, L.rt, L.bk, L.ct⟩
theorem go_next (h : R.nx Γ c) : Go μ tNext Γ c R := fun G0 H0 Gs G σ H D S gs L => L.nx Γ c G σ H h S gs
theorem go_brk (h : R.bk Γ c) : Go μ tBreak Γ c R := fun G0 H0 Gs G σ H D S gs L => L.bk Γ c G σ H h S gs
theorem go_cont (h : R.ct Γ c) : Go μ tCont Γ c R := fun G0 H0 Gs G σ H D S gs L => L.ct Γ c G σ H h S gs
theorem go_asg (h : Ev μ te Γ n P) (hc : c + n ≤ CM) (k : ∀ d, P d → ∃ is Γ', EvG g d is Γ Γ' ∧ R.nx Γ' (c + n)) : Go μ (tAsg te g) Γ c R := fun G0 H0 Gs G σ H D S gs L =>
  h G0 H0 G c σ H _ S hc fun d v G1 H1 p S1 e1 d1 => by
    obtain ⟨is, Γ', hg, q⟩ := k d p
    exact hg μ G0 H0 G1 _ σ H1 v _ S1 d1 fun σ' S' _ => L.nx Γ' _ G1 σ' H1 q S' (gs.trans e1.gg)
theorem go_set (h : Ev μ te Γ n P) (hc : c + n ≤ CM) (k : ∀ d, P d → R.nx (Γ.set i (.dat d)) (c + n)) : Go μ (tAsg te (gName i)) Γ c R :=
  go_asg h hc fun d p => ⟨_, _, eg_name, k d p⟩
/-- x = e; the rest -/
theorem gs_set (h : Ev μ te Γ n P) (hc : c + n ≤ CM) (k : ∀ d, P d → Go μ u (Γ.set i (.dat d)) (c + n) R) : Go μ (tSeq (tAsg te (gName i)) u) Γ c R := go_seq (go_set h hc k)
theorem gs_setE {d : PyData} (h : Ev μ te Γ 0 (Eq d)) (hc : c ≤ CM) (k : Go μ u (Γ.set i (.dat d)) c R) : Go μ (tSeq (tAsg te (gName i)) u) Γ c R := gs_set h hc fun d' e => e ▸ k
theorem gs_asgE {d : PyData} {Γ' : List Sl} (h : Ev μ te Γ 0 (Eq d)) (hc : c ≤ CM) (hg : EvG g d is Γ Γ') (k : Go μ u Γ' c R) : Go μ (tSeq (tAsg te g) u) Γ c R := go_seq (go_asg h hc fun d' e => ⟨is, Γ', e ▸ hg, k⟩)
theorem go_drop (h : Ev μ te Γ n P) (hc : c + n ≤ CM) (k : R.nx Γ (c + n)) : Go μ (tDrop te) Γ c R := fun G0 H0 Gs G σ H D S gs L =>
  h G0 H0 G c σ H _ S hc fun d v G1 H1 p S1 e1 d1 => L.nx Γ _ G1 σ H1 k S1 (gs.trans e1.gg)
theorem go_ret (h : Ev μ te Γ n P) (hc : c + n ≤ CM) (k : ∀ d, P d → R.rt d (c + n)) (hg : R.rg Γ := by trivial) : Go μ (tRet te) Γ c R := fun G0 H0 Gs G σ H D S gs L =>
  h G0 H0 G c σ H _ S hc fun d v G1 H1 p S1 e1 d1 => L.rt Γ σ d _ v G1 H1 (k d p) hg S1 d1
theorem go_retE {d : PyData} (h : Ev μ te Γ 0 (Eq d)) (hc : c ≤ CM) (k : R.rt d c) (hg : R.rg Γ := by trivial) : Go μ (tRet te) Γ c R := go_ret h hc (fun d' e => e ▸ k) hg
theorem go_retN (k : R.rt .none c) (hg : R.rg Γ := by trivial) : Go μ tRetN Γ c R := fun G0 H0 Gs G σ H D S gs L => L.rt Γ σ .none c .non G H k hg S .non
theorem go_if {PB : Bool → Prop} (h : EvT μ tt Γ n PB) (hc : c + n ≤ CM) (h1 : PB true → Go μ t Γ (c + n) R) (h2 : PB false → Go μ u Γ (c + n) R) : Go μ (tIfS tt t u) Γ c R := fun G0 H0 Gs G σ H D S gs L =>
  h G0 H0 G c σ H _ S hc fun b G1 H1 p S1 e1 => by
    cases b with
    | true => exact iteT (h1 p G0 H0 Gs G1 σ H1 D S1 (gs.trans e1.gg) L)
    | false => exact iteF (h2 p G0 H0 Gs G1 σ H1 D S1 (gs.trans e1.gg) L)
theorem gs_if {PB : Bool → Prop} {v : TS} (h : EvT μ tt Γ n PB) (hc : c + n ≤ CM) (h1 : PB true → Go μ (tSeq t v) Γ (c + n) R) (h2 : PB false → Go μ (tSeq u v) Γ (c + n) R) : Go μ (tSeq (tIfS tt t u) v) Γ c R := fun G0 H0 Gs G σ H D S gs L =>
  h G0 H0 G c σ H _ S hc fun b G1 H1 p S1 e1 => by
    cases b with
    | true => exact iteT (h1 p G0 H0 Gs G1 σ H1 D S1 (gs.trans e1.gg) L)
    | false => exact iteF (h2 p G0 H0 Gs G1 σ H1 D S1 (gs.trans e1.gg) L)
/-- if t: suite; rest -/
theorem gs_when {PB : Bool → Prop} {v : TS} (h : EvT μ tt Γ n PB) (hc : c + n ≤ CM) (h1 : PB true → Go μ (tSeq t v) Γ (c + n) R) (h2 : PB false → Go μ v Γ (c + n) R) : Go μ (tSeq (tIfS tt t tNext) v) Γ c R :=
  gs_if h hc h1 fun p => go_seq (go_next (h2 p))
theorem gs_ret {v : TS} (h : Go μ (tRet te) Γ c R) : Go μ (tSeq (tRet te) v) Γ c R := go_seq (fun G0 H0 Gs G σ H D S gs L => h G0 H0 Gs G σ H { D with nx := fun _ _ => True } S gs ⟨fun _ _ _ _ _ _ _ _ => trivial, L.rt, L.bk, L.ct⟩)
theorem Go.up {c' : Nat} (h : Go μ ts Γ c' R) (hc : c ≤ c') : Go μ ts Γ c R := fun G0 H0 Gs G σ H D S gs L => h G0 H0 Gs G σ H D (S.up hc) gs L
theorem Go.imp {R' : Po} (h : Go μ ts Γ c R') (hn : ∀ Γ c, R'.nx Γ c → R.nx Γ c) (hr : ∀ d c, R'.rt d c → R.rt d c) (hb : ∀ Γ c, R'.bk Γ c → R.bk Γ c) (ht : ∀ Γ c, R'.ct Γ c → R.ct Γ c) (hrg : ∀ Γ, R'.rg Γ → R.rg Γ := by exact fun _ z => z) : Go μ ts Γ c R := fun G0 H0 Gs G σ H D S gs L =>
  h G0 H0 Gs G σ H D S gs ⟨fun Γ c G σ H q => L.nx Γ c G σ H (hn Γ c q), fun Γ σ d c v G H q g => L.rt Γ σ d c v G H (hr d c q) (hrg Γ g), fun Γ c G σ H q => L.bk Γ c G σ H (hb Γ c q), fun Γ c G σ H q => L.ct Γ c G σ H (ht Γ c q)⟩

/-! ### own lists -/
/-- an own list is given up to the data -/
theorem Stt.freezeO {G0 H0 G : Hp} {σ : L2.St} {H : Hp} {k : Ow} {p : Addr} {u : HO} {d : PyData} (S : Stt μ G0 H0 G Γ c σ H) (h : Γ[i]? = some (.ow k)) (ho : σ[i]? = some (some (.ref p))) (h0 : H0 p = none) (g : G p = none) (hp : H p = some u) (hd : Dt (upd G p u) (.ref p) d) :
    Stt μ G0 H0 (upd G p u) (Γ.set i (.dat d)) c σ H := by
  have hl : i < Γ.length := (List.getElem?_eq_some_iff.mp h).1
  have hsub : Same (upd G p u) H := fun a o ha => by
    by_cases z : a = p
    · subst z; rw [upd_same] at ha; rw [hp]; exact ha
    · rw [upd_ne z] at ha; exact S.sub a o ha
  have oth : ∀ m, Owns (Γ.set i (.dat d)) σ m = fun q => m ≠ i ∧ Owns Γ σ m q := fun m => by
    funext q
    unfold Owns
    by_cases z : m = i
    · subst z
      rw [List.getElem?_set_self hl]
      simp
    · rw [List.getElem?_set_ne (Ne.symm z)]
      simp [z]
  refine ⟨by rw [List.length_set]; exact S.len, ⟨S.new.1.trans (Same.new g), fun a ha => ?_⟩, hsub, S.fr, S.ent, S.inv, fun j s hj => ?_, fun j k q a b => ?_⟩
  · by_cases z : a = p
    · subst z; exact .inr h0
    · rw [upd_ne z] at ha; exact S.new.2 a ha
  · by_cases z : j = i
    · subst z
      rw [List.getElem?_set_self hl] at hj
      cases hj
      exact ⟨_, ho, .ref p, rfl, hd⟩
    · rw [List.getElem?_set_ne (Ne.symm z)] at hj
      obtain ⟨o, ho', hk⟩ := S.sl j s hj
      refine ⟨o, ho', ?_⟩
      have ne : ∀ q, Owns Γ σ j q → q ≠ p := fun q hq e => by
        subst e
        exact z (S.dj j i q hq ⟨⟨k, h⟩, ho⟩)
      cases s with
      | un => trivial
      | dat d => obtain ⟨v, e, hv⟩ := hk; exact ⟨v, e, hv.mono (Same.new g)⟩
      | raw v => exact hk
      | ow xs =>
        obtain ⟨q, us, e, a1, a2, a3, a4⟩ := hk
        subst e
        exact ⟨q, us, rfl, a1, by rw [upd_ne (ne q ⟨⟨_, hj⟩, ho'⟩)]; exact a2, a3, a4.mono (Same.new g)⟩
  · have a' := (congrFun (oth j) q).mp a
    have b' := (congrFun (oth k) q).mp b
    exact S.dj j k q a'.2 b'.2
theorem Stt.freeze {G0 H0 G : Hp} {σ : L2.St} {H : Hp} {ds : List PyData} (S : Stt μ G0 H0 G Γ c σ H) (h : Γ[i]? = some (.own ds)) :
    ∃ p vs, σ[i]? = some (some (.ref p)) ∧ H0 p = none ∧ G p = none ∧ H p = some (.lst vs) ∧ DtA G vs ds ∧ Stt μ G0 H0 (upd G p (.lst vs)) (Γ.set i (.dat (.list ds))) c σ H := by
  obtain ⟨o, ho, p, u, rfl, h0, g, hp, vs, rfl, hd⟩ := S.sl i _ h
  exact ⟨p, vs, ho, h0, g, hp, hd, S.freezeO h ho h0 g hp (.lst upd_same (hd.mono (Same.new g)))⟩
theorem go_freeze {ds : List PyData} (h : Γ[i]? = some (.own ds)) (k : Go μ ts (Γ.set i (.dat (.list ds))) c R) : Go μ ts Γ c R := fun G0 H0 Gs G σ H D S gs L => by
  obtain ⟨p, vs, _, _, g, _, _, S'⟩ := S.freeze h
  exact k G0 H0 Gs _ σ H D S' (gs.trans (Same.new g)) L
theorem DtM.toK {G : Hp} : ∀ {kvs : List (Key × V)} {es : List (Key × PyData)}, DtM G kvs es → DtK G kvs (es.map fun e => (keyD e.1, e.2))
  | _, _, .nil => .nil
  | _, _, .cons h r => .cons h (DtM.toK r)
/-- an own dict is given up to the data -/
theorem go_freezeD {es : List (Key × PyData)} (h : Γ[i]? = some (.map es)) (k : Go μ ts (Γ.set i (.dat (.dict (es.map fun e => (keyD e.1, e.2))))) c R) : Go μ ts Γ c R := fun G0 H0 Gs G σ H D S gs L => by
  obtain ⟨o, ho, p, u, rfl, h0, g, hp, kvs, rfl, hd⟩ := S.sl i _ h
  exact k G0 H0 Gs _ σ H D (S.freezeO h ho h0 g hp (.dct upd_same (hd.mono (Same.new g)).toK)) (gs.trans (Same.new g)) L
/-- a new own thing at a slot -/
theorem Stt.newOw {G0 H0 G : Hp} {σ : L2.St} {H : Hp} {p : Addr} {u : HO} {k : Ow} (S : Stt μ G0 H0 G Γ c σ H) (hp : H p = none) (hd : OwOk G k p u) : Stt μ G0 H0 G (Γ.set i (.ow k)) c (σ.set i (some (.ref p))) (upd H p u) := by
  have S1 := S.same (G' := G) (H' := upd H p u) (Nw.refl _ _) (S.sub.trans (Same.new hp)) (Same.new hp)
  refine S1.set ⟨p, u, rfl, S.h0 hp, Same.free S.sub hp, upd_same, hd⟩ fun q o j hj ow => ?_
  have eq : q = p := by
    have hi : i < σ.length := by
      have := (List.getElem?_eq_some_iff.mp o.2).1
      rw [List.length_set] at this; exact this
    have := o.2
    rw [List.getElem?_set_self hi] at this
    cases this; rfl
  subst eq
  obtain ⟨xs, hx⟩ := ow.1
  obtain ⟨o', ho', q', us, e, _, _, h1, _⟩ := S.sl j _ hx
  subst e
  rw [ow.2] at ho'; cases ho'
  rw [hp] at h1; cases h1
theorem Stt.newOwn {G0 H0 G : Hp} {σ : L2.St} {H : Hp} {p : Addr} {vs : List V} {ds : List PyData} (S : Stt μ G0 H0 G Γ c σ H) (hp : H p = none) (hd : DtA G vs ds) : Stt μ G0 H0 G (Γ.set i (.own ds)) c (σ.set i (some (.ref p))) (upd H p (.lst vs)) :=
  S.newOw hp ⟨vs, rfl, hd⟩
theorem go_own0 (k : R.nx (Γ.set i (.own [])) c) : Go μ (tAsg (tLst tNil) (gName i)) Γ c R := fun G0 H0 Gs G σ H D S gs L =>
  ⟨Nat.zero_le _, fun p hp => L.nx _ _ G _ _ k (S.newOwn hp .nil) gs⟩
theorem go_map0 (k : R.nx (Γ.set i (.map [])) c) : Go μ (tAsg tDNewK (gName i)) Γ c R := fun G0 H0 Gs G σ H D S gs L =>
  fun p hp => L.nx _ _ G _ _ k (S.newOw hp ⟨[], rfl, .nil⟩) gs
/-- an own thing is changed -/
theorem Stt.putOw {G0 H0 G : Hp} {σ : L2.St} {H : Hp} {p : Addr} {u : HO} {k k' : Ow} (S : Stt μ G0 H0 G Γ c σ H) (h : Γ[i]? = some (.ow k)) (hs : σ[i]? = some (some (.ref p))) (hd : OwOk G k' p u) : Stt μ G0 H0 G (Γ.set i (.ow k')) c σ (upd H p u) := by
  obtain ⟨o, ho, p', us, rfl, h0, g, hp, _⟩ := S.sl i _ h
  rw [hs] at ho; cases ho
  have hl : i < Γ.length := (List.getElem?_eq_some_iff.mp h).1
  have hM : ¬ μ.M p := fun m => (S.ent p m).1 h0
  have oth : ∀ m q, Owns (Γ.set i (.ow k')) σ m q → Owns Γ σ m q := fun m q z => by
    unfold Owns at z ⊢
    by_cases e : m = i
    · subst e
      rw [List.getElem?_set_self hl] at z
      exact ⟨⟨k, h⟩, z.2⟩
    · rw [List.getElem?_set_ne (Ne.symm e)] at z
      exact z
  refine ⟨by rw [List.length_set]; exact S.len, S.new, fun a o ha => ?_, fun a o ha hh => ?_, S.ent, ?_, fun j s hj => ?_, fun j k q a b => S.dj j k q (oth j q a) (oth k q b)⟩
  · rw [upd_ne (fun z => by subst z; rw [g] at ha; cases ha)]; exact S.sub a o ha
  · rw [upd_ne (fun z => by subst z; rw [h0] at hh; cases hh)]; exact S.fr a o ha hh
  · exact μ.st _ H _ (fun a o ha hh => by
      have na : a ≠ p := fun z => by rw [z] at ha; exact hM ha
      rw [upd_ne na]; exact hh) S.inv
  · by_cases z : j = i
    · subst z
      rw [List.getElem?_set_self hl] at hj
      cases hj
      exact ⟨_, hs, p, u, rfl, h0, g, upd_same, hd⟩
    · rw [List.getElem?_set_ne (Ne.symm z)] at hj
      obtain ⟨o, ho', hk⟩ := S.sl j s hj
      refine ⟨o, ho', ?_⟩
      have ne : ∀ q, Owns Γ σ j q → q ≠ p := fun q hq e => by
        subst e
        exact z (S.dj j i q hq ⟨⟨k, h⟩, hs⟩)
      cases s with
      | un => trivial
      | dat d => exact hk
      | raw v => exact hk
      | ow xs =>
        obtain ⟨q, us, e, a1, a2, a3, a4⟩ := hk
        subst e
        exact ⟨q, us, rfl, a1, a2, by rw [upd_ne (ne q ⟨⟨_, hj⟩, ho'⟩)]; exact a3, a4⟩
/-- x.append(e) -/
theorem Stt.putOwn {G0 H0 G : Hp} {σ : L2.St} {H : Hp} {p : Addr} {vs : List V} {ds es : List PyData} (S : Stt μ G0 H0 G Γ c σ H) (h : Γ[i]? = some (.own es)) (hs : σ[i]? = some (some (.ref p))) (hd : DtA G vs ds) : Stt μ G0 H0 G (Γ.set i (.own ds)) c σ (upd H p (.lst vs)) :=
  S.putOw h hs ⟨vs, rfl, hd⟩
theorem Stt.owO {G0 H0 G : Hp} {σ : L2.St} {H : Hp} {k : Ow} (S : Stt μ G0 H0 G Γ c σ H) (h : Γ[i]? = some (.ow k)) : ∃ p u, σ[i]? = some (some (.ref p)) ∧ ¬ μ.M p ∧ H0 p = none ∧ G p = none ∧ H p = some u ∧ OwOk G k p u := by
  obtain ⟨o, ho, p, u, rfl, h0, g, hp, hd⟩ := S.sl i _ h
  exact ⟨p, u, ho, fun m => (S.ent p m).1 h0, h0, g, hp, hd⟩
theorem Stt.own {G0 H0 G : Hp} {σ : L2.St} {H : Hp} {ds : List PyData} (S : Stt μ G0 H0 G Γ c σ H) (h : Γ[i]? = some (.own ds)) : ∃ p vs, σ[i]? = some (some (.ref p)) ∧ ¬ μ.M p ∧ H p = some (.lst vs) ∧ DtA G vs ds := by
  obtain ⟨p, u, ho, hM, h0, g, hp, vs, rfl, hd⟩ := S.owO h
  exact ⟨p, vs, ho, hM, hp, hd⟩
theorem Stt.dct {G0 H0 G : Hp} {σ : L2.St} {H : Hp} {es : List (Key × PyData)} (S : Stt μ G0 H0 G Γ c σ H) (h : Γ[i]? = some (.map es)) : ∃ p kvs, σ[i]? = some (some (.ref p)) ∧ ¬ μ.M p ∧ H p = some (.dK kvs) ∧ DtM G kvs es := by
  obtain ⟨p, u, ho, hM, h0, g, hp, vs, rfl, hd⟩ := S.owO h
  exact ⟨p, vs, ho, hM, hp, hd⟩
theorem go_app {K : PySem.W.Frag} {ds : List PyData} (h : Γ[i]? = some (.own ds)) (he : Ev μ te Γ n P) (hl : ds.length ≤ 50000) (hc : c + n ≤ CM) (k : ∀ d, P d → R.nx (Γ.set i (.own (ds ++ [d]))) (c + n)) :
    Go μ (tDrop (tBM K "list" rAppend (tVar i) (tCons te tNil))) Γ c R := fun G0 H0 Gs G σ H D S gs L => by
  obtain ⟨p, vs, hs, hM, hp, hd⟩ := S.own h
  refine ⟨.ref p, hs, .inl ⟨rfl, _, SqL.of hp⟩, he G0 H0 G c σ H _ S hc fun d v G1 H1 pd S1 e1 d1 => ?_⟩
  have hp1 := e1.fr _ _ hM hp
  exact ⟨p, vs, v, rfl, rfl, hp1, by rw [hd.length]; exact Nat.lt_of_le_of_lt hl (by decide), L.nx _ _ G1 σ _ (k d pd) (S1.putOwn h hs ((hd.mono e1.gg).append (.one d1))) (gs.trans e1.gg)⟩
/-- x.extend(e), e a list of data -/
theorem go_ext {K : PySem.W.Frag} {ds : List PyData} (h : Γ[i]? = some (.own ds)) (he : Ev μ te Γ n P) (hl : ds.length ≤ 50000) (hP : ∀ d, P d → ∃ es, d = .list es ∧ es.length ≤ 50000) (hc : c + n ≤ CM) (k : ∀ es, P (.list es) → R.nx (Γ.set i (.own (ds ++ es))) (c + n)) :
    Go μ (tDrop (tBM K "list" (fun x vs H Q => ∃ l b xs zs, x = .ref l ∧ vs = [.ref b] ∧ H l = some (.lst xs) ∧ H b = some (.lst zs) ∧ xs.length + zs.length ≤ sizeLine ∧ Q .non (upd H l (.lst (xs ++ zs)))) (tVar i) (tCons te tNil))) Γ c R := fun G0 H0 Gs G σ H D S gs L => by
  obtain ⟨p, vs, hs, hM, hp, hd⟩ := S.own h
  refine ⟨.ref p, hs, .inl ⟨rfl, _, SqL.of hp⟩, he G0 H0 G c σ H _ S hc fun d v G1 H1 pd S1 e1 d1 => ?_⟩
  have hp1 := e1.fr _ _ hM hp
  obtain ⟨es, rfl, hle⟩ := hP d pd
  cases d1 with
  | lst a r =>
    refine ⟨p, _, vs, _, rfl, rfl, hp1, S1.sub _ _ a, ?_, L.nx _ _ G1 σ _ (k es pd) (S1.putOwn h hs ((hd.mono e1.gg).append r)) (gs.trans e1.gg)⟩
    rw [hd.length, r.length]
    exact Nat.le_trans (Nat.add_le_add hl hle) (by decide)

/-! ### loops -/
theorem go_for {Pd : List PyData → Prop} (hi : EvW μ wi Γ n Pd) (hc : c + n ≤ CM) (hk : ∀ ds, Pd ds → ∃ J : Nat → List Sl → Nat → Prop, J 0 Γ (c + n) ∧
      (∀ (i : Nat) d Γ' c', ds[i]? = some d → J i Γ' c' → ∃ is Γ'', EvG g d is Γ' Γ'' ∧ Go μ ts Γ'' c' { R with nx := J (i + 1), ct := J (i + 1), bk := R.nx }) ∧ ∀ Γ' c', J ds.length Γ' c' → R.nx Γ' c') :
    Go μ (tFor wi g ts) Γ c R := fun G0 H0 Gs G σ H D S gs L =>
  hi G0 H0 G c σ H _ S hc fun ds J G1 H1 p S1 e1 w => by
    obtain ⟨Jv, h0, hs, hd⟩ := hk ds p
    refine ⟨fun i left σ' H' => left = ds.length - i ∧ i ≤ ds.length ∧ ∃ Γ' c' G', Jv i Γ' c' ∧ Stt μ G0 H0 G' Γ' c' σ' H' ∧ Same G1 G', ⟨ds.length, by omega, Nat.zero_le _, Γ, _, G1, h0, S1, Same.refl _⟩, fun i left σ' H' hW => ?_⟩
    obtain ⟨rfl, hil, Γ', c', G2, hJ, S2, e2⟩ := hW
    by_cases hi : i < ds.length
    · refine .inr ⟨w.go i H' hi (e2.trans S2.sub) (by simp), fun σ'' H'' => ∃ Γ' c' G', Jv (i + 1) Γ' c' ∧ Stt μ G0 H0 G' Γ' c' σ'' H'' ∧ Same G1 G', fun σ'' H'' z => ⟨ds.length - (i + 1), by omega, rfl, by omega, z⟩, fun x H3 y => ?_⟩
      obtain ⟨G3, d, hdd, nw, s3, s3', hx⟩ := w.yld i H' G2 x H3 hi e2 S2.sub (by simp) y
      obtain ⟨is, Γ'', hg, hgo⟩ := hs i d Γ' c' hdd hJ
      have S3 := S2.same nw s3 s3'
      refine hg μ G0 H0 G3 c' σ' H3 x _ S3 hx fun σ4 S4 _ => ?_
      refine hgo G0 H0 G1 G3 σ4 H3 _ S4 (e2.trans nw.1) ⟨fun Γ5 c5 G5 σ5 H5 q S5 g5 => ⟨Γ5, c5, G5, q, S5, g5⟩, L.rt, fun Γ5 c5 G5 σ5 H5 q S5 g5 => L.nx Γ5 c5 G5 σ5 H5 q S5 ((gs.trans e1.gg).trans g5), fun Γ5 c5 G5 σ5 H5 q S5 g5 => ⟨Γ5, c5, G5, q, S5, g5⟩⟩
    · have ei : i = ds.length := by omega
      subst ei
      exact .inl ⟨w.stop H' (e2.trans S2.sub) (by simp), L.nx Γ' c' G2 σ' H' (hd Γ' c' hJ) S2 ((gs.trans e1.gg).trans e2)⟩
/-- while: W with its measure -/
theorem go_while (W : Nat → List Sl → Nat → Prop) (m0 : Nat) (h0 : W m0 Γ c) (hs : ∀ m Γ' c', W m Γ' c' → ∃ n b, EvT μ tt Γ' n (Eq b) ∧ c' + n ≤ CM ∧
      (b = true → Go μ ts Γ' (c' + n) { R with nx := fun Γ2 c2 => ∃ m', m' < m ∧ W m' Γ2 c2, ct := fun Γ2 c2 => ∃ m', m' < m ∧ W m' Γ2 c2, bk := R.nx }) ∧ (b = false → R.nx Γ' (c' + n))) :
    Go μ (tWhile tt ts) Γ c R := fun G0 H0 Gs G σ H D S gs L => by
  refine ⟨fun m σ' H' => ∃ Γ' c' G', W m Γ' c' ∧ Stt μ G0 H0 G' Γ' c' σ' H' ∧ Same Gs G', ⟨m0, Γ, c, G, h0, S, gs⟩, fun m σ' H' hW => ?_⟩
  obtain ⟨Γ', c', G2, hw, S2, e2⟩ := hW
  obtain ⟨n, b, ht, hc, h1, h2⟩ := hs m Γ' c' hw
  refine ht G0 H0 G2 c' σ' H' _ S2 hc fun b' G3 H3 pb S3 e3 => ?_
  subst pb
  cases b with
  | true =>
    refine iteT ⟨fun σ5 H5 => ∃ m', m' < m ∧ ∃ Γ' c' G', W m' Γ' c' ∧ Stt μ G0 H0 G' Γ' c' σ5 H5 ∧ Same Gs G', fun σ5 H5 ⟨m', hm, z⟩ => ⟨m', hm, z⟩, ?_⟩
    refine h1 rfl G0 H0 Gs G3 σ' H3 _ S3 (e2.trans e3.gg) ⟨fun Γ5 c5 G5 σ5 H5 q S5 g5 => ?_, L.rt, L.nx, fun Γ5 c5 G5 σ5 H5 q S5 g5 => ?_⟩
    · obtain ⟨m', hm, z⟩ := q; exact ⟨m', hm, Γ5, c5, G5, z, S5, g5⟩
    · obtain ⟨m', hm, z⟩ := q; exact ⟨m', hm, Γ5, c5, G5, z, S5, g5⟩
  | false => exact iteF (L.nx Γ' _ G3 σ' H3 (h2 rfl) S3 (e2.trans e3.gg))
end

/-! ### promises -/
/-- a def that changes nothing: data in, data out -/
def spP (pre : List PyData → Prop) (post : List PyData → PyData → Prop) : Sp := fun vs H Q _ => ∃ G ds, Same G H ∧ DtA G vs ds ∧ pre ds ∧ ∀ d v G' H', post ds d → Nw G H G' → Same G' H' → Same H H' → Dt G' v d → Q v H'
/-- the box: three ints, the third counts -/
def BoxAt (b : Addr) (c : Nat) (H : Hp) : Prop := ∃ f s n : Int, H b = some (.lst [.int f, .int s, .int n]) ∧ 0 ≤ f ∧ f < 10 ^ 300 ∧ 0 ≤ s ∧ s < 2 ^ 61 ∧ 0 ≤ n ∧ n ≤ c
def boxMu (b : Addr) : Mu := ⟨fun a => a = b, BoxAt b, fun c H H' h ⟨f, s, n, e, r⟩ => ⟨f, s, n, h b _ rfl e, r⟩, fun c H a ⟨f, s, n, e, _⟩ m => by
  have m' : a = b := m
  subst m'
  rw [e]; simp, fun c c' H h ⟨f, s, n, e, r1, r2, r3, r4, r5, r6⟩ => ⟨f, s, n, e, r1, r2, r3, r4, r5, by omega⟩⟩
/-- a def that draws k numbers at most from the box, its first argument -/
def spB (k : Nat) (pre : List PyData → Prop) (post : List PyData → PyData → Prop) : Sp := fun vs H Q _ => ∃ b ws c G ds, vs = .ref b :: ws ∧ Same G H ∧ G b = none ∧ BoxAt b c H ∧ c + k ≤ CM ∧ DtA G ws ds ∧ pre ds ∧
  ∀ d v G' H', post ds d → Ext (fun a => a = b) G H G' H' → Same G' H' → BoxAt b (c + k) H' → Dt G' v d → Q v H'
section
variable {μ : Mu} {Γ : List Sl} {n k : Nat} {ta tk : TA} {E : XK} {P : List PyData → Prop} {pre : List PyData → Prop} {post : List PyData → PyData → Prop} {b : Addr} {i : Nat}
theorem ev_call (ha : EvA μ ta Γ n P) (hp : ∀ xs, P xs → pre xs) : Ev μ (tCall (spP pre post) [] E ta) Γ n (fun d => ∃ xs, P xs ∧ post xs d) := fun G0 H0 G c σ H Q S l q =>
  ha G0 H0 G c σ H _ S l fun xs vs G1 H1 p S1 e1 d1 => ⟨G1, xs, S1.sub, by rw [List.append_nil]; exact d1, hp xs p, fun d v G' H' po nw s s' hd => q d v G' H' ⟨xs, p, po⟩ (S1.same nw s s') (e1.trans (.same nw s')) hd⟩
theorem ev_callE {xs : List PyData} {d : PyData} (ha : EvA μ ta Γ n (Eq xs)) (hp : pre xs) (hd : ∀ e, post xs e → d = e) : Ev μ (tCall (spP pre post) [] E ta) Γ n (Eq d) := (ev_call ha fun _ e => e ▸ hp).imp fun d ⟨ys, e, po⟩ => hd d (e ▸ po)
theorem ev_callK {gV : List V → List V → List V} {xs ys zs : List PyData} {n' : Nat} (ha : EvA μ ta Γ n (Eq xs)) (hk : EvA μ tk Γ n' (Eq ys)) (hg : ∀ G vs ws, DtA G vs xs → DtA G ws ys → DtA G (gV vs ws) zs) (hp : pre zs) : Ev μ (tCallK (spP pre post) gV E ta tk) Γ (n + n') (fun d => post zs d) := fun G0 H0 G c σ H Q S l q =>
  ha G0 H0 G c σ H _ S (by omega) fun xs' vs G1 H1 p S1 e1 d1 => hk G0 H0 G1 _ σ H1 _ S1 (by omega) fun ys' ws G2 H2 p2 S2 e2 d2 => by
    cases p; cases p2
    rw [Nat.add_assoc] at S2
    exact ⟨G2, zs, S2.sub, hg G2 vs ws (d1.mono e2.gg) d2, hp, fun d v G' H' po nw s s' hd => q d v G' H' po (S2.same nw s s') ((e1.trans e2).trans (.same nw s')) hd⟩
theorem ev_callB (hi : Γ[i]? = some (.raw (.ref b))) (ha : EvA (boxMu b) ta Γ n P) (hp : ∀ xs, P xs → pre xs) : Ev (boxMu b) (tCall (spB k pre post) [] E (tCons (tVar i) ta)) Γ (n + k) (fun d => ∃ xs, P xs ∧ post xs d) := fun G0 H0 G c σ H Q S l q =>
  ⟨.ref b, S.raw hi, ha G0 H0 G c σ H _ S (by omega) fun xs vs G1 H1 p S1 e1 d1 => by
    refine ⟨b, vs, c + n, G1, xs, by rw [List.append_nil], S1.sub, S1.gM (rfl : b = b), S1.inv, by omega, d1, hp xs p, fun d v G' H' po e s bx hd => ?_⟩
    rw [Nat.add_assoc] at bx
    exact q d v G' H' ⟨xs, p, po⟩ (S1.ext e.nw s e.fr bx) (e1.trans e) hd⟩
theorem ev_callB1 (hi : Γ[i]? = some (.raw (.ref b))) (hp : pre []) : Ev (boxMu b) (tCall (spB k pre post) [] E (tCons (tVar i) tNil)) Γ k (fun d => post [] d) := by
  have := ev_callB (post := post) (k := k) (E := E) hi ea_nil (pre := pre) fun _ e => e ▸ hp
  rw [Nat.zero_add] at this
  exact this.imp fun d ⟨xs, e, po⟩ => e ▸ po
end

/-! ### defs -/
def datΓ (N : List Str) (ds : List PyData) : List Sl := ds.map .dat ++ List.replicate (N.length - ds.length) .un
theorem start_ok {μ : Mu} {N : List Str} {G H : Hp} {vs : List V} {ds : List PyData} (pre : List V) (pres : List Sl) (hpl : pre.length = pres.length) (hraw : ∀ (i : Nat) s, pres[i]? = some s → ∃ v, pre[i]? = some v ∧ s = .raw v)
    (s : Same G H) (hM : ∀ a, μ.M a → H a ≠ none ∧ G a = none) {c : Nat} (hI : μ.I c H) (hd : DtA G vs ds) :
    Stt μ G H G (pres ++ ds.map .dat ++ List.replicate (N.length - (pre ++ vs).length) .un) c (start N (pre ++ vs)) H := by
  have hl := hd.length
  have get : ∀ (i : Nat) s, (pres ++ ds.map Sl.dat ++ List.replicate (N.length - (pre ++ vs).length) Sl.un)[i]? = some s → ∃ o, (start N (pre ++ vs))[i]? = some o ∧ SlOk G H H s o ∧ ((∃ d, s = .dat d) ∨ s = .un ∨ ∃ v, s = .raw v) := by
    intro i s hs
    unfold L2.start
    by_cases h1 : i < pres.length
    · rw [List.append_assoc, List.getElem?_append_left h1] at hs
      obtain ⟨v, hv, rfl⟩ := hraw i s hs
      refine ⟨some v, ?_, rfl, .inr (.inr ⟨v, rfl⟩)⟩
      rw [List.getElem?_append_left (by simp; omega), List.getElem?_map, List.getElem?_append_left (by omega), hv]; rfl
    · by_cases h2 : i < pres.length + ds.length
      · rw [List.getElem?_append_left (by simpa using h2), List.getElem?_append_right (by omega), List.getElem?_map] at hs
        cases hq : ds[i - pres.length]? with
        | none => rw [hq] at hs; cases hs
        | some d =>
          rw [hq] at hs; cases hs
          obtain ⟨v, hv, hdv⟩ := hd.getD hq
          refine ⟨some v, ?_, ⟨v, rfl, hdv⟩, .inl ⟨d, rfl⟩⟩
          rw [List.getElem?_append_left (by simp; omega), List.getElem?_map, List.getElem?_append_right (by omega), hpl, hv]; rfl
      · rw [List.getElem?_append_right (by simp; omega)] at hs
        rw [List.getElem?_replicate] at hs
        split at hs
        · rename_i hr
          cases hs
          refine ⟨none, ?_, trivial, .inr (.inl rfl)⟩
          rw [List.getElem?_append_right (by simp; omega), List.getElem?_replicate, if_pos]
          simp at hr ⊢
          omega
        · cases hs
  refine ⟨?_, Nw.refl _ _, s, Fr.refl _ _, hM, hI, fun i s hs => let ⟨o, a, b, _⟩ := get i s hs; ⟨o, a, b⟩, fun i j p a b => ?_⟩
  · unfold L2.start
    simp
    omega
  · obtain ⟨xs, hx⟩ := a.1
    obtain ⟨o, _, _, h⟩ := get i _ hx
    rcases h with ⟨d, e⟩ | e | ⟨v, e⟩ <;> cases e
section
variable {P : Program} {w : World} {K : PySem.W.Frag} {mg : Str → Option Value} {base : Heap}
/-- a pure def: its body over data -/
theorem ok_pure {x qual : Str} {st : Stmt} {f : Addr} {fd : FuncData} {N ps : List Str} {k : Nat} {pre : List PyData → Prop} {post : List PyData → PyData → Prop} (F : Fun K x qual st f fd) (S : FnScope N ps (defScope st)) (hlen : ∀ ds, pre ds → ds.length = ps.length)
    (body : ∀ (cdv : Value) (A : Around) (fs : List Env) (s : Shared) (H : Hp) (E : XK), A.guards = some [] → Room k (A.deeper (envOfC qual (defScope st) s.heap.objs.size f cdv)) →
      ∃ t, PSs (cxOf CX0 P w K mg base N qual (defScope st) f cdv A fs s H E).nox (defBody st) t ∧ ∀ ds, pre ds → Go pureMu t (ds.map .dat ++ List.replicate (N.length - ps.length) .un) 0 { nx := fun _ _ => post ds .none, rt := fun d _ => post ds d }) :
    FnG P w K mg base CX0 (k + 1) f fd ps (spP pre post) := by
  refine Fun.okN F S (fun vs H Q E ⟨G, ds, _, hd, hp, _⟩ => hd.length.trans (hlen ds hp)) fun cdv A fs s H vs Q E hg hr ⟨G, ds, sG, hd, hp, q⟩ => ?_
  obtain ⟨t, ht, go⟩ := body cdv A fs s H E hg hr
  refine ⟨t, ht, ?_⟩
  have S0 := start_ok (μ := pureMu) (N := N) (c := 0) [] [] rfl (by simp) sG (fun a m => m.elim) trivial hd
  simp only [List.nil_append] at S0
  rw [hd.length, hlen ds hp] at S0
  refine go ds hp G H G G _ H _ S0 (Same.refl _) ⟨fun Γ c G' σ H' po S' _ => ?_, fun Γ σ d c v G' H' po _ S' hd' => ?_, fun _ _ _ _ _ z => z.elim, fun _ _ _ _ _ z => z.elim⟩
  · exact q .none .non G' H' po S'.new S'.sub (fun a o e => S'.fr a o (fun z => z) e) .non
  · exact q d v G' H' po S'.new S'.sub (fun a o e => S'.fr a o (fun z => z) e) hd'
/-- a def that draws -/
theorem ok_draw {x qual : Str} {st : Stmt} {f : Addr} {fd : FuncData} {N ps : List Str} {k n : Nat} {p0 : Str} {pre : List PyData → Prop} {post : List PyData → PyData → Prop} (F : Fun K x qual st f fd) (S : FnScope N (p0 :: ps) (defScope st)) (hlen : ∀ ds, pre ds → ds.length = ps.length)
    (body : ∀ (cdv : Value) (A : Around) (fs : List Env) (s : Shared) (H : Hp) (E : XK), A.guards = some [] → Room k (A.deeper (envOfC qual (defScope st) s.heap.objs.size f cdv)) →
      ∃ t, PSs (cxOf CX0 P w K mg base N qual (defScope st) f cdv A fs s H E).nox (defBody st) t ∧ ∀ b c ds, c + n ≤ CM → pre ds → Go (boxMu b) t (.raw (.ref b) :: ds.map .dat ++ List.replicate (N.length - (ps.length + 1)) .un) c { nx := fun _ c' => c' ≤ c + n ∧ post ds .none, rt := fun d c' => c' ≤ c + n ∧ post ds d }) :
    FnG P w K mg base CX0 (k + 1) f fd (p0 :: ps) (spB n pre post) := by
  refine Fun.okN F S (fun vs H Q E ⟨b, ws, c, G, ds, e, _, _, _, _, hd, hp, _⟩ => by rw [e, List.length_cons, List.length_cons, hd.length, hlen ds hp]) fun cdv A fs s H vs Q E hg hr ⟨b, ws, c, G, ds, e, sG, gb, bx, hc, hd, hp, q⟩ => ?_
  subst e
  obtain ⟨t, ht, go⟩ := body cdv A fs s H E hg hr
  refine ⟨t, ht, ?_⟩
  have S0 := start_ok (μ := boxMu b) (N := N) (c := c) [.ref b] [.raw (.ref b)] rfl (fun i s hs => by
    cases i with
    | zero => cases hs; exact ⟨_, rfl, rfl⟩
    | succ i => simp at hs) sG (fun a m => by
      have m' : a = b := m
      subst m'
      exact ⟨(boxMu a).dom c H a bx rfl, gb⟩) bx hd
  simp only [List.singleton_append] at S0
  rw [List.length_cons, hd.length, hlen ds hp] at S0
  have fin : ∀ {d c' v G' H'}, c' ≤ c + n → post ds d → Stt (boxMu b) G H G' [] c' [] H' → Dt G' v d → Q v H' := fun {d c' v G' H'} hle po S' hd' =>
    q d v G' H' po ⟨S'.new, S'.fr, fun a h => S'.h0 h⟩ S'.sub ((boxMu b).up _ _ _ hle S'.inv) hd'
  exact go b c ds hc hp G H G G _ H _ S0 (Same.refl _) ⟨fun Γ c G' σ H' po S' _ => fin po.1 po.2 S'.nil .non, fun Γ σ d c v G' H' po _ S' hd' => fin po.1 po.2 S'.nil hd', fun _ _ _ _ _ z => z.elim, fun _ _ _ _ _ z => z.elim⟩
end
end B

/-! B4: operations over data. -/
namespace B
open PySem PySem.Spec PyProof.Rows L2

section
variable {μ : Mu} {Γ : List Sl} {n n1 n2 n3 : Nat} {P P1 P2 : PyData → Prop} {ta tb te : TE} {t u : TT} {x y z d : PyData} {r : R2} {K : PySem.W.Frag}
/-! ### ints -/
theorem rd_I0 {g : Int → Int → Int} {i j : Int} : RD (rI0 fun i j => .int (g i j)) (.int i) (.int j) (.int (g i j)) := fun G H v w Q s hv hw q => by
  cases hv; cases hw
  exact ⟨i, j, rfl, rfl, q _ G H (Nw.refl _ _) s (Same.refl _) (.int _)⟩
theorem rd_B0 {g : Int → Int → Bool} {i j : Int} : RD (rI0 fun i j => .bl (g i j)) (.int i) (.int j) (.bool (g i j)) := fun G H v w Q s hv hw q => by
  cases hv; cases hw
  exact ⟨i, j, rfl, rfl, q _ G H (Nw.refl _ _) s (Same.refl _) (.bl _)⟩
theorem rd_I {C : Int → Int → Prop} {g : Int → Int → Int} {i j : Int} (h : C i j) : RD (rI C fun i j => .int (g i j)) (.int i) (.int j) (.int (g i j)) := fun G H v w Q s hv hw q => by
  cases hv; cases hw
  exact ⟨i, j, rfl, rfl, h, q _ G H (Nw.refl _ _) s (Same.refl _) (.int _)⟩
theorem ru_U {g : Int → Int} {i : Int} : RU (rU fun i => .int (g i)) (.int i) (.int (g i)) := fun G H v Q s hv q => by
  cases hv
  exact ⟨i, rfl, q _ G H (Nw.refl _ _) s (Same.refl _) (.int _)⟩
theorem ev_add {i j : Int} (ha : Ev μ ta Γ n1 (Eq (.int i))) (hb : Ev μ tb Γ n2 (Eq (.int j))) : Ev μ (tOp (rI0 fun i j => .int (i + j)) ta tb) Γ (n1 + n2) (Eq (.int (i + j))) := ev_op ha hb rd_I0
theorem ev_sub {i j : Int} (ha : Ev μ ta Γ n1 (Eq (.int i))) (hb : Ev μ tb Γ n2 (Eq (.int j))) : Ev μ (tOp (rI0 fun i j => .int (i - j)) ta tb) Γ (n1 + n2) (Eq (.int (i - j))) := ev_op ha hb rd_I0
theorem ev_neg {i : Int} (ha : Ev μ ta Γ n (Eq (.int i))) : Ev μ (tUn (rU fun i => .int (-i)) ta) Γ n (Eq (.int (-i))) := ev_un ha ru_U
theorem ev_pow {i j : Int} (ha : Ev μ ta Γ n1 (Eq (.int i))) (hb : Ev μ tb Γ n2 (Eq (.int j))) (h : CPow i j) : Ev μ (tOp (rI CPow fun i j => .int (i ^ j.toNat)) ta tb) Γ (n1 + n2) (Eq (.int (i ^ j.toNat))) := ev_op ha hb (rd_I h)
theorem ev_mul {i j : Int} (ha : Ev μ ta Γ n1 (Eq (.int i))) (hb : Ev μ tb Γ n2 (Eq (.int j))) (h : CMul i j) : Ev μ (tOp (rI CMul fun i j => .int (i * j)) ta tb) Γ (n1 + n2) (Eq (.int (i * j))) := ev_op ha hb (rd_I h)
/-! ### equality -/
theorem rd_eqS {a b : Str} : RD rEq (.str a) (.str b) (.bool (a == b)) := fun G H v w Q s hv hw q => by
  cases hv; cases hw
  exact ⟨rfl, by rw [dec_str]; exact q _ G H (Nw.refl _ _) s (Same.refl _) (.bl _)⟩
theorem rd_eqI {a b : Int} : RD rEq (.int a) (.int b) (.bool (a == b)) := fun G H v w Q s hv hw q => by
  cases hv; cases hw
  exact ⟨rfl, by rw [dec_int]; exact q _ G H (Nw.refl _ _) s (Same.refl _) (.bl _)⟩
theorem rd_eqB {a b : Bool} : RD rEq (.bool a) (.bool b) (.bool (a == b)) := fun G H v w Q s hv hw q => by
  cases hv; cases hw
  exact ⟨rfl, by rw [dec_bl]; exact q _ G H (Nw.refl _ _) s (Same.refl _) (.bl _)⟩
mutual
theorem Dt.dp {G H : Hp} (s : Same G H) : ∀ {v : V} {d : PyData}, Dt G v d → d.canLay0 = true → Dp K H v d
  | _, _, .non, _ => .non
  | _, _, .bl b, _ => .bl b
  | _, _, .int i, _ => .int i
  | _, _, .str x, _ => .str x
  | _, _, .lst h r, c => .lst (SqL.of (s _ _ h)) (DtA.dp s r (by simpa [PyData.canLay0] using c))
  | _, _, .tup h r, c => .tup (SqT.of (s _ _ h)) (DtA.dp s r (by simpa [PyData.canLay0] using c))
  | _, _, .dct h r, c => by simp [PyData.canLay0] at c
theorem DtA.dp {G H : Hp} (s : Same G H) : ∀ {vs : List V} {ds : List PyData}, DtA G vs ds → PyData.canLayAll0 ds = true → DpAll K H vs ds
  | _, _, .nil, _ => .nil
  | _, d :: ds, .cons h r, c => by
    have c' : d.canLay0 = true ∧ PyData.canLayAll0 ds = true := by simpa [PyData.canLayAll0] using c
    exact .cons (Dt.dp s h c'.1) (DtA.dp s r c'.2)
end
theorem rd_eqD (hx : SeqAt.shaped x = true) (hy : SeqAt.shaped y = true) : RD (rEqD K) x y (.bool (PyData.eqv x y)) := fun G H v w Q s hv hw q =>
  ⟨x, y, hv.dp s (SeqAt.canLay_of_shaped hx), hw.dp s (SeqAt.canLay_of_shaped hy), hx, hy, q _ G H (Nw.refl _ _) s (Same.refl _) (.bl _)⟩
theorem rd_neD (hx : SeqAt.shaped x = true) (hy : SeqAt.shaped y = true) : RD (rNeD K) x y (.bool (!PyData.eqv x y)) := fun G H v w Q s hv hw q =>
  ⟨x, y, hv.dp s (SeqAt.canLay_of_shaped hx), hw.dp s (SeqAt.canLay_of_shaped hy), hx, hy, q _ G H (Nw.refl _ _) s (Same.refl _) (.bl _)⟩
theorem ev_eqD (ha : Ev μ ta Γ n1 (Eq x)) (hb : Ev μ tb Γ n2 (Eq y)) (hx : SeqAt.shaped x = true) (hy : SeqAt.shaped y = true) : Ev μ (tOp (rEqD K) ta tb) Γ (n1 + n2) (Eq (.bool (PyData.eqv x y))) := ev_op ha hb (rd_eqD hx hy)
theorem ev_neD (ha : Ev μ ta Γ n1 (Eq x)) (hb : Ev μ tb Γ n2 (Eq y)) (hx : SeqAt.shaped x = true) (hy : SeqAt.shaped y = true) : Ev μ (tOp (rNeD K) ta tb) Γ (n1 + n2) (Eq (.bool (!PyData.eqv x y))) := ev_op ha hb (rd_neD hx hy)
/-! ### what a thing is -/
def tyD : PyData → String
  | .none => "NoneType" | .bool _ => "bool" | .int _ => "int" | .str _ => "str" | .list _ => "list" | .tuple _ => "tuple" | .dict _ => "dict"
def isT (T a : String) : Bool := a == T || (T == "int" && a == "bool")
def isD (T : String) (d : PyData) : Bool := isT T (tyD d)
def tyNames : List String := ["NoneType", "bool", "int", "str", "list", "tuple", "dict"]
theorem tyD_mem (d : PyData) : tyD d ∈ tyNames := by cases d <;> simp [tyD, tyNames]
theorem tyX_of {G H : Hp} {v : V} (s : Same G H) (h : Dt G v d) : TyX K H v (.type (tyD d)) := by
  cases h with
  | non => exact .base .non
  | bl b => exact .base (.bl b)
  | int i => exact .base (.int i)
  | str x => exact .base (.str x)
  | lst h r => exact .base (.lst (s _ _ h))
  | tup h r => exact .base (.tup (s _ _ h))
  | dct h r => exact .base (.dK (s _ _ h))
theorem ev_isiP {T : String} (hT : ∀ d, kitB (tyD d) T = some (isD T d)) (h : Ev μ te Γ n P1) : Ev μ (tCB (rIsi K) (tCons te (tCons (tC (.ty T)) tNil))) Γ n (fun e => ∃ d, P1 d ∧ e = .bool (isD T d)) := fun G0 H0 G c σ H Q S l q =>
  h G0 H0 G c σ H _ S l fun d v G1 H1 p S1 e1 d1 => ⟨v, .ty T, _, _, isD T d, rfl, .ty T, tyX_of S1.sub d1, kit_ty (hT d), q _ _ G1 H1 ⟨d, p, rfl⟩ S1 e1 (.bl _)⟩
theorem ev_isi {T : String} (hT : ∀ d, kitB (tyD d) T = some (isD T d)) (h : Ev μ te Γ n (Eq x)) : Ev μ (tCB (rIsi K) (tCons te (tCons (tC (.ty T)) tNil))) Γ n (Eq (.bool (isD T x))) :=
  (ev_isiP hT h).imp fun e ⟨d, p, q⟩ => by rw [q, p]
theorem isi_str (d : PyData) : kitB (tyD d) "str" = some (isD "str" d) := (show ∀ a ∈ tyNames, kitB a "str" = some (isT "str" a) by decide +kernel) _ (tyD_mem d)
theorem isi_tuple (d : PyData) : kitB (tyD d) "tuple" = some (isD "tuple" d) := (show ∀ a ∈ tyNames, kitB a "tuple" = some (isT "tuple" a) by decide +kernel) _ (tyD_mem d)
theorem isi_list (d : PyData) : kitB (tyD d) "list" = some (isD "list" d) := (show ∀ a ∈ tyNames, kitB a "list" = some (isT "list" a) by decide +kernel) _ (tyD_mem d)
theorem isi_int (d : PyData) : kitB (tyD d) "int" = some (isD "int" d) := (show ∀ a ∈ tyNames, kitB a "int" = some (isT "int" a) by decide +kernel) _ (tyD_mem d)
theorem isi_bool (d : PyData) : kitB (tyD d) "bool" = some (isD "bool" d) := (show ∀ a ∈ tyNames, kitB a "bool" = some (isT "bool" a) by decide +kernel) _ (tyD_mem d)
/-! ### lengths -/
abbrev rLen (K : PySem.W.Frag) : List V → Hp → VK → Prop := fun xs H Q => ∃ x n, xs = [x] ∧ LenV K x H n ∧ Q (.int n) H
theorem rc_lenS {a : Str} (h : a.length ≤ 10000000) : RC (rLen K) [.str a] (.int (a.length : Int)) := fun G H vs Q s hv q => by
  cases hv with
  | cons h1 h2 =>
    cases h1; cases h2
    exact ⟨_, a.length, rfl, ⟨Nat.le_trans h (by decide), rfl⟩, q _ G H (Nw.refl _ _) s (Same.refl _) (.int _)⟩
theorem rc_lenL {ds : List PyData} : RC (rLen K) [.list ds] (.int (ds.length : Int)) := fun G H vs Q s hv q => by
  cases hv with
  | cons h1 h2 =>
    cases h2
    cases h1 with
    | lst a r => exact ⟨_, _, rfl, .inl ⟨_, SqL.of (s _ _ a), rfl⟩, by rw [r.length]; exact q _ G H (Nw.refl _ _) s (Same.refl _) (.int _)⟩
theorem rc_lenT {ds : List PyData} : RC (rLen K) [.tuple ds] (.int (ds.length : Int)) := fun G H vs Q s hv q => by
  cases hv with
  | cons h1 h2 =>
    cases h2
    cases h1 with
    | tup a r => exact ⟨_, _, rfl, .inr ⟨_, SqT.of (s _ _ a), rfl⟩, by rw [r.length]; exact q _ G H (Nw.refl _ _) s (Same.refl _) (.int _)⟩
theorem ev_lenS {a : Str} (h : Ev μ te Γ n (Eq (.str a))) (hl : a.length ≤ 10000000) : Ev μ (tCB (rLen K) (tCons te tNil)) Γ n (Eq (.int (a.length : Int))) := ev_cb (ea_cons h ea_nil) (rc_lenS hl)
theorem ev_lenL {ds : List PyData} (h : Ev μ te Γ n (Eq (.list ds))) : Ev μ (tCB (rLen K) (tCons te tNil)) Γ n (Eq (.int (ds.length : Int))) := ev_cb (ea_cons h ea_nil) rc_lenL
theorem ev_lenT {ds : List PyData} (h : Ev μ te Γ n (Eq (.tuple ds))) : Ev μ (tCB (rLen K) (tCons te tNil)) Γ n (Eq (.int (ds.length : Int))) := ev_cb (ea_cons h ea_nil) rc_lenT
/-! ### texts -/
abbrev rInSg : R2 := fun x y H Q => ∃ (c : Nat) (z : Str), x = .str ⟨#[c]⟩ ∧ y = .str z ∧ Q (.bl (decide (c ∈ z.cps.toList))) H
theorem rd_inSg {c : Nat} {z : Str} : RD rInSg (.str ⟨#[c]⟩) (.str z) (.bool (decide (c ∈ z.cps.toList))) := fun G H v w Q s hv hw q => by
  cases hv; cases hw
  exact ⟨c, z, rfl, rfl, q _ G H (Nw.refl _ _) s (Same.refl _) (.bl _)⟩
abbrev rAddSt : R2 := fun x y H Q => ∃ i j, x = .str i ∧ y = .str j ∧ i.length + j.length ≤ sizeLine ∧ Q (.str (i ++ j)) H
theorem rd_addS {a b : Str} (h : a.length + b.length ≤ 10000000) : RD rAddSt (.str a) (.str b) (.str (a ++ b)) := fun G H v w Q s hv hw q => by
  cases hv; cases hw
  exact ⟨a, b, rfl, rfl, Nat.le_trans h (by decide), q _ G H (Nw.refl _ _) s (Same.refl _) (.str _)⟩
abbrev rSplit : V → List V → Hp → VK → Prop := fun x xs H Q => ∃ a b, x = .str a ∧ xs = [.str b] ∧ (b.length == 0) = false ∧ a.length + 2 ≤ sizeLine ∧ rNewStrs (Txt.split a b) H Q
theorem rm_split {a b : Str} (hb : (b.length == 0) = false) (h : a.length ≤ 10000000) : RM rSplit (.str a) [.str b] (.list ((Txt.split a b).map .str)) := fun G H v vs Q s hv hvs q => by
  cases hv
  cases hvs with
  | cons h1 h2 =>
    cases h1; cases h2
    exact ⟨a, b, rfl, rfl, hb, Nat.le_trans (Nat.add_le_add_right h 2) (by decide), fun p hp => q _ _ _ (Nw.upd hp s) (Same.upd2 s) (Same.new hp) (.lst upd_same (DtA.strs _))⟩
abbrev rJoin (K : PySem.W.Frag) : V → List V → Hp → VK → Prop := fun x xs H Q => ∃ a p, ∃ ys : List Str, x = .str a ∧ xs = [.ref p] ∧ (SqL K H p (ys.map V.str) ∨ SqT K H p (ys.map V.str)) ∧ (ys.map (·.length)).sum + ys.length * a.length ≤ 16777216 ∧ Q (.str (Txt.join a ys)) H
theorem rm_join {a : Str} {ys : List Str} (h : (ys.map (·.length)).sum + ys.length * a.length ≤ 16777216) : RM (rJoin K) (.str a) [.list (ys.map .str)] (.str (Txt.join a ys)) := fun G H v vs Q s hv hvs q => by
  cases hv
  cases hvs with
  | cons h1 h2 =>
    cases h2
    cases h1 with
    | lst e r =>
      have := r.of_strs
      subst this
      exact ⟨a, _, ys, rfl, rfl, .inl (SqL.of (s _ _ e)), h, q _ G H (Nw.refl _ _) s (Same.refl _) (.str _)⟩
/-! ### lists and tuples -/
theorem rc_all {bs : List Bool} : RC (rAll K) [.list (bs.map .bool)] (.bool (bs.all id)) := fun G H vs Q s hv q => by
  cases hv with
  | cons h1 h2 =>
    cases h2
    cases h1 with
    | lst e r =>
      have := r.of_bls
      subst this
      exact ⟨_, bs, rfl, SqL.of (s _ _ e), q _ G H (Nw.refl _ _) s (Same.refl _) (.bl _)⟩
theorem rc_any {bs : List Bool} : RC (rAny K) [.list (bs.map .bool)] (.bool (bs.any id)) := fun G H vs Q s hv q => by
  cases hv with
  | cons h1 h2 =>
    cases h2
    cases h1 with
    | lst e r =>
      have := r.of_bls
      subst this
      exact ⟨_, bs, rfl, SqL.of (s _ _ e), q _ G H (Nw.refl _ _) s (Same.refl _) (.bl _)⟩
theorem ev_all {bs : List Bool} (h : Ev μ te Γ n (Eq (.list (bs.map .bool)))) : Ev μ (tCB (rAll K) (tCons te tNil)) Γ n (Eq (.bool (bs.all id))) := ev_cb (ea_cons h ea_nil) rc_all
theorem ev_any {bs : List Bool} (h : Ev μ te Γ n (Eq (.list (bs.map .bool)))) : Ev μ (tCB (rAny K) (tCons te tNil)) Γ n (Eq (.bool (bs.any id))) := ev_cb (ea_cons h ea_nil) rc_any
theorem rd_cat {xs ys : List PyData} (h : xs.length + ys.length ≤ 10000000) : RD rCat (.list xs) (.list ys) (.list (xs ++ ys)) := fun G H v w Q s hv hw q => by
  cases hv with
  | lst a r =>
    cases hw with
    | lst a2 r2 =>
      refine ⟨_, _, _, _, rfl, rfl, s _ _ a, s _ _ a2, by rw [r.length, r2.length]; exact Nat.le_trans h (by decide), fun p hp => q _ _ _ (Nw.upd hp s) (Same.upd2 s) (Same.new hp) (.lst upd_same ((r.append r2).mono (Nw.upd hp s).1))⟩
theorem atI_of {α β : Type} {xs : List α} {ys : List β} {i : Int} {v : α} (hl : xs.length = ys.length) (h : atI xs i = some v) : ∃ j : Nat, xs[j]? = some v ∧ atI ys i = ys[j]? := by
  unfold atI at h ⊢
  rw [← hl]
  cases e : ixN xs.length i with
  | none => rw [e] at h; cases h
  | some j => rw [e] at h; exact ⟨j, h, rfl⟩
theorem rd_ixL {ds : List PyData} {i : Int} (h : atI ds i = some d) : RD (rIxL K) (.list ds) (.int i) d := fun G H v w Q s hv hw q => by
  cases hw
  cases hv with
  | lst a r =>
    obtain ⟨j, h1, h2⟩ := atI_of r.length.symm h
    obtain ⟨u, hu, hd⟩ := r.getD h1
    exact ⟨_, _, i, u, rfl, rfl, SqL.of (s _ _ a), h2.trans hu, q _ G H (Nw.refl _ _) s (Same.refl _) hd⟩
theorem rd_ixT {ds : List PyData} {i : Int} (h : atI ds i = some d) : RD (rIxT K) (.tuple ds) (.int i) d := fun G H v w Q s hv hw q => by
  cases hw
  cases hv with
  | tup a r =>
    obtain ⟨j, h1, h2⟩ := atI_of r.length.symm h
    obtain ⟨u, hu, hd⟩ := r.getD h1
    exact ⟨_, _, i, u, rfl, rfl, SqT.of (s _ _ a), h2.trans hu, q _ G H (Nw.refl _ _) s (Same.refl _) hd⟩
theorem rd_ixS {a : Str} {i : Int} {ch : Nat} (hl : a.length ≤ 10000000) (h : atI a.cps.toList i = some ch) : RD rIxS (.str a) (.int i) (.str ⟨#[ch]⟩) := fun G H v w Q s hv hw q => by
  cases hw; cases hv
  exact ⟨a, i, ch, rfl, rfl, Nat.le_trans hl (by decide), h, q _ G H (Nw.refl _ _) s (Same.refl _) (.str _)⟩
theorem rd_ixsL {ds : List PyData} {i : Int} (h : atI ds i = some d) : RD (rIx K) (.list ds) (.int i) d := fun G H v w Q s hv hw q => .inl (rd_ixL h G H v w Q s hv hw q)
theorem rd_ixsT {ds : List PyData} {i : Int} (h : atI ds i = some d) : RD (rIx K) (.tuple ds) (.int i) d := fun G H v w Q s hv hw q => .inr (.inl (rd_ixT h G H v w Q s hv hw q))
theorem rd_ixsS {a : Str} {i : Int} {ch : Nat} (hl : a.length ≤ 10000000) (h : atI a.cps.toList i = some ch) : RD (rIx K) (.str a) (.int i) (.str ⟨#[ch]⟩) := fun G H v w Q s hv hw q => .inr (.inr (rd_ixS hl h G H v w Q s hv hw q))
theorem atI_mem {α : Type} {xs : List α} {i : Int} (h0 : 0 ≤ i) (h1 : i < xs.length) : ∃ v, v ∈ xs ∧ atI xs i = some v := by
  obtain ⟨k, rfl⟩ : ∃ k : Nat, i = (k : Int) := ⟨i.toNat, by omega⟩
  have hk : k < xs.length := by omega
  exact ⟨xs[k], List.getElem_mem _, atI_nat (List.getElem?_eq_getElem hk)⟩
/-! ### chains, truths, None -/
theorem ev_chain {r' : R2} {tc : TE} {a : Bool} {w : PyData} (h1 : Ev μ ta Γ n1 (Eq x)) (h2 : Ev μ tb Γ n2 (Eq y)) (h3 : Ev μ tc Γ n3 (Eq w)) (hr : RD r x y (.bool a)) (hr' : a = true → RD r' y w z) : Ev μ (tChain r r' ta tb tc) Γ (n1 + n2 + n3) (Eq (if a = true then z else .bool false)) := fun G0 H0 G c σ H Q S l q =>
  h1 G0 H0 G c σ H _ S (by omega) fun d1 v1 G1 H1 p1 S1 e1 hd1 => h2 G0 H0 G1 _ σ H1 _ S1 (by omega) fun d2 v2 G2 H2 p2 S2 e2 hd2 => by
    cases p1; cases p2
    refine hr G2 H2 v1 v2 _ S2.sub (hd1.mono e2.gg) hd2 fun u G3 H3 nw s s' du => ?_
    cases du
    refine ⟨a, rfl, ?_⟩
    have S3 := S2.same nw s s'
    have e3 : Ext μ.M G2 H2 G3 H3 := .same nw s'
    cases a with
    | false => exact iteF (q _ _ G3 H3 rfl (S3.up (by omega)) ((e1.trans e2).trans e3) (.bl false))
    | true =>
      refine iteT (h3 G0 H0 G3 _ σ H3 _ S3 (by omega) fun d4 v4 G4 H4 p4 S4 e4 hd4 => ?_)
      cases p4
      refine hr' rfl G4 H4 v2 v4 _ S4.sub (hd2.mono (e3.trans e4).gg) hd4 fun u G5 H5 nw5 s5 s5' du5 => ?_
      exact q _ _ G5 H5 rfl ((S4.same nw5 s5 s5').up (by omega)) (((e1.trans e2).trans (e3.trans e4)).trans (.same nw5 s5')) du5
def isN : PyData → Bool
  | .none => true
  | _ => false
theorem ev_isN (h : Ev μ te Γ n (Eq x)) : Ev μ (tIsN te) Γ n (Eq (.bool (isN x))) := fun G0 H0 G c σ H Q S l q =>
  h G0 H0 G c σ H _ S l fun d v G1 H1 p S1 e1 d1 => by
    cases p
    have e : decide (v = .non) = isN x := by cases d1 <;> rfl
    show Q (.bl (decide (v = .non))) H1
    rw [e]
    exact q _ _ G1 H1 rfl S1 e1 (.bl _)
theorem ev_notN (h : Ev μ te Γ n (Eq x)) : Ev μ (tNotN te) Γ n (Eq (.bool (!isN x))) := fun G0 H0 G c σ H Q S l q =>
  h G0 H0 G c σ H _ S l fun d v G1 H1 p S1 e1 d1 => by
    cases p
    have e : decide (v = .non) = isN x := by cases d1 <;> rfl
    show Q (.bl (!decide (v = .non))) H1
    rw [e]
    exact q _ _ G1 H1 rfl S1 e1 (.bl _)
/-- a, b = x, y: two plain names -/
theorem go_par {ta : TA} {R : Po} {c i j : Nat} {P : List PyData → Prop} (h : EvA μ ta Γ n P) (hc : c + n ≤ CM) (hl : ∀ xs, P xs → xs.length = 2) (k : ∀ a b, P [a, b] → R.nx ((Γ.set i (.dat a)).set j (.dat b)) (c + n)) : Go μ (tPar i j ta) Γ c R := fun G0 H0 Gs G σ H D S gs L =>
  h G0 H0 G c σ H _ S hc fun ds vs G1 H1 p S1 e1 d1 => by
    have hl' := hl ds p
    cases d1 with
    | nil => cases hl'
    | cons h1 r1 =>
      cases r1 with
      | nil => cases hl'
      | cons h2 r2 =>
        cases r2 with
        | cons _ _ => simp at hl'
        | nil => exact ⟨_, _, rfl, L.nx _ _ G1 _ H1 (k _ _ p) ((S1.setD h1).setD h2) (gs.trans e1.gg)⟩
end
end B

/-! B5: a law's end, the guards known. -/
namespace B
open PySem PySem.Spec PyProof.Rows L2
section
variable {P : Program} {w : World} {K : PySem.W.Frag} {mg mb : Str → Option Value} {CX : CXT} {k : Nat} {fa a : Addr} {fd : FuncData} {x : Str} {sp : Sp} {s1 : Shared} {us : List Value} {ns : List Int}
/-- what the script's list is as an abstract heap -/
structure Lone (P : Program) (w : World) (K : PySem.W.Frag) (s1 : Shared) (a : Addr) (us : List Value) (ns : List Int) (H : Hp) : Prop where
  only : Only H
  list : SqL K H a (ns.map V.int)
  ok : HOk P w H s1.heap
  here : ∀ b u, H b = some u → b = a ∧ K.lookup a = none
theorem lone_mk (hK : K.In s1.heap) (ha : s1.heap.get? a = some { cls := .type "list", data := .seq us.toArray }) (hi : IntsAre us ns) (hl : ns.length ≤ sizeLine) : ∃ H, Lone P w K s1 a us ns H := by
  have rel := vals_ints hi
  by_cases hk : K.lookup a = none
  · refine ⟨upd (fun _ => none) a (.frz { cls := .type "list", data := .seq us.toArray } (.lst (ns.map V.int))), fun b => ?_, .inl (.inr ⟨_, upd_same⟩), fun b u e => ?_, fun b u e => ?_⟩
    · by_cases hb : b = a
      · subst hb; exact .inr ⟨_, _, upd_same⟩
      · exact .inl (upd_ne hb)
    · by_cases hb : b = a
      · subst hb
        rw [upd_same] at e
        cases e
        exact ⟨ha, by simpa using hl, us, _, rel, ha⟩
      · rw [upd_ne hb] at e; cases e
    · by_cases hb : b = a
      · exact ⟨hb, hk⟩
      · rw [upd_ne hb] at e; cases e
  · obtain ⟨o, ho⟩ := Option.ne_none_iff_exists'.mp hk
    have e := hK a o ho
    rw [ha] at e
    cases e
    refine ⟨fun _ => none, fun _ => .inl rfl, .inr ⟨_, us.toArray, _, ho, rfl, rfl, rfl, ?_, by simpa using rel⟩, (fun b u e => by cases e), (fun b u e => by cases e)⟩
    rw [List.size_toArray, hi.length]; exact hl
theorem lawG (hK : K.In s1.heap) (hns : s1.heap.Ns mainGlobals mg) (hb : s1.heap.Ns builtinsNs mb) (hbb : ∀ x : Str, x ≠ "__name__" → mb x = bootBuiltins x) (hlim : s1.heap.NoLimit) (hg : s1.gens = #[])
    (ha : s1.heap.get? a = some { cls := .type "list", data := .seq us.toArray }) (hi : IntsAre us ns) (hl : ns.length ≤ sizeLine) (hr : Room k callerA)
    (F : ∀ base : Heap, K.In base → base.Ns mainGlobals mg → FnG P w K mg base CX k fa fd [x] sp) (hbd : ∀ (s : Shared) (u : Value), BindsTo s fd ⟨[u], []⟩ [(x, u)])
    (hsp : ∀ H : Hp, Only H → SqL K H a (ns.map V.int) → sp [.ref a] H (fun v _ => v = .bl true) fun _ _ _ => False) (hCX : ∀ H e s', CX [] H s1 (fun _ _ _ => False) e s' → False) :
    codeAny (model P w) callerA (.call (.ref fa) ⟨[.ref a], []⟩) (fun r s' => r = .ok (.ret (.bool true)) ∧ OldK s1.heap s'.heap ∧ s'.os = s1.os ∧ AllBare s'.gens) s1 := by
  obtain ⟨H, L⟩ := lone_mk (P := P) (w := w) hK ha hi hl
  -- the heap without the script is the base
  have free : ∀ b o, s1.heap.get? b = some o → (∀ v n, o.data ≠ .seq v n) → H b = none := fun b o e d => by
    cases q : H b with
    | none => rfl
    | some u =>
      obtain ⟨z, _⟩ := L.here b u q
      subst z
      rw [ha] at e
      cases e
      exact (d _ _ rfl).elim
  have nsB : ∀ b m, s1.heap.Ns b m → (hidT s1.heap H).Ns b m := fun b m ⟨o, es, ep, e, d, r⟩ => ⟨o, es, ep, hidT_get e (free b o e fun v n z => by rw [d] at z; cases z), d, r⟩
  have kB : K.In (hidT s1.heap H) := fun b o e => hidT_get (hK b o e) (by
    cases q : H b with
    | none => rfl
    | some u =>
      obtain ⟨z1, z2⟩ := L.here b u q
      subst z1
      rw [z2] at e; cases e)
  have md : Mod K mg (hidT s1.heap H) := ⟨kB, nsB _ _ hns, ⟨mb, nsB _ _ hb, hbb⟩, let ⟨mc, h1, h2⟩ := hlim; ⟨mc, nsB _ _ h1, h2⟩⟩
  have nof : ∀ b, b ∉ frs ([] : List Env) := fun b z => by simp [frs] at z
  have env : Env0 P w K mg (hidT s1.heap H) callerA [] s1 H := ⟨rfl, md, fun b o e => of_hidT e, Nat.le_of_eq (hidT_size _ _), trivial, fun b z => (nof b z).elim, L.ok, .of_eq hg⟩
  refine codeAny_mono ((F _ kB (nsB _ _ hns)).runs callerA [] s1 H ⟨[.ref a], []⟩ [.ref a] [.ref a] _ _ rfl hr env (hbd s1 (.ref a)) (.cons rfl .nil) (hsp H L.only L.list)) fun r s' z => ?_
  cases r with
  | error e => exact (hCX H e s' z).elim
  | ok fl =>
    cases fl with
    | ret u =>
      obtain ⟨v, H', os, bare, un, ok', rv, (q : v = .bl true)⟩ := z
      subst q
      cases (show u = Value.bool true from rv)
      refine ⟨rfl, OldK.of_keep fun b o e => ?_, os, bare⟩
      rcases L.only b with q | ⟨ob, xs, q⟩
      · exact un.keep b o e q (nof b) (by simp)
      · have e1 := (L.ok b _ q).1
        rw [e] at e1
        cases e1
        exact (ok' b _ (un.frzs b _ _ q)).1
    | next => exact z.elim
    | brk => exact z.elim
    | cont => exact z.elim
end
theorem walk_ofG {l : PySem.W.OpenLaw} {n k : Nat} {q : Program} {loose : List Str} {XP : (Str → Option Value) → Heap → Prop} {YP : World → Heap → Prop} {d : DefRec} {K : Params → PySem.W.Frag} {CX : CXT} {sp : PySem.W.Frag → Sp} {x : Str}
    (hn : l.most = some n) (hn2 : n ≤ sizeLine) (hdf : d.params.defaults = []) (hr : Room k callerA) (hY : ∀ (w : World) (h : Heap), YP w h → (K w.params).In h)
    (F : ∀ (w : World) (mg : Str → Option Value) (fa : Addr) (h : Heap), (K w.params).In h → h.Ns mainGlobals mg → mg d.name = some (.ref fa) →
      ∃ fd : FuncData, (∀ (s : Shared) (u : Value), BindsTo s fd ⟨[u], []⟩ [(x, u)]) ∧ ∀ base : Heap, (K w.params).In base → base.Ns mainGlobals mg → FnG l.prog w (K w.params) mg base CX k fa fd [x] (sp (K w.params)))
    (hsp : ∀ (K : PySem.W.Frag) (H : Hp) (a : Addr) (ns : List Int), ns.length ≤ n → Only H → SqL K H a (ns.map V.int) → sp K [.ref a] H (fun v _ => v = .bl true) fun _ _ _ => False)
    (hCX : ∀ (H : Hp) (s : Shared) (e : Value) (s' : Shared), CX [] H s (fun _ _ _ => False) e s' → False) :
    PySem.W.WalkO q loose XP YP l.row.toRowW d [] (fun f vs => PySem.call f vs) :=
  Att.attach_call hn hdf fun w s0 s1 mg mb fa o pm cd doc a us ns G Y ho hd hcd hmg hobj hints hlen hg => by
    obtain ⟨fd, hb, hF⟩ := F w mg fa _ (hY w _ Y) G.T.g hmg
    exact lawG (hY w _ Y) G.T.g G.T.b G.T.builtins G.T.nolimit hg hobj hints (Nat.le_trans hlen hn2) hr hF hb (fun H hO hS => hsp _ H a ns hlen hO hS) fun H e s' => hCX H s1 e s'
theorem bt_len : bootBuiltins "len" = some (.builtin "len") := by decide +kernel
theorem bt_all : bootBuiltins "all" = some (.builtin "all") := by decide +kernel
theorem bt_any : bootBuiltins "any" = some (.builtin "any") := by decide +kernel
theorem bt_isinstance : bootBuiltins "isinstance" = some (.builtin "isinstance") := by decide +kernel
theorem bt_max : bootBuiltins "max" = some (.builtin "max") := by decide +kernel
theorem bt_min : bootBuiltins "min" = some (.builtin "min") := by decide +kernel
theorem bt_abs : bootBuiltins "abs" = some (.builtin "abs") := by decide +kernel
theorem bt_int : bootBuiltins "int" = some (.type "int") := by decide +kernel
theorem bt_str : bootBuiltins "str" = some (.type "str") := by decide +kernel
theorem bt_bool : bootBuiltins "bool" = some (.type "bool") := by decide +kernel
theorem bt_tuple : bootBuiltins "tuple" = some (.type "tuple") := by decide +kernel
theorem bt_list : bootBuiltins "list" = some (.type "list") := by decide +kernel
theorem bt_dict : bootBuiltins "dict" = some (.type "dict") := by decide +kernel
theorem bt_set : bootBuiltins "set" = some (.type "set") := by decide +kernel
theorem bt_sorted : bootBuiltins "sorted" = some (.builtin "sorted") := by decide +kernel
theorem bt_repr : bootBuiltins "repr" = some (.builtin "repr") := by decide +kernel
theorem bt_zip : bootBuiltins "zip" = some (.type "zip") := by decide +kernel
theorem bt_sum : bootBuiltins "sum" = some (.builtin "sum") := by decide +kernel
end B

/-! B6: values that are known to the letter (for the box). -/
namespace B
open PySem PySem.Spec PyProof.Rows L2
section
variable {σ : L2.St} {H : Hp} {v x y z : V} {ta tb te : TE} {b : Bool} {K : PySem.W.Frag} {a : Addr} {i j : Int}
theorem vI0 {g : Int → Int → V} (ha : Val ta σ H (.int i)) (hb : Val tb σ H (.int j)) : Val (tOp (rI0 g) ta tb) σ H (g i j) := val_op ha hb fun Q q => ⟨i, j, rfl, rfl, q⟩
theorem vI {C : Int → Int → Prop} {g : Int → Int → V} (ha : Val ta σ H (.int i)) (hb : Val tb σ H (.int j)) (h : C i j) : Val (tOp (rI C g) ta tb) σ H (g i j) := val_op ha hb fun Q q => ⟨i, j, rfl, rfl, h, q⟩
theorem vix {xs : List V} (ha : Val ta σ H (.ref a)) (hb : Val tb σ H (.int i)) (h : SqL K H a xs) (e : atI xs i = some v) : Val (tOp (rIxL K) ta tb) σ H v := val_op ha hb fun Q q => ⟨a, xs, i, v, rfl, rfl, h, e, q⟩
abbrev rInt1 : List V → Hp → VK → Prop := fun xs H Q => (∃ i, xs = [.int i] ∧ Q (.int i) H) ∨ ∃ k, xs = [.bl k] ∧ Q (.int (if k then 1 else 0)) H
theorem vint (ha : Val ta σ H (.int i)) : Val (tCB rInt1 (tCons ta tNil)) σ H (.int i) := fun Q q => ha _ (.inl ⟨i, rfl, q⟩)
theorem vintB (ha : Val ta σ H (.bl b)) : Val (tCB rInt1 (tCons ta tNil)) σ H (.int (if b then 1 else 0)) := fun Q q => ha _ (.inr ⟨b, rfl, q⟩)
theorem vabs (ha : Val ta σ H (.int i)) : Val (tCB (fun xs H Q => ∃ i, xs = [.int i] ∧ Q (.int (if i < 0 then -i else i)) H) (tCons ta tNil)) σ H (.int (if i < 0 then -i else i)) := fun Q q => ha _ ⟨i, rfl, q⟩
theorem vlenL {xs : List V} (ha : Val ta σ H (.ref a)) (h : SqL K H a xs) : Val (tCB (rLen K) (tCons ta tNil)) σ H (.int (xs.length : Int)) := fun Q q => ha _ ⟨_, _, rfl, .inl ⟨xs, h, rfl⟩, q⟩
theorem aB {g : Int → Int → Bool} (ha : Val ta σ H (.int i)) (hb : Val tb σ H (.int j)) (e : g i j = b) : Ans (tTest (tOp (rI0 fun i j => .bl (g i j)) ta tb)) σ H b := ans_cmp ha hb fun Q q => ⟨i, j, rfl, rfl, by show Q (.bl (g i j)) H; rw [e]; exact q⟩
theorem v_ret3 {t1 t2 t3 : TE} {v1 v2 v3 : V} {D : Ends} (h1 : Val t1 σ H v1) (h2 : Val t2 σ H v2) (h3 : Val t3 σ H v3) (q : ∀ p, H p = none → D.rt (.ref p) (upd H p (.lst [v1, v2, v3]))) : tRet (tLst (tCons t1 (tCons t2 (tCons t3 tNil)))) D σ H :=
  h1 _ (h2 _ (h3 _ ⟨by show 3 ≤ sizeLine; decide, q⟩))
theorem v_ret {D : Ends} (h : Val te σ H v) (q : D.rt v H) : tRet te D σ H := h _ q
def CPowW (i j : Int) : Prop := 0 ≤ j ∧ (Builtin.Int.intBits i : Int) * j ≤ 2 ^ 27
theorem op_powW {X : Cx} : OpR X (binaryOp .Pow) (rI CPowW fun i j => .int (i ^ j.toNat)) := opI fun _ _ _ _ _ _ _ hc q => pow_int hc.1 hc.2 q
end
theorem emod_lt' {a m : Int} (h : 0 < m) : 0 ≤ a % m ∧ a % m < m := ⟨Int.emod_nonneg _ (by omega), Int.emod_lt_of_pos _ h⟩
end B

/-! B7: nothing drawn; short forms. -/
namespace B
open PySem PySem.Spec PyProof.Rows L2
section
variable {μ : Mu} {Γ : List Sl} {n : Nat} {P P1 P2 : PyData → Prop} {ta tb tc te : TE} {t u : TT} {x y z w d : PyData} {r r' : R2} {K : PySem.W.Frag} {a b : Bool} {i j : Int}
theorem ea_cons0 {tr : TA} {xs : List PyData} (ha : Ev μ ta Γ 0 (Eq x)) (hb : EvA μ tr Γ 0 (Eq xs)) : EvA μ (tCons ta tr) Γ 0 (Eq (x :: xs)) := ea_cons ha hb
theorem ev_op0 (ha : Ev μ ta Γ 0 (Eq x)) (hb : Ev μ tb Γ 0 (Eq y)) (hr : RD r x y z) : Ev μ (tOp r ta tb) Γ 0 (Eq z) := ev_op ha hb hr
theorem ev_add0 (ha : Ev μ ta Γ 0 (Eq (.int i))) (hb : Ev μ tb Γ 0 (Eq (.int j))) : Ev μ (tOp (rI0 fun i j => .int (i + j)) ta tb) Γ 0 (Eq (.int (i + j))) := ev_add ha hb
theorem ev_sub0 (ha : Ev μ ta Γ 0 (Eq (.int i))) (hb : Ev μ tb Γ 0 (Eq (.int j))) : Ev μ (tOp (rI0 fun i j => .int (i - j)) ta tb) Γ 0 (Eq (.int (i - j))) := ev_sub ha hb
theorem ev_cmp0 {g : Int → Int → Bool} (ha : Ev μ ta Γ 0 (Eq (.int i))) (hb : Ev μ tb Γ 0 (Eq (.int j))) : Ev μ (tOp (rI0 fun i j => .bl (g i j)) ta tb) Γ 0 (Eq (.bool (g i j))) := ev_op ha hb rd_B0
theorem ev_pow0 (ha : Ev μ ta Γ 0 (Eq (.int i))) (hb : Ev μ tb Γ 0 (Eq (.int j))) (h : CPow i j) : Ev μ (tOp (rI CPow fun i j => .int (i ^ j.toNat)) ta tb) Γ 0 (Eq (.int (i ^ j.toNat))) := ev_pow ha hb h
theorem ev_eqD0 (ha : Ev μ ta Γ 0 (Eq x)) (hb : Ev μ tb Γ 0 (Eq y)) (hx : SeqAt.shaped x = true) (hy : SeqAt.shaped y = true) : Ev μ (tOp (rEqD K) ta tb) Γ 0 (Eq (.bool (PyData.eqv x y))) := ev_eqD ha hb hx hy
theorem ev_neD0 (ha : Ev μ ta Γ 0 (Eq x)) (hb : Ev μ tb Γ 0 (Eq y)) (hx : SeqAt.shaped x = true) (hy : SeqAt.shaped y = true) : Ev μ (tOp (rNeD K) ta tb) Γ 0 (Eq (.bool (!PyData.eqv x y))) := ev_neD ha hb hx hy
theorem et_and0 (h1 : EvT μ t Γ 0 (Eq a)) (h2 : a = true → EvT μ u Γ 0 (Eq b)) : EvT μ (tAnd t u) Γ 0 (Eq (a && b)) := et_and h1 h2
theorem et_or0 (h1 : EvT μ t Γ 0 (Eq a)) (h2 : a = false → EvT μ u Γ 0 (Eq b)) : EvT μ (tOr t u) Γ 0 (Eq (a || b)) := et_or h1 h2
theorem ev_andV0 (h1 : Ev μ ta Γ 0 (Eq (.bool a))) (h2 : a = true → Ev μ tb Γ 0 (Eq (.bool b))) : Ev μ (tAndV ta tb) Γ 0 (Eq (.bool (a && b))) := (ev_andV h1 h2).imp fun d e => by rw [← e]; cases a <;> rfl
theorem ev_orV0 (h1 : Ev μ ta Γ 0 (Eq (.bool a))) (h2 : a = false → Ev μ tb Γ 0 (Eq (.bool b))) : Ev μ (tOrV ta tb) Γ 0 (Eq (.bool (a || b))) := (ev_orV h1 h2).imp fun d e => by rw [← e]; cases a <;> rfl
theorem ev_if0 (h : EvT μ t Γ 0 (Eq b)) (h1 : b = true → Ev μ ta Γ 0 (Eq x)) (h2 : b = false → Ev μ tb Γ 0 (Eq y)) : Ev μ (tIf t ta tb) Γ 0 (Eq (if b = true then x else y)) :=
  ev_if (P := Eq (if b = true then x else y)) (n1 := 0) (n2 := 0) h (fun e => by subst e; exact h1 rfl) (fun e => by subst e; exact h2 rfl)
theorem ev_chain0 (h1 : Ev μ ta Γ 0 (Eq x)) (h2 : Ev μ tb Γ 0 (Eq y)) (h3 : Ev μ tc Γ 0 (Eq w)) (hr : RD r x y (.bool a)) (hr' : a = true → RD r' y w (.bool b)) : Ev μ (tChain r r' ta tb tc) Γ 0 (Eq (.bool (a && b))) := (ev_chain h1 h2 h3 hr hr').imp fun d e => by rw [← e]; cases a <;> rfl
theorem ev_split {s sep : Str} (ha : Ev μ ta Γ 0 (Eq (.str s))) (hb : Ev μ tb Γ 0 (Eq (.str sep))) (h1 : (sep.length == 0) = false) (h2 : s.length ≤ 10000000) : Ev μ (tM1 rSplit ta tb) Γ 0 (Eq (.list ((Txt.split s sep).map .str))) := ev_m1 ha hb (rm_split h1 h2)
theorem ev_isi0 {T : String} (hT : ∀ d, kitB (tyD d) T = some (isD T d)) (h : Ev μ te Γ 0 (Eq x)) : Ev μ (tCB (rIsi K) (tCons te (tCons (tC (.ty T)) tNil))) Γ 0 (Eq (.bool (isD T x))) := ev_isi hT h
theorem ev_inSg {c : Nat} {z : Str} (ha : Ev μ ta Γ 0 (Eq (.str ⟨#[c]⟩))) (hb : Ev μ tb Γ 0 (Eq (.str z))) : Ev μ (tOp rInSg ta tb) Γ 0 (Eq (.bool (decide (c ∈ z.cps.toList)))) := ev_op ha hb rd_inSg
theorem ev_callP {ta : TA} {E : XK} {pre : List PyData → Prop} {post : List PyData → PyData → Prop} {xs : List PyData} (ha : EvA μ ta Γ 0 (Eq xs)) (hp : pre xs) : Ev μ (tCall (spP pre post) [] E ta) Γ 0 (post xs) := (ev_call ha fun _ e => e ▸ hp).imp fun d ⟨ys, e, po⟩ => e ▸ po
end
theorem split_len {s sep p : Str} (h : p ∈ Txt.split s sep) : p.length ≤ s.length := by
  have := join_mem_le sep (Txt.split s sep) p h
  rw [PySem.StrLaws.join_split] at this
  exact this
theorem len_app (a b : Str) : (a ++ b).length = a.length + b.length := by
  show (Array.append a.cps b.cps).size = a.cps.size + b.cps.size
  simp
theorem join_many (sep : Str) : ∀ ts : List Str, ts.length * sep.length ≤ (Str.join sep ts).length + sep.length
  | [] => by simp
  | [x] => by simp
  | x :: y :: r => by
    have ih := join_many sep (y :: r)
    show _ ≤ (x ++ sep ++ Str.join sep (y :: r)).length + sep.length
    rw [len_app, len_app]
    rw [List.length_cons, Nat.add_mul, Nat.one_mul]
    omega
theorem join_len_le (sep : Str) : ∀ ts : List Str, (Str.join sep ts).length ≤ (ts.map (·.length)).sum + ts.length * sep.length
  | [] => by simp [Str.join]; rfl
  | [x] => by simp [Str.join]
  | x :: y :: r => by
    have ih := join_len_le sep (y :: r)
    show (x ++ sep ++ Str.join sep (y :: r)).length ≤ _
    rw [len_app, len_app, List.map_cons, List.sum_cons]
    rw [List.length_cons, Nat.add_mul, Nat.one_mul]
    omega
theorem sum_le_mul {α : Type} (f : α → Nat) (B : Nat) : ∀ xs : List α, (∀ x ∈ xs, f x ≤ B) → (xs.map f).sum ≤ xs.length * B
  | [], _ => by simp
  | x :: r, h => by
    have ih := sum_le_mul f B r fun y hy => h y (List.mem_cons_of_mem _ hy)
    have hx := h x List.mem_cons_self
    rw [List.map_cons, List.sum_cons, List.length_cons, Nat.add_mul, Nat.one_mul]
    omega
theorem split_many {s : Str} : (Txt.split s "/").length ≤ s.length + 1 := by
  have h := join_many "/" (Txt.split s "/")
  rw [PySem.StrLaws.join_split] at h
  have e : (("/" : Str)).length = 1 := by decide +kernel
  rw [e] at h
  omega
theorem mem_strs {xs : List Str} {d : PyData} (h : d ∈ xs.map PyData.str) : ∃ z, z ∈ xs ∧ d = .str z := let ⟨z, a, b⟩ := List.mem_map.mp h; ⟨z, a, b.symm⟩
theorem mem_ints {xs : List Int} {d : PyData} (h : d ∈ xs.map PyData.int) : ∃ z, z ∈ xs ∧ d = .int z := let ⟨z, a, b⟩ := List.mem_map.mp h; ⟨z, a, b.symm⟩
theorem mem_chD {z : Str} {d : PyData} (h : d ∈ chD z) : ∃ c, c ∈ z.cps.toList ∧ d = .str ⟨#[c]⟩ := let ⟨c, a, b⟩ := List.mem_map.mp h; ⟨c, a, b.symm⟩
end B

/-! B8: written dicts; one of some things; how many draws. -/
namespace B
open PySem PySem.Spec PyProof.Rows L2
section
variable {μ : Mu} {Γ : List Sl} {n k : Nat} {P P1 P2 : PyData → Prop} {ta tb tc te : TE} {x y z w d : PyData} {K : PySem.W.Frag} {b : Addr} {i : Nat} {E : XK}
theorem ev_dnew : Ev μ tDNewK Γ 0 (Eq (.dict [])) := fun G0 H0 G c σ H Q S l q => fun p hp =>
  q _ _ _ _ rfl (S.laid hp) (.same (Nw.upd hp S.sub) (Same.new hp)) (.dct upd_same .nil)
/-- {'k': e} -/
theorem ev_disp1 {s : Str} (h : Ev μ te Γ n P) : Ev μ (tDisp [(tC (.str s), te)]) Γ n (fun d => ∃ x, P x ∧ d = .dict [(.str s, x)]) := fun G0 H0 G c σ H Q S l q => fun p hp => by
  have S1 := S.same (G' := G) (H' := upd H p (.dK [])) (Nw.refl _ _) (S.sub.trans (Same.new hp)) (Same.new hp)
  have e1 : Ext μ.M G H G (upd H p (.dK [])) := .same (Nw.refl _ _) (Same.new hp)
  have hM : ¬ μ.M p := fun hm' => (S.ent p hm').1 (S.h0 hp)
  refine h G0 H0 G c σ _ _ S1 l fun x v G2 H2 px S2 e2 d2 => ?_
  have hp2 : H2 p = some (.dK []) := e2.fr _ _ hM upd_same
  have gp2 : G2 p = none := e2.out (Same.free S.sub hp) upd_same
  refine ⟨hp2, [(.inr s, v)], rfl, by show 1 ≤ 15; decide, ?_⟩
  have hnew : Nw G H (upd G2 p (.dK [(.inr s, v)])) := ⟨(e1.trans e2).gg.trans (Same.new gp2), fun a ha => by
    by_cases z : a = p
    · subst z; exact .inr hp
    · rw [upd_ne z] at ha; exact (e1.trans e2).nw.2 a ha⟩
  have ee := e1.trans e2
  have hsub : Same (upd G2 p (.dK [(.inr s, v)])) (upd H2 p (.dK [(.inr s, v)])) := Same.upd2 S2.sub
  have hfr : Fr μ.M H (upd H2 p (.dK [(.inr s, v)])) := fun a o ha hh => by
    rw [upd_ne (fun z => by subst z; rw [hp] at hh; cases hh)]; exact ee.fr a o ha hh
  have e3 : Ext μ.M G H (upd G2 p (.dK [(.inr s, v)])) (upd H2 p (.dK [(.inr s, v)])) := ⟨hnew, hfr, fun a ha => by
    by_cases z : a = p
    · subst z; exact hp
    · rw [upd_ne z] at ha; exact ee.dm a ha⟩
  refine q _ _ _ _ ⟨x, px, rfl⟩ (S.ext hnew hsub hfr ?_) e3 (.dct upd_same (.cons (d2.mono (Same.new gp2)) .nil))
  exact μ.st _ H2 _ (fun a o ha hh => by
    have na : a ≠ p := fun z => by rw [z] at ha; exact hM ha
    rw [upd_ne na]; exact hh) S2.inv
theorem ev_disp1E {s : Str} (h : Ev μ te Γ 0 (Eq x)) : Ev μ (tDisp [(tC (.str s), te)]) Γ 0 (Eq (.dict [(.str s, x)])) := (ev_disp1 h).imp fun d ⟨y, e1, e2⟩ => by rw [e2, e1]
/-! ### one of some things -/
def ofPre (ds : List PyData) : Prop := ∃ x, ds = [x] ∧ ((∃ xs, x = .list xs ∧ 1 ≤ xs.length ∧ xs.length ≤ 1000000) ∨ ∃ z : Str, x = .str z ∧ 1 ≤ z.length ∧ z.length ≤ 1000000)
def ofPost (ds : List PyData) (d : PyData) : Prop := ∃ x, ds = [x] ∧ ((∃ xs, x = .list xs ∧ d ∈ xs) ∨ ∃ z : Str, x = .str z ∧ d ∈ chD z)
abbrev takePre : List PyData → Prop := fun ds => ∃ m : Int, ds = [.int m] ∧ 1 ≤ m ∧ m ≤ 1000000
abbrev takePost : List PyData → PyData → Prop := fun ds d => ∃ m i : Int, ds = [.int m] ∧ d = .int i ∧ 0 ≤ i ∧ i < m
theorem ev_ofP (hi : Γ[i]? = some (.raw (.ref b))) (h : Ev (boxMu b) te Γ n P) (hP : ∀ d, P d → ∃ xs, d = .list xs ∧ 1 ≤ xs.length ∧ xs.length ≤ 1000000) : Ev (boxMu b) (tCall (spB 1 ofPre ofPost) [] E (tCons (tVar i) (tCons te tNil))) Γ (n + 1) (fun d => ∃ xs, P (.list xs) ∧ d ∈ xs) :=
  (ev_callB (n := n + 0) hi (ea_consP (P := fun xs => ∃ x, P x ∧ xs = [x]) h ea_nil fun x y p e => ⟨x, p, by rw [← e]⟩) fun ys ⟨x, p, e⟩ => ⟨x, e, .inl (hP x p)⟩).imp fun d ⟨ys, ⟨x, p, e⟩, x', e', h'⟩ => by
    subst e
    cases e'
    obtain ⟨xs, rfl, _⟩ := hP x p
    rcases h' with ⟨xs', e2, hd⟩ | ⟨z, e2, _⟩
    · cases e2; exact ⟨xs, p, hd⟩
    · cases e2
theorem ev_ofL {xs : List PyData} (hi : Γ[i]? = some (.raw (.ref b))) (h : Ev (boxMu b) te Γ 0 (Eq (.list xs))) (h1 : 1 ≤ xs.length := by decide) (h2 : xs.length ≤ 1000000 := by decide) : Ev (boxMu b) (tCall (spB 1 ofPre ofPost) [] E (tCons (tVar i) (tCons te tNil))) Γ 1 (fun d => d ∈ xs) :=
  (ev_ofP hi h fun d e => ⟨xs, e.symm, h1, h2⟩).imp fun d ⟨ys, e, hd⟩ => by cases e; exact hd
theorem ev_ofS {s : Str} (hi : Γ[i]? = some (.raw (.ref b))) (h : Ev (boxMu b) te Γ 0 (Eq (.str s))) (h1 : 1 ≤ s.length) (h2 : s.length ≤ 1000000) : Ev (boxMu b) (tCall (spB 1 ofPre ofPost) [] E (tCons (tVar i) (tCons te tNil))) Γ 1 (fun d => d ∈ chD s) :=
  (ev_callB (n := 0) hi (ea_cons0 h ea_nil) fun ys e => ⟨_, e.symm, .inr ⟨s, rfl, h1, h2⟩⟩).imp fun d ⟨ys, e, x, e', h'⟩ => by
    subst e
    cases e'
    rcases h' with ⟨xs', e2, hd⟩ | ⟨z, e2, hd⟩
    · cases e2
    · cases e2; exact hd
theorem ev_take {m : Int} (hi : Γ[i]? = some (.raw (.ref b))) (h : Ev (boxMu b) te Γ 0 (Eq (.int m))) (h1 : 1 ≤ m := by decide) (h2 : m ≤ 1000000 := by decide) : Ev (boxMu b) (tCall (spB 1 takePre takePost) [] E (tCons (tVar i) (tCons te tNil))) Γ 1 (fun d => ∃ i : Int, d = .int i ∧ 0 ≤ i ∧ i < m) :=
  (ev_callB (n := 0) hi (ea_cons0 h ea_nil) fun ys e => ⟨m, e.symm, h1, h2⟩).imp fun d ⟨ys, e, m', i', e', h', h3, h4⟩ => by
    subst e
    cases e'
    exact ⟨i', h', h3, h4⟩
theorem ev_join {sep : Str} (ha : Ev μ ta Γ 0 (Eq (.str sep))) (hb : Ev μ tb Γ n P1) (hP : ∀ d, P1 d → ∃ ys : List Str, d = .list (ys.map .str) ∧ (ys.map (·.length)).sum + ys.length * sep.length ≤ 16777216 ∧ P (.str (Txt.join sep ys))) : Ev μ (tM1 (rJoin K) ta tb) Γ n P := by
  have := ev_m1P (r := rJoin K) (P := P) ha hb (fun _ e => ⟨sep, e.symm⟩) fun x y e p => by
    obtain ⟨ys, rfl, h1, h2⟩ := hP y p
    exact ⟨_, e ▸ rm_join h1, h2⟩
  rw [Nat.zero_add] at this
  exact this
end
/-! ### a law's own def -/
def spBox (K : PySem.W.Frag) : Sp := fun vs H Q _ => ∃ (a : Addr) (ns : List Int) (j : Nat), vs = [.ref a, .int (j : Int)] ∧ SqL K H a (ns.map V.int) ∧ ns.length ≤ 63 ∧ j ≤ 10 ∧ ∀ b H', H b = none → Same H H' → BoxAt b 0 H' → Q (.ref b) H'
def spLaw (K : PySem.W.Frag) : Sp := fun vs H Q _ => ∃ (a : Addr) (ns : List Int), vs = [.ref a] ∧ SqL K H a (ns.map V.int) ∧ ns.length ≤ 63 ∧ ∀ H', Q (.bl true) H'
theorem law_starts {K : PySem.W.Frag} {H : Hp} {a : Addr} {ns : List Int} (hl : ns.length ≤ 63) (hS : SqL K H a (ns.map V.int)) : spLaw K [.ref a] H (fun v _ => v = .bl true) fun _ _ _ => False := ⟨a, ns, rfl, hS, hl, fun _ => rfl⟩
section
variable {K : PySem.W.Frag} {σ : L2.St} {H : Hp} {a : Addr} {ns : List Int} {E E' : XK} {ta tb : TE} {i j : Int} {D : Ends} {tu : TS}
theorem vmax (ha : Val ta σ H (.int i)) (hb : Val tb σ H (.int j)) : Val (tCB (fun xs H Q => ∃ i j, xs = [.int i, .int j] ∧ Q (.int (if j > i then j else i)) H) (tCons ta (tCons tb tNil))) σ H (.int (if j > i then j else i)) := fun Q q => ha _ (hb _ ⟨i, j, rfl, q⟩)
theorem vmin (ha : Val ta σ H (.int i)) (hb : Val tb σ H (.int j)) : Val (tCB (fun xs H Q => ∃ i j, xs = [.int i, .int j] ∧ Q (.int (if j < i then j else i)) H) (tCons ta (tCons tb tNil))) σ H (.int (if j < i then j else i)) := fun Q q => ha _ (hb _ ⟨i, j, rfl, q⟩)
theorem v_rng {te : TE} {J : Int} {R : It → Hp → Prop} (h : Val te σ H (.int J)) (h1 : -(2 ^ 62) ≤ J) (h2 : J < 2 ^ 62) (q : R (Itr 0 J.toNat) H) : iRng1 (tCons te tNil) σ H R := h _ ⟨J, rfl, h1, h2, q⟩
/-- for k in range(max(1, min(m, len(script)))): what stands between two turns is the heap alone -/
theorem law_for {m : Int} {s0 : L2.St} (hm : 1 ≤ m) (hm2 : m ≤ 10) (hS : SqL K H a (ns.map V.int)) (N : L2.St → Prop) (h0 : N (some (.ref a) :: s0))
    (hs : ∀ (k : Nat) s' H', k < 10 → N (some (.ref a) :: s') → Same H H' → tu { D with nx := fun σ' H'' => (∃ s2, σ' = some (.ref a) :: s2 ∧ N (some (.ref a) :: s2)) ∧ Same H H'', ct := fun σ' H'' => (∃ s2, σ' = some (.ref a) :: s2 ∧ N (some (.ref a) :: s2)) ∧ Same H H'', bk := D.nx } ((some (.ref a) :: s').set 1 (some (.int (k : Int)))) H')
    (hd : ∀ s' H', N (some (.ref a) :: s') → Same H H' → D.nx (some (.ref a) :: s') H') :
    tFor (iRng1 (tCons (tCB (fun xs H Q => ∃ i j, xs = [.int i, .int j] ∧ Q (.int (if j > i then j else i)) H) (tCons (tC (.int 1)) (tCons (tCB (fun xs H Q => ∃ i j, xs = [.int i, .int j] ∧ Q (.int (if j < i then j else i)) H) (tCons (tC (.int m)) (tCons (tCB (rLen K) (tCons (tVar 0) tNil)) tNil))) tNil))) tNil)) (gName 1) tu D (some (.ref a) :: s0) H := by
  have hv := vmax (σ := some (.ref a) :: s0) (val_c (v := .int 1) (H := H)) (vmin (val_c (v := .int m)) (vlenL (val_var (i := 0) rfl) hS))
  rw [List.length_map] at hv
  generalize hJ : (if (if ((ns.length : Nat) : Int) < m then ((ns.length : Nat) : Int) else m) > 1 then (if ((ns.length : Nat) : Int) < m then ((ns.length : Nat) : Int) else m) else 1) = J at hv
  have hJ2 : 1 ≤ J ∧ J ≤ 10 := by rw [← hJ]; repeat (split) <;> omega
  refine v_rng hv (by omega) (by omega) (for_range (lo := 0) (n := J.toNat) (fun i σ' H' => (∃ s2, σ' = some (.ref a) :: s2 ∧ N (some (.ref a) :: s2)) ∧ Same H H') ⟨⟨s0, rfl, h0⟩, Same.refl H⟩ ?_ ?_)
  · rintro i σ' H' hi ⟨⟨s2, rfl, n2⟩, sm⟩
    rw [Int.zero_add]
    exact hs i s2 H' (by omega) n2 sm
  · rintro σ' H' ⟨⟨s2, rfl, n2⟩, sm⟩
    exact hd s2 H' n2 sm
/-- right(box(script, k)) -/
theorem v_right {n k : Nat} (h0 : σ[0]? = some (some (.ref a))) (h1 : σ[1]? = some (some (.int (k : Int)))) (hk : k ≤ 10) (hS : SqL K H a (ns.map V.int)) (hl : ns.length ≤ 63) (hn : n ≤ CM) {Q : VK} (q : ∀ H', Same H H' → Q (.bl true) H') :
    tCall (spB n (fun ds => ds = []) (fun _ d => d = .bool true)) [] E (tCons (tCall (spBox K) [] E' (tCons (tVar 0) (tCons (tVar 1) tNil))) tNil) σ H Q := by
  refine ⟨_, h0, _, h1, a, ns, k, rfl, hS, hl, hk, fun b H1 hb sm bx => ⟨b, [], 0, fun _ => none, [], rfl, (fun _ _ e => by cases e), rfl, bx, by omega, .nil, rfl, fun d v G' H' hd ex s' bx' dt => ?_⟩⟩
  subst hd
  cases dt
  exact q H' fun x o e => ex.fr x o (fun z => by subst z; rw [hb] at e; cases e) (sm x o e)
/-- box = box(script, k) -/
theorem v_box {k : Nat} (h0 : σ[0]? = some (some (.ref a))) (h1 : σ[1]? = some (some (.int (k : Int)))) (hk : k ≤ 10) (hS : SqL K H a (ns.map V.int)) (hl : ns.length ≤ 63) {Q : VK} (q : ∀ b H', H b = none → Same H H' → BoxAt b 0 H' → Q (.ref b) H') :
    tCall (spBox K) [] E' (tCons (tVar 0) (tCons (tVar 1) tNil)) σ H Q := ⟨_, h0, _, h1, a, ns, k, rfl, hS, hl, hk, q⟩
end
end B

/-! B9: sorted of tuples that their first parts tell apart, of texts. -/
namespace B
open PySem PySem.Spec PyProof.Rows L2
abbrev Kk := Int × List Nat
def ltK (p q : Kk) : Bool := decide (p.1 < q.1) || (decide (p.1 = q.1) && decide (p.2 < q.2))
theorem ltK_iff {p q : Kk} : ltK p q = true ↔ p.1 < q.1 ∨ (p.1 = q.1 ∧ p.2 < q.2) := by unfold ltK; simp
theorem ltK_no {p q : Kk} : ltK p q = false ↔ ¬ (p.1 < q.1 ∨ (p.1 = q.1 ∧ p.2 < q.2)) := by
  rw [← ltK_iff]; cases ltK p q <;> simp
theorem ltK_total {p q : Kk} (h1 : ltK p q = false) (h2 : ltK q p = false) : p = q := by
  have a := ltK_no.mp h1
  have b := ltK_no.mp h2
  have e : p.1 = q.1 := by omega
  have c1 : ¬ p.2 < q.2 := fun h => a (.inr ⟨e, h⟩)
  have c2 : ¬ q.2 < p.2 := fun h => b (.inr ⟨e.symm, h⟩)
  exact Prod.ext e (List.le_antisymm (List.not_lt.mp c2) (List.not_lt.mp c1))
theorem ltK_trans {p q r : Kk} (h1 : ltK p q = true) (h2 : ltK q r = true) : ltK p r = true := by
  have a := ltK_iff.mp h1
  have b := ltK_iff.mp h2
  refine ltK_iff.mpr ?_
  rcases a with a | ⟨a, a'⟩
  · rcases b with b | ⟨b, b'⟩
    · exact .inl (by omega)
    · exact .inl (by omega)
  · rcases b with b | ⟨b, b'⟩
    · exact .inl (by omega)
    · exact .inr ⟨by omega, List.lt_trans a' b'⟩
theorem ltK_asym {p q : Kk} (h : ltK p q = true) : ltK q p = false := by
  cases e : ltK q p with
  | false => rfl
  | true =>
    have := ltK_iff.mp (ltK_trans h e)
    rcases this with a | ⟨_, a⟩
    · omega
    · exact absurd a (List.lt_irrefl _)
theorem ltK_swo {α : Type} (k : α → Kk) : SrtO.Swo fun x y => ltK (k x) (k y) := by
  refine ⟨fun x y h => ltK_asym h, fun x y z h1 h2 => ?_⟩
  cases e : ltK (k z) (k x) with
  | false => rfl
  | true =>
    -- y ≤ x, z ≤ y turned: not (y < x), not (z < y), yet z < x
    cases e2 : ltK (k x) (k y) with
    | true => rw [ltK_trans e e2] at h2; cases h2
    | false =>
      have := ltK_total h1 e2
      rw [← this] at e
      rw [e] at h2; cases h2
mutual
theorem Dt.det {H : Hp} : ∀ {v : V} {d d' : PyData}, Dt H v d → Dt H v d' → d = d'
  | _, _, _, .non, h => by cases h; rfl
  | _, _, _, .bl b, h => by cases h; rfl
  | _, _, _, .int i, h => by cases h; rfl
  | _, _, _, .str x, h => by cases h; rfl
  | _, _, _, .lst a r, h => by
    cases h with
    | lst a' r' => rw [a] at a'; cases a'; rw [DtA.det r r']
    | tup a' r' => rw [a] at a'; cases a'
    | dct a' r' => rw [a] at a'; cases a'
  | _, _, _, .tup a r, h => by
    cases h with
    | lst a' r' => rw [a] at a'; cases a'
    | tup a' r' => rw [a] at a'; cases a'; rw [DtA.det r r']
    | dct a' r' => rw [a] at a'; cases a'
  | _, _, _, .dct a r, h => by
    cases h with
    | lst a' r' => rw [a] at a'; cases a'
    | tup a' r' => rw [a] at a'; cases a'
    | dct a' r' => rw [a] at a'; cases a'; rw [DtK.det r r']
theorem DtA.det {H : Hp} : ∀ {v : List V} {d d' : List PyData}, DtA H v d → DtA H v d' → d = d'
  | _, _, _, .nil, h => by cases h; rfl
  | _, _, _, .cons a r, h => by
    cases h with
    | cons a' r' => rw [Dt.det a a', DtA.det r r']
theorem DtK.det {H : Hp} : ∀ {v : List (Key × V)} {d d' : List (PyData × PyData)}, DtK H v d → DtK H v d' → d = d'
  | _, _, _, .nil, h => by cases h; rfl
  | _, _, _, .cons a r, h => by
    cases h with
    | cons a' r' => rw [Dt.det a a', DtK.det r r']
end
theorem canLayAll_mem : ∀ {xs : List PyData} {d : PyData}, PyData.canLayAll0 xs = true → d ∈ xs → d.canLay0 = true
  | [], _, _, h => by simp at h
  | x :: r, d, c, h => by
    have c' : x.canLay0 = true ∧ PyData.canLayAll0 r = true := by simpa [PyData.canLayAll0] using c
    rcases List.mem_cons.mp h with e | e
    · rw [e]; exact c'.1
    · exact canLayAll_mem c'.2 e
theorem canLayAll_of : ∀ {xs : List PyData}, (∀ d ∈ xs, d.canLay0 = true) → PyData.canLayAll0 xs = true
  | [], _ => by simp [PyData.canLayAll0]
  | x :: r, h => by
    simp only [PyData.canLayAll0, h x List.mem_cons_self, canLayAll_of fun d hd => h d (List.mem_cons_of_mem _ hd), Bool.and_self]
theorem depthAll_mem : ∀ {xs : List PyData} {d : PyData}, d ∈ xs → d.depth ≤ PyData.depthAll xs
  | [], _, h => by simp at h
  | x :: r, d, h => by
    simp only [PyData.depthAll]
    rcases List.mem_cons.mp h with e | e
    · rw [e]; omega
    · have := depthAll_mem e; omega
theorem depthAll_le : ∀ {xs : List PyData} {n : Nat}, (∀ d ∈ xs, d.depth ≤ n) → PyData.depthAll xs ≤ n
  | [], _, _ => by simp [PyData.depthAll]
  | x :: r, n, h => by
    simp only [PyData.depthAll]
    have h1 := h x List.mem_cons_self
    have h2 := depthAll_le fun d hd => h d (List.mem_cons_of_mem _ hd)
    omega
/-- data without dicts, of this depth at most -/
def Shp (n : Nat) (d : PyData) : Prop := d.canLay0 = true ∧ d.depth ≤ n
theorem Shp.shaped {n : Nat} {d : PyData} (h : Shp n d) (hn : n ≤ 64 := by decide) : SeqAt.shaped d = true := by
  unfold SeqAt.shaped
  rw [h.1, Bool.true_and]
  exact decide_eq_true (Nat.le_trans h.2 hn)
theorem Shp.mono {n m : Nat} {d : PyData} (h : Shp n d) (hn : n ≤ m) : Shp m d := ⟨h.1, Nat.le_trans h.2 hn⟩
theorem shp_none : Shp 0 .none := ⟨rfl, by simp [PyData.depth]⟩
theorem shp_bool {b : Bool} : Shp 0 (.bool b) := ⟨by simp [PyData.canLay0], by simp [PyData.depth]⟩
theorem shp_int {i : Int} : Shp 0 (.int i) := ⟨by simp [PyData.canLay0], by simp [PyData.depth]⟩
theorem shp_str {z : Str} (h : PyData.strOk z = true) : Shp 0 (.str z) := ⟨by simp [PyData.canLay0, h], by simp [PyData.depth]⟩
theorem shp_tup {n : Nat} {xs : List PyData} (h : ∀ d ∈ xs, Shp n d) : Shp (n + 1) (.tuple xs) := ⟨by simp only [PyData.canLay0]; exact canLayAll_of fun d hd => (h d hd).1, by
  have := depthAll_le fun d hd => (h d hd).2
  simp only [PyData.depth]; omega⟩
theorem shp_lst {n : Nat} {xs : List PyData} (h : ∀ d ∈ xs, Shp n d) : Shp (n + 1) (.list xs) := ⟨by simp only [PyData.canLay0]; exact canLayAll_of fun d hd => (h d hd).1, by
  have := depthAll_le fun d hd => (h d hd).2
  simp only [PyData.depth]; omega⟩
theorem shaped_tup {xs : List PyData} {d : PyData} (h : SeqAt.shaped (.tuple xs) = true) (hd : d ∈ xs) : SeqAt.shaped d = true := by
  have c := SeqAt.canLay_of_shaped h
  have e := SeqAt.depth_of_shaped h
  simp only [PyData.canLay0] at c
  simp only [PyData.depth] at e
  have e2 := depthAll_mem hd
  exact Shp.shaped (n := 64) ⟨canLayAll_mem c hd, by omega⟩
/-- two rows of the same length, by the first place where they are unlike -/
inductive LtA : List PyData → List PyData → Bool → Prop
  | nil : LtA [] [] false
  | eq {x y : PyData} {xs ys : List PyData} {b : Bool} : PyData.eqv x y = true → LtA xs ys b → LtA (x :: xs) (y :: ys) b
  | int {i j : Int} {xs ys : List PyData} : i ≠ j → LtA (.int i :: xs) (.int j :: ys) (decide (i < j))
  | str {a b : Str} {xs ys : List PyData} : a ≠ b → LtA (.str a :: xs) (.str b :: ys) (decide (a.cps.toList < b.cps.toList))
def TupOk (ds : List PyData) : Prop := (∀ d ∈ ds, ∃ i cs, d = .tuple (.int i :: cs)) ∨ (∀ d ∈ ds, ∃ z cs, d = .tuple (.str z :: cs))
/-- sorted(xs), tuples: k tells where each stands -/
def rSortedT (K : PySem.W.Frag) : List V → Hp → VK → Prop := fun vs H Q => ∃ (a : Addr) (xs : List V) (ds : List PyData) (k : PyData → Kk), vs = [V.ref a] ∧ SqL K H a xs ∧ DtA H xs ds ∧ (∀ d ∈ ds, SeqAt.shaped d = true) ∧ TupOk ds ∧
  (∀ xs ys, .tuple xs ∈ ds → .tuple ys ∈ ds → xs.length = ys.length ∧ LtA xs ys (ltK (k (.tuple xs)) (k (.tuple ys)))) ∧
  ∀ ys es p, ys.Perm xs → DtA H ys es → es.Perm ds → es.Pairwise (fun x y => ltK (k y) (k x) = false) → H p = none → Q (.ref p) (upd H p (.lst ys))
section
variable {X : Cx} {pins : List (Addr × Obj)} {σ : L2.St} {H : Hp} {s : Shared}
theorem Dt.reads (I : Inv X pins σ H s) {v : V} {u : Value} {d : PyData} (h : Dt H v d) (r : RelV v u) (hs : SeqAt.shaped d = true) : ∃ as, Reads s.heap u d as :=
  Dp.reads I d v u (h.dp (Same.refl H) (SeqAt.canLay_of_shaped hs)) r
end
section
variable {prog : Program} {w : World} {A : Around} {s : Shared}
theorem kat_data {b : Bool} {Q : Bool → Shared → Prop} : ∀ {xs ys : List PyData} {r : Bool} {us ws : List Value} {as bs : List Addr} {i : Nat}, LtA xs ys r → ReadsAll s.heap us xs as → ReadsAll s.heap ws ys bs → (∀ d ∈ xs, SeqAt.shaped d = true) → (∀ d ∈ ys, SeqAt.shaped d = true) →
    A.units + 64 < cLine → xs.length = ys.length → Q r s → PySem.W.KatLex prog w A b false Q (us.zip ws) i s
  | _, _, _, _, _, _, _, _, .nil, .nil, .nil, _, _, _, _, q => PySem.W.kat_nil q
  | _, _, _, _, _, _, _, i, .eq he hl, .cons r1 r2, .cons q1 q2, hx, hy, hu, hn, q => by
    refine PySem.W.kat_cons (SeqAt.eqBoolOverData prog w A _ s _ _ _ _ _ _ _ r1 q1 (SeqAt.canLay_of_shaped (hx _ List.mem_cons_self)) (SeqAt.canLay_of_shaped (hy _ List.mem_cons_self)) (SeqAt.room_of_shaped (hx _ List.mem_cons_self) hu) ?_)
    rw [he]
    exact PySem.W.kat_yes (kat_data hl r2 q2 (fun d h => hx d (List.mem_cons_of_mem _ h)) (fun d h => hy d (List.mem_cons_of_mem _ h)) hu (by simpa using hn) q)
  | _, _, _, _, _, _, _, i, .int (i := k) (j := j) he, .cons r1 r2, .cons q1 q2, hx, hy, hu, hn, q => by
    cases r1 with
    | int _ t =>
      cases q1 with
      | int _ t' =>
        refine PySem.W.kat_cons (SeqAt.EqAt.int_int k t j t' prog w _ _ ?_)
        rw [beq_eq_false_iff_ne.mpr he]
        exact PySem.W.kat_no (TS.oneLt_ints _ q)
  | _, _, _, _, _, _, _, i, .str (a := k) (b := j) he, .cons r1 r2, .cons q1 q2, hx, hy, hu, hn, q => by
    cases r1 with
    | str _ t =>
      cases q1 with
      | str _ t' =>
        refine PySem.W.kat_cons (SeqAt.EqAt.str_str k t j t' prog w _ _ ?_)
        rw [beq_eq_false_iff_ne.mpr he]
        refine PySem.W.kat_no ?_
        cases hb : (b && i == 0) with
        | true => exact oneLt_str q
        | false => exact PySem.W.kat_one _ _ (PySem.P.lt_str q)
theorem LtA.self : ∀ {xs : List PyData} {b : Bool}, LtA xs xs b → True := fun _ => trivial
theorem tup_cmp {vs : List Value} {T : Value → List PyData} {k : PyData → Kk} (hu : A.units + 64 < cLine) (hr : ∀ v ∈ vs, ∃ as, Reads s.heap v (.tuple (T v)) as) (hs : ∀ v ∈ vs, ∀ d ∈ T v, SeqAt.shaped d = true)
    (hl : ∀ v ∈ vs, ∀ u ∈ vs, (T v).length = (T u).length ∧ LtA (T v) (T u) (ltK (k (.tuple (T v))) (k (.tuple (T u))))) : SrtO.Cmp prog w A s (tuples' true) (fun p => p.1 ∈ vs) (SrtO.lt2 fun v u => ltK (k (.tuple (T v))) (k (.tuple (T u)))) := by
  intro p q hm hm'
  obtain ⟨as, r1⟩ := hr _ hm
  obtain ⟨bs, r2⟩ := hr _ hm'
  obtain ⟨e1, e2⟩ := hl _ hm _ hm'
  have h1 := hs _ hm
  have h2 := hs _ hm'
  show wpAny (model prog w) A (keyLt' (tuples' true) p.1 q.1) (fun r s' => s' = s ∧ r = ltK (k (.tuple (T p.1))) (k (.tuple (T q.1)))) (fun _ _ => False) s
  generalize T p.1 = xs at *
  generalize T q.1 = ys at *
  generalize p.1 = u at *
  generalize q.1 = u' at *
  cases r1 with
  | tuple ho hc hd ra =>
    cases r2 with
    | tuple ho' hc' hd' rb =>
      refine PySem.W.kat_lt ho hd ho' hd' ?_
      have ea : ∀ {vs : List Value} {ds : List PyData} {as : List Addr}, ReadsAll s.heap vs ds as → vs.length = ds.length := by
        intro vs
        induction vs with
        | nil => intro ds as h; cases h; rfl
        | cons v vs ih => intro ds as h; cases h with | cons _ b => rw [List.length_cons, List.length_cons, ih b]
      have n1 := ea ra
      have n2 := ea rb
      rw [Array.length_toList] at n1 n2
      rw [decide_eq_false (by omega)]
      exact kat_data e2 ra rb h1 h2 hu e1 ⟨rfl, rfl⟩
end
/-- first parts of one type -/
theorem kat_tups {h : Heap} : ∀ {vs : List Value} {T : Value → List PyData} {T0 : String} (F : PyData → Prop), (∀ v ∈ vs, ∃ as, Reads h v (.tuple (T v)) as) → (∀ v ∈ vs, ∃ x r, T v = x :: r ∧ F x) → (∀ u x as, Reads h u x as → F x → ∀ M : Model, PySem.W.Looks M h (typeOf u) (.type T0)) →
    ∃ fs, PySem.W.KatTups h vs fs ∧ fs.length = vs.length ∧ ∀ f ∈ fs, ∀ M : Model, PySem.W.Looks M h (typeOf f) (.type T0)
  | [], _, _, _, _, _, _ => ⟨[], PySem.W.KatTups.nil, rfl, by simp⟩
  | v :: vs, T, T0, F, hr, hT, hL => by
    obtain ⟨fs, k1, k2, k3⟩ := kat_tups (vs := vs) (T := T) F (fun u hu => hr u (List.mem_cons_of_mem _ hu)) (fun u hu => hT u (List.mem_cons_of_mem _ hu)) hL
    obtain ⟨as, r⟩ := hr v List.mem_cons_self
    obtain ⟨x, rr, e, hx⟩ := hT v List.mem_cons_self
    rw [e] at r
    cases r with
    | tuple ho hc hd ra =>
      rename_i us n
      have : ∃ f us', us.toList = f :: us' ∧ ∃ as, Reads h f x as := by
        cases hq : us.toList with
        | nil => rw [hq] at ra; cases ra
        | cons f us' => rw [hq] at ra; cases ra with | cons a b => exact ⟨f, us', rfl, _, a⟩
      obtain ⟨f, us', e1, bs, rf⟩ := this
      refine ⟨f :: fs, PySem.W.KatTups.cons ho hc hd (by rw [← Array.getElem?_toList, e1]; rfl) k1, by rw [List.length_cons, List.length_cons, k2], fun g hg M => ?_⟩
      rcases List.mem_cons.mp hg with z | z
      · rw [z]; exact hL f x bs rf hx M
      · exact k3 g z M
section
variable {prog : Program} {w : World} {A : Around} {s : Shared}
theorem tups_sortable {a : Addr} {vs : List Value} {T : Value → List PyData} {k : PyData → Kk} (hu : A.units + 64 < cLine) (h0 : 0 < vs.length) (hr : ∀ v ∈ vs, ∃ as, Reads s.heap v (.tuple (T v)) as) (hs : ∀ v ∈ vs, ∀ d ∈ T v, SeqAt.shaped d = true)
    (hf : (∀ v ∈ vs, ∃ i r, T v = .int i :: r) ∨ (∀ v ∈ vs, ∃ i r, T v = .str i :: r)) (h1 : Heap) (hk : ∀ b o, s.heap.get? b = some o → b ≠ a ∧ h1.get? b = some o)
    (hl : ∀ v ∈ vs, ∀ u ∈ vs, (T v).length = (T u).length ∧ LtA (T v) (T u) (ltK (k (.tuple (T v))) (k (.tuple (T u))))) : SrtO.SortableO prog w A { s with heap := h1 } a vs fun v u => ltK (k (.tuple (T v))) (k (.tuple (T u))) := by
  intro h' keep
  have hr' : ∀ v ∈ vs, ∃ as, Reads h' v (.tuple (T v)) as := fun v hm => let ⟨as, r⟩ := hr v hm; ⟨as, Reads.keeps (fun b o e => keep b o (hk b o e).1 (hk b o e).2) r⟩
  refine ⟨tuples' true, fun Q E hq => ?_, tup_cmp hu hr' hs hl⟩
  rcases hf with hf | hf
  · obtain ⟨fs, k1, k2, k3⟩ := kat_tups (T0 := "int") (fun x => ∃ i, x = .int i) hr' (fun v hv => let ⟨i, r, e⟩ := hf v hv; ⟨_, r, e, i, rfl⟩) (fun u x as r hx M => by obtain ⟨i, e⟩ := hx; subst e; cases r; exact PySem.W.Looks.now)
    refine PySem.W.kat_kind (T := .type "int") k1 (by omega) (fun f hm => k3 f hm _) (by rfl) ?_
    have e : (Value.type "int" != Value.type "tuple") = true := by first | decide +kernel | rfl
    rw [e]; exact hq
  · obtain ⟨fs, k1, k2, k3⟩ := kat_tups (T0 := "str") (fun x => ∃ i, x = .str i) hr' (fun v hv => let ⟨i, r, e⟩ := hf v hv; ⟨_, r, e, i, rfl⟩) (fun u x as r hx M => by obtain ⟨i, e⟩ := hx; subst e; cases r; exact PySem.W.Looks.now)
    refine PySem.W.kat_kind (T := .type "str") k1 (by omega) (fun f hm => k3 f hm _) (by rfl) ?_
    have e : (Value.type "str" != Value.type "tuple") = true := by first | decide +kernel | rfl
    rw [e]; exact hq
end
theorem DtA.of_map {H : Hp} {f : V → PyData} : ∀ {xs : List V}, (∀ x ∈ xs, Dt H x (f x)) → DtA H xs (xs.map f)
  | [], _ => .nil
  | x :: r, h => .cons (h x List.mem_cons_self) (DtA.of_map fun y hy => h y (List.mem_cons_of_mem _ hy))
theorem DtA.map_of {H : Hp} {f : V → PyData} (hf : ∀ x d, Dt H x d → f x = d) : ∀ {xs : List V} {ds : List PyData}, DtA H xs ds → xs.map f = ds
  | _, _, .nil => rfl
  | _, _, .cons a r => by rw [List.map_cons, hf _ _ a, DtA.map_of hf r]
theorem DtA.mem {H : Hp} : ∀ {xs : List V} {ds : List PyData} {x : V}, DtA H xs ds → x ∈ xs → ∃ d ∈ ds, Dt H x d
  | _, _, _, .nil, h => by simp at h
  | _, _, x, .cons a r, h => by
    rcases List.mem_cons.mp h with e | e
    · rw [e]; exact ⟨_, List.mem_cons_self, a⟩
    · obtain ⟨d, h1, h2⟩ := DtA.mem r e
      exact ⟨d, List.mem_cons_of_mem _ h1, h2⟩
open Classical in
/-- the data of a value -/
noncomputable def datOf (H : Hp) (x : V) : PyData := if h : ∃ d, Dt H x d then h.choose else .none
theorem datOf_eq {H : Hp} {x : V} {d : PyData} (h : Dt H x d) : datOf H x = d := by
  unfold datOf
  have e : ∃ d, Dt H x d := ⟨d, h⟩
  rw [dif_pos e]
  exact Dt.det e.choose_spec h
def partsOf : PyData → List PyData
  | .tuple xs => xs
  | _ => []
section
variable {X : Cx}
theorem cr_sortedT (hu : X.A.units + 70 < cLine) : CallR X (.builtin "sorted") (rSortedT X.K) := by
  intro pins s σ H vs us Q I r h
  obtain ⟨a, xs, ds, k, rfl, hs, hx, hsh, hfo, hlt, q⟩ := h
  obtain ⟨its, rv, hl, hz⟩ := I.list hs
  obtain ⟨u, rfl, ru⟩ := vals1 r
  obtain rfl : u = Value.ref a := ru
  have tup : ∀ x ∈ xs, ∃ cs, .tuple cs ∈ ds ∧ Dt H x (.tuple cs) := fun x hm => by
    obtain ⟨d, hd, hxd⟩ := hx.mem hm
    rcases hfo with hfo | hfo
    · obtain ⟨i, cs, rfl⟩ := hfo d hd; exact ⟨_, hd, hxd⟩
    · obtain ⟨i, cs, rfl⟩ := hfo d hd; exact ⟨_, hd, hxd⟩
  obtain ⟨e1, e2⟩ := refs_back rv fun x m => by
    obtain ⟨cs, _, h⟩ := tup x m
    cases h with | tup h _ => exact ⟨_, rfl⟩
  have dat : ∀ v ∈ its, ∃ cs, .tuple cs ∈ ds ∧ partsOf (datOf H (backV v)) = cs ∧ Dt H (backV v) (.tuple cs) ∧ RelV (backV v) v := fun v hv => by
    obtain ⟨t, rfl⟩ := e2 v hv
    have hm : V.ref t ∈ xs := by rw [e1]; exact List.mem_map.mpr ⟨_, hv, rfl⟩
    obtain ⟨cs, h1, h2⟩ := tup _ hm
    exact ⟨cs, h1, by show partsOf (datOf H (.ref t)) = cs; rw [datOf_eq h2]; rfl, h2, rfl⟩
  refine SrtO.sorted_ord (ltv := fun v u => ltK (k (.tuple (partsOf (datOf H (backV v))))) (k (.tuple (partsOf (datOf H (backV u)))))) (ltK_swo fun v => k (.tuple (partsOf (datOf H (backV v))))) hl.isList (by rw [← rv.length]; exact hz) (fun h2 h₁ b hb kk => ?_) fun out hsrt hstb => ?_
  · refine tups_sortable (T := fun v => partsOf (datOf H (backV v))) (by show X.A.units + 1 + 1 + 64 < cLine; omega) (by omega) (fun v hv => ?_) (fun v hv d hd => ?_) ?_ h₁ kk fun v hv u hu' => ?_
    · obtain ⟨cs, h1, e, h2, h3⟩ := dat v hv
      rw [e]
      exact Dt.reads I h2 h3 (hsh _ h1)
    · obtain ⟨cs, h1, e, h2, h3⟩ := dat v hv
      rw [e] at hd
      exact shaped_tup (hsh _ h1) hd
    · rcases hfo with hfo | hfo
      · refine .inl fun v hv => ?_
        obtain ⟨cs, h1, e, _⟩ := dat v hv
        obtain ⟨i, r, e'⟩ := hfo _ h1
        cases e'
        exact ⟨i, r, e⟩
      · refine .inr fun v hv => ?_
        obtain ⟨cs, h1, e, _⟩ := dat v hv
        obtain ⟨i, r, e'⟩ := hfo _ h1
        cases e'
        exact ⟨i, r, e⟩
    · obtain ⟨cs, h1, e, _⟩ := dat v hv
      obtain ⟨cs', h1', e', _⟩ := dat u hu'
      rw [e, e']
      exact hlt cs cs' h1 h1'
  · obtain ⟨n, hn⟩ := sortedAll_at s.heap its out.toArray
    have h3 : ∀ u ∈ out, ∃ a, u = Value.ref a := fun u hu => e2 u (hstb.perm.mem_iff.mp hu)
    have hout : ∀ u ∈ out, ∃ cs, .tuple cs ∈ ds ∧ partsOf (datOf H (backV u)) = cs ∧ Dt H (backV u) (.tuple cs) ∧ RelV (backV u) u := fun u hu => dat u (hstb.perm.mem_iff.mp hu)
    have hmap : xs.map (datOf H) = ds := hx.map_of fun x d h => datOf_eq h
    have hy : DtA H (out.map backV) ((out.map backV).map (datOf H)) := DtA.of_map fun x hm => by
      obtain ⟨u, hu, rfl⟩ := List.mem_map.mp hm
      obtain ⟨cs, _, _, h2, _⟩ := hout u hu
      rw [datOf_eq h2]; exact h2
    have hperm : ((out.map backV).map (datOf H)).Perm ds := by
      rw [← hmap, e1]
      exact ((hstb.perm.map backV).map (datOf H))
    have hpw : ((out.map backV).map (datOf H)).Pairwise (fun x y => ltK (k y) (k x) = false) := by
      rw [List.map_map, List.pairwise_map]
      refine List.Pairwise.imp_of_mem (fun {u v} hu hv h => ?_) hsrt
      obtain ⟨cs, _, e, h2, _⟩ := hout u hu
      obtain ⟨cs', _, e', h2', _⟩ := hout v hv
      have h' : ltK (k (.tuple (partsOf (datOf H (backV v))))) (k (.tuple (partsOf (datOf H (backV u))))) = false := h
      rw [e, e'] at h'
      show ltK (k (datOf H (backV v))) (k (datOf H (backV u))) = false
      rw [datOf_eq h2, datOf_eq h2']
      exact h'
    have hle : s.heap.objs.size ≤ s.heap.objs.size + 1 := Nat.le_succ _
    refine ⟨.ref (s.heap.objs.size + 1), upd H (s.heap.objs.size + 1) (.lst (out.map backV)), I.laid (t' := s.toks) (fun b o e => sortedAll_old e) hle ⟨?_, out, n, vals_back h3, hn⟩, rfl, q _ _ _ (by rw [e1]; exact hstb.perm.map backV) hy hperm hpw (I.hok.fresh hle)⟩
    rw [List.length_map, hstb.perm.length_eq, ← rv.length]
    exact hz
end
end B

/-! B10: lists that are read (own or data), slices, sorted, repr. -/
namespace B
open PySem PySem.Spec PyProof.Rows L2
/-- a list to be read: at p, its items data -/
def EvL (μ : Mu) (te : TE) (Γ : List Sl) (n : Nat) (P : List PyData → Prop) : Prop :=
  ∀ (G0 H0 G : Hp) (c : Nat) (σ : L2.St) (H : Hp) (Q : VK), Stt μ G0 H0 G Γ c σ H → c + n ≤ CM →
    (∀ ds p vs G' H', P ds → Stt μ G0 H0 G' Γ (c + n) σ H' → Ext μ.M G H G' H' → ¬ μ.M p → H' p = some (.lst vs) → DtA G' vs ds → Q (.ref p) H') → te σ H Q
section
variable {μ : Mu} {Γ : List Sl} {n n1 n2 k : Nat} {P P1 P2 : PyData → Prop} {ta tb tc te : TE} {x y z w d : PyData} {K : PySem.W.Frag} {i : Nat} {ds xs ys : List PyData} {PL : List PyData → Prop}
theorem el_dat (h : Ev μ te Γ n P) (hP : ∀ d, P d → ∃ ds, d = .list ds) : EvL μ te Γ n (fun ds => P (.list ds)) := fun G0 H0 G c σ H Q S l q =>
  h G0 H0 G c σ H _ S l fun d v G1 H1 p S1 e1 d1 => by
    obtain ⟨ds, rfl⟩ := hP d p
    cases d1 with
    | lst a r => exact q ds _ _ G1 H1 p S1 e1 (fun m => by rw [S1.gM m] at a; cases a) (S1.sub _ _ a) r
theorem el_datE (h : Ev μ te Γ n (Eq (.list ds))) : EvL μ te Γ n (Eq ds) := fun G0 H0 G c σ H Q S l q =>
  el_dat h (fun d e => ⟨ds, e.symm⟩) G0 H0 G c σ H Q S l fun ds' p vs G' H' e => by cases e; exact q ds p vs G' H' rfl
theorem el_own (h : Γ[i]? = some (.own ds)) : EvL μ (tVar i) Γ 0 (Eq ds) := fun G0 H0 G c σ H Q S l q => by
  obtain ⟨p, vs, hs, hM, hp, hd⟩ := S.own h
  exact ⟨.ref p, hs, q ds p vs G H rfl S (Ext.refl _ G H) hM hp hd⟩
theorem ev_lenO (h : EvL μ te Γ n (Eq ds)) : Ev μ (tCB (rLen K) (tCons te tNil)) Γ n (Eq (.int (ds.length : Int))) := fun G0 H0 G c σ H Q S l q =>
  h G0 H0 G c σ H _ S l fun ds' p vs G1 H1 e S1 e1 hM hp hd => by
    cases e
    exact ⟨_, _, rfl, .inl ⟨_, SqL.of hp, rfl⟩, by rw [hd.length]; exact q _ _ G1 H1 rfl S1 e1 (.int _)⟩
theorem ev_tupleO (h : EvL μ te Γ n PL) (hl : ∀ ds, PL ds → ds.length ≤ 10000000) : Ev μ (tCB (fun xs H Q => ∃ p ys, xs = [.ref p] ∧ ((SqL K H p ys ∧ ∀ l, H l = none → Q (.ref l) (upd H l (.tup ys))) ∨ (SqT K H p ys ∧ Q (.ref p) H))) (tCons te tNil)) Γ n (fun d => ∃ ds, PL ds ∧ d = .tuple ds) := fun G0 H0 G c σ H Q S l q =>
  h G0 H0 G c σ H _ S l fun ds' p vs G1 H1 e S1 e1 hM hp hd => ⟨p, vs, rfl, .inl ⟨SqL.of hp, fun a ha => q _ _ _ _ ⟨ds', e, rfl⟩ (S1.laid ha) (e1.trans (.same (Nw.upd ha S1.sub) (Same.new ha))) (.tup upd_same (hd.mono (Nw.upd ha S1.sub).1))⟩⟩
theorem ev_tupleE (h : EvL μ te Γ n (Eq ds)) : Ev μ (tCB (fun xs H Q => ∃ p ys, xs = [.ref p] ∧ ((SqL K H p ys ∧ ∀ l, H l = none → Q (.ref l) (upd H l (.tup ys))) ∨ (SqT K H p ys ∧ Q (.ref p) H))) (tCons te tNil)) Γ n (Eq (.tuple ds)) := fun G0 H0 G c σ H Q S l q =>
  h G0 H0 G c σ H _ S l fun ds' p vs G1 H1 e S1 e1 hM hp hd => ⟨p, vs, rfl, .inl ⟨SqL.of hp, fun a ha => by cases e; exact q _ _ _ _ rfl (S1.laid ha) (e1.trans (.same (Nw.upd ha S1.sub) (Same.new ha))) (.tup upd_same (hd.mono (Nw.upd ha S1.sub).1))⟩⟩
theorem ev_ixO {j : Int} (h : EvL μ ta Γ n1 (Eq ds)) (hb : Ev μ tb Γ n2 (Eq (.int j))) (hat : atI ds j = some d) : Ev μ (tOp (rIxL K) ta tb) Γ (n1 + n2) (Eq d) := fun G0 H0 G c σ H Q S l q =>
  h G0 H0 G c σ H _ S (by omega) fun ds' p vs G1 H1 e S1 e1 hM hp hd => hb G0 H0 G1 _ σ H1 _ S1 (by omega) fun d2 v2 G2 H2 p2 S2 e2 d2' => by
    cases e; cases p2; cases d2'
    obtain ⟨m, h1, h2⟩ := atI_of hd.length.symm hat
    obtain ⟨u, hu, hdu⟩ := hd.getD h1
    rw [Nat.add_assoc] at S2
    exact ⟨p, vs, j, u, rfl, rfl, SqL.of (e2.fr _ _ hM hp), h2.trans hu, q _ _ G2 H2 rfl S2 (e1.trans e2) (hdu.mono e2.gg)⟩
/-- a list that is not changed meanwhile, walked -/
theorem ei_list (h : EvL μ te Γ n PL) : EvI μ (iList K te) Γ n PL := fun G0 H0 G c σ H R S l q =>
  h G0 H0 G c σ H _ S l fun ds p vs G1 H1 e S1 e1 hM hp hd => ⟨p, rfl, ⟨_, SqL.of hp⟩, q ds _ [(p, .lst vs)] G1 H1 e S1 e1 (dwalk_at walk_list (fun H' _ pin => SqL.of (pin _ List.mem_cons_self)) hd) fun x hx => by
    rw [List.mem_singleton.mp hx]; exact ⟨hM, hp⟩⟩
theorem DtA.of_mem {G H : Hp} (s : Same G H) : ∀ {ys : List V} {es : List PyData}, DtA H ys es → (∀ y ∈ ys, ∃ d, Dt G y d) → DtA G ys es
  | _, _, .nil, _ => .nil
  | _, _, .cons a r, h => by
    obtain ⟨d, hd⟩ := h _ List.mem_cons_self
    rw [← Dt.det (hd.mono s) a]
    exact .cons hd (DtA.of_mem s r fun y hy => h y (List.mem_cons_of_mem _ hy))
theorem ev_sortT (key : PyData → Kk) (h : EvL μ te Γ n PL) (h1 : ∀ ds, PL ds → (∀ d ∈ ds, SeqAt.shaped d = true) ∧ TupOk ds ∧ ∀ xs ys, .tuple xs ∈ ds → .tuple ys ∈ ds → xs.length = ys.length ∧ LtA xs ys (ltK (key (.tuple xs)) (key (.tuple ys)))) :
    EvL μ (tCB (rSortedT K) (tCons te tNil)) Γ n (fun es => ∃ ds, PL ds ∧ es.Perm ds ∧ es.Pairwise (fun x y => ltK (key y) (key x) = false)) := fun G0 H0 G c σ H Q S l q =>
  h G0 H0 G c σ H _ S l fun ds p vs G1 H1 e S1 e1 hM hp hd => by
    obtain ⟨a1, a2, a3⟩ := h1 ds e
    refine ⟨p, vs, ds, key, rfl, SqL.of hp, hd.mono S1.sub, a1, a2, a3, fun ys es a pv hy pe pw ha => ?_⟩
    have hy' : DtA G1 ys es := DtA.of_mem S1.sub hy fun y hm => by
      obtain ⟨d, _, h⟩ := hd.mem (pv.mem_iff.mp hm)
      exact ⟨d, h⟩
    have S2 := S1.laid (o := .lst ys) ha
    exact q es a ys _ _ ⟨ds, e, pe, pw⟩ S2 (e1.trans (.same (Nw.upd ha S1.sub) (Same.new ha))) (fun m => (S1.ent a m).1 (S1.h0 ha)) upd_same (hy'.mono (Nw.upd ha S1.sub).1)
theorem EvL.imp {P' : List PyData → Prop} (h : EvL μ te Γ n PL) (k : ∀ ds, PL ds → P' ds) : EvL μ te Γ n P' := fun G0 H0 G c σ H Q S l q => h G0 H0 G c σ H Q S l fun ds p vs G' H' e => q ds p vs G' H' (k ds e)
/-- the list that sorted made, as data -/
theorem ev_sortTE (key : PyData → Kk) (h : EvL μ te Γ n (Eq ds)) (h1 : (∀ d ∈ ds, SeqAt.shaped d = true) ∧ TupOk ds ∧ ∀ xs ys, .tuple xs ∈ ds → .tuple ys ∈ ds → xs.length = ys.length ∧ LtA xs ys (ltK (key (.tuple xs)) (key (.tuple ys)))) :
    Ev μ (tCB (rSortedT K) (tCons te tNil)) Γ n (fun d => ∃ es, d = .list es ∧ es.Perm ds ∧ es.Pairwise (fun x y => ltK (key y) (key x) = false)) := fun G0 H0 G c σ H Q S l q =>
  h G0 H0 G c σ H _ S l fun ds' p vs G1 H1 e S1 e1 hM hp hd => by
    cases e
    obtain ⟨a1, a2, a3⟩ := h1
    refine ⟨p, vs, ds, key, rfl, SqL.of hp, hd.mono S1.sub, a1, a2, a3, fun ys es a pv hy pe pw ha => ?_⟩
    have hy' : DtA G1 ys es := DtA.of_mem S1.sub hy fun y hm => by
      obtain ⟨d, _, h⟩ := hd.mem (pv.mem_iff.mp hm)
      exact ⟨d, h⟩
    exact q _ _ _ _ ⟨es, rfl, pe, pw⟩ (S1.laid ha) (e1.trans (.same (Nw.upd ha S1.sub) (Same.new ha))) (.lst upd_same (hy'.mono (Nw.upd ha S1.sub).1))
/-! ### slices -/
def EvO (μ : Mu) (to : TO) (Γ : List Sl) (o : Option Int) : Prop :=
  ∀ (G0 H0 G : Hp) (c : Nat) (σ : L2.St) (H : Hp) (Q : Option Int → Hp → Prop), Stt μ G0 H0 G Γ c σ H → c ≤ CM → (∀ G' H', Stt μ G0 H0 G' Γ c σ H' → Ext μ.M G H G' H' → Q o H') → to σ H Q
theorem eo_none : EvO μ tNoPart Γ none := fun _ _ G c σ H Q S l q => q G H S (Ext.refl _ G H)
theorem eo_some {j : Int} (h : Ev μ te Γ 0 (Eq (.int j))) : EvO μ (tPart te) Γ (some j) := fun G0 H0 G c σ H Q S l q =>
  h G0 H0 G c σ H _ S l fun d v G1 H1 p S1 e1 d1 => by
    cases p; cases d1
    exact ⟨j, rfl, q G1 H1 S1 e1⟩
def cutD (xs : List PyData) (lo hi : Option Int) : List PyData := (xs.drop (HT.sIx xs.length 0 lo)).take (HT.sIx xs.length xs.length hi - HT.sIx xs.length 0 lo)
theorem DtA.cut {G : Hp} {vs : List V} {ds : List PyData} (h : DtA G vs ds) (lo hi : Option Int) : DtA G (cutV vs lo hi) (cutD ds lo hi) := by
  unfold cutV cutD
  rw [h.length]
  exact (h.drop _).take _
theorem ev_slS {s : Str} {tl th : TO} {lo hi : Option Int} (h : Ev μ te Γ 0 (Eq (.str s))) (h1 : EvO μ tl Γ lo) (h2 : EvO μ th Γ hi) (hl : s.length ≤ 10000000) : Ev μ (tSl rSlS te tl th) Γ 0 (Eq (.str (cutS s lo hi))) := fun G0 H0 G c σ H Q S l q =>
  h G0 H0 G c σ H _ S l fun d v G1 H1 p S1 e1 d1 => h1 G0 H0 G1 _ σ H1 _ S1 l fun G2 H2 S2 e2 => h2 G0 H0 G2 _ σ H2 _ S2 l fun G3 H3 S3 e3 => by
    cases p; cases d1
    exact ⟨s, rfl, Nat.le_trans hl (by decide), q _ _ G3 H3 rfl S3 ((e1.trans e2).trans e3) (.str _)⟩
theorem ev_slL {tl th : TO} {lo hi : Option Int} (h : EvL μ te Γ 0 (Eq ds)) (h1 : EvO μ tl Γ lo) (h2 : EvO μ th Γ hi) : Ev μ (tSl (rSlL K) te tl th) Γ 0 (Eq (.list (cutD ds lo hi))) := fun G0 H0 G c σ H Q S l q =>
  h G0 H0 G c σ H _ S l fun ds' p vs G1 H1 e S1 e1 hM hp hd => h1 G0 H0 G1 _ σ H1 _ S1 l fun G2 H2 S2 e2 => h2 G0 H0 G2 _ σ H2 _ S2 l fun G3 H3 S3 e3 => by
    cases e
    have ee := e2.trans e3
    refine ⟨p, vs, rfl, SqL.of (ee.fr _ _ hM hp), fun a ha => q _ _ _ _ rfl (S3.laid ha) ((e1.trans ee).trans (.same (Nw.upd ha S3.sub) (Same.new ha))) (.lst upd_same (((hd.cut lo hi).mono ee.gg).mono (Nw.upd ha S3.sub).1))⟩
theorem ev_slT {tl th : TO} {lo hi : Option Int} (h : Ev μ te Γ 0 (Eq (.tuple ds))) (h1 : EvO μ tl Γ lo) (h2 : EvO μ th Γ hi) : Ev μ (tSl (rSlA K) te tl th) Γ 0 (Eq (.tuple (cutD ds lo hi))) := fun G0 H0 G c σ H Q S l q =>
  h G0 H0 G c σ H _ S l fun d v G1 H1 p S1 e1 d1 => h1 G0 H0 G1 _ σ H1 _ S1 l fun G2 H2 S2 e2 => h2 G0 H0 G2 _ σ H2 _ S2 l fun G3 H3 S3 e3 => by
    cases p
    have ee := e2.trans e3
    cases d1 with
    | tup a r =>
      refine ⟨_, _, rfl, SqT.of (S3.sub _ _ (ee.gg _ _ a)), fun hw => ?_, fun _ b hb => q _ _ _ _ rfl (S3.laid hb) ((e1.trans ee).trans (.same (Nw.upd hb S3.sub) (Same.new hb))) (.tup upd_same (((r.cut lo hi).mono ee.gg).mono (Nw.upd hb S3.sub).1))⟩
      refine q _ _ G3 H3 rfl S3 (e1.trans ee) ?_
      have e : cutD ds lo hi = ds := by
        unfold cutD
        rw [r.length] at hw
        rw [hw.1, hw.2, List.drop_zero, Nat.sub_zero, List.take_length]
      rw [e]
      exact .tup (ee.gg _ _ a) (r.mono ee.gg)
theorem rd_catA (h : xs.length + ys.length ≤ 10000000) : RD (rCatA K) (.tuple xs) (.tuple ys) (.tuple (xs ++ ys)) := fun G H v w Q s hv hw q => by
  cases hv with
  | tup a r =>
    cases hw with
    | tup a2 r2 =>
      refine ⟨_, _, _, _, rfl, rfl, SqT.of (s _ _ a), SqT.of (s _ _ a2), by rw [r.length, r2.length]; exact Nat.le_trans h (by decide), fun e => ?_, fun _ e => ?_, fun _ _ p hp => q _ _ _ (Nw.upd hp s) (Same.upd2 s) (Same.new hp) (.tup upd_same ((r.append r2).mono (Nw.upd hp s).1))⟩
      · subst e; cases r; exact q _ G H (Nw.refl _ _) s (Same.refl _) (.tup a2 r2)
      · subst e; cases r2; rw [List.append_nil] at q; exact q _ G H (Nw.refl _ _) s (Same.refl _) (.tup a r)
theorem rd_rep {j : Int} (h : xs.length * j.toNat ≤ 10000000) (h1 : -1000000 ≤ j) (h2 : j ≤ 1000000) : RD rRep (.list xs) (.int j) (.list (List.replicate j.toNat xs).flatten) := fun G H v w Q s hv hw q => by
  cases hw
  cases hv with
  | lst a r =>
    refine ⟨_, _, _, rfl, rfl, s _ _ a, by omega, by omega, by rw [r.length]; exact Nat.le_trans h (by decide), fun p hp => q _ _ _ (Nw.upd hp s) (Same.upd2 s) (Same.new hp) (.lst upd_same ?_)⟩
    have : ∀ n : Nat, DtA G (List.replicate n _).flatten (List.replicate n xs).flatten := fun n => by
      induction n with
      | zero => exact .nil
      | succ n ih => rw [List.replicate_succ, List.replicate_succ, List.flatten_cons, List.flatten_cons]; exact r.append ih
    exact (this _).mono (Nw.upd hp s).1
/-! ### in -/
theorem inV_strs (a : Str) : ∀ zs : List Str, inV (.str a) (zs.map V.str) = zs.any (· == a)
  | [] => rfl
  | z :: r => by
    show (eqV (.str z) (.str a) || inV (.str a) (r.map V.str)) = _
    rw [inV_strs a r]; rfl
theorem flat_strs : ∀ zs : List Str, (zs.map V.str).all flatV = true
  | [] => rfl
  | z :: r => by rw [List.map_cons, List.all_cons, flat_strs r]; rfl
theorem rd_inL {a : Str} {zs : List Str} {neg : Bool} : RD (rIn K neg) (.str a) (.list (zs.map .str)) (.bool (if neg then !zs.any (· == a) else zs.any (· == a))) := fun G H v w Q s hv hw q => by
  cases hv
  cases hw with
  | lst e r =>
    have := r.of_strs; subst this
    exact ⟨_, _, rfl, .inl (SqL.of (s _ _ e)), rfl, flat_strs zs, by rw [inV_strs]; exact q _ G H (Nw.refl _ _) s (Same.refl _) (.bl _)⟩
theorem rd_inT {a : Str} {zs : List Str} {neg : Bool} : RD (rIn K neg) (.str a) (.tuple (zs.map .str)) (.bool (if neg then !zs.any (· == a) else zs.any (· == a))) := fun G H v w Q s hv hw q => by
  cases hv
  cases hw with
  | tup e r =>
    have := r.of_strs; subst this
    exact ⟨_, _, rfl, .inr (SqT.of (s _ _ e)), rfl, flat_strs zs, by rw [inV_strs]; exact q _ G H (Nw.refl _ _) s (Same.refl _) (.bl _)⟩
/-! ### texts -/
abbrev rStart : V → List V → Hp → VK → Prop := fun x xs H Q => ∃ a b, x = .str a ∧ xs = [.str b] ∧ Q (.bl (Txt.startswith a b)) H
theorem ev_starts {a b : Str} (ha : Ev μ ta Γ 0 (Eq (.str a))) (hb : Ev μ tb Γ 0 (Eq (.str b))) : Ev μ (tM1 rStart ta tb) Γ 0 (Eq (.bool (Txt.startswith a b))) := ev_m1 ha hb fun G H v vs Q s hv hvs q => by
  cases hv
  cases hvs with
  | cons h1 h2 => cases h1; cases h2; exact ⟨a, b, rfl, rfl, q _ G H (Nw.refl _ _) s (Same.refl _) (.bl _)⟩
theorem ev_addS {a b : Str} (ha : Ev μ ta Γ 0 (Eq (.str a))) (hb : Ev μ tb Γ 0 (Eq (.str b))) (h : a.length + b.length ≤ 10000000) : Ev μ (tOp rAddSt ta tb) Γ 0 (Eq (.str (a ++ b))) := ev_op ha hb (rd_addS h)
theorem ev_intB {b : Bool} (h : Ev μ te Γ n (Eq (.bool b))) : Ev μ (tCB rInt1 (tCons te tNil)) Γ n (Eq (.int (if b then 1 else 0))) := ev_cb (ea_cons h ea_nil) fun G H vs Q s hv q => by
  cases hv with
  | cons h1 h2 => cases h1; cases h2; exact .inr ⟨b, rfl, q _ G H (Nw.refl _ _) s (Same.refl _) (.int _)⟩
theorem ev_intI {j : Int} (h : Ev μ te Γ n (Eq (.int j))) : Ev μ (tCB rInt1 (tCons te tNil)) Γ n (Eq (.int j)) := ev_cb (ea_cons h ea_nil) fun G H vs Q s hv q => by
  cases hv with
  | cons h1 h2 => cases h1; cases h2; exact .inl ⟨j, rfl, q _ G H (Nw.refl _ _) s (Same.refl _) (.int _)⟩
/-! ### repr -/
def rRepr : List V → Hp → VK → Prop := fun xs H Q => ∃ v d, xs = [v] ∧ Dt H v d ∧ SeqAt.shaped d = true ∧ d.showable = true ∧ d.shown.length ≤ sizeLine ∧ Q (.str d.shown) H
theorem call_reprD {X : Cx} (hG : X.A.guards = some []) (hu : X.A.units + 70 < cLine) : CallR X (.builtin "repr") rRepr := by
  intro pins s σ H xs us Q I r h
  obtain ⟨v, d, rfl, hd, hs, hsh, hz, q⟩ := h
  obtain ⟨u, rfl, ru⟩ := vals1 r
  have hr := Dt.reads I hd ru hs
  have hdp := SeqAt.depth_of_shaped hs
  obtain ⟨as, hr⟩ := hr
  cases hd with
  | non =>
    cases ru
    exact PySem.P.repr_of_none ⟨.str _, H, I.tok _, ⟨_, rfl⟩, by rw [PyData.shown_none] at q; exact q⟩
  | bl b =>
    cases ru
    exact PySem.P.repr_of_bool ⟨.str _, H, I.tok _, ⟨_, rfl⟩, by rw [PyData.shown_bool] at q; cases b <;> exact q⟩
  | int i =>
    obtain ⟨t, rfl⟩ := ru
    exact PySem.P.repr_of_int (by simpa [PyData.showable] using hsh) ⟨.str _, H, I.tok _, ⟨_, rfl⟩, by rw [PyData.shown_int] at q; exact q⟩
  | str x =>
    obtain ⟨t, rfl⟩ := ru
    exact PySem.P.repr_of_str ⟨.str _, H, I.tok _, ⟨_, rfl⟩, by rw [PyData.shown_str] at q; exact q⟩ (by rw [PyData.shown_str] at hz; exact hz)
  | lst a r =>
    cases ru
    refine repr_of_reads' hr hsh (PyData.noDict_hsm (PyData.hasDict_of_canLay _ (SeqAt.canLay_of_shaped hs))) hG (by omega) (fun _ _ e => e) (fun h' u' tk hk => ⟨.str _, H, I.kept (t' := tk) hk, ⟨_, rfl⟩, q⟩) hz
  | tup a r =>
    cases ru
    refine repr_of_reads' hr hsh (PyData.noDict_hsm (PyData.hasDict_of_canLay _ (SeqAt.canLay_of_shaped hs))) hG (by omega) (fun _ _ e => e) (fun h' u' tk hk => ⟨.str _, H, I.kept (t' := tk) hk, ⟨_, rfl⟩, q⟩) hz
  | dct a r =>
    have := SeqAt.canLay_of_shaped hs
    simp [PyData.canLay0] at this
theorem ev_repr (h : Ev μ te Γ n (Eq d)) (hs : SeqAt.shaped d = true) (hsh : d.showable = true) (hz : d.shown.length ≤ 16777216) : Ev μ (tCB rRepr (tCons te tNil)) Γ n (Eq (.str d.shown)) := ev_cb (ea_cons h ea_nil) fun G H vs Q s hv q => by
  cases hv with
  | cons h1 h2 => cases h2; exact ⟨_, d, rfl, h1.mono s, hs, hsh, Nat.le_trans hz (by decide), q _ G H (Nw.refl _ _) s (Same.refl _) (.str _)⟩
end
end B

/-! B11: texts as lists of codes; how long a repr is. -/
namespace B
open PySem PySem.Spec PyProof.Rows L2 TL
theorem starts_iff {x y : Str} : Txt.startswith x y = true ↔ tl y <+: tl x := by
  have hx := len_tl x
  have hy := len_tl y
  unfold Txt.startswith
  rw [Bool.and_eq_true, decide_eq_true_eq, StrLaws.subAt_eq, List.drop_zero, hx, hy, beq_iff_eq]
  constructor
  · rintro ⟨_, h⟩
    show y.cps.toList <+: x.cps.toList
    rw [← h]; exact List.take_prefix _ _
  · intro h
    exact ⟨by have := h.length_le; omega, (List.prefix_iff_eq_take.mp h).symm⟩
theorem starts_false {x y : Str} : Txt.startswith x y = false ↔ ¬ tl y <+: tl x := by
  rw [← starts_iff]; cases Txt.startswith x y <;> simp
theorem tl_inj {x y : Str} : tl x = tl y ↔ x = y := ⟨ext_tl, fun e => by rw [e]⟩
theorem beq_tl {x y : Str} : (x == y) = decide (tl x = tl y) := by
  rw [Bool.eq_iff_iff, beq_iff_eq, decide_eq_true_eq, tl_inj]
theorem tl_cut {z : Str} {k : Nat} : tl (cutS z (some (k : Int)) none) = (tl z).drop k := by
  have hz := len_tl z
  show ((z.cps.toList.drop (HT.sIx z.length 0 (some (k : Int)))).take (HT.sIx z.length z.length none - HT.sIx z.length 0 (some (k : Int)))).toArray.toList = _
  rw [HT.sIx_nat, HT.sIx_none]
  show (((tl z).drop (min k z.length)).take (z.length - min k z.length)) = _
  rw [List.take_of_length_le (by rw [List.length_drop]; omega)]
  by_cases h : k ≤ z.length
  · rw [Nat.min_eq_left h]
  · rw [Nat.min_eq_right (by omega), List.drop_of_length_le (by omega), List.drop_of_length_le (by omega)]
theorem tl_slash : tl (Str.ofString "/") = [47] := by decide +kernel
theorem tl_empty : tl (Str.ofString "") = [] := by decide +kernel
/-- codes that are codes -/
theorem strOk_tl {z : Str} : PyData.strOk z = true ↔ ∀ c ∈ tl z, c < 0x110000 := by
  unfold PyData.strOk
  rw [← Array.all_toList, List.all_eq_true]
  simp [tl]
theorem strOk_app {a b : Str} (ha : PyData.strOk a = true) (hb : PyData.strOk b = true) : PyData.strOk (a ++ b) = true := by
  rw [strOk_tl] at *
  intro c hc
  rw [tl_append] at hc
  rcases List.mem_append.mp hc with h | h
  · exact ha c h
  · exact hb c h
theorem strOk_cut {a : Str} (ha : PyData.strOk a = true) (lo hi : Option Int) : PyData.strOk (cutS a lo hi) = true := by
  rw [strOk_tl] at *
  intro c hc
  have hc' : c ∈ (((a.cps.toList.drop (HT.sIx a.length 0 lo)).take (HT.sIx a.length a.length hi - HT.sIx a.length 0 lo))) := hc
  exact ha c (List.mem_of_mem_drop (List.mem_of_mem_take hc'))
theorem cut_len {a : Str} {lo hi : Option Int} : (cutS a lo hi).length ≤ a.length := by
  rw [len_tl, len_tl a]
  show (((a.cps.toList.drop (HT.sIx a.length 0 lo)).take (HT.sIx a.length a.length hi - HT.sIx a.length 0 lo))).length ≤ _
  rw [List.length_take, List.length_drop]
  show _ ≤ a.cps.toList.length
  omega
/-! ### reprs -/
/-- data of this depth at most, whose repr has n signs at most -/
structure Rp (m n : Nat) (d : PyData) : Prop where
  shp : Shp m d
  sho : d.showable = true
  len : d.shown.length ≤ n
theorem Rp.mono {m m' n n' : Nat} {d : PyData} (h : Rp m n d) (hm : m ≤ m') (hn : n ≤ n') : Rp m' n' d := ⟨h.shp.mono hm, h.sho, Nat.le_trans h.len hn⟩
theorem rp_none : Rp 0 4 .none := ⟨shp_none, rfl, by rw [PyData.shown_none]; decide +kernel⟩
theorem rp_bool {b : Bool} : Rp 0 5 (.bool b) := ⟨shp_bool, by simp [PyData.showable], by rw [PyData.shown_bool]; cases b <;> decide +kernel⟩
theorem rp_int {i : Int} (h : i.natAbs < 10 ^ 12) : Rp 0 13 (.int i) := by
  refine ⟨shp_int, ?_, PyData.shown_int_le h⟩
  simp only [PyData.showable]
  refine decide_eq_true ?_
  have h2 : i.natAbs < 2 ^ 1920 := Nat.lt_of_lt_of_le h (by decide +kernel)
  by_cases h0 : i.natAbs = 0
  · rw [h0]; decide
  · exact (Nat.log2_lt h0).mpr h2
theorem rp_str {z : Str} {L : Nat} (h : PyData.strOk z = true) (hl : z.length ≤ L) : Rp 0 (10 * L + 2) (.str z) := by
  refine ⟨shp_str h, by simp [PyData.showable], ?_⟩
  rw [PyData.shown_str]
  have := StrLaws.reprText_len z (fun c hc => Nat.lt_of_lt_of_le (strOk_tl.mp h c hc) (by decide))
  omega
theorem shownAll_map : ∀ xs : List PyData, PyData.shownAll xs = xs.map PyData.shown
  | [] => by simp [PyData.shownAll]
  | x :: r => by simp [PyData.shownAll, shownAll_map r]
theorem shown_sum {n : Nat} {xs : List PyData} (h : ∀ d ∈ xs, d.shown.length ≤ n) : ((PyData.shownAll xs).map (·.length)).sum ≤ xs.length * n := by
  rw [shownAll_map, List.map_map]
  exact sum_le_mul _ n xs h
theorem rp_tup {m n k : Nat} {xs : List PyData} (h : ∀ d ∈ xs, Rp m n d) (hk : xs.length ≤ k) : Rp (m + 1) (k * (n + 2) + 3) (.tuple xs) := by
  refine ⟨shp_tup fun d hd => (h d hd).shp, ?_, ?_⟩
  · simp only [PyData.showable]; exact Spec.showableAll_of fun d hd => (h d hd).sho
  · have h1 := tupleText_len_le (PyData.shownAll xs)
    have h2 := shown_sum (n := n) fun d hd => (h d hd).len
    rw [PyData.shownAll_length] at h1
    simp only [PyData.shown]
    have h3 : xs.length * (n + 2) ≤ k * (n + 2) := Nat.mul_le_mul_right _ hk
    rw [Nat.mul_add] at h3
    omega
theorem rp_lst {m n k : Nat} {xs : List PyData} (h : ∀ d ∈ xs, Rp m n d) (hk : xs.length ≤ k) : Rp (m + 1) (k * (n + 2) + 3) (.list xs) := by
  refine ⟨shp_lst fun d hd => (h d hd).shp, ?_, ?_⟩
  · simp only [PyData.showable]; exact Spec.showableAll_of fun d hd => (h d hd).sho
  · have h1 := listText_len_le (PyData.shownAll xs)
    have h2 := shown_sum (n := n) fun d hd => (h d hd).len
    rw [PyData.shownAll_length] at h1
    simp only [PyData.shown]
    have h3 : xs.length * (n + 2) ≤ k * (n + 2) := Nat.mul_le_mul_right _ hk
    rw [Nat.mul_add] at h3
    omega
theorem ev_reprR {μ : Mu} {te : TE} {Γ : List Sl} {k m n : Nat} {d : PyData} (h : Ev μ te Γ k (Eq d)) (hr : Rp m n d) (hm : m ≤ 64 := by decide) (hn : n ≤ 16777216 := by decide) : Ev μ (tCB rRepr (tCons te tNil)) Γ k (Eq (.str d.shown)) :=
  ev_repr h (hr.shp.shaped hm) hr.sho (Nat.le_trans hr.len hn)
end B

/-! B12: rooms; several names at once. -/
namespace B
open PySem PySem.Spec PyProof.Rows L2 TL
theorem u70 {k : Nat} {A : Around} (hr : Room k A) : A.units + 70 < cLine := by have := hr.un; omega
section
variable {μ : Mu} {Γ : List Sl} {n n1 n2 c : Nat} {R : Po} {ta tb tc te : TE} {i j l : Nat} {P P1 P2 : PyData → Prop}
/-- a, b, c = x, y, [] -/
theorem go_par3o (ha : Ev μ ta Γ n1 P1) (hb : Ev μ tb Γ n2 P2) (hc : c + (n1 + n2) ≤ CM) (k : ∀ a b, P1 a → P2 b → R.nx (((Γ.set i (.dat a)).set j (.dat b)).set l (.own [])) (c + (n1 + n2))) : Go μ (tPar3 i j l (tCons ta (tCons tb (tCons (tLst tNil) tNil)))) Γ c R := fun G0 H0 Gs G σ H D S gs L =>
  ha G0 H0 G c σ H _ S (by omega) fun a v G1 H1 p1 S1 e1 d1 => hb G0 H0 G1 (c + n1) σ H1 _ S1 (by omega) fun b w G2 H2 p2 S2 e2 d2 => by
    refine ⟨Nat.zero_le _, fun p hp => ⟨_, _, _, rfl, ?_⟩⟩
    rw [Nat.add_assoc] at S2
    exact L.nx _ _ G2 _ _ (k a b p1 p2) (((S2.setD (d1.mono e2.gg)).setD d2).newOwn hp .nil) (gs.trans (e1.trans e2).gg)
/-- a, b = x, [] -/
theorem go_paro (ha : Ev μ ta Γ n1 P1) (hc : c + n1 ≤ CM) (k : ∀ a, P1 a → R.nx ((Γ.set i (.dat a)).set j (.own [])) (c + n1)) : Go μ (tPar i j (tCons ta (tCons (tLst tNil) tNil))) Γ c R := fun G0 H0 Gs G σ H D S gs L =>
  ha G0 H0 G c σ H _ S (by omega) fun a v G1 H1 p1 S1 e1 d1 => by
    refine ⟨Nat.zero_le _, fun p hp => ⟨_, _, rfl, ?_⟩⟩
    exact L.nx _ _ G1 _ _ (k a p1) ((S1.setD d1).newOwn hp .nil) (gs.trans e1.gg)
/-- a, b = [], [] -/
theorem go_paroo (k : i ≠ j → R.nx ((Γ.set i (.own [])).set j (.own [])) c) (hij : i ≠ j) : Go μ (tPar i j (tCons (tLst tNil) (tCons (tLst tNil) tNil))) Γ c R := fun G0 H0 Gs G σ H D S gs L => by
  refine ⟨Nat.zero_le _, fun p hp => ⟨Nat.zero_le _, fun q hq => ⟨_, _, rfl, ?_⟩⟩⟩
  exact L.nx _ _ G _ _ (k hij) ((S.newOwn (i := i) hp .nil).newOwn hq .nil) gs
/-- a loop over things of a kind, by what was passed -/
theorem go_forP {α : Type} {enc : α → PyData} {wi : TI} {g : TG} {ts : TS} (as : List α) (Φ : List α → List Sl → Nat → Prop) (hi : EvW μ wi Γ n (Eq (as.map enc))) (hc : c + n ≤ CM) (h0 : Φ [] Γ (c + n))
    (hs : ∀ pre a post Γ' c', as = pre ++ a :: post → Φ pre Γ' c' → ∃ is Γ'', EvG g (enc a) is Γ' Γ'' ∧ Go μ ts Γ'' c' { R with nx := Φ (pre ++ [a]), ct := Φ (pre ++ [a]), bk := R.nx })
    (hd : ∀ Γ' c', Φ as Γ' c' → R.nx Γ' c') : Go μ (tFor wi g ts) Γ c R := by
  refine go_for hi hc fun ds e => ?_
  subst e
  refine ⟨fun i Γ' c' => Φ (as.take i) Γ' c', h0, fun i d Γ' c' hx hj => ?_, fun Γ' c' hj => ?_⟩
  · rw [List.getElem?_map] at hx
    cases ha : as[i]? with
    | none => rw [ha] at hx; cases hx
    | some a =>
      rw [ha] at hx
      cases hx
      have hl : i < as.length := (List.getElem?_eq_some_iff.mp ha).1
      have e1 : as = as.take i ++ a :: as.drop (i + 1) := by
        have h1 : as.drop i = a :: as.drop (i + 1) := by
          rw [List.drop_eq_getElem_cons hl]
          congr 1
          have := (List.getElem?_eq_some_iff.mp ha).2
          exact this
        rw [← h1, List.take_append_drop]
      have e2 : as.take (i + 1) = as.take i ++ [a] := by rw [List.take_add_one, ha]; rfl
      obtain ⟨is, Γ'', hg, hgo⟩ := hs (as.take i) a _ Γ' c' e1 hj
      dsimp only
      rw [e2]
      exact ⟨is, Γ'', hg, hgo⟩
  · dsimp only at hj
    rw [List.length_map, List.take_length] at hj
    exact hd Γ' c' hj
/-- comprehensions over things of a kind -/
theorem ev_lcT {α : Type} {enc : α → PyData} {as : List α} {wi : TI} {g : TG} {tt : TT} {is vs : List Nat} (hi : EvI μ wi Γ n (Eq (as.map enc))) (hm : as.length ≤ 50000) (hv : ∀ i ∈ is, i ∈ vs) (f : α → Bool) (h : α → PyData)
    (ht : ∀ a, a ∈ as → ∃ Γ', EvG g (enc a) is (wipeG Γ vs) Γ' ∧ EvT μ tt Γ' 0 (Eq (f a)) ∧ (f a = true → Ev μ te Γ' 0 (Eq (h a)))) :
    Ev μ (tLc wi g tt te vs) Γ n (Eq (.list ((as.filter f).map h))) := by
  have key := ev_lcR (w := fun _ => 0) (m := 0) (P := Eq (.list ((as.filter f).map h))) hi (fun ds p => by cases p; rw [List.length_map]; exact hm) hv (fun ds' i es => es = ((as.take i).filter f).map h) (fun _ _ => rfl) (fun _ => Nat.le_refl _) (fun _ _ => Nat.le_refl _)
    (fun ds' i es _ e => by
      rw [e, List.length_map]
      exact Nat.le_trans (List.length_filter_le _ _) (by rw [List.length_take]; omega)) (fun ds' es p e => by cases p; rw [e, List.length_map, List.take_length]) fun ds' i d es p hd hR => by
      cases p
      rw [List.getElem?_map] at hd
      cases ha : as[i]? with
      | none => rw [ha] at hd; cases hd
      | some a =>
        rw [ha] at hd
        cases hd
        obtain ⟨Γ', hg, h1, h2⟩ := ht a (List.mem_of_getElem? ha)
        have ht' : as.take (i + 1) = as.take i ++ [a] := by rw [List.take_add_one, ha]; rfl
        refine ⟨Γ', f a, 0, 0, Eq (h a), hg, h1, fun z => ⟨h2 z, fun e pe => ?_⟩, fun z => ?_, Nat.le_refl _⟩
        · rw [ht', List.filter_append, List.map_append, ← hR, ← pe]
          simp [z]
        · rw [ht', List.filter_append, List.map_append, ← hR]
          simp [z]
  exact key
theorem ev_lcTM {α : Type} {enc : α → PyData} {as : List α} {wi : TI} {g : TG} {is vs : List Nat} (hi : EvI μ wi Γ n (Eq (as.map enc))) (hm : as.length ≤ 50000) (hv : ∀ i ∈ is, i ∈ vs) (h : α → PyData)
    (ht : ∀ a, a ∈ as → ∃ Γ', EvG g (enc a) is (wipeG Γ vs) Γ' ∧ Ev μ te Γ' 0 (Eq (h a))) : Ev μ (tLc wi g tYes te vs) Γ n (Eq (.list (as.map h))) := by
  have := ev_lcT (tt := tYes) hi hm hv (fun _ => true) h fun d hd => let ⟨Γ', a, b⟩ := ht d hd; ⟨Γ', a, et_yes, fun _ => b⟩
  rw [List.filter_eq_self.mpr fun _ _ => rfl] at this
  exact this
theorem eqv_str {a b : Str} : PyData.eqv (.str a) (.str b) = (a == b) := by simp [PyData.eqv]
theorem eqv_none : PyData.eqv .none .none = true := by simp [PyData.eqv]
theorem eqv_ns {b : Str} : PyData.eqv .none (.str b) = false := by simp [PyData.eqv]
theorem eqv_sn {b : Str} : PyData.eqv (.str b) .none = false := by simp [PyData.eqv]
end
/-! ### the law's own loops -/
theorem law_go {a b : Addr} {t : TS} {D : Ends} {H : Hp} {Γ : List Sl} {σ : L2.St} (hl : σ.length = Γ.length) (hs : ∀ (i : Nat) s, Γ[i]? = some s → ∃ o, σ[i]? = some o ∧ (s = .un ∨ ∃ v, s = .raw v ∧ o = some v)) (bx : BoxAt b 0 H)
    (h : Go (boxMu b) t Γ 0 { nx := fun Γ' _ => Γ'[0]? = some (.raw (.ref a)) ∧ Γ'.length = Γ.length, rt := fun _ _ => False })
    (k : ∀ σ' H', σ'.length = σ.length → σ'[0]? = some (some (.ref a)) → (∀ x o, x ≠ b → H x = some o → H' x = some o) → D.nx σ' H') : t D σ H := by
  refine h (fun _ => none) H (fun _ => none) (fun _ => none) σ H D ⟨hl, Nw.refl _ _, (fun _ _ e => by cases e), Fr.refl _ _, fun x m => ?_, bx, fun i s e => ?_, fun i j p o _ => ?_⟩ (Same.refl _) ⟨fun Γ' c' G' σ' H' ⟨q1, q2⟩ S' _ => ?_, fun _ _ _ _ _ _ _ z => z.elim, fun _ _ _ _ _ z => z.elim, fun _ _ _ _ _ z => z.elim⟩
  · have m' : x = b := m
    subst m'
    exact ⟨(boxMu x).dom 0 H x bx rfl, rfl⟩
  · obtain ⟨o, h1, h2⟩ := hs i s e
    refine ⟨o, h1, ?_⟩
    rcases h2 with rfl | ⟨v, rfl, rfl⟩
    · trivial
    · rfl
  · obtain ⟨ds, e⟩ := o.1
    obtain ⟨o', _, h2⟩ := hs i _ e
    rcases h2 with h2 | ⟨v, h2, _⟩ <;> cases h2
  · exact k σ' H' (by rw [S'.len, q2, hl]) (S'.raw q1) fun x o hx e => S'.fr x o hx e
section
variable {K : PySem.W.Frag} {H : Hp} {a : Addr} {ns : List Int} {E E' : XK} {D : Ends} {k n m : Nat} {x2 x3 : Option V}
theorem slots4 {b : Addr} : ∀ (i : Nat) s, [Sl.raw (.ref a), .raw (.int (k : Int)), .raw (.ref b), .un][i]? = some s → ∃ o, [some (V.ref a), some (.int (k : Int)), some (.ref b), x3][i]? = some o ∧ (s = .un ∨ ∃ v, s = .raw v ∧ o = some v)
  | 0, _, e => by cases e; exact ⟨_, rfl, .inr ⟨_, rfl, rfl⟩⟩
  | 1, _, e => by cases e; exact ⟨_, rfl, .inr ⟨_, rfl, rfl⟩⟩
  | 2, _, e => by cases e; exact ⟨_, rfl, .inr ⟨_, rfl, rfl⟩⟩
  | 3, _, e => by cases e; exact ⟨_, rfl, .inl rfl⟩
  | _ + 4, _, e => by simp at e
theorem law_end {σ' : L2.St} (hl : σ'.length = 4) (h0 : σ'[0]? = some (some (.ref a))) : ∃ y1 y2 y3, σ' = [some (.ref a), y1, y2, y3] := by
  match σ', hl, h0 with
  | [_, y1, y2, y3], _, h0 => cases h0; exact ⟨y1, y2, y3, rfl⟩
theorem law_bodyC (hk : k ≤ 10) (hS : SqL K H a (ns.map V.int)) (hl : ns.length ≤ 63) (hm : m ≤ 1000) (hn : m * n ≤ CM) (hq : ∀ y1 y2 y3 H', Same H H' → D.nx [some (.ref a), y1, y2, y3] H') :
    tSeq (tAsg (tCall (spBox K) [] E' (tCons (tVar 0) (tCons (tVar 1) tNil))) (gName 2)) (tFor (iRng1 (tCons (tC (.int (m : Int))) tNil)) (gName 3) (tIfS (tNot (tB (tCall (spB n (fun ds => ds = []) (fun _ d => d = .bool true)) [] E (tCons (tVar 2) tNil)))) (tRet (tC (.bl false))) tNext)) D [some (.ref a), some (.int (k : Int)), x2, x3] H := by
  refine v_box rfl rfl hk hS hl fun b H1 hb sm bx => ?_
  dsimp only [gName, List.set]
  show (tFor _ _ _) D [some (.ref a), some (.int (k : Int)), some (.ref b), x3] H1
  refine law_go (a := a) (b := b) (Γ := [.raw (.ref a), .raw (.int (k : Int)), .raw (.ref b), .un]) rfl slots4 bx ?_ fun σ' H' h1 h2 h3 => ?_
  · refine go_for (n := 0) (ew_rng1E (ea_cons0 ev_int ea_nil) (by omega) (by omega)) (by decide) fun ds e => ?_
    subst e
    refine ⟨fun i Γ' c' => ∃ s3, Γ' = [.raw (.ref a), .raw (.int (k : Int)), .raw (.ref b), s3] ∧ c' ≤ i * n, ⟨_, rfl, by omega⟩, ?_, ?_⟩
    · rintro i d Γ' c' hd ⟨s3, rfl, hc⟩
      have hi : i < m := by
        have := (List.getElem?_eq_some_iff.mp hd).1
        rw [rngD_len] at this; omega
      have hin : i * n + n ≤ m * n := by
        have := Nat.mul_le_mul_right n (show i + 1 ≤ m by omega)
        rw [Nat.add_mul] at this; omega
      refine ⟨_, _, eg_name, ?_⟩
      refine go_if (PB := Eq false) (n := n) (EvT.imp (et_not (b := true) (et_B (Ev.imp (P1 := fun d => d = .bool true) (ev_callB1 (b := b) (pre := fun ds => ds = []) (post := fun _ d => d = .bool true) rfl rfl) fun d e => ?_))) fun d e => ?_) (by omega) (fun h => by cases h) fun _ => ?_
      · have e' : d = .bool true := e
        exact e'.symm
      · exact e
      · refine go_next ⟨_, rfl, ?_⟩
        rw [Nat.add_mul]; omega
    · rintro Γ' c' ⟨s3, rfl, hc⟩
      exact ⟨rfl, rfl⟩
  · obtain ⟨y1, y2, y3, rfl⟩ := law_end h1 h2
    exact hq y1 y2 y3 H' fun x o e => h3 x o (fun z => by subst z; rw [hb] at e; cases e) (sm x o e)
theorem law_bodyB (hk : k ≤ 10) (hS : SqL K H a (ns.map V.int)) (hl : ns.length ≤ 63) (hm : m ≤ 1000) (hn : m * n ≤ CM) (hq : ∀ y1 y2 y3 H', Same H H' → D.nx [some (.ref a), y1, y2, y3] H') :
    tSeq (tAsg (tCall (spBox K) [] E' (tCons (tVar 0) (tCons (tVar 1) tNil))) (gName 2)) (tIfS (tNot (tB (tCB (rAll K) (tCons (tLc (iRng1 (tCons (tC (.int (m : Int))) tNil)) (gName 3) tYes (tCall (spB n (fun ds => ds = []) (fun _ d => d = .bool true)) [] E (tCons (tVar 2) tNil)) [3]) tNil)))) (tRet (tC (.bl false))) tNext) D [some (.ref a), some (.int (k : Int)), x2, x3] H := by
  refine v_box rfl rfl hk hS hl fun b H1 hb sm bx => ?_
  dsimp only [gName, List.set]
  show (tIfS _ _ _) D [some (.ref a), some (.int (k : Int)), some (.ref b), x3] H1
  refine law_go (a := a) (b := b) (Γ := [.raw (.ref a), .raw (.int (k : Int)), .raw (.ref b), .un]) rfl slots4 bx ?_ fun σ' H' h1 h2 h3 => ?_
  · refine go_if (PB := Eq false) (n := 0 + m * n) (EvT.imp (et_not (b := true) (et_B (ev_cbP (P := Eq (.bool true)) (P1 := fun xs => ∃ j : Nat, xs = [.list ((List.replicate j true).map .bool)]) (ea_consP (n2 := 0) (ev_lcP (P := fun d => d = .bool true) (m := m) (k := n) (is := [3]) (ew_rng1E (ea_cons0 ev_int ea_nil) (by omega) (by omega)).i (fun ds e => by rw [← e, rngD_len]; omega) (by omega) (by simp) fun ds d p hd => ⟨_, eg_name, by exact ev_callB1 (b := b) rfl rfl⟩) ea_nil ?_) ?_))) ?_) (by omega) (fun h => by cases h) fun _ => ?_
    · rintro x y ⟨es, ds, rfl, _, _, hall⟩ rfl
      refine ⟨es.length, ?_⟩
      congr 2
      apply List.ext_getElem?
      intro i
      rw [List.getElem?_map, List.getElem?_replicate]
      by_cases hi : i < es.length
      · rw [if_pos hi, List.getElem?_eq_getElem hi, hall _ (List.getElem_mem hi)]; rfl
      · rw [if_neg hi, List.getElem?_eq_none (by omega)]; rfl
    · rintro xs ⟨j, rfl⟩
      exact ⟨_, rc_all, by rw [List.all_replicate]; simp⟩
    · exact fun d e => e
    · exact go_next ⟨rfl, rfl⟩
  · obtain ⟨y1, y2, y3, rfl⟩ := law_end h1 h2
    exact hq y1 y2 y3 H' fun x o e => h3 x o (fun z => by subst z; rw [hb] at e; cases e) (sm x o e)
end
/-! ### permutations -/
theorem perm_map {α β : Type} {f : α → β} : ∀ {rs : List α} {es : List β}, es.Perm (rs.map f) → ∃ qs : List α, qs.Perm rs ∧ es = qs.map f
  | [], es, h => ⟨[], .nil, by simpa using h.eq_nil⟩
  | r :: rs, es, h => by
    have hm : f r ∈ es := h.mem_iff.mpr (by simp)
    obtain ⟨a, b, rfl⟩ := List.append_of_mem hm
    have h2 : (a ++ b).Perm (rs.map f) := (List.perm_cons (f r)).mp (List.perm_middle.symm.trans h)
    obtain ⟨qs, hq, e⟩ := perm_map h2
    obtain ⟨qa, qb, rfl, rfl, rfl⟩ := List.append_eq_map_iff.mp e
    refine ⟨qa ++ r :: qb, List.perm_middle.trans (hq.cons r), by simp⟩
end B

/-! B13: readings with K told. -/
namespace B
open PySem PySem.Spec PyProof.Rows L2 TL
section
variable {X : Cx} {K : PySem.W.Frag} {tg : Expr}
theorem ixK_list (h : X.K = K) : IxR X (rIxL K) := h ▸ ix_list
theorem ixK_tup (h : X.K = K) : IxR X (rIxT K) := h ▸ ix_tup
theorem ixK_seq (h : X.K = K) : IxR X (rIx K) := h ▸ ix_seq
theorem slK_list (h : X.K = K) : SlR X (rSlL K) := h ▸ sl_list
theorem slK_tupA (h : X.K = K) : SlR X (rSlA K) := h ▸ sl_tupA
theorem opK_eqD (h : X.K = K) (hu : X.A.units + 64 < cLine) : OpR X (compareOp .Eq) (rEqD K) := h ▸ op_eqD hu
theorem opK_neD (h : X.K = K) (hu : X.A.units + 64 < cLine) : OpR X (compareOp .NotEq) (rNeD K) := h ▸ op_neD hu
theorem opK_in (h : X.K = K) : OpR X (compareOp .In) (rIn K false) := h ▸ op_in_seq
theorem opK_notIn (h : X.K = K) : OpR X (compareOp .NotIn) (rIn K true) := h ▸ op_notIn_seq
theorem callK_len (h : X.K = K) : CallR X (.builtin "len") (rLen K) := h ▸ call_len
theorem crK_all (h : X.K = K) (hc : X.calm = true) : CallR X (.builtin "all") (rAll K) := h ▸ cr_all hc
theorem crK_any (h : X.K = K) (hc : X.calm = true) : CallR X (.builtin "any") (rAny K) := h ▸ cr_any hc
theorem callK_isi (h : X.K = K) : CallR X (.builtin "isinstance") (rIsi K) := h ▸ call_isi
theorem crK_sortedT (h : X.K = K) (hu : X.A.units + 70 < cLine) : CallR X (.builtin "sorted") (rSortedT K) := h ▸ cr_sortedT hu
abbrev rTupOf (K : PySem.W.Frag) : List V → Hp → VK → Prop := fun xs H Q => ∃ p ys, xs = [.ref p] ∧ ((SqL K H p ys ∧ ∀ l, H l = none → Q (.ref l) (upd H l (.tup ys))) ∨ (SqT K H p ys ∧ Q (.ref p) H))
theorem callK_tuple (h : X.K = K) : CallR X (.type "tuple") (rTupOf K) := h ▸ call_tuple_of
abbrev rLstOf (K : PySem.W.Frag) : List V → Hp → VK → Prop := fun xs H Q => ∃ p ys, xs = [.ref p] ∧ (SqL K H p ys ∨ SqT K H p ys) ∧ ∀ l, H l = none → Q (.ref l) (upd H l (.lst ys))
theorem callK_list (h : X.K = K) : CallR X (.type "list") (rLstOf K) := h ▸ call_list_of
theorem opK_catA (h : X.K = K) : OpR X (binaryOp .Add) (rCatA K) := h ▸ op_catA
theorem piK_list {l : Expr} {tl : TE} (h : X.K = K) (hl : PE X l tl) : PI X tg l (iList K tl) := h ▸ pi_list hl
theorem piK_tup {l : Expr} {tl : TE} (h : X.K = K) (hl : PE X l tl) : PI X tg l (iTup K tl) := h ▸ pi_tup hl
end
theorem go_mid {μ : Mu} {Γ : List Sl} {c : Nat} {R : Po} {t u : TS} (Mid : List Sl → Nat → Prop) (h : Go μ t Γ c { R with nx := Mid }) (k : ∀ Γ' c', Mid Γ' c' → Go μ u Γ' c' R) : Go μ (tSeq t u) Γ c R :=
  go_seq (h.imp k (fun _ _ z => z) (fun _ _ z => z) (fun _ _ z => z))
theorem rd_neS {a b : Str} : RD rNe (.str a) (.str b) (.bool (!(a == b))) := fun G H v w Q s hv hw q => by
  cases hv; cases hw
  exact ⟨rfl, by rw [dec_str]; exact q _ G H (Nw.refl _ _) s (Same.refl _) (.bl _)⟩
theorem rd_neI {a b : Int} : RD rNe (.int a) (.int b) (.bool (!(a == b))) := fun G H v w Q s hv hw q => by
  cases hv; cases hw
  exact ⟨rfl, by rw [dec_int]; exact q _ G H (Nw.refl _ _) s (Same.refl _) (.bl _)⟩
theorem ev_callKE {μ : Mu} {Γ : List Sl} {tk : TA} {E : XK} {pre : List PyData → Prop} {post : List PyData → PyData → Prop} {gV : List V → List V → List V} {ys zs : List PyData} (hk : EvA μ tk Γ 0 (Eq ys)) (hg : ∀ G ws, DtA G ws ys → DtA G (gV [] ws) zs) (hp : pre zs) : Ev μ (tCallK (spP pre post) gV E tNil tk) Γ 0 (post zs) :=
  ev_callK ea_nil hk (fun G vs ws h1 h2 => by cases h1; exact hg G ws h2) hp
theorem dt2 {gV : List V → List V → List V} {x y : PyData} (hg : ∀ v w, gV [] [v, w] = [w, v]) : ∀ G ws, DtA G ws [x, y] → DtA G (gV [] ws) [y, x] := fun G ws h => by
  cases h with
  | cons a r =>
    cases r with
    | cons b r => cases r; rw [hg]; exact .cons b (.one a)
theorem dt2' {gV : List V → List V → List V} {x y : PyData} (hg : ∀ v w, gV [] [v, w] = [v, w]) : ∀ G ws, DtA G ws [x, y] → DtA G (gV [] ws) [x, y] := fun G ws h => by
  cases h with
  | cons a r =>
    cases r with
    | cons b r => cases r; rw [hg]; exact .cons a (.one b)
end B

/-! B14: dicts that a def has made; sorted as a function. -/
namespace B
open PySem PySem.Spec PyProof.Rows L2 TL
/-! ### sorted -/
def sortK (key : PyData → Kk) (ds : List PyData) : List PyData := ds.mergeSort fun x y => !ltK (key y) (key x)
theorem ltK_le_trans {p q r : Kk} (h1 : ltK q p = false) (h2 : ltK r q = false) : ltK r p = false := by
  cases h : ltK r p with
  | false => rfl
  | true =>
    cases h3 : ltK q r with
    | true => rw [ltK_trans h3 h] at h1; cases h1
    | false =>
      have e := ltK_total h2 h3
      rw [e] at h
      rw [h] at h1
      cases h1
theorem sortK_perm (key : PyData → Kk) (ds : List PyData) : (sortK key ds).Perm ds := List.mergeSort_perm _ _
theorem sortK_pw (key : PyData → Kk) (ds : List PyData) : (sortK key ds).Pairwise (fun x y => ltK (key y) (key x) = false) := by
  have h := List.pairwise_mergeSort (le := fun x y => !ltK (key y) (key x)) (fun a b c h1 h2 => by
    simp only [Bool.not_eq_true'] at h1 h2 ⊢
    exact ltK_le_trans h1 h2) (fun a b => by
    cases h1 : ltK (key b) (key a) with
    | false => rfl
    | true => rw [ltK_asym h1]; rfl) ds
  exact h.imp fun {a b} h => by simpa using h
theorem sortK_eq {key : PyData → Kk} {ds es : List PyData} (hk : ∀ x ∈ ds, ∀ y ∈ ds, key x = key y → x = y) (pe : es.Perm ds) (pw : es.Pairwise (fun x y => ltK (key y) (key x) = false)) : es = sortK key ds :=
  List.Perm.eq_of_pairwise (fun a b ha hb h1 h2 => hk a (pe.mem_iff.mp ha) b ((sortK_perm key ds).mem_iff.mp hb) (ltK_total h2 h1)) pw (sortK_pw key ds) (pe.trans (sortK_perm key ds).symm)
theorem sortK_congr {key : PyData → Kk} {ds es : List PyData} (hk : ∀ x ∈ ds, ∀ y ∈ ds, key x = key y → x = y) (pe : es.Perm ds) : sortK key es = sortK key ds := sortK_eq hk ((sortK_perm key es).trans pe) (sortK_pw key es)
theorem sortK_mem {key : PyData → Kk} {ds : List PyData} {d : PyData} : d ∈ sortK key ds ↔ d ∈ ds := (sortK_perm key ds).mem_iff
theorem sortK_len {key : PyData → Kk} {ds : List PyData} : (sortK key ds).length = ds.length := (sortK_perm key ds).length_eq
/-- what sorted asks of tuples -/
structure Sortable (key : PyData → Kk) (ds : List PyData) : Prop where
  sh : ∀ d ∈ ds, SeqAt.shaped d = true
  tp : TupOk ds
  lt : ∀ xs ys, .tuple xs ∈ ds → .tuple ys ∈ ds → xs.length = ys.length ∧ LtA xs ys (ltK (key (.tuple xs)) (key (.tuple ys)))
  inj : ∀ x ∈ ds, ∀ y ∈ ds, key x = key y → x = y
section
variable {μ : Mu} {Γ : List Sl} {n n1 n2 c : Nat} {R : Po} {ta tb tc te td ty tv : TE} {ts : TS} {i j l : Nat} {P P1 P2 : PyData → Prop} {K : PySem.W.Frag} {ds : List PyData} {d x : PyData}
theorem ev_sortK {key : PyData → Kk} (h : EvL μ te Γ n (Eq ds)) (hs : Sortable key ds) : Ev μ (tCB (rSortedT K) (tCons te tNil)) Γ n (Eq (.list (sortK key ds))) :=
  (ev_sortTE key h ⟨hs.sh, hs.tp, hs.lt⟩).imp fun d ⟨es, e, pe, pw⟩ => by rw [e, sortK_eq hs.inj pe pw]
/-! ### dicts -/
def valM (es : List (Key × PyData)) (k : Key) : Option PyData := (es.find? fun e => decide (e.1 = k)).map (·.2)
def putM (es : List (Key × PyData)) (k : Key) (d : PyData) : List (Key × PyData) :=
  if (es.any fun e => decide (e.1 = k)) = true then es.map (fun e => if e.1 = k then (e.1, d) else e) else es ++ [(k, d)]
theorem DtM.length {G : Hp} : ∀ {kvs : List (Key × V)} {es : List (Key × PyData)}, DtM G kvs es → kvs.length = es.length
  | _, _, .nil => rfl
  | _, _, .cons _ r => by rw [List.length_cons, List.length_cons, DtM.length r]
theorem DtM.any {G : Hp} {k : Key} : ∀ {kvs : List (Key × V)} {es : List (Key × PyData)}, DtM G kvs es → (kvs.any fun e => decide (e.1 = k)) = (es.any fun e => decide (e.1 = k))
  | _, _, .nil => rfl
  | _, _, .cons _ r => by rw [List.any_cons, List.any_cons, DtM.any r]
theorem DtM.snoc {G : Hp} {k : Key} {v : V} {d : PyData} (h : Dt G v d) : ∀ {kvs : List (Key × V)} {es : List (Key × PyData)}, DtM G kvs es → DtM G (kvs ++ [(k, v)]) (es ++ [(k, d)])
  | _, _, .nil => .cons h .nil
  | _, _, .cons a r => .cons a (DtM.snoc h r)
theorem DtM.repl {G : Hp} {k : Key} {v : V} {d : PyData} (h : Dt G v d) : ∀ {kvs : List (Key × V)} {es : List (Key × PyData)}, DtM G kvs es → DtM G (kvs.map fun kv => if kv.1 = k then (kv.1, v) else kv) (es.map fun e => if e.1 = k then (e.1, d) else e)
  | _, _, .nil => .nil
  | (k', v') :: kvs, (_, d') :: es, .cons a r => by
    rw [List.map_cons, List.map_cons]
    by_cases e : k' = k
    · simp only [if_pos e]; exact .cons h (DtM.repl h r)
    · simp only [if_neg e]; exact .cons a (DtM.repl h r)
theorem DtM.put {G : Hp} {k : Key} {v : V} {d : PyData} {kvs : List (Key × V)} {es : List (Key × PyData)} (m : DtM G kvs es) (h : Dt G v d) : DtM G (putK kvs k v) (putM es k d) := by
  unfold putK putM
  rw [m.any]
  split
  · exact m.repl h
  · exact m.snoc h
theorem DtM.val {G : Hp} {k : Key} : ∀ {kvs : List (Key × V)} {es : List (Key × PyData)}, DtM G kvs es → (valV kvs k = none ∧ valM es k = none) ∨ ∃ v d, valV kvs k = some v ∧ valM es k = some d ∧ Dt G v d
  | _, _, .nil => .inl ⟨rfl, rfl⟩
  | (k', v') :: kvs, (_, d') :: es, .cons a r => by
    by_cases e : k' = k
    · exact .inr ⟨v', d', by simp [valV, List.find?_cons, e], by simp [valM, List.find?_cons, e], a⟩
    · have h1 : valV ((k', v') :: kvs) k = valV kvs k := valV_neg e
      have h2 : valM ((k', d') :: es) k = valM es k := by simp [valM, List.find?_cons, e]
      rw [h1, h2]
      exact DtM.val r
theorem DtM.of_K {G : Hp} : ∀ {kvs : List (Key × V)} {es : List (PyData × PyData)}, DtK G kvs es → ∃ ms : List (Key × PyData), es = ms.map (fun e => (keyD e.1, e.2)) ∧ DtM G kvs ms
  | _, _, .nil => ⟨[], rfl, .nil⟩
  | _, _, .cons (k := k) (d := d) a r => by
    obtain ⟨ms, e, h⟩ := DtM.of_K r
    exact ⟨(k, d) :: ms, by rw [e]; rfl, .cons a h⟩
theorem keyD_inj {a b : Key} (h : keyD a = keyD b) : a = b := by
  cases a <;> cases b <;> first | (cases h; rfl) | cases h
theorem keysD_inj : ∀ {a b : List (Key × PyData)}, a.map (fun e => (keyD e.1, e.2)) = b.map (fun e => (keyD e.1, e.2)) → a = b
  | [], [], _ => rfl
  | [], _ :: _, h => by simp at h
  | _ :: _, [], h => by simp at h
  | (k, d) :: a, (k', d') :: b, h => by
    simp only [List.map_cons, List.cons.injEq, Prod.mk.injEq] at h
    rw [keyD_inj h.1.1, h.1.2, keysD_inj h.2]
theorem Dt.key {G : Hp} (k : Key) : Dt G (kV k) (keyD k) := by
  cases k with
  | inl i => exact .int i
  | inr s => exact .str s
theorem Dt.ofKey {G : Hp} {v : V} {k : Key} (h : Dt G v (keyD k)) : v = kV k := by
  cases k <;> (cases h; rfl)
/-- a dict to be read -/
def EvD (μ : Mu) (te : TE) (Γ : List Sl) (n : Nat) (es : List (Key × PyData)) : Prop :=
  ∀ (G0 H0 G : Hp) (c : Nat) (σ : L2.St) (H : Hp) (Q : VK), Stt μ G0 H0 G Γ c σ H → c + n ≤ CM →
    (∀ p kvs u G' H', Stt μ G0 H0 G' Γ (c + n) σ H' → Ext μ.M G H G' H' → ¬ μ.M p → H' p = some u → (u = .dK kvs ∨ ∃ od, u = .frz od (.dK kvs)) → DtM G' kvs es → Q (.ref p) H') → te σ H Q
/-- .. that is not locked -/
def EvDu (μ : Mu) (te : TE) (Γ : List Sl) (n : Nat) (es : List (Key × PyData)) : Prop :=
  ∀ (G0 H0 G : Hp) (c : Nat) (σ : L2.St) (H : Hp) (Q : VK), Stt μ G0 H0 G Γ c σ H → c + n ≤ CM →
    (∀ p kvs G' H', Stt μ G0 H0 G' Γ (c + n) σ H' → Ext μ.M G H G' H' → ¬ μ.M p → H' p = some (.dK kvs) → DtM G' kvs es → Q (.ref p) H') → te σ H Q
variable {es : List (Key × PyData)} {k : Key}
theorem EvDu.rd (h : EvDu μ te Γ n es) : EvD μ te Γ n es := fun G0 H0 G c σ H Q S l q =>
  h G0 H0 G c σ H Q S l fun p kvs G' H' S' e hM hp hd => q p kvs _ G' H' S' e hM hp (.inl rfl) hd
theorem ed_map (h : Γ[i]? = some (.map es)) : EvDu μ (tVar i) Γ 0 es := fun G0 H0 G c σ H Q S l q => by
  obtain ⟨p, kvs, hs, hM, hp, hd⟩ := S.dct h
  exact ⟨_, hs, q p kvs G H S (Ext.refl _ G H) hM hp hd⟩
theorem ed_lck {p : Addr} {od : Obj} {kvs : List (Key × V)} (h : Γ[i]? = some (.ow (.lck p od kvs es))) : EvD μ (tVar i) Γ 0 es := fun G0 H0 G c σ H Q S l q => by
  obtain ⟨p', u, hs, hM, h0, g, hp, rfl, rfl, hd⟩ := S.owO h
  exact ⟨_, hs, q p' kvs _ G H S (Ext.refl _ G H) hM hp (.inr ⟨od, rfl⟩) hd⟩
theorem ed_dat (h : Ev μ te Γ n (Eq (.dict (es.map fun e => (keyD e.1, e.2))))) : EvDu μ te Γ n es := fun G0 H0 G c σ H Q S l q =>
  h G0 H0 G c σ H _ S l fun d v G1 H1 p S1 e1 d1 => by
    cases p
    generalize hE : PyData.dict (es.map fun e => (keyD e.1, e.2)) = E at d1
    cases d1 with
    | dct a r =>
      cases hE
      obtain ⟨ms, e, hm⟩ := DtM.of_K r
      rw [keysD_inj e] at q
      exact q _ _ G1 H1 S1 e1 (fun m => by rw [S1.gM m] at a; cases a) (S1.sub _ _ a) hm
    | _ => cases hE
theorem rd_of {H : Hp} {p : Addr} {u : HO} {kvs : List (Key × V)} (h : H p = some u) (hu : u = .dK kvs ∨ ∃ od, u = .frz od (.dK kvs)) : Rd H p (.dK kvs) := by
  rcases hu with rfl | ⟨od, rfl⟩
  · exact .inl h
  · exact .inr ⟨od, h⟩
theorem ev_dget (hd : EvD μ td Γ n1 es) (hk : Ev μ ty Γ n2 (Eq (keyD k))) (hv : valM es k = some d) : Ev μ (tDGet td ty) Γ (n1 + n2) (Eq d) := fun G0 H0 G c σ H Q S l q =>
  hd G0 H0 G c σ H _ S (by omega) fun p kvs u G1 H1 S1 e1 hM hp hu hm => hk G0 H0 G1 _ σ H1 _ S1 (by omega) fun d2 v2 G2 H2 p2 S2 e2 d2' => by
    cases p2
    have e := d2'.ofKey
    subst e
    rcases (hm.mono e2.gg).val (k := k) with ⟨_, h2⟩ | ⟨v, d', h1, h2, h3⟩
    · rw [hv] at h2; cases h2
    · rw [hv] at h2; cases h2
      rw [Nat.add_assoc] at S2
      exact ⟨p, v, rfl, .inl ⟨kvs, k, rd_of (e2.fr _ _ hM hp) hu, rfl, h1.symm⟩, q _ _ G2 H2 rfl S2 (e1.trans e2) h3⟩
theorem ev_din (hk : Ev μ ty Γ n1 (Eq (keyD k))) (hd : EvD μ td Γ n2 es) : Ev μ (tDIn ty td) Γ (n1 + n2) (Eq (.bool (valM es k).isSome)) := fun G0 H0 G c σ H Q S l q =>
  hk G0 H0 G c σ H _ S (by omega) fun d2 v2 G1 H1 p2 S1 e1 d1 => hd G0 H0 G1 _ σ H1 _ S1 (by omega) fun p kvs u G2 H2 S2 e2 hM hp hu hm => by
    cases p2
    have e := d1.ofKey
    subst e
    rw [Nat.add_assoc] at S2
    refine ⟨p, valV kvs k, rfl, .inl ⟨kvs, k, rd_of hp hu, rfl, rfl⟩, ?_⟩
    rcases hm.val (k := k) with ⟨h1, h2⟩ | ⟨v, d', h1, h2, h3⟩
    · rw [h1]; rw [h2] at q; exact q _ _ G2 H2 rfl S2 (e1.trans e2) (.bl _)
    · rw [h1]; rw [h2] at q; exact q _ _ G2 H2 rfl S2 (e1.trans e2) (.bl _)
theorem ev_dnotIn (hk : Ev μ ty Γ n1 (Eq (keyD k))) (hd : EvD μ td Γ n2 es) : Ev μ (tDNotIn ty td) Γ (n1 + n2) (Eq (.bool (!(valM es k).isSome))) := fun G0 H0 G c σ H Q S l q =>
  hk G0 H0 G c σ H _ S (by omega) fun d2 v2 G1 H1 p2 S1 e1 d1 => hd G0 H0 G1 _ σ H1 _ S1 (by omega) fun p kvs u G2 H2 S2 e2 hM hp hu hm => by
    cases p2
    have e := d1.ofKey
    subst e
    rw [Nat.add_assoc] at S2
    refine ⟨p, valV kvs k, rfl, .inl ⟨kvs, k, rd_of hp hu, rfl, rfl⟩, ?_⟩
    rcases hm.val (k := k) with ⟨h1, h2⟩ | ⟨v, d', h1, h2, h3⟩
    · rw [h1]; rw [h2] at q; exact q _ _ G2 H2 rfl S2 (e1.trans e2) (.bl _)
    · rw [h1]; rw [h2] at q; exact q _ _ G2 H2 rfl S2 (e1.trans e2) (.bl _)
theorem ev_dget1 (hd : EvD μ td Γ n1 es) (hk : Ev μ ty Γ n2 (Eq (keyD k))) : Ev μ (tDGet1 td ty) Γ (n1 + n2) (Eq ((valM es k).getD .none)) := fun G0 H0 G c σ H Q S l q =>
  hd G0 H0 G c σ H _ S (by omega) fun p kvs u G1 H1 S1 e1 hM hp hu hm => ⟨p, rfl, .inl ⟨kvs, rd_of hp hu⟩, hk G0 H0 G1 _ σ H1 _ S1 (by omega) fun d2 v2 G2 H2 p2 S2 e2 d2' => by
    cases p2
    have e := d2'.ofKey
    subst e
    rw [Nat.add_assoc] at S2
    refine ⟨valV kvs k, .inl ⟨kvs, k, rd_of (e2.fr _ _ hM hp) hu, rfl, rfl⟩, ?_⟩
    rcases (hm.mono e2.gg).val (k := k) with ⟨h1, h2⟩ | ⟨v, d', h1, h2, h3⟩
    · rw [h1]; rw [h2] at q; exact q _ _ G2 H2 rfl S2 (e1.trans e2) .non
    · rw [h1]; rw [h2] at q; exact q _ _ G2 H2 rfl S2 (e1.trans e2) h3⟩
/-- d[k] = v -/
theorem go_dput {P : PyData → Prop} (h : Γ[i]? = some (.map es)) (hv : Ev μ tv Γ n1 P) (hk : Ev μ ty Γ n2 (Eq (keyD k))) (hl : es.length ≤ 50000) (hc : c + (n1 + n2) ≤ CM) (kk : ∀ d, P d → R.nx (Γ.set i (.map (putM es k d))) (c + (n1 + n2))) : Go μ (sDPut (tVar i) ty tv) Γ c R := fun G0 H0 Gs G σ H D S gs L =>
  hv G0 H0 G c σ H _ S (by omega) fun d v G1 H1 pd S1 e1 d1 => by
    obtain ⟨p, kvs, hs, hM, hp, hm⟩ := S1.dct h
    refine ⟨_, hs, hk G0 H0 G1 _ σ H1 _ S1 (by omega) fun d2 v2 G2 H2 p2 S2 e2 d2' => ?_⟩
    cases p2
    have e := d2'.ofKey
    subst e
    rw [Nat.add_assoc] at S2
    refine ⟨p, _, rfl, .inl ⟨kvs, k, e2.fr _ _ hM hp, rfl, by rw [hm.length]; exact Nat.lt_of_le_of_lt hl (by decide), rfl⟩, ?_⟩
    exact L.nx _ _ G2 σ _ (kk d pd) (S2.putOw h hs ⟨_, rfl, (hm.mono e2.gg).put (d1.mono e2.gg)⟩) (gs.trans (e1.trans e2).gg)
/-! ### locks -/
theorem set_self {α : Type} {xs : List α} {i : Nat} {x : α} (h : xs[i]? = some x) : xs.set i x = xs := by
  apply List.ext_getElem?
  intro j
  by_cases q : j = i
  · subst q
    rw [List.getElem?_set_self (List.getElem?_eq_some_iff.mp h).1, h]
  · rw [List.getElem?_set_ne (Ne.symm q)]
theorem get_set {α : Type} {xs : List α} {i : Nat} {x y : α} (h : xs[i]? = some x) : (xs.set i y)[i]? = some y := List.getElem?_set_self (List.getElem?_eq_some_iff.mp h).1
theorem Ext.unlock {M : Addr → Prop} {G H G' H' : Hp} {p : Addr} {u w : HO} (hp : H p = some u) (e : Ext M G (upd H p w) G' H') : Ext M G H G' (upd H' p u) := by
  refine ⟨⟨e.nw.1, fun a ha => ?_⟩, fun a o ha hh => ?_, fun a ha => ?_⟩
  · rcases e.nw.2 a ha with h | h
    · exact .inl h
    · by_cases z : a = p
      · subst z; rw [upd_same] at h; cases h
      · rw [upd_ne z] at h; exact .inr h
  · by_cases z : a = p
    · subst z; rw [upd_same]; rw [hp] at hh; exact hh
    · rw [upd_ne z]; exact e.fr a o ha (by rw [upd_ne z]; exact hh)
  · by_cases z : a = p
    · subst z; rw [upd_same] at ha; cases ha
    · rw [upd_ne z] at ha
      have := e.dm a ha
      rw [upd_ne z] at this
      exact this
theorem ev_lock {t : TE} (h : Γ[i]? = some (.map es)) (hk : ∀ p od kvs, Ev μ t (Γ.set i (.ow (.lck p od kvs es))) n P) : Ev μ (tLockE t) Γ n P := fun G0 H0 G c σ H Q S l q => by
  obtain ⟨p, kvs, hs, hM, hp, hd⟩ := S.dct h
  refine ⟨p, .dK kvs, hp, trivial, fun od => ?_⟩
  have S1 := S.putOw (k' := .lck p od kvs es) h hs ⟨rfl, rfl, hd⟩
  refine hk p od kvs G0 H0 G c σ _ _ S1 l fun d v G2 H2 pd S2 e2 d2 => ?_
  obtain ⟨p', u, hs', _, _, _, hp', e, rfl, hd'⟩ := S2.owO (get_set h)
  subst e
  refine ⟨hp', q d v G2 _ pd ?_ (e2.unlock hp) d2⟩
  have S3 := S2.putOw (i := i) (k' := .dct es) (u := .dK kvs) (get_set h) hs ⟨kvs, rfl, hd'⟩
  rw [List.set_set, set_self h] at S3
  exact S3
theorem go_lock {t : TS} (h : Γ[i]? = some (.map es)) (hk : ∀ p od kvs, Go μ t (Γ.set i (.ow (.lck p od kvs es))) c
      { nx := fun Γ' c' => Γ'[i]? = some (.ow (.lck p od kvs es)) ∧ R.nx (Γ'.set i (.map es)) c', rt := R.rt, bk := fun Γ' c' => Γ'[i]? = some (.ow (.lck p od kvs es)) ∧ R.bk (Γ'.set i (.map es)) c', ct := fun Γ' c' => Γ'[i]? = some (.ow (.lck p od kvs es)) ∧ R.ct (Γ'.set i (.map es)) c', rg := fun Γ' => Γ'[i]? = some (.ow (.lck p od kvs es)) ∧ R.rg (Γ'.set i (.map es)) }) : Go μ (tLock t) Γ c R := fun G0 H0 Gs G σ H D S gs L => by
  obtain ⟨p, kvs, hs, hM, hp, hd⟩ := S.dct h
  refine ⟨p, .dK kvs, hp, trivial, fun od => ?_⟩
  have S1 := S.putOw (k' := .lck p od kvs es) h hs ⟨rfl, rfl, hd⟩
  have back : ∀ {Γ' c' G' σ' H'}, Γ'[i]? = some (.ow (.lck p od kvs es)) → Stt μ G0 H0 G' Γ' c' σ' H' → H' p = some (.frz od (.dK kvs)) ∧ Stt μ G0 H0 G' (Γ'.set i (.map es)) c' σ' (upd H' p (.dK kvs)) := fun {Γ' c' G' σ' H'} hg S' => by
    obtain ⟨p', u, hs', _, _, _, hp', e, rfl, hd'⟩ := S'.owO hg
    subst e
    exact ⟨hp', S'.putOw (i := i) (k' := .dct es) (u := .dK kvs) hg hs' ⟨kvs, rfl, hd'⟩⟩
  refine hk p od kvs G0 H0 Gs G σ _ _ S1 gs ⟨fun Γ' c' G' σ' H' ⟨q1, q2⟩ S' g' => ?_, fun Γ' σ' d c' v G' H' q ⟨q1, q2⟩ S' dt => ?_, fun Γ' c' G' σ' H' ⟨q1, q2⟩ S' g' => ?_, fun Γ' c' G' σ' H' ⟨q1, q2⟩ S' g' => ?_⟩
  · obtain ⟨a, b⟩ := back q1 S'
    exact ⟨a, L.nx _ _ _ _ _ q2 b g'⟩
  · obtain ⟨a, b⟩ := back q1 S'
    exact ⟨a, L.rt _ _ _ _ _ _ _ q q2 b dt⟩
  · obtain ⟨a, b⟩ := back q1 S'
    exact ⟨a, L.bk _ _ _ _ _ q2 b g'⟩
  · obtain ⟨a, b⟩ := back q1 S'
    exact ⟨a, L.ct _ _ _ _ _ q2 b g'⟩
/-! ### walks of a locked dict -/
theorem DtM.get {G : Hp} : ∀ {kvs : List (Key × V)} {es : List (Key × PyData)} {i : Nat} {k : Key} {v : V}, DtM G kvs es → kvs[i]? = some (k, v) → ∃ d, es[i]? = some (k, d) ∧ Dt G v d
  | _, _, _, _, _, .nil, e => by simp at e
  | _, _, 0, _, _, .cons h _, e => by simp at e; obtain ⟨rfl, rfl⟩ := e; exact ⟨_, rfl, h⟩
  | _, _, i + 1, k, v, .cons _ t, e => by
    obtain ⟨d, h1, h2⟩ := DtM.get (i := i) (k := k) (v := v) t (by simpa using e)
    exact ⟨d, by simpa using h1, h2⟩
theorem dwalk_keys {G : Hp} {p : Addr} {od : Obj} {kvs : List (Key × V)} (hd : DtM G kvs es) : DWalk (Itk p od kvs) G [(p, .frz od (.dK kvs))] (es.map fun e => keyD e.1) := by
  have hl := hd.length
  refine ⟨fun i H hi s pin => ⟨pin _ List.mem_cons_self, by rw [List.length_map] at hi; omega⟩, fun H s pin => ⟨pin _ List.mem_cons_self, by rw [List.length_map]; omega⟩, fun i H G1 x H' hi s s1 pin y => ?_⟩
  obtain ⟨rfl, k, v, e, rfl⟩ := y
  obtain ⟨d, h1, h2⟩ := hd.get e
  exact ⟨G1, keyD k, by rw [List.getElem?_map, h1]; rfl, Nw.refl _ _, s1, Same.refl _, Dt.key k⟩
theorem dwalk_vals {G : Hp} {p : Addr} {od : Obj} {kvs : List (Key × V)} (hd : DtM G kvs es) : DWalk (Itd p od kvs) G [(p, .frz od (.dK kvs))] (es.map fun e => e.2) := by
  have hl := hd.length
  refine ⟨fun i H hi s pin => ⟨pin _ List.mem_cons_self, by rw [List.length_map] at hi; omega⟩, fun H s pin => ⟨pin _ List.mem_cons_self, by rw [List.length_map]; omega⟩, fun i H G1 x H' hi s s1 pin y => ?_⟩
  obtain ⟨rfl, k, e⟩ := y
  obtain ⟨d, h1, h2⟩ := hd.get e
  exact ⟨G1, d, by rw [List.getElem?_map, h1]; rfl, Nw.refl _ _, s1, Same.refl _, h2.mono s⟩
theorem dwalk_items {G : Hp} {p : Addr} {od : Obj} {kvs : List (Key × V)} (hd : DtM G kvs es) : DWalk (Iti p od kvs) G [(p, .frz od (.dK kvs))] (es.map fun e => .tuple [keyD e.1, e.2]) := by
  have hl := hd.length
  refine ⟨fun i H hi s pin => ⟨pin _ List.mem_cons_self, by rw [List.length_map] at hi; omega⟩, fun H s pin => ⟨pin _ List.mem_cons_self, by rw [List.length_map]; omega⟩, fun i H G1 x H' hi s s1 pin y => ?_⟩
  obtain ⟨T, k, v, e, rfl, hT, rfl⟩ := y
  obtain ⟨d, h1, h2⟩ := hd.get e
  refine ⟨upd G1 T (.tup [kV k, v]), .tuple [keyD k, d], by rw [List.getElem?_map, h1]; rfl, Nw.upd hT s1, Same.upd2 s1, Same.new hT, .tup upd_same ?_⟩
  exact .cons (Dt.key k) (.one ((h2.mono s).mono (Nw.upd hT s1).1))
/-- a walk of the locked dict at slot i -/
def EvWL (μ : Mu) (wi : TI) (Γ : List Sl) (p : Addr) (od : Obj) (kvs : List (Key × V)) (ds : List PyData) : Prop :=
  ∀ (G0 H0 G : Hp) (c : Nat) (σ : L2.St) (H : Hp) (R : It → Hp → Prop), Stt μ G0 H0 G Γ c σ H → (∀ J, DWalk J G [(p, .frz od (.dK kvs))] ds → ¬ μ.M p → H p = some (.frz od (.dK kvs)) → R J H) → wi σ H R
section
variable {p : Addr} {od : Obj} {kvs : List (Key × V)}
theorem wl_keys (h : Γ[i]? = some (.ow (.lck p od kvs es))) : EvWL μ (iKeys (tVar i)) Γ p od kvs (es.map fun e => keyD e.1) := fun G0 H0 G c σ H R S q => by
  obtain ⟨p', u, hs, hM, h0, g, hp, rfl, rfl, hd⟩ := S.owO h
  exact ⟨_, hs, p', od, rfl, .inl ⟨kvs, hp, q _ (dwalk_keys hd) hM hp⟩⟩
theorem wl_keysM (h : Γ[i]? = some (.ow (.lck p od kvs es))) : EvWL μ (iKeysM (tVar i)) Γ p od kvs (es.map fun e => keyD e.1) := fun G0 H0 G c σ H R S q => by
  obtain ⟨p', u, hs, hM, h0, g, hp, rfl, rfl, hd⟩ := S.owO h
  exact ⟨_, hs, p', od, kvs, rfl, hp, q _ (dwalk_keys hd) hM hp⟩
theorem wl_vals (h : Γ[i]? = some (.ow (.lck p od kvs es))) : EvWL μ (iVals (tVar i)) Γ p od kvs (es.map fun e => e.2) := fun G0 H0 G c σ H R S q => by
  obtain ⟨p', u, hs, hM, h0, g, hp, rfl, rfl, hd⟩ := S.owO h
  exact ⟨_, hs, p', od, kvs, rfl, hp, q _ (dwalk_vals hd) hM hp⟩
theorem wl_items (h : Γ[i]? = some (.ow (.lck p od kvs es))) : EvWL μ (iItems (tVar i)) Γ p od kvs (es.map fun e => .tuple [keyD e.1, e.2]) := fun G0 H0 G c σ H R S q => by
  obtain ⟨p', u, hs, hM, h0, g, hp, rfl, rfl, hd⟩ := S.owO h
  exact ⟨_, hs, p', od, kvs, rfl, hp, q _ (dwalk_items hd) hM hp⟩
theorem EvWL.ei {wi : TI} (h : EvWL μ wi Γ p od kvs ds) : EvI μ wi Γ 0 (Eq ds) := fun G0 H0 G c σ H R S l q =>
  h G0 H0 G c σ H R S fun J w hM hp => q ds J _ G H rfl S (Ext.refl _ G H) w fun x hx => by rw [List.mem_singleton.mp hx]; exact ⟨hM, hp⟩
theorem go_forL {wi : TI} {g : TG} (hi : EvWL μ wi Γ p od kvs ds) (J : Nat → List Sl → Nat → Prop) (h0 : J 0 Γ c) (hJ : ∀ j Γ' c', J j Γ' c' → Γ'[i]? = some (.ow (.lck p od kvs es)))
      (hs : ∀ (j : Nat) d Γ' c', ds[j]? = some d → J j Γ' c' → ∃ is Γ'', EvG g d is Γ' Γ'' ∧ Go μ ts Γ'' c' { R with nx := J (j + 1), ct := J (j + 1), bk := R.nx }) (hd : ∀ Γ' c', J ds.length Γ' c' → R.nx Γ' c') :
    Go μ (tFor wi g ts) Γ c R := fun G0 H0 Gs G σ H D S gs L =>
  hi G0 H0 G c σ H _ S fun It w hM hp => by
    refine ⟨fun j left σ' H' => left = ds.length - j ∧ j ≤ ds.length ∧ ∃ Γ' c' G', J j Γ' c' ∧ Stt μ G0 H0 G' Γ' c' σ' H' ∧ Same G G', ⟨ds.length, by omega, Nat.zero_le _, Γ, c, G, h0, S, Same.refl _⟩, fun j left σ' H' hW => ?_⟩
    obtain ⟨rfl, hil, Γ', c', G2, hJj, S2, e2⟩ := hW
    have pin : ∀ x ∈ [(p, HO.frz od (.dK kvs))], H' x.1 = some x.2 := fun x hx => by
      rw [List.mem_singleton.mp hx]
      obtain ⟨p', u, _, _, _, _, hp', e, rfl, _⟩ := S2.owO (hJ j Γ' c' hJj)
      rw [← e]; exact hp'
    by_cases hi : j < ds.length
    · refine .inr ⟨w.go j H' hi (e2.trans S2.sub) pin, fun σ'' H'' => ∃ Γ' c' G', J (j + 1) Γ' c' ∧ Stt μ G0 H0 G' Γ' c' σ'' H'' ∧ Same G G', fun σ'' H'' z => ⟨ds.length - (j + 1), by omega, rfl, by omega, z⟩, fun x H3 y => ?_⟩
      obtain ⟨G3, d, hdd, nw, s3, s3', hx⟩ := w.yld j H' G2 x H3 hi e2 S2.sub pin y
      obtain ⟨is, Γ'', hg, hgo⟩ := hs j d Γ' c' hdd hJj
      have S3 := S2.same nw s3 s3'
      refine hg μ G0 H0 G3 c' σ' H3 x _ S3 hx fun σ4 S4 _ => ?_
      refine hgo G0 H0 G G3 σ4 H3 _ S4 (e2.trans nw.1) ⟨fun Γ5 c5 G5 σ5 H5 q S5 g5 => ⟨Γ5, c5, G5, q, S5, g5⟩, L.rt, fun Γ5 c5 G5 σ5 H5 q S5 g5 => L.nx Γ5 c5 G5 σ5 H5 q S5 (gs.trans g5), fun Γ5 c5 G5 σ5 H5 q S5 g5 => ⟨Γ5, c5, G5, q, S5, g5⟩⟩
    · have ei : j = ds.length := by omega
      subst ei
      exact .inl ⟨w.stop H' (e2.trans S2.sub) pin, L.nx Γ' c' G2 σ' H' (hd Γ' c' hJj) S2 (gs.trans e2)⟩
end
/-! ### list(d.items()) -/
def itemsD (es : List (Key × PyData)) : List PyData := es.map fun e => .tuple [keyD e.1, e.2]
theorem items_data {G H H' : Hp} {p : Addr} (s : Same G H) (hH : ∀ b o, H b = some o → H' b = some o) (hp : H p = none) : ∀ {ts : List Addr} {kvs : List (Key × V)} {es : List (Key × PyData)}, DtM G kvs es → Paired (fun (t : Addr) (q : Key × V) => H' t = some (.tup [kV q.1, q.2])) ts kvs → (∀ t ∈ ts, H t = none) → (∀ t ∈ ts, t ≠ p) →
    ∃ G', Nw G H G' ∧ Same G' H' ∧ DtA G' (ts.map V.ref) (itemsD es) ∧ G' p = none
  | [], _, _, .nil, .nil, _, _ => ⟨G, Nw.refl _ _, fun a o e => hH a o (s a o e), .nil, Same.free s hp⟩
  | t :: ts, (k, v) :: kvs, (_, d) :: es, .cons hd r, .cons ht rt, hn, hne => by
    obtain ⟨G', n1, s1, d1, gp⟩ := items_data s hH hp r rt (fun a ha => hn a (List.mem_cons_of_mem _ ha)) (fun a ha => hne a (List.mem_cons_of_mem _ ha))
    have htn := hn t List.mem_cons_self
    cases hg : G' t with
    | some o =>
      have e2 := s1 t o hg
      rw [ht] at e2
      cases e2
      exact ⟨G', n1, s1, .cons (.tup hg (.cons (Dt.key k) (.one (hd.mono n1.1)))) d1, gp⟩
    | none =>
      have sn := Same.new (o := HO.tup [kV k, v]) hg
      refine ⟨upd G' t (.tup [kV k, v]), ⟨n1.1.trans sn, fun a ha => ?_⟩, fun a o ha => ?_, .cons (.tup upd_same (.cons (Dt.key k) (.one ((hd.mono n1.1).mono sn)))) (d1.mono sn), ?_⟩
      · by_cases z : a = t
        · subst z; exact .inr htn
        · rw [upd_ne z] at ha; exact n1.2 a ha
      · by_cases z : a = t
        · subst z; rw [upd_same] at ha; rw [ht]; exact ha
        · rw [upd_ne z] at ha; exact s1 a o ha
      · rw [upd_ne (Ne.symm (hne t List.mem_cons_self))]; exact gp
theorem ev_items (h : EvDu μ td Γ n es) : Ev μ (LiI.tListItems td) Γ n (Eq (.list (itemsD es))) := fun G0 H0 G c σ H Q S l q =>
  h G0 H0 G c σ H _ S l fun p kvs G1 H1 S1 e1 hM hp hm => ⟨p, kvs, rfl, hp, fun H' a ts hH ha hts hat hl hpr => by
    obtain ⟨G', n1, s1, d1, gp⟩ := items_data S1.sub hH ha hm hpr hts (fun t ht z => hat (z ▸ ht))
    have sn := Same.new (o := HO.lst (ts.map V.ref)) gp
    have nw : Nw G1 H1 (upd G' a (.lst (ts.map V.ref))) := ⟨n1.1.trans sn, fun b hb => by
      by_cases z : b = a
      · subst z; exact .inr ha
      · rw [upd_ne z] at hb; exact n1.2 b hb⟩
    have sm : Same (upd G' a (.lst (ts.map V.ref))) H' := fun b o hb => by
      by_cases z : b = a
      · subst z; rw [upd_same] at hb; rw [hl]; exact hb
      · rw [upd_ne z] at hb; exact s1 b o hb
    exact q _ _ _ _ rfl (S1.same nw sm hH) (e1.trans (.same nw hH)) (.lst upd_same (d1.mono sn))⟩
end
end B
namespace B
open PySem PySem.Spec PyProof.Rows L2 TL
theorem u1 {k : Nat} {A : Around} (hr : Room k A) : A.units + 1 < cLine := by have := hr.un; omega
theorem u64 {k : Nat} {A : Around} (hr : Room k A) : A.units + 64 < cLine := by have := hr.un; omega
theorem Rp.eqv {m n : Nat} {d : PyData} (h : Rp m n d) : PyData.eqv d d = true := PySem.SeqAt.eqv_refl d h.shp.1
theorem Shp.eqv {m : Nat} {d : PyData} (h : Shp m d) : PyData.eqv d d = true := PySem.SeqAt.eqv_refl d h.1
end B

namespace K21
open PySem PySem.Spec PyProof.Rows L2 B
def topS (i : Nat) : Stmt := PySem.Challenge.pw_bothhistories_k21_what_is_taken.main.body.getD i (.Pass ⟨0, 0, 0, 0⟩)
abbrev s_lies_below : Stmt := topS 2
abbrev N_lies_below : List Str := ["path", "folder"]
theorem sc_lies_below : FnScope N_lies_below ["path", "folder"] (defScope s_lies_below) := ⟨rfl, rfl, rfl, by decide +kernel, rfl, by decide +kernel, by decide +kernel⟩
abbrev s_joined : Stmt := topS 4
abbrev N_joined : List Str := ["folder", "rest"]
theorem sc_joined : FnScope N_joined ["folder", "rest"] (defScope s_joined) := ⟨rfl, rfl, rfl, by decide +kernel, rfl, by decide +kernel, by decide +kernel⟩
abbrev s_rest_of : Stmt := topS 5
abbrev N_rest_of : List Str := ["path", "folder"]
theorem sc_rest_of : FnScope N_rest_of ["path", "folder"] (defScope s_rest_of) := ⟨rfl, rfl, rfl, by decide +kernel, rfl, by decide +kernel, by decide +kernel⟩
abbrev s_row_of : Stmt := topS 6
abbrev N_row_of : List Str := ["rows", "path", "found", "row"]
theorem sc_row_of : FnScope N_row_of ["rows", "path"] (defScope s_row_of) := ⟨rfl, rfl, rfl, by decide +kernel, rfl, by decide +kernel, by decide +kernel⟩
abbrev s_place : Stmt := topS 7
abbrev N_place : List Str := ["rows", "path", "row", "folder", "target"]
theorem sc_place : FnScope N_place ["rows", "path"] (defScope s_place) := ⟨rfl, rfl, rfl, by decide +kernel, rfl, by decide +kernel, by decide +kernel⟩
abbrev s_taken : Stmt := topS 8
abbrev N_taken : List Str := ["rows", "tree", "found", "path", "lines", "row"]
theorem sc_taken : FnScope N_taken ["rows", "tree"] (defScope s_taken) := ⟨rfl, rfl, rfl, by decide +kernel, rfl, by decide +kernel, by decide +kernel⟩
abbrev s_outside : Stmt := topS 9
abbrev N_outside : List Str := ["rows", "tree", "row"]
theorem sc_outside : FnScope N_outside ["rows", "tree"] (defScope s_outside) := ⟨rfl, rfl, rfl, by decide +kernel, rfl, by decide +kernel, by decide +kernel⟩
abbrev s_law_box : Stmt := topS 11
abbrev N_law_box : List Str := ["_law_script", "_law_k", "_law_cell", "_law_own"]
theorem sc_law_box : FnScope N_law_box ["_law_script", "_law_k"] (defScope s_law_box) := ⟨rfl, rfl, rfl, by decide +kernel, rfl, by decide +kernel, by decide +kernel⟩
abbrev s_law_take : Stmt := topS 12
abbrev N_law_take : List Str := ["_law_box_here", "_law_many", "_law_digit", "_law_made"]
theorem sc_law_take : FnScope N_law_take ["_law_box_here", "_law_many"] (defScope s_law_take) := ⟨rfl, rfl, rfl, by decide +kernel, rfl, by decide +kernel, by decide +kernel⟩
abbrev s_law_of : Stmt := topS 13
abbrev N_law_of : List Str := ["_law_box_here", "_law_some"]
theorem sc_law_of : FnScope N_law_of ["_law_box_here", "_law_some"] (defScope s_law_of) := ⟨rfl, rfl, rfl, by decide +kernel, rfl, by decide +kernel, by decide +kernel⟩
abbrev s_law_row : Stmt := topS 14
abbrev N_law_row : List Str := ["_law_given", "_law_path", "_law_some", "_law_row_here", "_law_found"]
theorem sc_law_row : FnScope N_law_row ["_law_given", "_law_path"] (defScope s_law_row) := ⟨rfl, rfl, rfl, by decide +kernel, rfl, by decide +kernel, by decide +kernel⟩
abbrev s_law_place : Stmt := topS 15
abbrev N_law_place : List Str := ["_law_given", "_law_path", "_law_row_here", "_law_rest"]
theorem sc_law_place : FnScope N_law_place ["_law_given", "_law_path"] (defScope s_law_place) := ⟨rfl, rfl, rfl, by decide +kernel, rfl, by decide +kernel, by decide +kernel⟩
abbrev s_law_taken : Stmt := topS 16
abbrev N_law_taken : List Str := ["_law_given", "_law_wood", "_law_files", "_law_path", "_law_lines"]
theorem sc_law_taken : FnScope N_law_taken ["_law_given", "_law_wood"] (defScope s_law_taken) := ⟨rfl, rfl, rfl, by decide +kernel, rfl, by decide +kernel, by decide +kernel⟩
abbrev s_law_outside : Stmt := topS 17
abbrev N_law_outside : List Str := ["_law_given", "_law_wood", "_law_path", "_law_lines"]
theorem sc_law_outside : FnScope N_law_outside ["_law_given", "_law_wood"] (defScope s_law_outside) := ⟨rfl, rfl, rfl, by decide +kernel, rfl, by decide +kernel, by decide +kernel⟩
abbrev s_law_meets : Stmt := topS 18
abbrev N_law_meets : List Str := ["_law_one", "_law_other"]
theorem sc_law_meets : FnScope N_law_meets ["_law_one", "_law_other"] (defScope s_law_meets) := ⟨rfl, rfl, rfl, by decide +kernel, rfl, by decide +kernel, by decide +kernel⟩
abbrev s_law_rows_drawn : Stmt := topS 19
abbrev N_law_rows_drawn : List Str := ["_law_box_here", "_law_folders", "_law_targets", "_law_found", "_law_turn", "_law_folder", "_law_target", "_law_some", "_law_row_here", "_law_other"]
theorem sc_law_rows_drawn : FnScope N_law_rows_drawn ["_law_box_here"] (defScope s_law_rows_drawn) := ⟨rfl, rfl, rfl, by decide +kernel, rfl, by decide +kernel, by decide +kernel⟩
abbrev s_law_paths : Stmt := topS 20
abbrev N_law_paths : List Str := ["_law_some"]
theorem sc_law_paths : FnScope N_law_paths [] (defScope s_law_paths) := ⟨rfl, rfl, rfl, by decide +kernel, rfl, by decide +kernel, by decide +kernel⟩
abbrev s_law_tree : Stmt := topS 21
abbrev N_law_tree : List Str := ["_law_box_here", "_law_paths_here", "_law_files", "_law_turn", "_law_path", "_law_other", "_law_spot"]
theorem sc_law_tree : FnScope N_law_tree ["_law_box_here", "_law_paths_here"] (defScope s_law_tree) := ⟨rfl, rfl, rfl, by decide +kernel, rfl, by decide +kernel, by decide +kernel⟩
abbrev s_law_right : Stmt := topS 22
abbrev N_law_right : List Str := ["_law_box_here", "_law_given", "_law_wood", "_law_kept", "_law_due", "_law_told", "_law_named"]
theorem sc_law_right : FnScope N_law_right ["_law_box_here"] (defScope s_law_right) := ⟨rfl, rfl, rfl, by decide +kernel, rfl, by decide +kernel, by decide +kernel⟩
abbrev s_law : Stmt := topS 23
abbrev N_law : List Str := ["_law_script", "_law_k", "_law_box_here", "_law_turn"]
theorem sc_law : FnScope N_law ["_law_script"] (defScope s_law) := ⟨rfl, rfl, rfl, by decide +kernel, rfl, by decide +kernel, by decide +kernel⟩
/-- what the top has left -/
structure Tx (K : PySem.W.Frag) (mg : Str → Option Value) where
  m_abs : mg "abs" = none
  m_any : mg "any" = none
  m_int : mg "int" = none
  m_len : mg "len" = none
  m_list : mg "list" = none
  m_max : mg "max" = none
  m_min : mg "min" = none
  m_range : mg "range" = none
  m_repr : mg "repr" = none
  m_sorted : mg "sorted" = none
  m_tuple : mg "tuple" = none
  t_SLASH : Tok
  c_SLASH : mg "SLASH" = some (.str "/" t_SLASH)
  a_lies_below : Addr
  d_lies_below : FuncData
  F_lies_below : Fun K "lies_below" "lies_below" s_lies_below a_lies_below d_lies_below
  g_lies_below : mg "lies_below" = some (.ref a_lies_below)
  b_lies_below : Binds K d_lies_below ["path", "folder"] []
  a_joined : Addr
  d_joined : FuncData
  F_joined : Fun K "joined" "joined" s_joined a_joined d_joined
  g_joined : mg "joined" = some (.ref a_joined)
  b_joined : Binds K d_joined ["folder", "rest"] []
  a_rest_of : Addr
  d_rest_of : FuncData
  F_rest_of : Fun K "rest_of" "rest_of" s_rest_of a_rest_of d_rest_of
  g_rest_of : mg "rest_of" = some (.ref a_rest_of)
  b_rest_of : Binds K d_rest_of ["path", "folder"] []
  a_row_of : Addr
  d_row_of : FuncData
  F_row_of : Fun K "row_of" "row_of" s_row_of a_row_of d_row_of
  g_row_of : mg "row_of" = some (.ref a_row_of)
  b_row_of : Binds K d_row_of ["rows", "path"] []
  a_place : Addr
  d_place : FuncData
  F_place : Fun K "place" "place" s_place a_place d_place
  g_place : mg "place" = some (.ref a_place)
  b_place : Binds K d_place ["rows", "path"] []
  a_taken : Addr
  d_taken : FuncData
  F_taken : Fun K "taken" "taken" s_taken a_taken d_taken
  g_taken : mg "taken" = some (.ref a_taken)
  b_taken : Binds K d_taken ["rows", "tree"] []
  a_outside : Addr
  d_outside : FuncData
  F_outside : Fun K "outside" "outside" s_outside a_outside d_outside
  g_outside : mg "outside" = some (.ref a_outside)
  b_outside : Binds K d_outside ["rows", "tree"] []
  a_law_box : Addr
  d_law_box : FuncData
  F_law_box : Fun K "_law_box" "_law_box" s_law_box a_law_box d_law_box
  g_law_box : mg "_law_box" = some (.ref a_law_box)
  b_law_box : Binds K d_law_box ["_law_script", "_law_k"] []
  a_law_take : Addr
  d_law_take : FuncData
  F_law_take : Fun K "_law_take" "_law_take" s_law_take a_law_take d_law_take
  g_law_take : mg "_law_take" = some (.ref a_law_take)
  b_law_take : Binds K d_law_take ["_law_box_here", "_law_many"] []
  a_law_of : Addr
  d_law_of : FuncData
  F_law_of : Fun K "_law_of" "_law_of" s_law_of a_law_of d_law_of
  g_law_of : mg "_law_of" = some (.ref a_law_of)
  b_law_of : Binds K d_law_of ["_law_box_here", "_law_some"] []
  a_law_row : Addr
  d_law_row : FuncData
  F_law_row : Fun K "_law_row" "_law_row" s_law_row a_law_row d_law_row
  g_law_row : mg "_law_row" = some (.ref a_law_row)
  b_law_row : Binds K d_law_row ["_law_given", "_law_path"] []
  a_law_place : Addr
  d_law_place : FuncData
  F_law_place : Fun K "_law_place" "_law_place" s_law_place a_law_place d_law_place
  g_law_place : mg "_law_place" = some (.ref a_law_place)
  b_law_place : Binds K d_law_place ["_law_given", "_law_path"] []
  a_law_taken : Addr
  d_law_taken : FuncData
  F_law_taken : Fun K "_law_taken" "_law_taken" s_law_taken a_law_taken d_law_taken
  g_law_taken : mg "_law_taken" = some (.ref a_law_taken)
  b_law_taken : Binds K d_law_taken ["_law_given", "_law_wood"] []
  a_law_outside : Addr
  d_law_outside : FuncData
  F_law_outside : Fun K "_law_outside" "_law_outside" s_law_outside a_law_outside d_law_outside
  g_law_outside : mg "_law_outside" = some (.ref a_law_outside)
  b_law_outside : Binds K d_law_outside ["_law_given", "_law_wood"] []
  a_law_meets : Addr
  d_law_meets : FuncData
  F_law_meets : Fun K "_law_meets" "_law_meets" s_law_meets a_law_meets d_law_meets
  g_law_meets : mg "_law_meets" = some (.ref a_law_meets)
  b_law_meets : Binds K d_law_meets ["_law_one", "_law_other"] []
  a_law_rows_drawn : Addr
  d_law_rows_drawn : FuncData
  F_law_rows_drawn : Fun K "_law_rows_drawn" "_law_rows_drawn" s_law_rows_drawn a_law_rows_drawn d_law_rows_drawn
  g_law_rows_drawn : mg "_law_rows_drawn" = some (.ref a_law_rows_drawn)
  b_law_rows_drawn : Binds K d_law_rows_drawn ["_law_box_here"] []
  a_law_paths : Addr
  d_law_paths : FuncData
  F_law_paths : Fun K "_law_paths" "_law_paths" s_law_paths a_law_paths d_law_paths
  g_law_paths : mg "_law_paths" = some (.ref a_law_paths)
  b_law_paths : Binds K d_law_paths [] []
  a_law_tree : Addr
  d_law_tree : FuncData
  F_law_tree : Fun K "_law_tree" "_law_tree" s_law_tree a_law_tree d_law_tree
  g_law_tree : mg "_law_tree" = some (.ref a_law_tree)
  b_law_tree : Binds K d_law_tree ["_law_box_here", "_law_paths_here"] []
  a_law_right : Addr
  d_law_right : FuncData
  F_law_right : Fun K "_law_right" "_law_right" s_law_right a_law_right d_law_right
  g_law_right : mg "_law_right" = some (.ref a_law_right)
  b_law_right : Binds K d_law_right ["_law_box_here"] []
  a_law : Addr
  d_law : FuncData
  F_law : Fun K "law" "law" s_law a_law d_law
  g_law : mg "law" = some (.ref a_law)
  b_law : Binds K d_law ["_law_script"] []
def vk_outside_0_tree_rows : List Value → List Value → List Value := fun us ws => match us, ws with | [], [w0, w1] => [w1, w0] | _, _ => []
def wk_outside_0_tree_rows : List V → List V → List V := fun us ws => match us, ws with | [], [w0, w1] => [w1, w0] | _, _ => []
theorem k_outside_0_tree_rows {K : PySem.W.Frag} {f : Addr} {fd : FuncData} (F : Fun K "outside" "outside" s_outside f fd) : KBinds K fd ["rows", "tree"] ["tree", "rows"] vk_outside_0_tree_rows wk_outside_0_tree_rows := by
  obtain ⟨oc, od, kV, doc, pm, an, cdv, ct, osl, rfl, lk, hcd⟩ := F.ex
  refine ⟨fun s us ws _ hl => ?_, fun {vs us zs ws} r1 r2 => ?_⟩
  · match us, ws, hl with
    | [], [w0, w1], _ => exact .of_eq rfl
  · unfold vk_outside_0_tree_rows wk_outside_0_tree_rows
    rcases r1 with _ | ⟨a0, r1⟩ <;> (try rcases r1 with _ | ⟨a1, r1⟩) <;> (try rcases r1 with _ | ⟨a2, r1⟩) <;> rcases r2 with _ | ⟨b0, r2⟩ <;> (try rcases r2 with _ | ⟨b1, r2⟩) <;> (try rcases r2 with _ | ⟨b2, r2⟩) <;> (try rcases r2 with _ | ⟨b3, r2⟩) <;>
      first | exact .nil | exact .cons (by assumption) .nil | exact .cons (by assumption) (.cons (by assumption) .nil) | exact .cons (by assumption) (.cons (by assumption) (.cons (by assumption) .nil))
def vk_taken_0_tree_rows : List Value → List Value → List Value := fun us ws => match us, ws with | [], [w0, w1] => [w1, w0] | _, _ => []
def wk_taken_0_tree_rows : List V → List V → List V := fun us ws => match us, ws with | [], [w0, w1] => [w1, w0] | _, _ => []
theorem k_taken_0_tree_rows {K : PySem.W.Frag} {f : Addr} {fd : FuncData} (F : Fun K "taken" "taken" s_taken f fd) : KBinds K fd ["rows", "tree"] ["tree", "rows"] vk_taken_0_tree_rows wk_taken_0_tree_rows := by
  obtain ⟨oc, od, kV, doc, pm, an, cdv, ct, osl, rfl, lk, hcd⟩ := F.ex
  refine ⟨fun s us ws _ hl => ?_, fun {vs us zs ws} r1 r2 => ?_⟩
  · match us, ws, hl with
    | [], [w0, w1], _ => exact .of_eq rfl
  · unfold vk_taken_0_tree_rows wk_taken_0_tree_rows
    rcases r1 with _ | ⟨a0, r1⟩ <;> (try rcases r1 with _ | ⟨a1, r1⟩) <;> (try rcases r1 with _ | ⟨a2, r1⟩) <;> rcases r2 with _ | ⟨b0, r2⟩ <;> (try rcases r2 with _ | ⟨b1, r2⟩) <;> (try rcases r2 with _ | ⟨b2, r2⟩) <;> (try rcases r2 with _ | ⟨b3, r2⟩) <;>
      first | exact .nil | exact .cons (by assumption) .nil | exact .cons (by assumption) (.cons (by assumption) .nil) | exact .cons (by assumption) (.cons (by assumption) (.cons (by assumption) .nil))
/-! ### how expressions are read off -/
local macro_rules | `(tactic| walk_at "ev") => `(tactic| first
  | exact ea_nil
  | (apply ea_cons0 <;> walk_at "ev")
  | exact ev_int | exact ev_str | exact ev_bl | exact ev_non | exact ev_var rfl | exact ev_dnew
  | (apply ev_lstE <;> walk_at "ev")
  | (apply ev_tupE <;> walk_at "ev")
  | (apply ev_disp1E <;> walk_at "ev")
  | (apply ev_neg <;> walk_at "ev")
  | (apply ev_add0 <;> walk_at "ev")
  | (apply ev_sub0 <;> walk_at "ev")
  | (apply ev_cmp0 <;> walk_at "ev")
  | (apply ev_pow0 <;> walk_at "ev")
  | (apply ev_isi0 isi_str <;> walk_at "ev")
  | (apply ev_isi0 isi_tuple <;> walk_at "ev")
  | (apply ev_isi0 isi_bool <;> walk_at "ev")
  | (apply ev_isi0 isi_int <;> walk_at "ev")
  | (apply et_B <;> walk_at "ev")
  | (apply et_test <;> walk_at "ev")
  | (apply et_not <;> walk_at "ev")
  | exact Nat.le_of_ble_eq_true rfl
  | exact ⟨by decide, by decide, by decide⟩)
section
variable {P : Program} {w : World} {K : PySem.W.Frag} {mg : Str → Option Value} {base : Heap}
/-! ### the box -/
theorem ok_law_box (T : Tx K mg) : FnG P w K mg base CX0 1 T.a_law_box T.d_law_box ["_law_script", "_law_k"] (spBox K) := by
  refine Fun.okN T.F_law_box sc_law_box (fun vs H Q E ⟨a, ns, j, e, _⟩ => by rw [e]; rfl) fun cdv A fs s H vs Q E hG hr ⟨a, ns, j, e, hS, hl, hj, q⟩ => ?_
  subst e
  refine ⟨_, (pss_cons (ps_set (i := 2) sc_law_box.nd rfl (.inl rfl) (pe_ifExp (pt_cmpR op_lt (pv 1) (pe_callB (callK_len (K := K) rfl) (by rfl) T.m_len bt_len (pa_cons (pv 0) pa_nil)) (nomark _)) (pe_ix (ixK_list (K := K) rfl) (pv 0) (pv 1) (fun _ _ => rfl)) (pe_op op_add (pe_op op_mul pe_int (pv 1)) pe_int)))
        (pss_cons (ps_set (i := 3) sc_law_box.nd rfl (.inl rfl) (pe_op op_mul (pe_op op_mod (pe_callTy call_int1 (by rfl) T.m_int bt_int (pa_cons (pe_callB call_abs (by rfl) T.m_abs bt_abs (pa_cons (pv 2) pa_nil)) pa_nil)) (pe_op op_powW (pe_op op_pow pe_int pe_int) pe_int)) (pe_callTy call_int1 (by rfl) T.m_int bt_int (pa_cons (pe_cmpR op_ge (pe_callB call_abs (by rfl) T.m_abs bt_abs (pa_cons (pv 2) pa_nil)) (pe_op op_pow pe_int pe_int) (nomark _)) pa_nil))))
        (pss_one (ps_ret (pe_lst (pa_cons (pv 3) (pa_cons (pe_op op_mod (pe_callTy call_int1 (by rfl) T.m_int bt_int (pa_cons (pe_op op_add (pe_op op_add (pe_op op_mul (pe_op op_mod (pe_callTy call_int1 (by rfl) T.m_int bt_int (pa_cons (pv 2) pa_nil)) pe_int) pe_int) (pe_op op_mul (pe_op op_mul pe_int (pv 1)) (pv 1))) pe_int) pa_nil)) pe_int) (pa_cons pe_int pa_nil)))))))), ?_⟩
  have hj0 : (0 : Int) ≤ (j : Int) := by omega
  have hj1 : (j : Int) ≤ 10 := by omega
  generalize (j : Int) = jj at hj0 hj1 ⊢
  -- the cell
  refine st_seq (st_setH (PV := fun v H' => H' = H ∧ ∃ cell : Int, v = .int cell) (fun Q k => ?_) fun v H' ⟨e, cell, e2⟩ => ?_)
  · by_cases hlt : jj < (ns.length : Int)
    · refine aB (b := true) (val_var rfl) (vlenL (val_var rfl) hS) (by rw [List.length_map]; exact decide_eq_true hlt) _ ?_
      refine iteT ?_
      obtain ⟨v, hv, hat⟩ := atI_mem (xs := ns.map V.int) hj0 (by rw [List.length_map]; exact hlt)
      obtain ⟨n, _, rfl⟩ := List.mem_map.mp hv
      exact vix (val_var rfl) (val_var rfl) hS hat _ (k _ _ ⟨rfl, n, rfl⟩)
    · refine aB (b := false) (val_var rfl) (vlenL (val_var rfl) hS) (by rw [List.length_map]; exact decide_eq_false hlt) _ ?_
      refine iteF ?_
      exact vI0 (vI val_c (val_var rfl) (.inl ⟨by decide, by decide⟩)) val_c _ (k _ _ ⟨rfl, _, rfl⟩)
  subst e e2
  have habs : (0 : Int) ≤ (if cell < 0 then -cell else cell) := by split <;> omega
  generalize hac : (if cell < 0 then -cell else cell) = ac at habs
  have b1 := emod_lt' (a := ac) (m := ((10 : Int) ^ 60) ^ 5) (by decide)
  have b2 := emod_lt' (a := cell) (m := 2305843009213693951) (by decide)
  dsimp only
  refine st_seq (st_setH (PV := fun v H2 => H2 = H' ∧ ∃ own : Int, v = .int own ∧ 0 ≤ own ∧ own < 10 ^ 300) (fun Q k => ?_) fun v H2 ⟨e, own, e2, o0, o1⟩ => ?_)
  · have e1 := vabs (val_var (σ := [some (V.ref a), some (V.int jj), some (V.int cell), none]) (H := H') (i := 2) rfl)
    rw [hac] at e1
    have e2 : Val _ _ H' _ := vI (C := CMul) (g := fun i j => .int (i * j)) (vI (C := fun _ j => 0 < j) (g := fun i j => .int (i % j)) (vint e1) (vI (C := CPowW) (g := fun i j => .int (i ^ j.toNat)) (vI (C := CPow) (g := fun i j => .int (i ^ j.toNat)) (val_c (v := .int 10)) (val_c (v := .int 60)) (show CPow 10 60 from ⟨by decide, by decide, by decide⟩)) (val_c (v := .int 5)) (show CPowW (10 ^ 60) 5 from ⟨by decide, by decide +kernel⟩)) (show (0 : Int) < (10 ^ 60) ^ 5 by decide +kernel))
      (vintB (vI0 (g := fun i j => .bl (decide (j ≤ i))) e1 (vI (C := CPow) (g := fun i j => .int (i ^ j.toNat)) (val_c (v := .int 10)) (val_c (v := .int 18)) (show CPow 10 18 from ⟨by decide, by decide, by decide⟩)) )) (.inr (by split <;> decide))
    refine e2 Q (k _ _ ⟨rfl, _, rfl, ?_⟩)
    have e3 : ((10 : Int) ^ (60 : Int).toNat) ^ (5 : Int).toNat = (10 ^ 60) ^ 5 := by decide +kernel
    rw [e3]
    have e4 : ((10 : Int) ^ 60) ^ 5 = 10 ^ 300 := by decide +kernel
    rw [e4] at b1 ⊢
    split
    · rw [Int.mul_one]; exact b1
    · rw [Int.mul_zero]; exact ⟨by decide, by decide +kernel⟩
  subst e e2
  dsimp only
  refine v_ret3 (val_var rfl) (vI (C := fun _ j => 0 < j) (vint (vI0 (vI0 (vI (C := CMul) (vI (C := fun _ j => 0 < j) (vint (val_var rfl)) val_c (show (0 : Int) < 2305843009213693951 by decide)) val_c (.inr ⟨by decide, by decide⟩)) (vI (C := CMul) (vI (C := CMul) val_c (val_var rfl) (.inl ⟨by decide, by decide⟩)) (val_var rfl) (.inr ⟨by omega, by omega⟩))) val_c)) val_c (show (0 : Int) < 2305843009213693921 by decide)) val_c fun p hp => q p _ hp (Same.new hp) ⟨_, _, 0, upd_same, o0, o1, ?_⟩
  have b3 := emod_lt' (a := cell % 2305843009213693951 * 70321 + 6491 * jj * jj + 83) (m := 2305843009213693921) (by decide)
  exact ⟨b3.1, by omega, by decide, by decide⟩
theorem ok_law_take (T : Tx K mg) : FnG P w K mg base CX0 1 T.a_law_take T.d_law_take ["_law_box_here", "_law_many"] (spB 1 takePre takePost) := by
  refine Fun.okN T.F_law_take sc_law_take (fun vs H Q E ⟨b, ws, c, G, ds, e, _, _, _, _, hd, ⟨m, e2, _⟩, _⟩ => by subst e2; rw [e, List.length_cons, hd.length]; rfl) fun cdv A fs s H vs Q E hG hr ⟨b, ws, c, G, ds, e, sG, gb, bx, hc, hd, ⟨m, e2, h1, h2⟩, q⟩ => ?_
  subst e e2
  obtain ⟨f, sd, n, hb, f0, f1, s0, s1, n0, n1⟩ := bx
  cases hd with
  | cons hm hr0 =>
  cases hm
  cases hr0
  have hcm : c + 1 ≤ 1000000 := hc
  refine ⟨_, (pss_cons (ps_if (pt_cmpR op_gt (pe_ix (ixK_list (K := K) rfl) (pv 0) pe_int (fun _ _ => rfl)) pe_int (nomark _)) (pss_cons (ps_set (i := 2) sc_law_take.nd rfl (.inl rfl) (pe_op op_mod (pe_callTy call_int1 (by rfl) T.m_int bt_int (pa_cons (pe_ix (ixK_list (K := K) rfl) (pv 0) pe_int (fun _ _ => rfl)) pa_nil)) (pv 1)))
        (pss_cons (ps_asg (pe_op op_fdiv (pe_ix (ixK_list (K := K) rfl) (pv 0) pe_int (fun _ _ => rfl)) (pv 1)) (pg_sub (pv 0) pe_int set_list))
        (pss_one (ps_ret (pv 2))))) pss_nil)
        (pss_cons (ps_asg (pe_op op_add (pe_ix (ixK_list (K := K) rfl) (pv 0) pe_int (fun _ _ => rfl)) pe_int) (pg_sub (pv 0) pe_int set_list))
        (pss_cons (ps_set (i := 3) sc_law_take.nd rfl (.inl rfl) (pe_op op_mod (pe_callTy call_int1 (by rfl) T.m_int bt_int (pa_cons (pe_op op_mul (pe_op op_add (pe_op op_add (pe_ix (ixK_list (K := K) rfl) (pv 0) pe_int (fun _ _ => rfl)) (pe_op op_mul (pe_op op_mul pe_int (pe_ix (ixK_list (K := K) rfl) (pv 0) pe_int (fun _ _ => rfl))) (pe_ix (ixK_list (K := K) rfl) (pv 0) pe_int (fun _ _ => rfl)))) pe_int) pe_int) pa_nil)) pe_int))
        (pss_cons (ps_set (i := 3) sc_law_take.nd rfl (.inl rfl) (pe_op op_mod (pe_callTy call_int1 (by rfl) T.m_int bt_int (pa_cons (pe_op op_mul (pv 3) (pe_op op_add (pe_op op_mod (pe_callTy call_int1 (by rfl) T.m_int bt_int (pa_cons (pv 3) pa_nil)) pe_int) (pe_op op_mul pe_int (pe_ix (ixK_list (K := K) rfl) (pv 0) pe_int (fun _ _ => rfl))))) pa_nil)) pe_int))
        (pss_one (ps_ret (pe_op op_mod (pe_callTy call_int1 (by rfl) T.m_int bt_int (pa_cons (pe_op op_add (pe_op op_fdiv (pv 3) pe_int) (pe_op op_fdiv (pv 3) pe_int)) pa_nil)) (pv 1)))))))), ?_⟩
  have fin : ∀ (f' n' i : Int), 0 ≤ f' → f' < 10 ^ 300 → 0 ≤ n' → n' ≤ c + 1 → 0 ≤ i → i < m → Q (.int i) (upd H b (.lst [.int f', .int sd, .int n'])) := fun f' n' i a1 a2 a3 a4 a5 a6 => by
    refine q (.int i) _ G _ ⟨m, i, rfl, rfl, a5, a6⟩ ⟨Nw.refl _ _, fun a o na ha => by rw [upd_ne na]; exact ha, fun a ha => ?_⟩ (fun a o ha => ?_) ⟨f', sd, n', upd_same, a1, a2, s0, s1, a3, by omega⟩ (.int i)
    · by_cases z : a = b
      · subst z; rw [upd_same] at ha; cases ha
      · rw [upd_ne z] at ha; exact ha
    · rw [upd_ne (fun z => by subst z; rw [gb] at ha; cases ha)]; exact sG a o ha
  by_cases hf : 0 < f
  · refine st_seq (st_yes (aB (vix (val_var rfl) val_c (SqL.of hb) (atI_nat (j := 0) rfl)) val_c (decide_eq_true hf)) ?_)
    refine st_seq (st_set (vI (vint (vix (val_var rfl) val_c (SqL.of hb) (atI_nat (j := 0) rfl))) (val_var rfl) (show (0 : Int) < m by omega)) ?_)
    refine st_seq ?_
    refine vI (vix (val_var rfl) val_c (SqL.of hb) (atI_nat (j := 0) rfl)) (val_var rfl) ⟨by omega, by omega⟩ _ ?_
    refine ⟨_, rfl, b, _, _, 0, rfl, rfl, hb, rfl, ?_⟩
    refine val_var rfl _ ?_
    have d0 : 0 ≤ f / m := Int.ediv_nonneg f0 (by omega)
    have d1 : f / m ≤ f := Int.ediv_le_self _ f0
    have d2 := emod_lt' (a := f) (m := m) (by omega)
    exact fin _ _ _ d0 (by omega) n0 (by omega) d2.1 d2.2
  · refine st_seq (st_no (aB (vix (val_var rfl) val_c (SqL.of hb) (atI_nat (j := 0) rfl)) val_c (decide_eq_false hf)) ?_)
    refine st_next (st_seq ?_)
    refine vI0 (vix (val_var rfl) val_c (SqL.of hb) (atI_nat (j := 2) rfl)) val_c _ ?_
    refine ⟨_, rfl, b, _, _, 2, rfl, rfl, hb, rfl, ?_⟩
    have hb' : (upd H b (.lst ([V.int f, .int sd, .int n].set 2 (.int (n + 1))))) b = some (.lst [.int f, .int sd, .int (n + 1)]) := upd_same
    have fin1 : ∀ i : Int, 0 ≤ i → i < m → Q (.int i) (upd H b (.lst ([V.int f, .int sd, .int n].set 2 (.int (n + 1))))) := fun i a5 a6 => fin f (n + 1) i f0 f1 (by omega) (by omega) a5 a6
    generalize upd H b (.lst ([V.int f, .int sd, .int n].set 2 (.int (n + 1)))) = H1 at hb' fin1 ⊢
    have i1 : ∀ σ : L2.St, σ[0]? = some (some (V.ref b)) → Val (tOp (rIxL K) (tVar 0) (tC (.int 1))) σ H1 (.int sd) := fun σ h => vix (val_var h) val_c (SqL.of hb') (atI_nat (j := 1) rfl)
    have i2 : ∀ σ : L2.St, σ[0]? = some (some (V.ref b)) → Val (tOp (rIxL K) (tVar 0) (tC (.int 2))) σ H1 (.int (n + 1)) := fun σ h => vix (val_var h) val_c (SqL.of hb') (atI_nat (j := 2) rfl)
    have hn1 : n + 1 ≤ 1000000 := by omega
    dsimp only
    refine st_seq (st_set (vI (C := fun _ j => 0 < j) (vint (vI (C := CMul) (vI0 (vI0 (i1 _ rfl) (vI (C := CMul) (vI (C := CMul) val_c (i2 _ rfl) (.inl ⟨by decide, by decide⟩)) (i2 _ rfl) (.inr ⟨by omega, by omega⟩))) val_c) val_c (.inr ⟨by decide, by decide⟩))) val_c (show (0 : Int) < 2305843009213693921 by decide)) ?_)
    have m1 := emod_lt' (a := (sd + 65537 * (n + 1) * (n + 1) + 41) * 48271) (m := 2305843009213693921) (by decide)
    generalize (sd + 65537 * (n + 1) * (n + 1) + 41) * 48271 % 2305843009213693921 = made at m1 ⊢
    dsimp only
    refine st_seq (st_set (vI (C := fun _ j => 0 < j) (vint (vI (C := CMul) (val_var rfl) (vI0 (vI (C := fun _ j => 0 < j) (vint (val_var rfl)) val_c (show (0 : Int) < 1000003 by decide)) (vI (C := CMul) val_c (i2 _ rfl) (.inl ⟨by decide, by decide⟩))) (.inl ⟨by omega, by omega⟩))) val_c (show (0 : Int) < 2305843009213693907 by decide)) ?_)
    have m2 := emod_lt' (a := made * (made % 1000003 + 99991 * (n + 1))) (m := 2305843009213693907) (by decide)
    generalize made * (made % 1000003 + 99991 * (n + 1)) % 2305843009213693907 = made2 at m2 ⊢
    dsimp only
    refine v_ret (vI (C := fun _ j => 0 < j) (vint (vI0 (vI (C := CDiv) (val_var rfl) val_c ⟨by decide, by decide⟩) (vI (C := CDiv) (val_var rfl) val_c ⟨by decide, by decide⟩))) (val_var rfl) (show (0 : Int) < m by omega)) ?_
    have m3 := emod_lt' (a := made2 / 107 + made2 / 1000033) (m := m) (by omega)
    exact fin1 _ m3.1 m3.2
theorem ok_law_of (T : Tx K mg) : FnG P w K mg base CX0 2 T.a_law_of T.d_law_of ["_law_box_here", "_law_some"] (spB 1 ofPre ofPost) := by
  have G_law_take := ok_law_take (P := P) (w := w) (base := base) T
  refine ok_draw T.F_law_of sc_law_of (fun ds ⟨x, e, _⟩ => by rw [e]; rfl) fun cdv A fs s H E hG hr => ⟨_, (pss_one (ps_ret (pe_ix (ixK_seq (K := K) rfl) (pv 1) (pc_call G_law_take hG (hr.mono (by decide)) (by rfl) T.g_law_take T.F_law_take.kp T.b_law_take .nil pass0 (pa_cons (pv 0) (pa_cons (pe_callB (callK_len (K := K) rfl) (by rfl) T.m_len bt_len (pa_cons (pv 1) pa_nil)) pa_nil))) (fun _ _ => rfl)))), fun b c ds hc ⟨x, e, hx⟩ => ?_⟩
  subst e
  rcases hx with ⟨xs, rfl, h1, h2⟩ | ⟨z, rfl, h1, h2⟩
  · refine go_ret (n := 0 + (0 + 1)) (ev_opP (ev_var rfl) (ev_callB rfl (ea_cons (ev_lenL (ev_var rfl)) ea_nil) (fun ys e => ⟨_, e.symm, by omega, by omega⟩)) ?_) (by omega) fun d p => ⟨Nat.le_refl _, p⟩
    rintro x y rfl ⟨ys, rfl, m, i, e1, rfl, hi0, hi1⟩
    cases e1
    obtain ⟨d, hd, hat⟩ := atI_mem (xs := xs) hi0 hi1
    exact ⟨d, rd_ixsL hat, _, rfl, .inl ⟨xs, rfl, hd⟩⟩
  · refine go_ret (n := 0 + (0 + 1)) (ev_opP (ev_var rfl) (ev_callB rfl (ea_cons (ev_lenS (ev_var rfl) (by omega)) ea_nil) (fun ys e => ⟨_, e.symm, by omega, by omega⟩)) ?_) (by omega) fun d p => ⟨Nat.le_refl _, p⟩
    rintro x y rfl ⟨ys, rfl, m, i, e1, rfl, hi0, hi1⟩
    cases e1
    have hl : z.length = z.cps.toList.length := by simp [Str.length]
    obtain ⟨ch, hd, hat⟩ := atI_mem (xs := z.cps.toList) hi0 (by omega)
    exact ⟨_, rd_ixsS (by omega) hat, _, rfl, .inr ⟨z, rfl, List.mem_map.mpr ⟨ch, hd, rfl⟩⟩⟩
end
/-! ### rows and places, by plain functions -/
abbrev Row := Str × Option Str
def encO : Option Str → PyData
  | none => .none
  | some z => .str z
def encR (r : Row) : PyData := .tuple [.str r.1, encO r.2]
def encRs (rs : List Row) : PyData := .tuple (rs.map encR)
def okS (z : Str) : Prop := PyData.strOk z = true ∧ z.length ≤ 100
def okO : Option Str → Prop
  | none => True
  | some z => okS z
def okR (r : Row) : Prop := okS r.1 ∧ okO r.2
def okRs (rs : List Row) : Prop := rs.length ≤ 100 ∧ ∀ r ∈ rs, okR r
def okP (z : Str) : Prop := PyData.strOk z = true ∧ z.length ≤ 400
def lbelow (path folder : Str) : Bool := (folder == "") || Txt.startswith path (folder ++ "/")
def joinedS (folder rest : Str) : Str := if (folder == "") = true then rest else folder ++ "/" ++ rest
def restS (path folder : Str) : Str := if (folder == "") = true then path else cutS path (some ((folder.length : Int) + 1)) none
def fits (path : Str) (r : Row) : Bool := (r.1 == path) || lbelow path r.1
def rowStep (path : Str) (found : Option Row) (r : Row) : Option Row := if fits path r = true then (match found with | none => some r | some f => if decide ((f.1.length : Int) < (r.1.length : Int)) = true then some r else found) else found
def rowOf (rs : List Row) (path : Str) : Option Row := rs.foldl (rowStep path) none
def placeS (rs : List Row) (path : Str) : Option Str := match rowOf rs path with
  | none => none
  | some (_, none) => none
  | some (f, some t) => if (f == path) = true then (if (t == "") = true then none else some t) else some (joinedS t (restS path f))
def encOR : Option Row → PyData
  | none => .none
  | some r => encR r
theorem slash_ok : okS (Str.ofString "/") := ⟨by decide +kernel, by decide +kernel⟩
theorem slash_len : (Str.ofString "/").length = 1 := by decide +kernel
theorem restS_len (p f : Str) : (restS p f).length ≤ p.length := by
  unfold restS
  split
  · exact Nat.le_refl _
  · exact cut_len
section
variable {P : Program} {w : World} {K : PySem.W.Frag} {mg : Str → Option Value} {base : Heap}
theorem ok_lies_below (T : Tx K mg) : FnG P w K mg base CX0 1 T.a_lies_below T.d_lies_below ["path", "folder"] (spP (fun ds => ∃ p f : Str, ds = [.str p, .str f] ∧ p.length ≤ 1000 ∧ f.length ≤ 1000) (fun ds e => ∃ p f : Str, ds = [.str p, .str f] ∧ e = .bool (lbelow p f))) := by
  refine ok_pure T.F_lies_below sc_lies_below (fun ds ⟨p, f, e, _⟩ => by rw [e]; rfl) fun cdv A fs s H E hG hr => ⟨_, (pss_one (ps_ret (pe_or (pe_cmpR op_eq (pv 1) pe_str (nomark _)) (pe_one (pe_m1 PySem.F.slot_str_startswith PySem.F.type_str_startswith mt_startswith (pv 0) (pe_op op_add_str (pv 1) (pe_glob (v := .str "/") (by rfl) T.c_SLASH ⟨_, rfl⟩))))))), fun ds ⟨p, f, e, h1, h2⟩ => ?_⟩
  subst e
  show Go _ _ [.dat (.str p), .dat (.str f)] _ _
  refine go_retE (ev_orV0 (ev_op0 (ev_var rfl) ev_str rd_eqS) (fun _ => ev_starts (ev_var rfl) (ev_addS (ev_var rfl) ev_str (by rw [slash_len]; omega)))) (by decide) ⟨p, f, rfl, rfl⟩
theorem ok_joined (T : Tx K mg) : FnG P w K mg base CX0 1 T.a_joined T.d_joined ["folder", "rest"] (spP (fun ds => ∃ p f : Str, ds = [.str p, .str f] ∧ p.length ≤ 1000 ∧ f.length ≤ 1000) (fun ds e => ∃ p f : Str, ds = [.str p, .str f] ∧ e = .str (joinedS p f))) := by
  refine ok_pure T.F_joined sc_joined (fun ds ⟨p, f, e, _⟩ => by rw [e]; rfl) fun cdv A fs s H E hG hr => ⟨_, (pss_one (ps_ret (pe_ifExp (pt_cmpR op_eq (pv 0) pe_str (nomark _)) (pv 1) (pe_op op_add_str (pe_op op_add_str (pv 0) pe_str) (pv 1))))), fun ds ⟨p, f, e, h1, h2⟩ => ?_⟩
  subst e
  show Go _ _ [.dat (.str p), .dat (.str f)] _ _
  refine go_retE (ev_if0 (et_test (ev_op0 (ev_var rfl) ev_str rd_eqS)) (fun _ => ev_var rfl) (fun _ => ev_addS (ev_addS (ev_var rfl) ev_str (by rw [slash_len]; omega)) (ev_var rfl) (by rw [len_app, slash_len]; omega))) (by decide) ⟨p, f, rfl, ?_⟩
  unfold joinedS
  split <;> rfl
theorem ok_rest_of (T : Tx K mg) : FnG P w K mg base CX0 1 T.a_rest_of T.d_rest_of ["path", "folder"] (spP (fun ds => ∃ p f : Str, ds = [.str p, .str f] ∧ p.length ≤ 1000 ∧ f.length ≤ 1000) (fun ds e => ∃ p f : Str, ds = [.str p, .str f] ∧ e = .str (restS p f))) := by
  refine ok_pure T.F_rest_of sc_rest_of (fun ds ⟨p, f, e, _⟩ => by rw [e]; rfl) fun cdv A fs s H E hG hr => ⟨_, (pss_one (ps_ret (pe_ifExp (pt_cmpR op_eq (pv 1) pe_str (nomark _)) (pv 0) (pe_slice sl_str (pv 0) (po_some (pe_op op_add (pe_callB (callK_len (K := K) rfl) (by rfl) T.m_len bt_len (pa_cons (pv 1) pa_nil)) pe_int)) po_none)))), fun ds ⟨p, f, e, h1, h2⟩ => ?_⟩
  subst e
  show Go _ _ [.dat (.str p), .dat (.str f)] _ _
  refine go_retE (ev_if0 (et_test (ev_op0 (ev_var rfl) ev_str rd_eqS)) (fun _ => ev_var rfl) (fun _ => ev_slS (ev_var rfl) (eo_some (ev_add0 (ev_lenS (ev_var rfl) (by omega)) ev_int)) eo_none (by omega))) (by decide) ⟨p, f, rfl, ?_⟩
  unfold restS
  split <;> rfl
theorem ev_lb {μ : Mu} {Γ : List Sl} {ta tb : TE} {E : XK} {p f : Str} (ha : Ev μ ta Γ 0 (Eq (.str p))) (hb : Ev μ tb Γ 0 (Eq (.str f))) (h1 : p.length ≤ 1000) (h2 : f.length ≤ 1000) :
    Ev μ (tCall (spP (fun ds => ∃ p f : Str, ds = [.str p, .str f] ∧ p.length ≤ 1000 ∧ f.length ≤ 1000) (fun ds e => ∃ p f : Str, ds = [.str p, .str f] ∧ e = .bool (lbelow p f))) [] E (tCons ta (tCons tb tNil))) Γ 0 (Eq (.bool (lbelow p f))) :=
  (ev_callP (ea_cons0 ha (ea_cons0 hb ea_nil)) ⟨p, f, rfl, h1, h2⟩).imp fun d ⟨p', f', e, e2⟩ => by cases e; exact e2.symm
theorem ev_ss {μ : Mu} {Γ : List Sl} {ta tb : TE} {E : XK} {p f : Str} {g : Str → Str → Str} (ha : Ev μ ta Γ 0 (Eq (.str p))) (hb : Ev μ tb Γ 0 (Eq (.str f))) (h1 : p.length ≤ 1000) (h2 : f.length ≤ 1000) :
    Ev μ (tCall (spP (fun ds => ∃ p f : Str, ds = [.str p, .str f] ∧ p.length ≤ 1000 ∧ f.length ≤ 1000) (fun ds e => ∃ p f : Str, ds = [.str p, .str f] ∧ e = .str (g p f))) [] E (tCons ta (tCons tb tNil))) Γ 0 (Eq (.str (g p f))) :=
  (ev_callP (ea_cons0 ha (ea_cons0 hb ea_nil)) ⟨p, f, rfl, h1, h2⟩).imp fun d ⟨p', f', e, e2⟩ => by cases e; exact e2.symm
abbrev preRP : List PyData → Prop := fun ds => ∃ (rs : List Row) (p : Str), ds = [encRs rs, .str p] ∧ okRs rs ∧ okP p
abbrev postRP (f : List Row → Str → PyData) : List PyData → PyData → Prop := fun ds e => ∃ (rs : List Row) (p : Str), ds = [encRs rs, .str p] ∧ e = f rs p
theorem encO_inj : ∀ {a b : Option Str}, encO a = encO b → a = b
  | none, none, _ => rfl
  | none, some _, h => by cases h
  | some _, none, h => by cases h
  | some _, some _, h => by cases h; rfl
theorem encR_inj {r s : Row} (h : encR r = encR s) : r = s := by
  obtain ⟨a, b⟩ := r
  obtain ⟨c, d⟩ := s
  unfold encR at h
  simp only [PyData.tuple.injEq, List.cons.injEq, PyData.str.injEq, and_true] at h
  rw [h.1, encO_inj h.2]
theorem map_inj' {α : Type} {f : α → PyData} (hf : ∀ a b, f a = f b → a = b) : ∀ {xs ys : List α}, xs.map f = ys.map f → xs = ys
  | [], [], _ => rfl
  | [], _ :: _, h => by simp at h
  | _ :: _, [], h => by simp at h
  | x :: xs, y :: ys, h => by
    simp only [List.map_cons, List.cons.injEq] at h
    rw [hf _ _ h.1, map_inj' hf h.2]
theorem encRs_inj {r s : List Row} (h : encRs r = encRs s) : r = s := by
  unfold encRs at h
  exact map_inj' (fun _ _ e => encR_inj e) (PyData.tuple.inj h)
theorem ev_rp {μ : Mu} {Γ : List Sl} {ta tb : TE} {E : XK} {rs : List Row} {p : Str} {f : List Row → Str → PyData} (ha : Ev μ ta Γ 0 (Eq (encRs rs))) (hb : Ev μ tb Γ 0 (Eq (.str p))) (h1 : okRs rs) (h2 : okP p) :
    Ev μ (tCall (spP preRP (postRP f)) [] E (tCons ta (tCons tb tNil))) Γ 0 (Eq (f rs p)) :=
  (ev_callP (ea_cons0 ha (ea_cons0 hb ea_nil)) ⟨rs, p, rfl, h1, h2⟩).imp fun d ⟨rs', p', e, e2⟩ => by
    simp only [List.cons.injEq, PyData.str.injEq, and_true] at e
    rw [e2, encRs_inj e.1, e.2]
theorem shP {z : Str} (h : okP z) : SeqAt.shaped (.str z) = true := (shp_str h.1).shaped
theorem shS {z : Str} (h : okS z) : SeqAt.shaped (.str z) = true := (shp_str h.1).shaped
theorem rowOf_mem {rs : List Row} {p : Str} : ∀ {r : Row}, rowOf rs p = some r → r ∈ rs := by
  have gen : ∀ (l : List Row) (f : Option Row) (r : Row), l.foldl (rowStep p) f = some r → (∀ x, f = some x → x ∈ rs) → (∀ x ∈ l, x ∈ rs) → r ∈ rs := by
    intro l
    induction l with
    | nil => intro f r h hf _; exact hf r h
    | cons x l ih =>
      intro f r h hf hl
      refine ih (rowStep p f x) r h (fun y hy => ?_) fun y hy => hl y (List.mem_cons_of_mem _ hy)
      unfold rowStep at hy
      split at hy
      · split at hy
        · cases hy; exact hl _ List.mem_cons_self
        · split at hy
          · cases hy; exact hl _ List.mem_cons_self
          · exact hf y hy
      · exact hf y hy
  intro r h
  exact gen rs none r h (fun x e => by cases e) fun x hx => hx
theorem foldl_take {α β : Type} {f : β → α → β} {b : β} {xs : List α} {i : Nat} {x : α} (h : xs[i]? = some x) : (xs.take (i + 1)).foldl f b = f ((xs.take i).foldl f b) x := by
  rw [List.take_add_one, h, List.foldl_append]; rfl
theorem ok_row_of (T : Tx K mg) : FnG P w K mg base CX0 2 T.a_row_of T.d_row_of ["rows", "path"] (spP preRP (postRP fun rs p => encOR (rowOf rs p))) := by
  have G_lies_below := ok_lies_below (P := P) (w := w) (base := base) T
  refine ok_pure T.F_row_of sc_row_of (fun ds ⟨rs, p, e, _⟩ => by rw [e]; rfl) fun cdv A fs s H E hG hr => ⟨_, (pss_cons (ps_set (i := 2) sc_row_of.nd rfl (.inl rfl) pe_non)
        (pss_cons (ps_for PassesOwn.never rfl (piK_tup (K := K) rfl (pv 0)) (pg_name (i := 3) sc_row_of.nd rfl (.inl rfl)) (pss_one (ps_if (PW.pt (pw_and (PW.pt (pw_or (pt_cmpR (opK_eqD (K := K) rfl hr.units) (pe_ix (ixK_seq (K := K) rfl) (pv 3) pe_int (fun _ _ => rfl)) (pv 1) (nomark _)) (pw_or1 (pt_val (pc_call G_lies_below hG (hr.mono (by decide)) (by rfl) T.g_lies_below T.F_lies_below.kp T.b_lies_below .nil pass0 (pa_cons (pv 1) (pa_cons (pe_ix (ixK_seq (K := K) rfl) (pv 3) pe_int (fun _ _ => rfl)) pa_nil))))))) (pw_and1 (PW.pt (pw_or (pt_cmp (pc_isN (pv 2))) (pw_or1 (pt_cmpR op_gt (pe_callB (callK_len (K := K) rfl) (by rfl) T.m_len bt_len (pa_cons (pe_ix (ixK_seq (K := K) rfl) (pv 3) pe_int (fun _ _ => rfl)) pa_nil)) (pe_callB (callK_len (K := K) rfl) (by rfl) T.m_len bt_len (pa_cons (pe_ix (ixK_seq (K := K) rfl) (pv 2) pe_int (fun _ _ => rfl)) pa_nil)) (nomark _)))))))) (pss_one (ps_set (i := 2) sc_row_of.nd rfl (.inl rfl) (pv 3))) pss_nil)))
        (pss_one (ps_ret (pv 2))))), fun ds ⟨rs, p, e, hrs, hp⟩ => ?_⟩
  subst e
  show Go _ _ [.dat (encRs rs), .dat (.str p), .un, .un] _ _
  refine gs_setE ev_non (by decide) ?_
  refine go_seq (go_forP (n := 0) (enc := encR) rs (fun pre Γ' c' => ∃ s3, Γ' = [.dat (encRs rs), .dat (.str p), .dat (encOR (rowOf pre p)), s3] ∧ c' = 0) (ew_tupE (ev_var rfl)) (by decide) ⟨_, rfl, rfl⟩ ?_ ?_)
  · rintro pre ⟨f, t⟩ post Γ' c' hsp ⟨s3, rfl, rfl⟩
    have hin : (f, t) ∈ rs := by rw [hsp]; simp
    have hf1 : okS f := (hrs.2 _ hin).1
    refine ⟨_, _, eg_name, ?_⟩
    have step : rowOf (pre ++ [(f, t)]) p = rowStep p (rowOf pre p) (f, t) := by unfold rowOf; rw [List.foldl_append]; rfl
    have hmem : ∀ y, rowOf pre p = some y → okR y := fun y hy => hrs.2 y (by rw [hsp]; exact List.mem_append_left _ (rowOf_mem hy))
    dsimp only
    rw [step]
    generalize rowOf pre p = F at hmem ⊢
    show Go _ _ [.dat (encRs rs), .dat (.str p), .dat (encOR F), .dat (encR (f, t))] _ _
    have e0 : ∀ {Γ : List Sl}, Γ[3]? = some (.dat (encR (f, t))) → Ev pureMu (tOp (rIx K) (tVar 3) (tC (.int 0))) Γ 0 (Eq (.str f)) := fun h => ev_op0 (ev_var h) ev_int (rd_ixsT (atI_nat (j := 0) rfl))
    cases F with
    | none =>
      refine go_if (et_and0 (et_or0 (et_test (ev_eqD0 (e0 rfl) (ev_var rfl) (shS hf1) (shP hp))) (fun _ => et_B (ev_lb (p := p) (f := f) (ev_var rfl) (e0 rfl) (by have := hp.2; omega) (by have := hf1.2; omega)))) (fun _ => et_or0 (b := false) (et_B (ev_isN (ev_var rfl))) (fun h => by cases h))) (by decide) (fun h => ?_) fun h => ?_
      · refine go_set (n := 0) (ev_var rfl) (by decide) fun d e => ?_
        subst e
        rw [eqv_str] at h
        have hfit : fits p (f, t) = true := by simpa [isN, encOR, fits] using h
        have e1 : rowStep p none (f, t) = some (f, t) := by simp only [rowStep, hfit, if_true]
        rw [e1]
        exact ⟨_, rfl, rfl⟩
      · rw [eqv_str] at h
        have hfit : fits p (f, t) = false := by
          cases q : fits p (f, t) with
          | false => rfl
          | true =>
            have q' : (f == p || lbelow p f) = true := q
            rw [q'] at h; cases h
        have e1 : rowStep p none (f, t) = none := by simp [rowStep, hfit]
        refine go_next ?_
        dsimp only
        rw [e1]
        exact ⟨_, rfl, rfl⟩
    | some g =>
      obtain ⟨gf, gt⟩ := g
      have hg : okS gf := (hmem _ rfl).1
      have eB : Ev pureMu (tOp (rIx K) (tVar 2) (tC (.int 0))) [.dat (encRs rs), .dat (.str p), .dat (encOR (some (gf, gt))), .dat (encR (f, t))] 0 (Eq (.str gf)) := ev_op0 (ev_var rfl) ev_int (rd_ixsT (atI_nat (j := 0) rfl))
      refine go_if (et_and0 (et_or0 (et_test (ev_eqD0 (e0 rfl) (ev_var rfl) (shS hf1) (shP hp))) (fun _ => et_B (ev_lb (p := p) (f := f) (ev_var rfl) (e0 rfl) (by have := hp.2; omega) (by have := hf1.2; omega)))) (fun _ => et_or0 (et_B (ev_isN (ev_var rfl))) (fun _ => et_test (ev_cmp0 (ev_lenS (e0 rfl) (by have := hf1.2; omega)) (ev_lenS eB (Nat.le_trans hg.2 (by decide))))))) (by decide) (fun h => ?_) fun h => ?_
      · refine go_set (n := 0) (ev_var rfl) (by decide) fun d e => ?_
        subst e
        rw [eqv_str] at h
        have h' : (fits p (f, t) && decide ((gf.length : Int) < (f.length : Int))) = true := h
        rw [Bool.and_eq_true] at h'
        have e1 : rowStep p (some (gf, gt)) (f, t) = some (f, t) := by simp only [rowStep, h'.1, h'.2, if_true]
        rw [e1]
        exact ⟨_, rfl, rfl⟩
      · rw [eqv_str] at h
        have h' : (fits p (f, t) && decide ((gf.length : Int) < (f.length : Int))) = false := h
        have e1 : rowStep p (some (gf, gt)) (f, t) = some (gf, gt) := by
          unfold rowStep
          cases q : fits p (f, t) with
          | false => rfl
          | true =>
            rw [q, Bool.true_and] at h'
            have h2 := of_decide_eq_false h'
            simp
            intro h3
            omega
        refine go_next ?_
        dsimp only
        rw [e1]
        exact ⟨_, rfl, rfl⟩
  · rintro Γ' c' ⟨s3, rfl, rfl⟩
    exact go_retE (ev_var rfl) (by decide) ⟨rs, p, rfl, rfl⟩
theorem ok_place (T : Tx K mg) : FnG P w K mg base CX0 3 T.a_place T.d_place ["rows", "path"] (spP preRP (postRP fun rs p => encO (placeS rs p))) := by
  have G_row_of := ok_row_of (P := P) (w := w) (base := base) T
  have G_joined := ok_joined (P := P) (w := w) (base := base) T
  have G_rest_of := ok_rest_of (P := P) (w := w) (base := base) T
  refine ok_pure T.F_place sc_place (fun ds ⟨rs, p, e, _⟩ => by rw [e]; rfl) fun cdv A fs s H E hG hr => ⟨_, (pss_cons (ps_set (i := 2) sc_place.nd rfl (.inl rfl) (pc_call G_row_of hG (hr.mono (by decide)) (by rfl) T.g_row_of T.F_row_of.kp T.b_row_of .nil pass0 (pa_cons (pv 0) (pa_cons (pv 1) pa_nil))))
        (pss_cons (ps_if (PW.pt (pw_or (pt_cmp (pc_isN (pv 2))) (pw_or1 (pt_cmp (pc_isN (pe_ix (ixK_seq (K := K) rfl) (pv 2) pe_int (fun _ _ => rfl))))))) (pss_one (ps_ret pe_non)) pss_nil)
        (pss_cons (ps_asg (pv 2) (pg_tup (by rfl) (pgs_cons (pg_name (i := 3) sc_place.nd rfl (.inl rfl)) (pgs_cons (pg_name (i := 4) sc_place.nd rfl (.inl rfl)) pgs_nil))))
        (pss_cons (ps_if (pt_cmpR (opK_eqD (K := K) rfl hr.units) (pv 3) (pv 1) (nomark _)) (pss_one (ps_ret (pe_ifExp (pt_cmpR (opK_eqD (K := K) rfl hr.units) (pv 4) pe_str (nomark _)) pe_non (pv 4)))) pss_nil)
        (pss_one (ps_ret (pc_call G_joined hG (hr.mono (by decide)) (by rfl) T.g_joined T.F_joined.kp T.b_joined .nil pass0 (pa_cons (pv 4) (pa_cons (pc_call G_rest_of hG (hr.mono (by decide)) (by rfl) T.g_rest_of T.F_rest_of.kp T.b_rest_of .nil pass0 (pa_cons (pv 1) (pa_cons (pv 3) pa_nil))) pa_nil))))))))), fun ds ⟨rs, p, e, hrs, hp⟩ => ?_⟩
  subst e
  show Go _ _ [.dat (encRs rs), .dat (.str p), .un, .un, .un] _ _
  refine gs_setE (ev_rp (ev_var rfl) (ev_var rfl) hrs hp) (by decide) ?_
  show Go _ _ [.dat (encRs rs), .dat (.str p), .dat (encOR (rowOf rs p)), .un, .un] _ _
  cases hq : rowOf rs p with
  | none =>
    refine gs_when (et_or0 (b := false) (et_B (ev_isN (ev_var rfl))) (fun h => by cases h)) (by decide) (fun h => ?_) fun h => by cases h
    refine gs_ret (go_retE ev_non (by decide) ⟨rs, p, rfl, ?_⟩)
    show _ = encO (placeS rs p); unfold placeS; rw [hq]; rfl
  | some r =>
    obtain ⟨f, t⟩ := r
    have hok := hrs.2 _ (rowOf_mem hq)
    have hf1 : okS f := hok.1
    refine gs_when (et_or0 (et_B (ev_isN (ev_var rfl))) (fun _ => et_B (ev_isN (ev_op0 (z := encO t) (ev_var rfl) ev_int (rd_ixsT (atI_nat (j := 1) rfl)))))) (by decide) (fun h => ?_) fun h => ?_
    · cases t with
      | some t => cases h
      | none =>
        refine gs_ret (go_retE ev_non (by decide) ⟨rs, p, rfl, ?_⟩)
        show _ = encO (placeS rs p); unfold placeS; rw [hq]; rfl
    · cases t with
      | none => cases h
      | some t =>
        have ht : okS t := hok.2
        refine gs_asgE (ev_var rfl) (by decide) (eg_tup (egs_cons eg_name (egs_cons eg_name egs_nil)) rfl) ?_
        show Go _ _ [.dat (encRs rs), .dat (.str p), .dat (encOR (some (f, some t))), .dat (.str f), .dat (.str t)] _ _
        refine gs_when (et_test (ev_eqD0 (ev_var rfl) (ev_var rfl) (shS hf1) (shP hp))) (by decide) (fun h => ?_) fun h => ?_
        · rw [eqv_str] at h
          refine gs_ret (go_retE (ev_if0 (et_test (ev_eqD0 (ev_var rfl) ev_str (shS ht) (by decide +kernel))) (fun _ => ev_non) (fun _ => ev_var rfl)) (by decide) ⟨rs, p, rfl, ?_⟩)
          show _ = encO (placeS rs p)
          unfold placeS
          rw [hq, eqv_str]
          dsimp only
          rw [if_pos h]
          split <;> rfl
        · rw [eqv_str] at h
          refine go_retE (ev_ss (g := joinedS) (ev_var rfl) (ev_ss (g := restS) (ev_var rfl) (ev_var rfl) (Nat.le_trans hp.2 (by decide)) (Nat.le_trans hf1.2 (by decide))) (Nat.le_trans ht.2 (by decide)) (Nat.le_trans (restS_len p f) (Nat.le_trans hp.2 (by decide)))) (by decide) ⟨rs, p, rfl, ?_⟩
          show _ = encO (placeS rs p)
          unfold placeS
          rw [hq]
          dsimp only
          rw [h]
          rfl
/-! ### sizes -/
theorem joinedS_ok {a b : Str} {m n : Nat} (ha : PyData.strOk a = true ∧ a.length ≤ m) (hb : PyData.strOk b = true ∧ b.length ≤ n) : PyData.strOk (joinedS a b) = true ∧ (joinedS a b).length ≤ m + 1 + n := by
  unfold joinedS
  split
  · exact ⟨hb.1, by have := hb.2; omega⟩
  · refine ⟨strOk_app (strOk_app ha.1 slash_ok.1) hb.1, ?_⟩
    rw [len_app, len_app, slash_len]
    have := ha.2
    have := hb.2
    omega
theorem restS_ok {p f : Str} {n : Nat} (h : PyData.strOk p = true ∧ p.length ≤ n) : PyData.strOk (restS p f) = true ∧ (restS p f).length ≤ n := by
  refine ⟨?_, Nat.le_trans (restS_len p f) h.2⟩
  unfold restS
  split
  · exact h.1
  · exact strOk_cut h.1 _ _
theorem placeS_ok {rs : List Row} {p z : Str} (hrs : okRs rs) (hp : okP p) (h : placeS rs p = some z) : PyData.strOk z = true ∧ z.length ≤ 501 := by
  unfold placeS at h
  cases hq : rowOf rs p with
  | none => rw [hq] at h; cases h
  | some r =>
    obtain ⟨f, t⟩ := r
    have hok := hrs.2 _ (rowOf_mem hq)
    rw [hq] at h
    cases t with
    | none => cases h
    | some t =>
      have ht : okS t := hok.2
      dsimp only at h
      split at h
      · split at h
        · cases h
        · cases h; exact ⟨ht.1, Nat.le_trans ht.2 (by decide)⟩
      · cases h; exact joinedS_ok ht (restS_ok hp)
theorem okP_of {z : Str} (h : okS z) : okP z := ⟨h.1, Nat.le_trans h.2 (by decide)⟩
theorem shO {rs : List Row} {p : Str} (hrs : okRs rs) (hp : okP p) : SeqAt.shaped (encO (placeS rs p)) = true := by
  cases h : placeS rs p with
  | none => exact shp_none.shaped
  | some z => exact (shp_str (placeS_ok hrs hp h).1).shaped
theorem eqv_O {o : Option Str} {p : Str} : PyData.eqv (encO o) (.str p) = (o == some p) := by
  cases o with
  | none => rw [show encO none = .none from rfl, eqv_ns]; rfl
  | some z => rw [show encO (some z) = .str z from rfl, eqv_str]; rfl
end
/-! ### the law's own look at rows -/
def Uniq (rs : List Row) : Prop := ∀ r ∈ rs, ∀ s ∈ rs, r.1 = s.1 → r = s
theorem fits_pre {p : Str} {r : Row} (h : fits p r = true) : TL.tl r.1 <+: TL.tl p := by
  unfold fits lbelow at h
  simp only [Bool.or_eq_true, beq_iff_eq] at h
  rcases h with h | h | h
  · rw [h]; exact List.prefix_rfl
  · rw [h, tl_empty]; exact List.nil_prefix
  · rw [starts_iff, TL.tl_append, tl_slash] at h
    exact (List.prefix_append _ _).trans h
theorem fits_len {p : Str} {r s : Row} (hr : fits p r = true) (hs : fits p s = true) (e : r.1.length = s.1.length) : r.1 = s.1 := by
  have h1 := List.prefix_iff_eq_take.mp (fits_pre hr)
  have h2 := List.prefix_iff_eq_take.mp (fits_pre hs)
  rw [TL.len_tl, TL.len_tl] at e
  apply TL.ext_tl
  rw [h1, h2, e]
structure Best (rs : List Row) (p : Str) (r : Row) : Prop where
  mem : r ∈ rs
  fit : fits p r = true
  top : ∀ s ∈ rs, fits p s = true → s.1.length ≤ r.1.length
def RowInv (rs : List Row) (p : Str) : Option Row → Prop
  | none => ∀ r ∈ rs, fits p r = false
  | some r => Best rs p r
theorem rowInv_step {rs : List Row} {p : Str} {o : Option Row} {x : Row} (h : RowInv rs p o) : RowInv (rs ++ [x]) p (rowStep p o x) := by
  unfold rowStep
  have cs : ∀ s, s ∈ rs ++ [x] → s ∈ rs ∨ s = x := fun s hs => by simpa using hs
  cases hf : fits p x with
  | false =>
    simp only [Bool.false_eq_true, if_false]
    cases o with
    | none =>
      intro r hr
      rcases cs r hr with hr | hr
      · exact h r hr
      · rw [hr]; exact hf
    | some g =>
      refine ⟨List.mem_append_left _ h.mem, h.fit, fun s hs fs => ?_⟩
      rcases cs s hs with hs | hs
      · exact h.top s hs fs
      · rw [hs, hf] at fs; cases fs
  | true =>
    simp only [if_true]
    cases o with
    | none =>
      refine ⟨by simp, hf, fun s hs fs => ?_⟩
      rcases cs s hs with hs | hs
      · rw [h s hs] at fs; cases fs
      · rw [hs]; exact Nat.le_refl _
    | some g =>
      dsimp only
      split
      · rename_i hlt
        have hlt' := of_decide_eq_true hlt
        refine ⟨by simp, hf, fun s hs fs => ?_⟩
        rcases cs s hs with hs | hs
        · have := h.top s hs fs; omega
        · rw [hs]; exact Nat.le_refl _
      · rename_i hlt
        refine ⟨List.mem_append_left _ h.mem, h.fit, fun s hs fs => ?_⟩
        rcases cs s hs with hs | hs
        · exact h.top s hs fs
        · rw [hs]
          have : ¬ ((g.1.length : Int) < (x.1.length : Int)) := fun z => hlt (decide_eq_true z)
          omega
theorem rowOf_inv (rs : List Row) (p : Str) : RowInv rs p (rowOf rs p) := by
  have gen : ∀ (l done : List Row) (o : Option Row), RowInv done p o → RowInv (done ++ l) p (l.foldl (rowStep p) o) := by
    intro l
    induction l with
    | nil => intro done o h; rw [List.append_nil]; exact h
    | cons x l ih =>
      intro done o h
      have := ih (done ++ [x]) (rowStep p o x) (rowInv_step h)
      rw [List.append_assoc] at this
      exact this
  exact gen rs [] none (fun r hr => by cases hr)
theorem rowOf_best {rs : List Row} {p : Str} {r : Row} (hu : Uniq rs) (h : Best rs p r) : rowOf rs p = some r := by
  have hi := rowOf_inv rs p
  cases e : rowOf rs p with
  | none => rw [e] at hi; have := hi r h.mem; rw [h.fit] at this; cases this
  | some s =>
    rw [e] at hi
    have h1 := h.top s hi.mem hi.fit
    have h2 := hi.top r h.mem h.fit
    rw [hu s hi.mem r h.mem (fits_len hi.fit h.fit (by omega))]
/-! ### .. by sorting -/
def lfits (p : Str) (r : Row) : Bool := (r.1 == "") || (p == r.1)
def lfits2 (p : Str) (r : Row) : Bool := Txt.startswith p (r.1 ++ "/")
def trip (r : Row) : PyData := .tuple [.int (r.1.length : Int), .str r.1, encO r.2]
def keyT : PyData → Kk
  | .tuple (.int n :: .str f :: _) => (n, TL.tl f)
  | .tuple (.str f :: _) => (0, TL.tl f)
  | _ => (0, [])
theorem lfits_iff {p : Str} {r : Row} : fits p r = true ↔ lfits p r = true ∨ lfits2 p r = true := by
  unfold fits lbelow lfits lfits2
  simp only [Bool.or_eq_true, beq_iff_eq]
  constructor
  · rintro (h | h | h)
    · exact .inl (.inr h.symm)
    · exact .inl (.inl h)
    · exact .inr h
  · rintro ((h | h) | h)
    · exact .inr (.inl h)
    · exact .inl h.symm
    · exact .inr (.inr h)
def lsome (rs : List Row) (p : Str) : List Row := rs.filter (lfits p) ++ rs.filter (lfits2 p)
theorem mem_lsome {rs : List Row} {p : Str} {r : Row} : r ∈ lsome rs p ↔ r ∈ rs ∧ fits p r = true := by
  unfold lsome
  rw [List.mem_append, List.mem_filter, List.mem_filter, lfits_iff]
  constructor
  · rintro (⟨a, b⟩ | ⟨a, b⟩)
    · exact ⟨a, .inl b⟩
    · exact ⟨a, .inr b⟩
  · rintro ⟨a, b | b⟩
    · exact .inl ⟨a, b⟩
    · exact .inr ⟨a, b⟩
theorem ltK_self (k : Kk) : ltK k k = false := by
  rw [ltK_no]
  rintro (h | ⟨_, h⟩)
  · omega
  · exact (List.lt_irrefl _) h
theorem last_max {key : PyData → Kk} : ∀ {es : List PyData}, es.Pairwise (fun x y => ltK (key y) (key x) = false) → es ≠ [] → ∃ init m, es = init ++ [m] ∧ ∀ e ∈ es, ltK (key m) (key e) = false := by
  intro es hp hne
  obtain ⟨init, m, rfl⟩ : ∃ init m, es = init ++ [m] := ⟨es.dropLast, es.getLast hne, (List.dropLast_concat_getLast hne).symm⟩
  refine ⟨init, m, rfl, fun e he => ?_⟩
  rcases List.mem_append.mp he with h | h
  · exact (List.pairwise_append.mp hp).2.2 e h m (by simp)
  · rw [List.mem_singleton.mp h]; exact ltK_self _
theorem trip_sh {r : Row} (h : okR r) : SeqAt.shaped (trip r) = true := by
  refine Shp.shaped (n := 1) (shp_tup fun d hd => ?_)
  simp only [List.mem_cons, List.not_mem_nil, or_false] at hd
  rcases hd with rfl | rfl | rfl
  · exact shp_int
  · exact shp_str h.1.1
  · cases e : r.2 with
    | none => exact shp_none
    | some z => have := h.2; rw [e] at this; exact shp_str this.1
theorem lt_trip {r s : Row} (h : r.1 = s.1 → r = s) : LtA [.int (r.1.length : Int), .str r.1, encO r.2] [.int (s.1.length : Int), .str s.1, encO s.2] (ltK (keyT (trip r)) (keyT (trip s))) := by
  show LtA _ _ (ltK ((r.1.length : Int), TL.tl r.1) ((s.1.length : Int), TL.tl s.1))
  by_cases e : r.1 = s.1
  · have := h e
    subst this
    rw [ltK_self]
    refine .eq (by simp [PyData.eqv]) (.eq (by rw [eqv_str]; exact beq_self_eq_true _) (.eq ?_ .nil))
    cases r.2 with
    | none => exact eqv_none
    | some z => show PyData.eqv (.str z) (.str z) = true; rw [eqv_str]; exact beq_self_eq_true _
  · by_cases e2 : (r.1.length : Int) = (s.1.length : Int)
    · rw [e2]
      have e3 : ltK ((s.1.length : Int), TL.tl r.1) ((s.1.length : Int), TL.tl s.1) = decide (r.1.cps.toList < s.1.cps.toList) := by
        unfold ltK
        simp
      rw [e3]
      exact .eq (by simp [PyData.eqv]) (.str e)
    · have e3 : ltK ((r.1.length : Int), TL.tl r.1) ((s.1.length : Int), TL.tl s.1) = decide ((r.1.length : Int) < (s.1.length : Int)) := by
        unfold ltK
        simp only
        rw [decide_eq_false e2]
        simp
      rw [e3]
      exact .int e2
theorem lt_pair {r s : Row} (h : r.1 = s.1 → r = s) : LtA [.str r.1, encO r.2] [.str s.1, encO s.2] (ltK (keyT (encR r)) (keyT (encR s))) := by
  show LtA _ _ (ltK (0, TL.tl r.1) (0, TL.tl s.1))
  by_cases e : r.1 = s.1
  · have := h e
    subst this
    rw [ltK_self]
    refine .eq (by rw [eqv_str]; exact beq_self_eq_true _) (.eq ?_ .nil)
    cases r.2 with
    | none => exact eqv_none
    | some z => show PyData.eqv (.str z) (.str z) = true; rw [eqv_str]; exact beq_self_eq_true _
  · have e3 : ltK ((0 : Int), TL.tl r.1) ((0 : Int), TL.tl s.1) = decide (r.1.cps.toList < s.1.cps.toList) := by
      unfold ltK
      simp
    rw [e3]
    exact .str e
theorem encR_sh {r : Row} (h : okR r) : Shp 1 (encR r) := by
  refine shp_tup fun d hd => ?_
  simp only [List.mem_cons, List.not_mem_nil, or_false] at hd
  rcases hd with rfl | rfl
  · exact shp_str h.1.1
  · cases e : r.2 with
    | none => exact shp_none
    | some z => have := h.2; rw [e] at this; exact shp_str this.1
abbrev preLP : List PyData → Prop := fun ds => ∃ (rs : List Row) (p : Str), ds = [encRs rs, .str p] ∧ okRs rs ∧ okP p ∧ Uniq rs
theorem ev_lp {μ : Mu} {Γ : List Sl} {ta tb : TE} {E : XK} {rs : List Row} {p : Str} {f : List Row → Str → PyData} (ha : Ev μ ta Γ 0 (Eq (encRs rs))) (hb : Ev μ tb Γ 0 (Eq (.str p))) (h1 : okRs rs) (h2 : okP p) (h3 : Uniq rs) :
    Ev μ (tCall (spP preLP (postRP f)) [] E (tCons ta (tCons tb tNil))) Γ 0 (Eq (f rs p)) :=
  (ev_callP (ea_cons0 ha (ea_cons0 hb ea_nil)) ⟨rs, p, rfl, h1, h2, h3⟩).imp fun d ⟨rs', p', e, e2⟩ => by
    simp only [List.cons.injEq, PyData.str.injEq, and_true] at e
    rw [e2, encRs_inj e.1, e.2]
section
variable {P : Program} {w : World} {K : PySem.W.Frag} {mg : Str → Option Value} {base : Heap}
theorem ev_r0 {μ : Mu} {Γ : List Sl} {te : TE} {r : Row} (h : Ev μ te Γ 0 (Eq (encR r))) : Ev μ (tOp (rIx K) te (tC (.int 0))) Γ 0 (Eq (.str r.1)) := ev_op0 h ev_int (rd_ixsT (atI_nat (j := 0) rfl))
theorem ev_r1 {μ : Mu} {Γ : List Sl} {te : TE} {r : Row} (h : Ev μ te Γ 0 (Eq (encR r))) : Ev μ (tOp (rIx K) te (tC (.int 1))) Γ 0 (Eq (encO r.2)) := ev_op0 h ev_int (rd_ixsT (atI_nat (j := 1) rfl))
theorem ok_law_row (T : Tx K mg) : FnG P w K mg base CX0 1 T.a_law_row T.d_law_row ["_law_given", "_law_path"] (spP preLP (postRP fun rs p => encOR (rowOf rs p))) := by
  refine ok_pure T.F_law_row sc_law_row (fun ds ⟨rs, p, e, _⟩ => by rw [e]; rfl) fun cdv A fs s H E hG hr => ⟨_, (pss_cons (ps_setLc (i := 2) (own := [("_law_row_here", 3)]) (g := (gName 3)) (by rfl) sc_law_row.nd rfl rfl (sw_true rfl rfl rfl (by decide +kernel)) (piK_tup (K := K) rfl (pv 0)) (blkOk_by (own := [("_law_row_here", 3)]) (N := N_law_row) (sc := defScope s_law_row) (by decide +kernel)) (fun _ _ _ _ _ => (pg_name (i := 3) sc_law_row.nd rfl (.inl rfl))) (fun _ _ _ _ _ => (pts_one (PW.pt (pw_or (pt_cmpR op_eq (pe_ix (ixK_seq (K := K) rfl) (pv 3) pe_int (fun _ _ => rfl)) pe_str (nomark _)) (pw_or1 (pt_cmpR op_eq (pv 1) (pe_ix (ixK_seq (K := K) rfl) (pv 3) pe_int (fun _ _ => rfl)) (nomark _))))))) (fun _ _ _ _ _ => (pv 3)))
        (pss_cons (ps_set (i := 2) sc_law_row.nd rfl (.inl rfl) (pe_op op_cat (pv 2) (pe_lc (own := [("_law_row_here", 3)]) (g := (gName 3)) (by rfl) sc_law_row.nd (piK_tup (K := K) rfl (pv 0)) (blkOk_by (own := [("_law_row_here", 3)]) (N := N_law_row) (sc := defScope s_law_row) (by decide +kernel)) (fun _ _ _ _ _ => (pg_name (i := 3) sc_law_row.nd rfl (.inl rfl))) (fun _ _ _ _ _ => (pts_one (pt_val (pe_m1 PySem.F.slot_str_startswith PySem.F.type_str_startswith mt_startswith (pv 1) (pe_op op_add_str (pe_ix (ixK_seq (K := K) rfl) (pv 3) pe_int (fun _ _ => rfl)) pe_str))))) (fun _ _ _ _ _ => (pv 3)))))
        (pss_cons (ps_set (i := 4) sc_law_row.nd rfl (.inl rfl) (pe_callB (crK_sortedT (K := K) rfl (u70 hr)) (by rfl) T.m_sorted bt_sorted (pa_cons (pe_lc (own := [("_law_row_here", 3)]) (g := (gName 3)) (by rfl) sc_law_row.nd (piK_list (K := K) rfl (pv 2)) (blkOk_by (own := [("_law_row_here", 3)]) (N := N_law_row) (sc := defScope s_law_row) (by decide +kernel)) (fun _ _ _ _ _ => (pg_name (i := 3) sc_law_row.nd rfl (.inl rfl))) (fun _ _ _ _ _ => pts_nil) (fun _ _ _ _ _ => (pe_tup (pa_cons (pe_callB (callK_len (K := K) rfl) (by rfl) T.m_len bt_len (pa_cons (pe_ix (ixK_seq (K := K) rfl) (pv 3) pe_int (fun _ _ => rfl)) pa_nil)) (pa_cons (pe_ix (ixK_seq (K := K) rfl) (pv 3) pe_int (fun _ _ => rfl)) (pa_cons (pe_ix (ixK_seq (K := K) rfl) (pv 3) pe_int (fun _ _ => rfl)) pa_nil)))))) pa_nil)))
        (pss_one (ps_ret (pe_ifExp (pt_cmpR (opK_neD (K := K) rfl hr.units) (pv 4) (pe_lst pa_nil) (nomark _)) (pe_slice (slK_tupA (K := K) rfl) (pe_ix (ixK_list (K := K) rfl) (pv 4) (pe_un un_neg pe_int) (fun _ _ => rfl)) (po_some pe_int) po_none) pe_non)))))), fun ds ⟨rs, p, e, hrs, hp, hu⟩ => ?_⟩
  subst e
  show Go _ _ [.dat (encRs rs), .dat (.str p), .un, .un, .un] _ _
  refine gs_setE (ev_lcT (enc := encR) (is := [3]) (ew_tupE (ev_var rfl)).i (Nat.le_trans hrs.1 (by decide)) (by simp) (lfits p) encR fun r hr => ⟨_, eg_name, et_or0 (et_test (ev_op0 (ev_r0 (ev_var rfl)) ev_str rd_eqS)) (fun _ => et_test (ev_op0 (ev_var rfl) (ev_r0 (ev_var rfl)) rd_eqS)), fun _ => ev_var rfl⟩) (by decide) ?_
  refine gs_setE (ev_op0 (ev_var rfl) (ev_lcT (enc := encR) (is := [3]) (ew_tupE (ev_var rfl)).i (Nat.le_trans hrs.1 (by decide)) (by simp) (lfits2 p) encR fun r hr => ⟨_, eg_name, et_B (ev_starts (ev_var rfl) (ev_addS (ev_r0 (ev_var rfl)) ev_str (by rw [slash_len]; have := (hrs.2 r hr).1.2; omega))), fun _ => ev_var rfl⟩) (rd_cat ?_)) (by decide) ?_
  · have h1 := List.length_filter_le (lfits p) rs
    have h2 := List.length_filter_le (lfits2 p) rs
    have := hrs.1
    simp only [List.length_map]
    omega
  rw [← List.map_append]
  show Go _ _ [.dat (encRs rs), .dat (.str p), .dat (.list ((lsome rs p).map encR)), .un, .un] _ _
  have hls : ∀ r ∈ lsome rs p, r ∈ rs ∧ fits p r = true := fun r hr => mem_lsome.mp hr
  have hll : (lsome rs p).length ≤ 200 := by
    have h1 := List.length_filter_le (lfits p) rs
    have h2 := List.length_filter_le (lfits2 p) rs
    have := hrs.1
    unfold lsome
    rw [List.length_append]
    omega
  refine gs_set (n := 0) (P := fun d => ∃ es, d = .list es ∧ es.Perm ((lsome rs p).map trip) ∧ es.Pairwise (fun x y => ltK (keyT y) (keyT x) = false)) (ev_sortTE keyT (el_datE (ev_lcTM (enc := encR) (is := [3]) (ew_listE (ev_var rfl)).i (Nat.le_trans hll (by decide)) (by simp) trip fun r hr => ⟨_, eg_name, ev_tupE (ea_cons0 (ev_lenS (ev_r0 (ev_var rfl)) (by have := (hrs.2 r (hls r hr).1).1.2; omega)) (ea_cons0 (ev_r0 (ev_var rfl)) (ea_cons0 (ev_r1 (ev_var rfl)) ea_nil))) (Nat.le_of_ble_eq_true rfl)⟩)) ⟨fun d hd => ?_, .inl fun d hd => ?_, fun xs ys hx hy => ?_⟩) (by decide) fun d hd => ?_
  · obtain ⟨r, hr, rfl⟩ := List.mem_map.mp hd
    exact trip_sh (hrs.2 r (hls r hr).1)
  · obtain ⟨r, hr, rfl⟩ := List.mem_map.mp hd
    exact ⟨_, _, rfl⟩
  · obtain ⟨r, hr, e⟩ := List.mem_map.mp hx
    obtain ⟨s, hs, e2⟩ := List.mem_map.mp hy
    cases e; cases e2
    exact ⟨rfl, lt_trip (hu r (hls r hr).1 s (hls s hs).1)⟩
  · obtain ⟨es, rfl, pm, pw⟩ := hd
    show Go _ _ [.dat (encRs rs), .dat (.str p), .dat (.list ((lsome rs p).map encR)), .un, .dat (.list es)] _ _
    have hes : ∀ d ∈ es, ∃ r ∈ lsome rs p, d = trip r := fun d hd => let ⟨r, a, b⟩ := List.mem_map.mp (pm.mem_iff.mp hd); ⟨r, a, b.symm⟩
    have hsh : SeqAt.shaped (.list es) = true := Shp.shaped (n := 2) (shp_lst fun d hd => by
      obtain ⟨r, hr, rfl⟩ := hes d hd
      have := trip_sh (hrs.2 r (hls r hr).1)
      refine ⟨SeqAt.canLay_of_shaped this, ?_⟩
      unfold trip
      simp only [PyData.depth]
      have h0 := depthAll_le (xs := [.int (r.1.length : Int), .str r.1, encO r.2]) (n := 0) fun d hd => by
        simp only [List.mem_cons, List.not_mem_nil, or_false] at hd
        rcases hd with rfl | rfl | rfl
        · simp [PyData.depth]
        · simp [PyData.depth]
        · cases r.2 <;> simp [encO, PyData.depth]
      omega)
    by_cases hnil : es = []
    · subst hnil
      refine go_retE (ev_if0 (b := false) (x := .none) (EvT.is (et_test (ev_neD0 (ev_var rfl) (ev_lstE ea_nil) hsh (by decide +kernel))) (by decide +kernel)) (fun h => by cases h) (fun _ => ev_non)) (by decide) ⟨rs, p, rfl, ?_⟩
      have hno : rowOf rs p = none := by
        cases hq : rowOf rs p with
        | none => rfl
        | some r =>
          have hb := rowOf_inv rs p
          rw [hq] at hb
          have : trip r ∈ ([] : List PyData) := pm.mem_iff.mpr (List.mem_map_of_mem (mem_lsome.mpr ⟨hb.mem, hb.fit⟩))
          cases this
      dsimp only
      rw [hno]; rfl
    · obtain ⟨init, m, rfl, hmax⟩ := last_max pw hnil
      obtain ⟨r, hr, rfl⟩ := hes m (by simp)
      have hb : Best rs p r := ⟨(hls r hr).1, (hls r hr).2, fun s hs fs => by
        have := hmax (trip s) (pm.mem_iff.mpr (List.mem_map_of_mem (mem_lsome.mpr ⟨hs, fs⟩)))
        rw [ltK_no] at this
        have h2 : ¬ ((r.1.length : Int) < (s.1.length : Int)) := fun z => this (.inl z)
        omega⟩
      have hne : (!PyData.eqv (.list (init ++ [trip r])) (.list [])) = true := by
        cases init <;> simp [PyData.eqv, PyData.eqvAll]
      refine go_retE (ev_if0 (b := true) (y := .none) (EvT.is (et_test (ev_neD0 (ev_var rfl) (ev_lstE ea_nil) hsh (by decide +kernel))) hne) (fun _ => ev_slT (ev_op0 (ev_var rfl) (ev_neg ev_int) (rd_ixL (atI_last _ _))) (eo_some ev_int) eo_none) (fun h => by cases h)) (by decide) ⟨rs, p, rfl, ?_⟩
      dsimp only
      rw [rowOf_best hu hb]
      rfl
theorem cutS_zero {p : Str} {k : Int} (h : k = 0) : cutS p (some k) none = p := by
  rw [h]
  apply TL.ext_tl
  have := tl_cut (z := p) (k := 0)
  rw [List.drop_zero] at this
  exact this
theorem ok_law_place (T : Tx K mg) : FnG P w K mg base CX0 2 T.a_law_place T.d_law_place ["_law_given", "_law_path"] (spP preLP (postRP fun rs p => encO (placeS rs p))) := by
  have G_law_row := ok_law_row (P := P) (w := w) (base := base) T
  refine ok_pure T.F_law_place sc_law_place (fun ds ⟨rs, p, e, _⟩ => by rw [e]; rfl) fun cdv A fs s H E hG hr => ⟨_, (pss_cons (ps_set (i := 2) sc_law_place.nd rfl (.inl rfl) (pc_call G_law_row hG (hr.mono (by decide)) (by rfl) T.g_law_row T.F_law_row.kp T.b_law_row .nil pass0 (pa_cons (pv 0) (pa_cons (pv 1) pa_nil))))
        (pss_cons (ps_if (PW.pt (pw_or (pt_cmp (pc_isN (pv 2))) (pw_or1 (pt_cmp (pc_isN (pe_ix (ixK_tup (K := K) rfl) (pv 2) pe_int (fun _ _ => rfl))))))) (pss_one (ps_ret pe_non)) pss_nil)
        (pss_cons (ps_if (pt_cmpR (opK_eqD (K := K) rfl hr.units) (pv 1) (pe_ix (ixK_tup (K := K) rfl) (pv 2) pe_int (fun _ _ => rfl)) (nomark _)) (pss_one (ps_ret (pe_ifExp (pt_cmpR (opK_neD (K := K) rfl hr.units) (pe_ix (ixK_tup (K := K) rfl) (pv 2) pe_int (fun _ _ => rfl)) pe_str (nomark _)) (pe_ix (ixK_tup (K := K) rfl) (pv 2) pe_int (fun _ _ => rfl)) pe_non))) pss_nil)
        (pss_cons (ps_set (i := 3) sc_law_place.nd rfl (.inl rfl) (pe_slice sl_str (pv 1) (po_some (pe_op op_add (pe_callB (callK_len (K := K) rfl) (by rfl) T.m_len bt_len (pa_cons (pe_ix (ixK_tup (K := K) rfl) (pv 2) pe_int (fun _ _ => rfl)) pa_nil)) (pe_callTy call_int1 (by rfl) T.m_int bt_int (pa_cons (pe_cmpR (opK_neD (K := K) rfl hr.units) (pe_ix (ixK_tup (K := K) rfl) (pv 2) pe_int (fun _ _ => rfl)) pe_str (nomark _)) pa_nil)))) po_none))
        (pss_one (ps_ret (pe_ifExp (pt_cmpR (opK_eqD (K := K) rfl hr.units) (pe_ix (ixK_tup (K := K) rfl) (pv 2) pe_int (fun _ _ => rfl)) pe_str (nomark _)) (pv 3) (pe_op op_add_str (pe_op op_add_str (pe_ix (ixK_tup (K := K) rfl) (pv 2) pe_int (fun _ _ => rfl)) pe_str) (pv 3))))))))), fun ds ⟨rs, p, e, hrs, hp, hu⟩ => ?_⟩
  subst e
  show Go _ _ [.dat (encRs rs), .dat (.str p), .un, .un] _ _
  refine gs_setE (ev_lp (ev_var rfl) (ev_var rfl) hrs hp hu) (by decide) ?_
  show Go _ _ [.dat (encRs rs), .dat (.str p), .dat (encOR (rowOf rs p)), .un] _ _
  cases hq : rowOf rs p with
  | none =>
    refine gs_when (et_or0 (b := false) (et_B (ev_isN (ev_var rfl))) (fun h => by cases h)) (by decide) (fun h => ?_) fun h => by cases h
    refine gs_ret (go_retE ev_non (by decide) ⟨rs, p, rfl, ?_⟩)
    show _ = encO (placeS rs p); unfold placeS; rw [hq]; rfl
  | some r =>
    obtain ⟨f, t⟩ := r
    have hok := hrs.2 _ (rowOf_mem hq)
    have hf1 : okS f := hok.1
    have ef : ∀ {Γ : List Sl} (h : Γ[2]? = some (.dat (encR (f, t)))), Ev pureMu (tOp (rIxT K) (tVar 2) (tC (.int 0))) Γ 0 (Eq (.str f)) := fun h => ev_op0 (ev_var h) ev_int (rd_ixT (atI_nat (j := 0) rfl))
    have et : ∀ {Γ : List Sl} (h : Γ[2]? = some (.dat (encR (f, t)))), Ev pureMu (tOp (rIxT K) (tVar 2) (tC (.int 1))) Γ 0 (Eq (encO t)) := fun h => ev_op0 (ev_var h) ev_int (rd_ixT (atI_nat (j := 1) rfl))
    refine gs_when (et_or0 (et_B (ev_isN (ev_var rfl))) (fun _ => et_B (ev_isN (et rfl)))) (by decide) (fun h => ?_) fun h => ?_
    · cases t with
      | some t => cases h
      | none =>
        refine gs_ret (go_retE ev_non (by decide) ⟨rs, p, rfl, ?_⟩)
        show _ = encO (placeS rs p); unfold placeS; rw [hq]; rfl
    · cases t with
      | none => cases h
      | some t =>
        have ht : okS t := hok.2
        refine gs_when (et_test (ev_eqD0 (ev_var rfl) (ef rfl) (shP hp) (shS hf1))) (by decide) (fun h => ?_) fun h => ?_
        · rw [eqv_str] at h
          refine gs_ret (go_retE (ev_if0 (et_test (ev_neD0 (et rfl) ev_str (shS ht) (by decide +kernel))) (fun _ => et rfl) (fun _ => ev_non)) (by decide) ⟨rs, p, rfl, ?_⟩)
          show _ = encO (placeS rs p)
          unfold placeS
          rw [hq, show encO (some t) = .str t from rfl, eqv_str]
          dsimp only
          have h' : (f == p) = true := by rw [beq_iff_eq] at h ⊢; exact h.symm
          rw [if_pos h']
          cases (t == "") <;> rfl
        · rw [eqv_str] at h
          have h' : (f == p) = false := by
            cases q : (f == p) with
            | false => rfl
            | true => rw [beq_iff_eq] at q; rw [q, beq_self_eq_true] at h; cases h
          refine gs_setE (ev_slS (ev_var rfl) (eo_some (ev_add0 (ev_lenS (ef rfl) (Nat.le_trans hf1.2 (by decide))) (ev_intB (ev_neD0 (ef rfl) ev_str (shS hf1) (by decide +kernel))))) eo_none (Nat.le_trans hp.2 (by decide))) (by decide) ?_
          have hrest : cutS p (some ((f.length : Int) + if (!PyData.eqv (.str f) (.str (Str.ofString ""))) = true then 1 else 0)) none = restS p f := by
            unfold restS
            rw [eqv_str]
            cases q : (f == Str.ofString "") with
            | true =>
              rw [if_pos rfl]
              apply cutS_zero
              rw [beq_iff_eq] at q
              subst q
              decide +kernel
            | false => rfl
          rw [hrest]
          show Go _ _ [.dat (encRs rs), .dat (.str p), .dat (encOR (some (f, some t))), .dat (.str (restS p f))] _ _
          have hrl := restS_ok (f := f) hp
          refine go_retE (ev_if0 (et_test (ev_eqD0 (et rfl) ev_str (shS ht) (by decide +kernel))) (fun _ => ev_var rfl) (fun _ => ev_addS (ev_addS (et rfl) ev_str (by rw [slash_len]; have := ht.2; omega)) (ev_var rfl) (by rw [len_app, slash_len]; have := ht.2; have := hrl.2; omega))) (by decide) ⟨rs, p, rfl, ?_⟩
          show _ = encO (placeS rs p)
          unfold placeS
          rw [hq, show encO (some t) = .str t from rfl, eqv_str]
          dsimp only
          rw [h']
          show _ = encO (some (joinedS t (restS p f)))
          unfold joinedS
          cases (t == "") <;> rfl
/-! ### rows are drawn -/
def meetsB (a b : Str) : Bool := [a, b].any (· == "") || ((a == b) || (Txt.startswith a (b ++ "/") || Txt.startswith b (a ++ "/")))
theorem ok_law_meets (T : Tx K mg) : FnG P w K mg base CX0 1 T.a_law_meets T.d_law_meets ["_law_one", "_law_other"] (spP (fun ds => ∃ p f : Str, ds = [.str p, .str f] ∧ p.length ≤ 1000 ∧ f.length ≤ 1000) (fun ds e => ∃ p f : Str, ds = [.str p, .str f] ∧ e = .bool (meetsB p f))) := by
  refine ok_pure T.F_law_meets sc_law_meets (fun ds ⟨p, f, e, _⟩ => by rw [e]; rfl) fun cdv A fs s H E hG hr => ⟨_, (pss_one (ps_ret (pe_or (pe_cmpR (opK_in (K := K) rfl) pe_str (pe_tup (pa_cons (pv 0) (pa_cons (pv 1) pa_nil))) (by rfl)) (pe_or (pe_cmpR op_eq (pv 0) (pv 1) (nomark _)) (pe_or (pe_m1 PySem.F.slot_str_startswith PySem.F.type_str_startswith mt_startswith (pv 0) (pe_op op_add_str (pv 1) pe_str)) (pe_one (pe_m1 PySem.F.slot_str_startswith PySem.F.type_str_startswith mt_startswith (pv 1) (pe_op op_add_str (pv 0) pe_str)))))))), fun ds ⟨p, f, e, h1, h2⟩ => ?_⟩
  subst e
  show Go _ _ [.dat (.str p), .dat (.str f)] _ _
  refine go_retE (ev_orV0 (ev_op0 ev_str (ev_tupE (ea_cons0 (ev_var rfl) (ea_cons0 (ev_var rfl) ea_nil)) (Nat.le_of_ble_eq_true rfl)) (rd_inT (zs := [p, f]) (neg := false))) (fun _ => ev_orV0 (ev_op0 (ev_var rfl) (ev_var rfl) rd_eqS) (fun _ => ev_orV0 (ev_starts (ev_var rfl) (ev_addS (ev_var rfl) ev_str (by rw [slash_len]; omega))) (fun _ => ev_starts (ev_var rfl) (ev_addS (ev_var rfl) ev_str (by rw [slash_len]; omega)))))) (by decide) ⟨p, f, rfl, rfl⟩
theorem ev_meets {μ : Mu} {Γ : List Sl} {ta tb : TE} {E : XK} {p f : Str} (ha : Ev μ ta Γ 0 (Eq (.str p))) (hb : Ev μ tb Γ 0 (Eq (.str f))) (h1 : p.length ≤ 1000) (h2 : f.length ≤ 1000) :
    Ev μ (tCall (spP (fun ds => ∃ p f : Str, ds = [.str p, .str f] ∧ p.length ≤ 1000 ∧ f.length ≤ 1000) (fun ds e => ∃ p f : Str, ds = [.str p, .str f] ∧ e = .bool (meetsB p f))) [] E (tCons ta (tCons tb tNil))) Γ 0 (Eq (.bool (meetsB p f))) :=
  (ev_callP (ea_cons0 ha (ea_cons0 hb ea_nil)) ⟨p, f, rfl, h1, h2⟩).imp fun d ⟨p', f', e, e2⟩ => by cases e; exact e2.symm
def FOLD : List Str := ["", "a", "a/b", "b", "a/b/c", "c/d", "lib"]
def TARG : List Str := ["p", "q", "p/r", "q1", "s", "a", ""]
def Apart (rs : List Row) : Prop := ∀ r ∈ rs, ∀ s ∈ rs, r.1 ≠ s.1 → ∀ t u, r.2 = some t → s.2 = some u → meetsB t u = false
structure Drawn (rs : List Row) : Prop where
  len : rs.length ≤ 5
  fold : ∀ r ∈ rs, r.1 ∈ FOLD
  targ : ∀ r ∈ rs, ∀ t, r.2 = some t → t ∈ TARG
  uniq : Uniq rs
  apart : Apart rs
theorem fold_ok : ∀ f ∈ FOLD, okS f := by
  have h : ∀ f ∈ FOLD, PyData.strOk f = true ∧ f.length ≤ 100 := by decide +kernel
  exact h
theorem targ_ok : ∀ f ∈ TARG, okS f := by
  have h : ∀ f ∈ TARG, PyData.strOk f = true ∧ f.length ≤ 100 := by decide +kernel
  exact h
theorem Drawn.ok {rs : List Row} (h : Drawn rs) : okRs rs := by
  refine ⟨Nat.le_trans h.len (by decide), fun r hr => ⟨fold_ok _ (h.fold r hr), ?_⟩⟩
  cases e : r.2 with
  | none => trivial
  | some t => exact targ_ok _ (h.targ r hr t e)
theorem meetsB_comm (a b : Str) : meetsB a b = meetsB b a := by
  unfold meetsB
  have h1 : (a == b) = (b == a) := by rw [Bool.eq_iff_iff, beq_iff_eq, beq_iff_eq]; exact eq_comm
  rw [h1, Bool.or_comm (Txt.startswith a (b ++ "/"))]
  simp only [List.any_cons, List.any_nil, Bool.or_false]
  rw [Bool.or_comm (a == "")]
theorem Drawn.perm {rs qs : List Row} (h : Drawn rs) (p : qs.Perm rs) : Drawn qs :=
  ⟨by rw [p.length_eq]; exact h.len, fun r hr => h.fold r (p.mem_iff.mp hr), fun r hr => h.targ r (p.mem_iff.mp hr), fun r hr s hs => h.uniq r (p.mem_iff.mp hr) s (p.mem_iff.mp hs), fun r hr s hs => h.apart r (p.mem_iff.mp hr) s (p.mem_iff.mp hs)⟩
theorem tgts_eq : ∀ rs : List Row, ((rs.filter (fun r => !isN (encO r.2))).map fun r => encO r.2) = (rs.filterMap (·.2)).map PyData.str
  | [] => rfl
  | (f, none) :: rs => by
    have := tgts_eq rs
    simpa [encO, isN] using this
  | (f, some t) :: rs => by
    have := tgts_eq rs
    simpa [encO, isN] using this
theorem Drawn.add {rs : List Row} {f : Str} {o : Option Str} (h : Drawn rs) (hl : rs.length ≤ 4) (hf : f ∈ FOLD) (ho : ∀ t, o = some t → t ∈ TARG) (hnew : ∀ r ∈ rs, r.1 ≠ f) (hm : ∀ t, o = some t → ∀ u ∈ rs.filterMap (·.2), meetsB t u = false) : Drawn (rs ++ [(f, o)]) := by
  have cs : ∀ s, s ∈ rs ++ [(f, o)] → s ∈ rs ∨ s = (f, o) := fun s hs => by simpa using hs
  have hm' : ∀ r ∈ rs, ∀ t u, o = some t → r.2 = some u → meetsB t u = false := fun r hr t u e e2 => hm t e u (List.mem_filterMap.mpr ⟨r, hr, e2⟩)
  refine ⟨by rw [List.length_append]; simp; omega, fun r hr => ?_, fun r hr t e => ?_, fun r hr s hs e => ?_, fun r hr s hs ne t u e1 e2 => ?_⟩
  · rcases cs r hr with z | z
    · exact h.fold r z
    · rw [z]; exact hf
  · rcases cs r hr with z | z
    · exact h.targ r z t e
    · rw [z] at e; exact ho t e
  · rcases cs r hr with z | z
    · rcases cs s hs with y | y
      · exact h.uniq r z s y e
      · rw [y] at e; exact absurd e (hnew r z)
    · rcases cs s hs with y | y
      · rw [z] at e; exact absurd e.symm (hnew s y)
      · rw [z, y]
  · rcases cs r hr with z | z
    · rcases cs s hs with y | y
      · exact h.apart r z s y ne t u e1 e2
      · rw [y] at e2; rw [meetsB_comm]; exact hm' r z u t e2 e1
    · rcases cs s hs with y | y
      · rw [z] at e1; exact hm' s y t u e1 e2
      · rw [z, y] at ne; exact absurd rfl ne
theorem ok_law_rows_drawn (T : Tx K mg) : FnG P w K mg base CX0 3 T.a_law_rows_drawn T.d_law_rows_drawn ["_law_box_here"] (spB 11 (fun ds => ds = []) (fun _ d => ∃ rs, d = encRs rs ∧ Drawn rs)) := by
  have G_law_of := ok_law_of (P := P) (w := w) (base := base) T
  have G_law_take := ok_law_take (P := P) (w := w) (base := base) T
  have G_law_meets := ok_law_meets (P := P) (w := w) (base := base) T
  refine ok_draw T.F_law_rows_drawn sc_law_rows_drawn (fun ds e => by rw [e]; rfl) fun cdv A fs s H E hG hr => ⟨_, (pss_cons (ps_par3 (i := 1) (j := 2) (l := 3) (by rfl) sc_law_rows_drawn.nd rfl rfl rfl (by decide) (by decide) (by decide) rfl rfl rfl (pa_cons (pe_lst (pa_cons pe_str (pa_cons pe_str (pa_cons pe_str (pa_cons pe_str (pa_cons pe_str (pa_cons pe_str (pa_cons pe_str pa_nil)))))))) (pa_cons (pe_lst (pa_cons pe_str (pa_cons pe_str (pa_cons pe_str (pa_cons pe_str (pa_cons pe_str (pa_cons pe_str (pa_cons pe_str pa_nil)))))))) (pa_cons (pe_lst pa_nil) pa_nil))) (by rfl))
        (pss_cons (ps_for PassesOwn.never rfl (pi_range1 (by rfl) T.m_range (pa_cons (pc_call G_law_take hG (hr.mono (by decide)) (by rfl) T.g_law_take T.F_law_take.kp T.b_law_take .nil pass0 (pa_cons (pv 0) (pa_cons pe_int pa_nil))) pa_nil)) (pg_name (i := 4) sc_law_rows_drawn.nd rfl (.inl rfl)) (pss_cons (ps_asg (pe_tup (pa_cons (pc_call G_law_of hG (hr.mono (by decide)) (by rfl) T.g_law_of T.F_law_of.kp T.b_law_of .nil pass0 (pa_cons (pv 0) (pa_cons (pv 1) pa_nil))) (pa_cons (pc_call G_law_of hG (hr.mono (by decide)) (by rfl) T.g_law_of T.F_law_of.kp T.b_law_of .nil pass0 (pa_cons (pv 0) (pa_cons (pe_op op_cat (pe_lst (pa_cons pe_non pa_nil)) (pv 2)) pa_nil))) pa_nil))) (pg_tup (by rfl) (pgs_cons (pg_name (i := 5) sc_law_rows_drawn.nd rfl (.inl rfl)) (pgs_cons (pg_name (i := 6) sc_law_rows_drawn.nd rfl (.inr rfl)) pgs_nil))))
        (pss_cons (ps_setLc (i := 7) (own := [("_law_row_here", 8)]) (g := (gName 8)) (by rfl) sc_law_rows_drawn.nd rfl rfl (sw_true rfl rfl rfl (by decide +kernel)) (piK_list (K := K) rfl (pv 3)) (blkOk_by (own := [("_law_row_here", 8)]) (N := N_law_rows_drawn) (sc := defScope s_law_rows_drawn) (by decide +kernel)) (fun _ _ _ _ _ => (pg_name (i := 8) sc_law_rows_drawn.nd rfl (.inl rfl))) (fun _ _ _ _ _ => (pts_one (pt_cmp (pc_notN (pe_ix (ixK_seq (K := K) rfl) (pv 8) pe_int (fun _ _ => rfl)))))) (fun _ _ _ _ _ => (pe_ix (ixK_seq (K := K) rfl) (pv 8) pe_int (fun _ _ => rfl))))
        (pss_one (ps_if (pt_cmpR (opK_notIn (K := K) rfl) (pv 5) (pe_lc (own := [("_law_row_here", 8)]) (g := (gName 8)) (by rfl) sc_law_rows_drawn.nd (piK_list (K := K) rfl (pv 3)) (blkOk_by (own := [("_law_row_here", 8)]) (N := N_law_rows_drawn) (sc := defScope s_law_rows_drawn) (by decide +kernel)) (fun _ _ _ _ _ => (pg_name (i := 8) sc_law_rows_drawn.nd rfl (.inl rfl))) (fun _ _ _ _ _ => pts_nil) (fun _ _ _ _ _ => (pe_ix (ixK_seq (K := K) rfl) (pv 8) pe_int (fun _ _ => rfl)))) (by rfl)) (pss_cons (ps_if (PW.pt (pw_and (pt_cmp (pc_notN (pv 6))) (pw_and1 (pt_val (pe_callB (crK_any (K := K) rfl rfl) (by rfl) T.m_any bt_any (pa_cons (pe_lc (own := [("_law_other", 9)]) (g := (gName 9)) (by rfl) sc_law_rows_drawn.nd (piK_list (K := K) rfl (pv 7)) (blkOk_by (own := [("_law_other", 9)]) (N := N_law_rows_drawn) (sc := defScope s_law_rows_drawn) (by decide +kernel)) (fun _ _ _ _ _ => (pg_name (i := 9) sc_law_rows_drawn.nd rfl (.inl rfl))) (fun _ _ _ _ _ => pts_nil) (fun _ _ _ _ _ => (pc_call G_law_meets hG (hr.mono (by decide)) (by rfl) T.g_law_meets T.F_law_meets.kp T.b_law_meets .nil pass0 (pa_cons (pv 6) (pa_cons (pv 9) pa_nil))))) pa_nil)))))) (pss_one (ps_set (i := 6) sc_law_rows_drawn.nd rfl (.inr rfl) pe_non)) pss_nil)
        (pss_one (ps_expr (pe_bm PySem.F.plainAttrs_list PySem.F.slot_list_append PySem.F.type_list_append mt_append (pv 3) (pa_cons (pe_tup (pa_cons (pv 5) (pa_cons (pv 6) pa_nil))) pa_nil))))) pss_nil)))))
        (pss_one (ps_ret (pe_callTy (callK_tuple (K := K) rfl) (by rfl) T.m_tuple bt_tuple (pa_cons (pe_callB (crK_sortedT (K := K) rfl (u70 hr)) (by rfl) T.m_sorted bt_sorted (pa_cons (pv 3) pa_nil)) pa_nil)))))), fun b c ds hc e => ?_⟩
  subst e
  have hc' : c + 11 ≤ 1000000 := hc
  show Go _ _ [.raw (.ref b), .un, .un, .un, .un, .un, .un, .un, .un, .un] _ _
  refine go_seq (go_par3o (n1 := 0) (n2 := 0) (P1 := Eq (.list (FOLD.map .str))) (P2 := Eq (.list (TARG.map .str))) (Ev.is (by walk_at "ev") rfl) (Ev.is (by walk_at "ev") rfl) (show c + 0 ≤ 1000000 by omega) fun x y ex ey => ?_)
  subst ex; subst ey
  show Go _ _ [.raw (.ref b), .dat (.list (FOLD.map .str)), .dat (.list (TARG.map .str)), .own [], .un, .un, .un, .un, .un, .un] c _
  refine go_seq (go_for (n := 1) (ew_rng1 (P := fun ds => ∃ m : Int, ds = [.int m] ∧ 0 ≤ m ∧ m ≤ 5) (ea_consP (P := fun ds => ∃ m : Int, ds = [.int m] ∧ 0 ≤ m ∧ m ≤ 5) (ev_take (m := 6) rfl ev_int) ea_nil ?_) fun d ⟨m, e, h1, h2⟩ => ⟨m, e, by omega, by omega⟩) (show c + 1 ≤ 1000000 by omega) ?_)
  · rintro x y ⟨i, rfl, h1, h2⟩ rfl
    exact ⟨i, rfl, h1, by omega⟩
  rintro ds ⟨m, ⟨m', e, h1, h2⟩, rfl⟩
  cases e
  refine ⟨fun i Γ' c' => ∃ (rs : List Row) (s4 s5 s6 s7 s8 s9 : Sl), Γ' = [.raw (.ref b), .dat (.list (FOLD.map .str)), .dat (.list (TARG.map .str)), .own (rs.map encR), s4, s5, s6, s7, s8, s9] ∧ Drawn rs ∧ rs.length ≤ i ∧ c' ≤ c + 1 + 2 * i, ⟨[], _, _, _, _, _, _, rfl, ⟨by decide, by simp, by simp, (fun r hr => by cases hr), (fun r hr => by cases hr)⟩, by decide, by omega⟩, ?_, ?_⟩
  · rintro i x Γ' c' hx ⟨rs, s4, s5, s6, s7, s8, s9, rfl, hD, hlen, hc2⟩
    have hi : i < 5 := by
      have := (List.getElem?_eq_some_iff.mp hx).1
      rw [rngD_len] at this; omega
    refine ⟨_, _, eg_name, ?_⟩
    refine go_seq (go_asg (n := 1 + (1 + 0)) (P := fun d => ∃ f o, d = .tuple [.str f, encO o] ∧ f ∈ FOLD ∧ ∀ t, o = some t → t ∈ TARG) (Ev.imp (ev_tup (P1 := fun xs => ∃ f o, xs = [.str f, encO o] ∧ f ∈ FOLD ∧ ∀ t, o = some t → t ∈ TARG) (ea_consP (ev_ofL rfl (ev_var rfl)) (ea_consP (P := fun xs => ∃ o, xs = [encO o] ∧ ∀ t, o = some t → t ∈ TARG) (ev_ofL (xs := .none :: TARG.map .str) rfl (ev_op0 (by walk_at "ev") (ev_var rfl) (rd_cat (xs := [.none]) (ys := TARG.map .str) (by decide)))) ea_nil ?_) ?_) ?_) ?_) (show c' + (1 + (1 + 0)) ≤ 1000000 by omega) ?_)
    · rintro x y hx rfl
      rcases List.mem_cons.mp hx with rfl | hx
      · exact ⟨none, rfl, fun t e => by cases e⟩
      · obtain ⟨z, hz, rfl⟩ := mem_strs hx
        exact ⟨some z, rfl, fun t e => by cases e; exact hz⟩
    · rintro x y hx ⟨o, rfl, ho⟩
      obtain ⟨z, hz, rfl⟩ := mem_strs hx
      exact ⟨z, o, rfl, hz, ho⟩
    · rintro xs ⟨f, o, rfl, _⟩
      exact Nat.le_of_ble_eq_true rfl
    · rintro d ⟨xs, ⟨f, o, rfl, h⟩, rfl⟩
      exact ⟨f, o, rfl, h⟩
    rintro d ⟨f, o, rfl, hf, ho⟩
    refine ⟨_, _, eg_tup (egs_cons eg_name (egs_cons eg_name egs_nil)) rfl, ?_⟩
    show Go _ _ [.raw (.ref b), .dat (.list (FOLD.map .str)), .dat (.list (TARG.map .str)), .own (rs.map encR), .dat x, .dat (.str f), .dat (encO o), s7, s8, s9] (c' + 2) _
    refine gs_setE (d := .list ((rs.filterMap (·.2)).map PyData.str)) (Ev.is (ev_lcT (enc := encR) (as := rs) (is := [8]) (ei_list (el_own rfl)) (Nat.le_trans hD.len (by decide)) (by simp) (fun r => !isN (encO r.2)) (fun r => encO r.2) fun r hr => ⟨_, eg_name, et_B (ev_notN (ev_r1 (ev_var rfl))), fun _ => ev_r1 (ev_var rfl)⟩) (by rw [tgts_eq])) (show c' + 2 ≤ 1000000 by omega) ?_
    show Go _ _ [.raw (.ref b), .dat (.list (FOLD.map .str)), .dat (.list (TARG.map .str)), .own (rs.map encR), .dat x, .dat (.str f), .dat (encO o), .dat (.list ((rs.filterMap (·.2)).map PyData.str)), s8, s9] (c' + 2) _
    refine go_if (n := 0) (et_test (ev_op0 (ev_var rfl) (Ev.is (y := .list ((rs.map (·.1)).map PyData.str)) (ev_lcTM (enc := encR) (as := rs) (is := [8]) (ei_list (el_own rfl)) (Nat.le_trans hD.len (by decide)) (by simp) (fun r => .str r.1) fun r hr => ⟨_, eg_name, ev_r0 (ev_var rfl)⟩) (by rw [List.map_map]; rfl)) (rd_inL (neg := true)))) (show c' + 2 + 0 ≤ 1000000 by omega) (fun h => ?_) fun h => ?_
    · have hnew : ∀ r ∈ rs, r.1 ≠ f := fun r hr e => by
        have h' : (!(rs.map (·.1)).any (· == f)) = true := h
        have : ((rs.map (·.1)).any (· == f)) = true := List.any_eq_true.mpr ⟨r.1, List.mem_map_of_mem hr, by rw [e]; exact beq_self_eq_true _⟩
        rw [this] at h'; cases h'
      refine go_mid (fun Γ' c'' => ∃ o', Γ' = [.raw (.ref b), .dat (.list (FOLD.map .str)), .dat (.list (TARG.map .str)), .own (rs.map encR), .dat x, .dat (.str f), .dat (encO o'), .dat (.list ((rs.filterMap (·.2)).map PyData.str)), s8, s9] ∧ c'' = c' + 2 ∧ (∀ t, o' = some t → t ∈ TARG) ∧ ∀ t, o' = some t → ∀ u ∈ rs.filterMap (·.2), meetsB t u = false) ?_ ?_
      · cases o with
        | none =>
          refine go_if (n := 0) (et_and0 (b := false) (et_B (ev_notN (ev_var rfl))) (fun h => by cases h)) (show c' + 2 + 0 ≤ 1000000 by omega) (fun h => by cases h) fun _ => ?_
          exact go_next ⟨none, rfl, rfl, ho, fun t e => by cases e⟩
        | some t =>
          have htl : t.length ≤ 1000 := Nat.le_trans (targ_ok t (ho t rfl)).2 (by decide)
          refine go_if (n := 0) (et_and0 (et_B (ev_notN (ev_var rfl))) (fun _ => et_B (ev_any (bs := (rs.filterMap (·.2)).map (meetsB t)) (Ev.is (ev_lcTM (enc := PyData.str) (as := rs.filterMap (·.2)) (is := [9]) (ew_listE (ev_var rfl)).i (Nat.le_trans (Nat.le_trans (List.length_filterMap_le _ _) hD.len) (by decide)) (by simp) (fun u => .bool (meetsB t u)) fun u hu => ⟨_, eg_name, ev_meets (ev_var rfl) (ev_var rfl) htl ?_⟩) (by rw [List.map_map]; rfl))))) (show c' + 2 + 0 ≤ 1000000 by omega) (fun h => ?_) fun h => ?_
          · obtain ⟨r, hr, e⟩ := List.mem_filterMap.mp hu
            exact Nat.le_trans (targ_ok u (hD.targ r hr u e)).2 (by decide)
          · refine go_set (n := 0) ev_non (show c' + 2 + 0 ≤ 1000000 by omega) fun d e => ?_
            subst e
            exact ⟨none, rfl, rfl, (fun t e => by cases e), fun t e => by cases e⟩
          · refine go_next ⟨some t, rfl, rfl, ho, fun t' e u hu => ?_⟩
            cases e
            have h' : (((rs.filterMap (·.2)).map (meetsB t)).any id) = false := by simpa [isN, encO] using h
            cases q : meetsB t u with
            | false => rfl
            | true =>
              have : (((rs.filterMap (·.2)).map (meetsB t)).any id) = true := List.any_eq_true.mpr ⟨true, List.mem_map.mpr ⟨u, hu, q⟩, rfl⟩
              rw [this] at h'; cases h'
      · rintro Γ' c'' ⟨o', rfl, rfl, ho', hm⟩
        refine go_app (n := 0) (ds := rs.map encR) (P := Eq (encR (f, o'))) rfl (ev_tupE (ea_cons0 (ev_var rfl) (ea_cons0 (ev_var rfl) ea_nil)) (Nat.le_of_ble_eq_true rfl)) (by rw [List.length_map]; exact Nat.le_trans hD.len (by decide)) (show c' + 2 + 0 ≤ 1000000 by omega) fun d e => ?_
        subst e
        have em : (rs ++ [(f, o')]).map encR = rs.map encR ++ [encR (f, o')] := by rw [List.map_append]; rfl
        refine ⟨rs ++ [(f, o')], _, _, _, _, _, _, by rw [em]; exact rfl, hD.add (by omega) hf ho' hnew hm, ?_, ?_⟩
        · rw [List.length_append]; simp; omega
        · omega
    · exact go_next ⟨rs, _, _, _, _, _, _, rfl, hD, by omega, by omega⟩
  · rintro Γ' c' ⟨rs, s4, s5, s6, s7, s8, s9, rfl, hD, hlen, hc2⟩
    rw [rngD_len] at hc2
    refine go_ret (n := 0) (ev_tupleO (ev_sortT keyT (el_own rfl) ?_) ?_) (show c' + 0 ≤ 1000000 by omega) ?_
    · rintro ds rfl
      refine ⟨fun d hd => ?_, .inr fun d hd => ?_, fun xs ys hx hy => ?_⟩
      · obtain ⟨r, hr, rfl⟩ := List.mem_map.mp hd
        exact (encR_sh (hD.ok.2 r hr)).shaped
      · obtain ⟨r, hr, rfl⟩ := List.mem_map.mp hd
        exact ⟨_, _, rfl⟩
      · obtain ⟨r, hr, e⟩ := List.mem_map.mp hx
        obtain ⟨s, hs, e2⟩ := List.mem_map.mp hy
        cases e; cases e2
        exact ⟨rfl, lt_pair (hD.uniq r hr s hs)⟩
    · rintro es ⟨ds, rfl, pm, _⟩
      rw [pm.length_eq, List.length_map]
      exact Nat.le_trans hD.len (by decide)
    · rintro d ⟨es, ⟨ds, rfl, pm, _⟩, rfl⟩
      obtain ⟨qs, hq, rfl⟩ := perm_map pm
      refine ⟨by omega, qs, rfl, hD.perm hq⟩
end
/-! ### the way back -/
def tfits (path : Str) (t : Str) : Bool := (t == path) || lbelow path t
def candS (path : Str) (f t : Str) : Option Str := if (t == path) = true then (if (f == "") = true then none else some f) else some (joinedS f (restS path t))
def candOf (path : Str) : List Row → Option Str
  | [] => none
  | (f, some t) :: r => if tfits path t = true then candS path f t else candOf path r
  | (_, none) :: r => candOf path r
def wayS (rs : List Row) (path : Str) : Option Str := match candOf path rs with
  | none => none
  | some c => if (placeS rs c == some path) = true then some c else none
theorem candOf_skip {path : Str} : ∀ {pre post : List Row}, (∀ r ∈ pre, ∀ t, r.2 = some t → tfits path t = false) → candOf path (pre ++ post) = candOf path post
  | [], _, _ => rfl
  | (f, none) :: pre, post, h => by
    show candOf path (pre ++ post) = _
    exact candOf_skip fun r hr => h r (List.mem_cons_of_mem _ hr)
  | (f, some t) :: pre, post, h => by
    show (if tfits path t = true then candS path f t else candOf path (pre ++ post)) = _
    rw [h _ List.mem_cons_self t rfl]
    exact candOf_skip fun r hr => h r (List.mem_cons_of_mem _ hr)
theorem candOf_ok {p z : Str} : ∀ {rs : List Row}, (∀ r ∈ rs, okR r) → okS p → candOf p rs = some z → okP z
  | [], _, _, h => by cases h
  | (f, none) :: rs, hrs, hp, h => candOf_ok (rs := rs) (fun r hr => hrs r (List.mem_cons_of_mem _ hr)) hp h
  | (f, some t) :: rs, hrs, hp, h => by
    have hok := hrs _ List.mem_cons_self
    have h' : (if tfits p t = true then candS p f t else candOf p rs) = some z := h
    split at h'
    · unfold candS at h'
      split at h'
      · split at h'
        · cases h'
        · cases h'; exact ⟨hok.1.1, Nat.le_trans hok.1.2 (by decide)⟩
      · cases h'
        have := joinedS_ok hok.1 (restS_ok (f := t) hp)
        exact ⟨this.1, Nat.le_trans this.2 (by decide)⟩
    · exact candOf_ok (rs := rs) (fun r hr => hrs r (List.mem_cons_of_mem _ hr)) hp h'
/-! ### the law's way back -/
def restO (p t : Str) : Option Str := if (t == "") = true then some p else if Txt.startswith p (t ++ "/") = true then some (cutS p (some ((t.length : Int) + 1)) none) else none
def lcands (p f t : Str) : List Str := (match restO p t with | none => [] | some r => [joinedS f r]) ++ (if ((p == t) && !(f == "")) = true then [f] else [])
theorem no_self (p : Str) : Txt.startswith p (p ++ "/") = false := by
  rw [starts_false, TL.tl_append, tl_slash]
  intro h
  have := h.length_le
  simp at this
  omega
theorem lcands_iff {p f t c : Str} (hp : p ≠ "") : c ∈ lcands p f t ↔ tfits p t = true ∧ candS p f t = some c := by
  unfold lcands restO tfits lbelow candS
  by_cases ht : t = ""
  · subst ht
    have h1 : ((Str.ofString "" : Str) == p) = false := by
      cases q : ((Str.ofString "" : Str) == p) with
      | false => rfl
      | true => exact absurd (beq_iff_eq.mp q).symm hp
    have h2 : (p == (Str.ofString "" : Str)) = false := by
      cases q : (p == (Str.ofString "" : Str)) with
      | false => rfl
      | true => exact absurd (beq_iff_eq.mp q) hp
    have h3 : restS p "" = p := by unfold restS; rw [if_pos (by decide +kernel)]
    rw [if_pos (by decide +kernel), h1, h2, h3]
    simp
    exact eq_comm
  · have h0 : (t == (Str.ofString "" : Str)) = false := by
      cases q : (t == (Str.ofString "" : Str)) with
      | false => rfl
      | true => exact absurd (beq_iff_eq.mp q) ht
    rw [h0]
    simp only [Bool.false_eq_true, if_false, Bool.false_or]
    by_cases hpt : p = t
    · subst hpt
      rw [no_self, beq_self_eq_true]
      simp only [Bool.false_eq_true, if_false, if_true, Bool.true_and, Bool.true_or, List.nil_append, true_and]
      cases (f == (Str.ofString "" : Str))
      · simp [eq_comm]
      · simp
    · have h1 : (p == t) = false := by
        cases q : (p == t) with
        | false => rfl
        | true => exact absurd (beq_iff_eq.mp q) hpt
      have h2 : (t == p) = false := by
        cases q : (t == p) with
        | false => rfl
        | true => exact absurd (beq_iff_eq.mp q).symm hpt
      have h3 : restS p t = cutS p (some ((t.length : Int) + 1)) none := by unfold restS; rw [h0]; rfl
      rw [h1, h2, h3]
      cases Txt.startswith p (t ++ "/")
      · simp
      · simp [eq_comm]
theorem lcands_ok {p f t c : Str} (hp : okS p) (hf : okS f) (h : c ∈ lcands p f t) : okP c := by
  unfold lcands at h
  rcases List.mem_append.mp h with h | h
  · unfold restO at h
    have key : ∀ r, PyData.strOk r = true ∧ r.length ≤ 100 → okP (joinedS f r) := fun r hr => by
      have := joinedS_ok hf hr
      exact ⟨this.1, Nat.le_trans this.2 (by decide)⟩
    split at h
    · cases h
    · rename_i r hr
      rw [List.mem_singleton.mp h]
      apply key
      split at hr
      · cases hr; exact hp
      · split at hr
        · cases hr; exact ⟨strOk_cut hp.1 _ _, Nat.le_trans cut_len hp.2⟩
        · cases hr
  · split at h
    · rw [List.mem_singleton.mp h]; exact okP_of hf
    · cases h
theorem tfits_meets {p t u : Str} (ht : tfits p t = true) (hu : tfits p u = true) : meetsB t u = true := by
  unfold tfits lbelow at ht hu
  unfold meetsB
  simp only [Bool.or_eq_true, beq_iff_eq, List.any_cons, List.any_nil, Bool.or_false] at ht hu ⊢
  rcases ht with ht | ht | ht
  · rcases hu with hu | hu | hu
    · exact .inr (.inl (ht.trans hu.symm))
    · exact .inl (.inr hu)
    · subst ht; exact .inr (.inr (.inl hu))
  · exact .inl (.inl ht)
  · rcases hu with hu | hu | hu
    · subst hu; exact .inr (.inr (.inr ht))
    · exact .inl (.inr hu)
    · rw [starts_iff, TL.tl_append, tl_slash] at ht hu
      by_cases e : (TL.tl t).length = (TL.tl u).length
      · refine .inr (.inl (TL.ext_tl ?_))
        have h1 := List.prefix_iff_eq_take.mp ((List.prefix_append _ _).trans ht)
        have h2 := List.prefix_iff_eq_take.mp ((List.prefix_append _ _).trans hu)
        rw [h1, h2, e]
      · by_cases l : (TL.tl t).length < (TL.tl u).length
        · refine .inr (.inr (.inr ?_))
          rw [starts_iff, TL.tl_append, tl_slash]
          exact List.prefix_of_prefix_length_le ht ((List.prefix_append _ _).trans hu) (by rw [List.length_append]; exact l)
        · refine .inr (.inr (.inl ?_))
          rw [starts_iff, TL.tl_append, tl_slash]
          exact List.prefix_of_prefix_length_le hu ((List.prefix_append _ _).trans ht) (by rw [List.length_append]; show (TL.tl u).length + 1 ≤ _; omega)
theorem tfits_one {rs : List Row} {p t u : Str} {r s : Row} (hu : Uniq rs) (ha : Apart rs) (hr : r ∈ rs) (hs : s ∈ rs) (er : r.2 = some t) (es : s.2 = some u) (ft : tfits p t = true) (fu : tfits p u = true) : r = s := by
  by_cases e : r.1 = s.1
  · exact hu r hr s hs e
  · have := ha r hr s hs e t u er es
    rw [tfits_meets ft fu] at this
    cases this
theorem candOf_cases (p : Str) : ∀ rs : List Row, ((∀ r ∈ rs, ∀ t, r.2 = some t → tfits p t = false) ∧ candOf p rs = none) ∨ ∃ r ∈ rs, ∃ t, r.2 = some t ∧ tfits p t = true ∧ candOf p rs = candS p r.1 t
  | [] => .inl ⟨by simp, rfl⟩
  | (f, none) :: rs => by
    rcases candOf_cases p rs with ⟨h1, h2⟩ | ⟨r, hr, t, h1, h2, h3⟩
    · refine .inl ⟨fun r hr t e => ?_, h2⟩
      rcases List.mem_cons.mp hr with z | z
      · rw [z] at e; cases e
      · exact h1 r z t e
    · exact .inr ⟨r, List.mem_cons_of_mem _ hr, t, h1, h2, h3⟩
  | (f, some t) :: rs => by
    cases q : tfits p t with
    | true => exact .inr ⟨_, List.mem_cons_self, t, rfl, q, by show (if tfits p t = true then _ else _) = _; rw [if_pos q]⟩
    | false =>
      have e0 : candOf p ((f, some t) :: rs) = candOf p rs := by show (if tfits p t = true then _ else _) = _; rw [q]; rfl
      rw [e0]
      rcases candOf_cases p rs with ⟨h1, h2⟩ | ⟨r, hr, t', h1, h2, h3⟩
      · refine .inl ⟨fun r hr t' e => ?_, h2⟩
        rcases List.mem_cons.mp hr with z | z
        · rw [z] at e; cases e; exact q
        · exact h1 r z t' e
      · exact .inr ⟨r, List.mem_cons_of_mem _ hr, t', h1, h2, h3⟩
theorem way_yes {rs : List Row} {p c t : Str} {r : Row} (hu : Uniq rs) (ha : Apart rs) (hp : p ≠ "") (hr : r ∈ rs) (er : r.2 = some t) (hc : c ∈ lcands p r.1 t) (hpl : placeS rs c = some p) : wayS rs p = some c := by
  obtain ⟨h1, h2⟩ := (lcands_iff hp).mp hc
  have hcand : candOf p rs = some c := by
    rcases candOf_cases p rs with ⟨h3, _⟩ | ⟨s, hs, u, h3, h4, h5⟩
    · rw [h3 r hr t er] at h1; cases h1
    · have := tfits_one hu ha hr hs er h3 h1 h4
      subst this
      rw [er] at h3
      cases h3
      rw [h5, h2]
  unfold wayS
  rw [hcand]
  dsimp only
  rw [hpl, if_pos (beq_self_eq_true _)]
theorem way_no {rs : List Row} {p : Str} (hp : p ≠ "") (h : ∀ r ∈ rs, ∀ t, r.2 = some t → ∀ c ∈ lcands p r.1 t, placeS rs c ≠ some p) : wayS rs p = none := by
  unfold wayS
  rcases candOf_cases p rs with ⟨_, h3⟩ | ⟨s, hs, u, h3, h4, h5⟩
  · rw [h3]
  · rw [h5]
    cases hc : candS p s.1 u with
    | none => rfl
    | some c =>
      dsimp only
      have := h s hs u h3 c ((lcands_iff hp).mpr ⟨h4, hc⟩)
      rw [if_neg]
      simpa using this
theorem wayS_ok {rs : List Row} {p z : Str} (hrs : okRs rs) (hp : okS p) (h : wayS rs p = some z) : okP z := by
  unfold wayS at h
  cases hc : candOf p rs with
  | none => rw [hc] at h; cases h
  | some c =>
    rw [hc] at h
    dsimp only at h
    split at h
    · cases h; exact candOf_ok hrs.2 hp hc
    · cases h
theorem rp_O {o : Option Str} {n : Nat} (h : ∀ z, o = some z → PyData.strOk z = true ∧ z.length ≤ n) : Rp 0 (10 * n + 4) (encO o) := by
  cases o with
  | none => exact rp_none.mono (Nat.le_refl _) (by omega)
  | some z => exact (rp_str (h z rfl).1 (h z rfl).2).mono (Nat.le_refl _) (by omega)
/-! ### the paths -/
section
variable {P : Program} {w : World} {K : PySem.W.Frag} {mg : Str → Option Value} {base : Heap}
def PATHS : List Str := ["a", "a/b", "a/b/c", "a/b/c/d", "a/x", "b", "b/a", "c/d", "c/d/e", "c", "lib", "lib/a", "p", "p/r", "p/x", "q", "q1/z", "s", "s/b", "x/y", "r", "a/p", "a/b/q", "lib/p/r", "p/r/a"]
theorem paths_ok : ∀ p ∈ PATHS, okS p ∧ p ≠ "" := by
  have h : ∀ f ∈ PATHS, (PyData.strOk f = true ∧ f.length ≤ 100) ∧ f ≠ "" := by decide +kernel
  exact h
theorem ok_law_paths (T : Tx K mg) : FnG P w K mg base CX0 1 T.a_law_paths T.d_law_paths [] (spP (fun ds => ds = []) (fun _ e => e = .list (PATHS.map .str))) := by
  refine ok_pure T.F_law_paths sc_law_paths (fun ds e => by rw [e]; rfl) fun cdv A fs s H E hG hr => ⟨_, (pss_cons (ps_set (i := 0) sc_law_paths.nd rfl (.inl rfl) (pe_lst (pa_cons pe_str (pa_cons pe_str (pa_cons pe_str (pa_cons pe_str (pa_cons pe_str (pa_cons pe_str (pa_cons pe_str (pa_cons pe_str (pa_cons pe_str (pa_cons pe_str (pa_cons pe_str (pa_cons pe_str (pa_cons pe_str (pa_cons pe_str (pa_cons pe_str pa_nil)))))))))))))))))
        (pss_one (ps_ret (pe_op op_cat (pv 0) (pe_lst (pa_cons pe_str (pa_cons pe_str (pa_cons pe_str (pa_cons pe_str (pa_cons pe_str (pa_cons pe_str (pa_cons pe_str (pa_cons pe_str (pa_cons pe_str (pa_cons pe_str pa_nil))))))))))))))), fun ds e => ?_⟩
  subst e
  show Go _ _ [.un] _ _
  refine gs_setE (d := .list ((PATHS.take 15).map .str)) (Ev.is (by walk_at "ev") rfl) (by decide) ?_
  refine go_retE (ev_op0 (ev_var rfl) (Ev.is (y := .list ((PATHS.drop 15).map .str)) (by walk_at "ev") rfl) (rd_cat (by decide))) (by decide) rfl
end
/-! ### trees -/
abbrev File := Str × List Str
def linesD (ls : List Str) : PyData := .tuple (ls.map .str)
def encF (f : File) : PyData := .tuple [.str f.1, linesD f.2]
def encT (fs : List File) : PyData := .tuple (fs.map encF)
def okQ (z : Str) : Prop := PyData.strOk z = true ∧ z.length ≤ 501
def LNS : List Str := ["x", "y", "", "a b", "7"]
theorem lns_ok : ∀ l ∈ LNS, PyData.strOk l = true ∧ l.length ≤ 100 := by decide +kernel
structure okF (f : File) : Prop where
  path : okQ f.1
  many : f.2.length ≤ 3
  lines : ∀ l ∈ f.2, PyData.strOk l = true ∧ l.length ≤ 100
structure Wood (ps : List Str) (fs : List File) : Prop where
  len : fs.length ≤ 8
  path : ∀ f ∈ fs, f.1 ∈ ps
  many : ∀ f ∈ fs, f.2.length ≤ 3
  lines : ∀ f ∈ fs, ∀ l ∈ f.2, l ∈ LNS
  uniq : ∀ f ∈ fs, ∀ g ∈ fs, f.1 = g.1 → f = g
  apart : ∀ f ∈ fs, ∀ g ∈ fs, Txt.startswith f.1 (g.1 ++ "/") = false
theorem Wood.ok {ps : List Str} {fs : List File} (h : Wood ps fs) (hp : ∀ p ∈ ps, okQ p) : ∀ f ∈ fs, okF f := fun f hf => ⟨hp _ (h.path f hf), h.many f hf, fun l hl => lns_ok l (h.lines f hf l hl)⟩
theorem Wood.perm {ps : List Str} {fs gs : List File} (h : Wood ps fs) (p : gs.Perm fs) : Wood ps gs :=
  ⟨by rw [p.length_eq]; exact h.len, fun f hf => h.path f (p.mem_iff.mp hf), fun f hf => h.many f (p.mem_iff.mp hf), fun f hf => h.lines f (p.mem_iff.mp hf), fun f hf g hg => h.uniq f (p.mem_iff.mp hf) g (p.mem_iff.mp hg), fun f hf g hg => h.apart f (p.mem_iff.mp hf) g (p.mem_iff.mp hg)⟩
theorem lines_shp {ls : List Str} (h : ∀ l ∈ ls, PyData.strOk l = true ∧ l.length ≤ 100) : Shp 1 (linesD ls) := shp_tup fun d hd => by
  obtain ⟨l, hl, rfl⟩ := List.mem_map.mp hd
  exact shp_str (h l hl).1
theorem encF_shp {f : File} (h : okF f) : Shp 2 (encF f) := shp_tup fun d hd => by
  simp only [List.mem_cons, List.not_mem_nil, or_false] at hd
  rcases hd with rfl | rfl
  · exact (shp_str h.path.1).mono (by decide)
  · exact lines_shp h.lines
theorem encF_inj {f g : File} (h : encF f = encF g) : f = g := by
  obtain ⟨a, b⟩ := f
  obtain ⟨c, d⟩ := g
  unfold encF linesD at h
  simp only [PyData.tuple.injEq, List.cons.injEq, PyData.str.injEq, and_true] at h
  rw [h.1, map_inj' (fun _ _ e => PyData.str.inj e) h.2]
theorem encT_inj {f g : List File} (h : encT f = encT g) : f = g := map_inj' (fun _ _ e => encF_inj e) (PyData.tuple.inj h)
theorem sortable {fs : List File} (hok : ∀ f ∈ fs, okF f) (hu : ∀ f ∈ fs, ∀ g ∈ fs, f.1 = g.1 → f = g) : Sortable keyT (fs.map encF) := by
  refine ⟨fun d hd => ?_, .inr fun d hd => ?_, fun xs ys hx hy => ?_, fun x hx y hy e => ?_⟩
  · obtain ⟨f, hf, rfl⟩ := List.mem_map.mp hd
    exact (encF_shp (hok f hf)).shaped
  · obtain ⟨f, hf, rfl⟩ := List.mem_map.mp hd
    exact ⟨_, _, rfl⟩
  · obtain ⟨f, hf, e⟩ := List.mem_map.mp hx
    obtain ⟨g, hg, e2⟩ := List.mem_map.mp hy
    cases e; cases e2
    refine ⟨rfl, ?_⟩
    show LtA _ _ (ltK (0, TL.tl f.1) (0, TL.tl g.1))
    by_cases e : f.1 = g.1
    · have := hu f hf g hg e
      subst this
      rw [ltK_self]
      exact .eq (by rw [eqv_str]; exact beq_self_eq_true _) (.eq (lines_shp (hok f hf).lines).eqv .nil)
    · have e3 : ltK ((0 : Int), TL.tl f.1) ((0 : Int), TL.tl g.1) = decide (f.1.cps.toList < g.1.cps.toList) := by
        unfold ltK
        simp
      rw [e3]
      exact .str e
  · obtain ⟨f, hf, rfl⟩ := List.mem_map.mp hx
    obtain ⟨g, hg, rfl⟩ := List.mem_map.mp hy
    have e' : ((0 : Int), TL.tl f.1) = (0, TL.tl g.1) := e
    rw [hu f hf g hg (TL.ext_tl (Prod.mk.inj e').2)]
/-! ### drawing a tree -/
def mkE (f : File) : Key × PyData := (.inr f.1, linesD f.2)
def putF (fs : List File) (p : Str) (ls : List Str) : List File := if (fs.any fun f => decide (f.1 = p)) = true then fs.map (fun f => if f.1 = p then (f.1, ls) else f) else fs ++ [(p, ls)]
theorem put_mk (fs : List File) (p : Str) (ls : List Str) : putM (fs.map mkE) (.inr p) (linesD ls) = (putF fs p ls).map mkE := by
  unfold putM putF
  have e1 : ((fs.map mkE).any fun e => decide (e.1 = .inr p)) = (fs.any fun f => decide (f.1 = p)) := by
    rw [List.any_map]
    congr 1
    funext f
    simp [mkE]
  rw [e1]
  split
  · rw [List.map_map, List.map_map]
    congr 1
    funext f
    simp only [Function.comp, mkE]
    by_cases h : f.1 = p
    · simp [h]
    · have : ¬ (Sum.inr f.1 : Key) = Sum.inr p := fun z => h (Sum.inr.inj z)
      simp [h]
  · rw [List.map_append]; rfl
theorem mem_putF {fs : List File} {p : Str} {ls : List Str} {f : File} (h : f ∈ putF fs p ls) : f = (p, ls) ∨ (f ∈ fs ∧ f.1 ≠ p) := by
  unfold putF at h
  split at h
  · obtain ⟨g, hg, rfl⟩ := List.mem_map.mp h
    by_cases e : g.1 = p
    · rw [if_pos e, e]; exact .inl rfl
    · rw [if_neg e]; exact .inr ⟨hg, e⟩
  · rename_i hn
    rcases List.mem_append.mp h with h | h
    · refine .inr ⟨h, fun e => hn (List.any_eq_true.mpr ⟨f, h, decide_eq_true e⟩)⟩
    · exact .inl (List.mem_singleton.mp h)
theorem len_putF (fs : List File) (p : Str) (ls : List Str) : (putF fs p ls).length ≤ fs.length + 1 := by
  unfold putF
  split
  · rw [List.length_map]; omega
  · rw [List.length_append]; exact Nat.le_refl _
theorem no_self' (p : Str) : Txt.startswith p (p ++ "/") = false := by
  rw [starts_false, TL.tl_append, tl_slash]
  intro h
  have := h.length_le
  simp at this
  omega
theorem Wood.add {ps : List Str} {fs : List File} {p : Str} {ls : List Str} (h : Wood ps fs) (hl : fs.length ≤ 7) (hp : p ∈ ps) (hm : ls.length ≤ 3) (hls : ∀ l ∈ ls, l ∈ LNS) (hap : ∀ f ∈ fs, (Txt.startswith p (f.1 ++ "/") || Txt.startswith f.1 (p ++ "/")) = false) : Wood ps (putF fs p ls) := by
  refine ⟨by have := len_putF fs p ls; omega, fun f hf => ?_, fun f hf => ?_, fun f hf => ?_, fun f hf g hg e => ?_, fun f hf g hg => ?_⟩
  · rcases mem_putF hf with rfl | ⟨h1, _⟩
    · exact hp
    · exact h.path f h1
  · rcases mem_putF hf with rfl | ⟨h1, _⟩
    · exact hm
    · exact h.many f h1
  · rcases mem_putF hf with rfl | ⟨h1, _⟩
    · exact hls
    · exact h.lines f h1
  · rcases mem_putF hf with rfl | ⟨h1, n1⟩
    · rcases mem_putF hg with rfl | ⟨h2, n2⟩
      · rfl
      · exact absurd e.symm n2
    · rcases mem_putF hg with rfl | ⟨h2, n2⟩
      · exact absurd e n1
      · exact h.uniq f h1 g h2 e
  · rcases mem_putF hf with rfl | ⟨h1, n1⟩
    · rcases mem_putF hg with rfl | ⟨h2, n2⟩
      · exact no_self' p
      · have := hap g h2; rw [Bool.or_eq_false_iff] at this; exact this.1
    · rcases mem_putF hg with rfl | ⟨h2, n2⟩
      · have := hap f h1; rw [Bool.or_eq_false_iff] at this; exact this.2
      · exact h.apart f h1 g h2
section
variable {P : Program} {w : World} {K : PySem.W.Frag} {mg : Str → Option Value} {base : Heap}
theorem ok_law_tree (T : Tx K mg) : FnG P w K mg base CX0 3 T.a_law_tree T.d_law_tree ["_law_box_here", "_law_paths_here"] (spB 41 (fun ds => ∃ ps : List Str, ds = [.list (ps.map .str)] ∧ 1 ≤ ps.length ∧ ps.length ≤ 1000 ∧ ∀ p ∈ ps, okQ p) (fun ds d => ∃ (ps : List Str) (fs : List File), ds = [.list (ps.map .str)] ∧ d = encT fs ∧ Wood ps fs)) := by
  have G_law_of := ok_law_of (P := P) (w := w) (base := base) T
  have G_law_take := ok_law_take (P := P) (w := w) (base := base) T
  refine ok_draw T.F_law_tree sc_law_tree (fun ds ⟨ps, e, _⟩ => by rw [e]; rfl) fun cdv A fs s H E hG hr => ⟨_, (pss_cons (ps_set (i := 2) sc_law_tree.nd rfl (.inl rfl) pe_dnewK)
        (pss_cons (ps_for PassesOwn.never rfl (pi_range1 (by rfl) T.m_range (pa_cons (pc_call G_law_take hG (hr.mono (by decide)) (by rfl) T.g_law_take T.F_law_take.kp T.b_law_take .nil pass0 (pa_cons (pv 0) (pa_cons pe_int pa_nil))) pa_nil)) (pg_name (i := 3) sc_law_tree.nd rfl (.inl rfl)) (pss_cons (ps_set (i := 4) sc_law_tree.nd rfl (.inr rfl) (pc_call G_law_of hG (hr.mono (by decide)) (by rfl) T.g_law_of T.F_law_of.kp T.b_law_of .nil pass0 (pa_cons (pv 0) (pa_cons (pv 1) pa_nil))))
        (pss_one (ps_if (pt_not (pt_val (pe_callB (crK_any (K := K) rfl rfl) (by rfl) T.m_any bt_any (pa_cons (pe_lock (pe_lc (own := [("_law_other", 5)]) (g := (gName 5)) (by rfl) sc_law_tree.nd (pi_keys (pv 2)) (blkOk_by (own := [("_law_other", 5)]) (N := N_law_tree) (sc := defScope s_law_tree) (by decide +kernel)) (fun _ _ _ _ _ => (pg_name (i := 5) sc_law_tree.nd rfl (.inl rfl))) (fun _ _ _ _ _ => pts_nil) (fun _ _ _ _ _ => (pe_or (pe_m1 PySem.F.slot_str_startswith PySem.F.type_str_startswith mt_startswith (pv 4) (pe_op op_add_str (pv 5) pe_str)) (pe_one (pe_m1 PySem.F.slot_str_startswith PySem.F.type_str_startswith mt_startswith (pv 5) (pe_op op_add_str (pv 4) pe_str))))))) pa_nil)))) (pss_one (ps_dput (u1 hr) (pv 2) (pv 4) (pe_callTy (callK_tuple (K := K) rfl) (by rfl) T.m_tuple bt_tuple (pa_cons (pe_lc (own := [("_law_spot", 6)]) (g := (gName 6)) (by rfl) sc_law_tree.nd (pi_range1 (by rfl) T.m_range (pa_cons (pc_call G_law_take hG (hr.mono (by decide)) (by rfl) T.g_law_take T.F_law_take.kp T.b_law_take .nil pass0 (pa_cons (pv 0) (pa_cons pe_int pa_nil))) pa_nil)) (blkOk_by (own := [("_law_spot", 6)]) (N := N_law_tree) (sc := defScope s_law_tree) (by decide +kernel)) (fun _ _ _ _ _ => (pg_name (i := 6) sc_law_tree.nd rfl (.inl rfl))) (fun _ _ _ _ _ => pts_nil) (fun _ _ _ _ _ => (pc_call G_law_of hG (hr.mono (by decide)) (by rfl) T.g_law_of T.F_law_of.kp T.b_law_of .nil pass0 (pa_cons (pv 0) (pa_cons (pe_lst (pa_cons pe_str (pa_cons pe_str (pa_cons pe_str (pa_cons pe_str (pa_cons pe_str pa_nil)))))) pa_nil))))) pa_nil)) (by rfl))) pss_nil))))
        (pss_one (ps_ret (pe_callTy (callK_tuple (K := K) rfl) (by rfl) T.m_tuple bt_tuple (pa_cons (pe_callB (crK_sortedT (K := K) rfl (u70 hr)) (by rfl) T.m_sorted bt_sorted (pa_cons (LiI.pe_listItems rfl (pv 2) (by rfl) T.m_list bt_list) pa_nil)) pa_nil)))))), fun b c ds hc ⟨ps, e, hps1, hps2, hpo⟩ => ?_⟩
  subst e
  have hc' : c + 41 ≤ 1000000 := hc
  show Go _ _ [.raw (.ref b), .dat (.list (ps.map .str)), .un, .un, .un, .un, .un] _ _
  refine go_seq (go_map0 ?_)
  show Go _ _ [.raw (.ref b), .dat (.list (ps.map .str)), .map [], .un, .un, .un, .un] _ _
  refine go_seq (go_for (n := 1) (ew_rng1 (P := fun ds => ∃ m : Int, ds = [.int m] ∧ 0 ≤ m ∧ m ≤ 8) (ea_consP (P := fun ds => ∃ m : Int, ds = [.int m] ∧ 0 ≤ m ∧ m ≤ 8) (ev_take (m := 9) rfl ev_int) ea_nil ?_) fun d ⟨m, e, h1, h2⟩ => ⟨m, e, by omega, by omega⟩) (show c + 1 ≤ 1000000 by omega) ?_)
  · rintro x y ⟨i, rfl, h1, h2⟩ rfl
    exact ⟨i, rfl, h1, by omega⟩
  rintro ds ⟨m, ⟨m', e, h1, h2⟩, rfl⟩
  cases e
  refine ⟨fun i Γ' c' => ∃ (fs : List File) (s3 s4 s5 s6 : Sl), Γ' = [.raw (.ref b), .dat (.list (ps.map .str)), .map (fs.map mkE), s3, s4, s5, s6] ∧ Wood ps fs ∧ fs.length ≤ i ∧ c' ≤ c + 1 + 5 * i, ⟨[], _, _, _, _, rfl, ⟨by decide, by simp, by simp, by simp, (fun r hr => by cases hr), (fun r hr => by cases hr)⟩, by decide, by omega⟩, ?_, ?_⟩
  · rintro i x Γ' c' hx ⟨fs, s3, s4, s5, s6, rfl, hW, hlen, hc2⟩
    have hi : i < 8 := by
      have := (List.getElem?_eq_some_iff.mp hx).1
      rw [rngD_len] at this; omega
    refine ⟨_, _, eg_name, ?_⟩
    refine gs_set (n := 1) (ev_ofL (xs := ps.map PyData.str) rfl (ev_var rfl) (by rw [List.length_map]; exact hps1) (by rw [List.length_map]; omega)) (show c' + 1 ≤ 1000000 by omega) fun d hd => ?_
    obtain ⟨p, hp, rfl⟩ := mem_strs hd
    have hpq := hpo p hp
    show Go _ _ [.raw (.ref b), .dat (.list (ps.map .str)), .map (fs.map mkE), .dat x, .dat (.str p), s5, s6] (c' + 1) _
    refine go_if (n := 0) (et_not (et_B (ev_any (bs := fs.map fun f => Txt.startswith p (f.1 ++ "/") || Txt.startswith f.1 (p ++ "/")) (ev_lock (i := 2) rfl fun q od kvs => Ev.is (ev_lcTM (enc := fun f : File => PyData.str f.1) (as := fs) (is := [5]) (EvI.imp (wl_keys rfl).ei fun d e => by rw [← e, List.map_map]; rfl) (Nat.le_trans hW.len (by decide)) (by simp) (fun f => .bool (Txt.startswith p (f.1 ++ "/") || Txt.startswith f.1 (p ++ "/"))) fun f hf => ⟨_, eg_name, ev_orV0 (ev_starts (ev_var rfl) (ev_addS (ev_var rfl) ev_str ?_)) (fun _ => ev_starts (ev_var rfl) (ev_addS (ev_var rfl) ev_str ?_))⟩) (by rw [List.map_map]; rfl))))) (show c' + 1 + 0 ≤ 1000000 by omega) (fun h => ?_) fun h => ?_
    · rw [slash_len]; have := (hpo f.1 (hW.path f hf)).2; omega
    · rw [slash_len]; have := hpq.2; omega
    · have hap : ∀ f ∈ fs, (Txt.startswith p (f.1 ++ "/") || Txt.startswith f.1 (p ++ "/")) = false := fun f hf => by
        have h' : ((fs.map fun f => Txt.startswith p (f.1 ++ "/") || Txt.startswith f.1 (p ++ "/")).any id) = false := by simpa using h
        cases q : (Txt.startswith p (f.1 ++ "/") || Txt.startswith f.1 (p ++ "/")) with
        | false => rfl
        | true =>
          have : ((fs.map fun f => Txt.startswith p (f.1 ++ "/") || Txt.startswith f.1 (p ++ "/")).any id) = true := List.any_eq_true.mpr ⟨true, List.mem_map.mpr ⟨f, hf, q⟩, rfl⟩
          rw [this] at h'; cases h'
      refine go_dput (n1 := 1 + 3 * 1) (n2 := 0) (es := fs.map mkE) (k := .inr p) (P := fun d => ∃ ls : List Str, d = linesD ls ∧ ls.length ≤ 3 ∧ ∀ l ∈ ls, l ∈ LNS) rfl ?_ (ev_var rfl) (by rw [List.length_map]; exact Nat.le_trans hW.len (by decide)) (show c' + 1 + 0 + (1 + 3 * 1 + 0) ≤ 1000000 by omega) fun d hd => ?_
      · refine Ev.imp (ev_tupleO (PL := fun es => ∃ ls : List Str, es = ls.map PyData.str ∧ ls.length ≤ 3 ∧ ∀ l ∈ ls, l ∈ LNS) (EvL.imp (el_dat (ev_lcP (P := fun d => d ∈ LNS.map PyData.str) (m := 3) (k := 1) (is := [6]) (ew_rng1 (P := fun ds => ∃ m : Int, ds = [.int m] ∧ 0 ≤ m ∧ m ≤ 3) (ea_consP (P := fun ds => ∃ m : Int, ds = [.int m] ∧ 0 ≤ m ∧ m ≤ 3) (ev_take (m := 4) rfl ev_int) ea_nil ?_) ?_).i ?_ (by decide) (by simp) fun ds d p hd => ⟨_, eg_name, by exact ev_ofL rfl (Ev.is (by walk_at "ev") rfl) (by decide) (by decide)⟩) ?_) ?_) ?_) ?_
        · rintro x y ⟨i, rfl, h1, h2⟩ rfl
          exact ⟨i, rfl, h1, by omega⟩
        · rintro d ⟨m, e, h1, h2⟩
          exact ⟨m, e, by omega, by omega⟩
        · rintro ds ⟨m, ⟨m', e, h1, h2⟩, rfl⟩
          cases e
          rw [rngD_len]; omega
        · rintro d ⟨es, ds, rfl, _⟩
          exact ⟨es, rfl⟩
        · rintro es ⟨es', ds, e, ⟨m, ⟨m', e2, h1, h2⟩, rfl⟩, hlen, hall⟩
          cases e
          cases e2
          rw [rngD_len] at hlen
          have key : ∀ es : List PyData, (∀ e ∈ es, e ∈ LNS.map PyData.str) → ∃ ls : List Str, es = ls.map PyData.str ∧ ∀ l ∈ ls, l ∈ LNS := by
            intro es
            induction es with
            | nil => exact fun _ => ⟨[], rfl, by simp⟩
            | cons x r ih =>
              intro h
              obtain ⟨ls, e1, e2⟩ := ih fun y hy => h y (List.mem_cons_of_mem _ hy)
              obtain ⟨z, hz, rfl⟩ := mem_strs (h x List.mem_cons_self)
              exact ⟨z :: ls, by rw [e1]; rfl, fun y hy => by
                rcases List.mem_cons.mp hy with q | q
                · rw [q]; exact hz
                · exact e2 y q⟩
          obtain ⟨ls, rfl, hls⟩ := key _ hall
          rw [List.length_map] at hlen
          exact ⟨ls, rfl, by omega, hls⟩
        · rintro es ⟨ls, rfl, h1, _⟩
          rw [List.length_map]; omega
        · rintro d ⟨es, ⟨ls, rfl, h1, h2⟩, rfl⟩
          exact ⟨ls, rfl, h1, h2⟩
      · obtain ⟨ls, rfl, hl1, hl2⟩ := hd
        refine ⟨putF fs p ls, _, _, _, _, by rw [put_mk]; exact rfl, hW.add (by omega) hp hl1 hl2 hap, ?_, ?_⟩
        · have := len_putF fs p ls; omega
        · omega
    · exact go_next ⟨fs, _, _, _, _, rfl, hW, by omega, by omega⟩
  · rintro Γ' c' ⟨fs, s3, s4, s5, s6, rfl, hW, hlen, hc2⟩
    rw [rngD_len] at hc2
    have hit : itemsD (fs.map mkE) = fs.map encF := by unfold itemsD; rw [List.map_map]; rfl
    have hso := sortable (hW.ok hpo) hW.uniq
    refine go_retE (ev_tupleE (el_datE (ev_sortK (key := keyT) (ds := fs.map encF) (el_datE (Ev.is (ev_items (ed_map rfl)) (by rw [hit]))) hso))) (show c' ≤ 1000000 by omega) ?_
    obtain ⟨qs, hq, e⟩ := perm_map (sortK_perm keyT (fs.map encF))
    exact ⟨by omega, ps, qs, rfl, by rw [e]; rfl, hW.perm hq⟩
end
/-! ### places are unlike -/
theorem tl_join {f r : Str} : TL.tl (f ++ "/" ++ r) = TL.tl f ++ 47 :: TL.tl r := by
  rw [TL.tl_append, TL.tl_append, tl_slash, List.append_assoc]; rfl
theorem join_rest {p : Str} {r : Row} (h : fits p r = true) (hne : p ≠ r.1) : p = joinedS r.1 (restS p r.1) := by
  unfold joinedS restS
  by_cases e : r.1 = ""
  · rw [if_pos (beq_iff_eq.mpr e), if_pos (beq_iff_eq.mpr e)]
  · have e' : ¬ (r.1 == ("" : Str)) = true := fun z => e (beq_iff_eq.mp z)
    rw [if_neg e', if_neg e']
    have hs : Txt.startswith p (r.1 ++ "/") = true := by
      unfold fits lbelow at h
      simp only [Bool.or_eq_true, beq_iff_eq] at h
      rcases h with h | h | h
      · exact absurd h.symm hne
      · exact absurd h e
      · exact h
    rw [starts_iff, TL.tl_append, tl_slash] at hs
    obtain ⟨s, hs⟩ := hs
    apply TL.ext_tl
    rw [tl_join]
    have hk : TL.tl (cutS p (some ((r.1.length : Int) + 1)) none) = (TL.tl p).drop (r.1.length + 1) := tl_cut (z := p) (k := r.1.length + 1)
    rw [hk, ← hs]
    have hl : (TL.tl r.1 ++ [47]).length = r.1.length + 1 := by rw [List.length_append, ← TL.len_tl]; rfl
    rw [← hl, List.drop_left, List.append_assoc]
    rfl
theorem joinedS_inj {t a b : Str} (h : joinedS t a = joinedS t b) : a = b := by
  unfold joinedS at h
  split at h
  · exact h
  · have := congrArg TL.tl h
    rw [tl_join, tl_join] at this
    exact TL.ext_tl (List.cons.inj (List.append_cancel_left this)).2
theorem join_ne {t a : Str} (h : t ≠ "") : t ≠ joinedS t a := by
  unfold joinedS
  rw [if_neg fun z => h (beq_iff_eq.mp z)]
  intro e
  have := congrArg (List.length ∘ TL.tl) e
  simp only [Function.comp, tl_join, List.length_append, List.length_cons] at this
  omega
theorem tfits_join (t a : Str) : tfits (joinedS t a) t = true := by
  unfold tfits lbelow joinedS
  by_cases e : t = ""
  · rw [if_pos (beq_iff_eq.mpr e), beq_iff_eq.mpr e]; simp
  · have e' : ¬ (t == ("" : Str)) = true := fun z => e (beq_iff_eq.mp z)
    rw [if_neg e']
    have : Txt.startswith (t ++ "/" ++ a) (t ++ "/") = true := by
      rw [starts_iff, TL.tl_append (t ++ "/")]
      exact List.prefix_append _ _
    rw [this]; simp
theorem place_cases {rs : List Row} {p z : Str} (h : placeS rs p = some z) : ∃ r t, rowOf rs p = some r ∧ r ∈ rs ∧ r.2 = some t ∧ fits p r = true ∧ tfits z t = true ∧ ((p = r.1 ∧ t ≠ "" ∧ z = t) ∨ (p ≠ r.1 ∧ z = joinedS t (restS p r.1))) := by
  unfold placeS at h
  have hi := rowOf_inv rs p
  cases hq : rowOf rs p with
  | none => rw [hq] at h; cases h
  | some r =>
    obtain ⟨f, t⟩ := r
    rw [hq] at h hi
    cases t with
    | none => cases h
    | some t =>
      refine ⟨(f, some t), t, rfl, hi.mem, rfl, hi.fit, ?_⟩
      dsimp only at h
      split at h
      · rename_i hf
        split at h
        · cases h
        · rename_i ht
          cases h
          refine ⟨by unfold tfits; simp, .inl ⟨(beq_iff_eq.mp hf).symm, fun e => ht (beq_iff_eq.mpr e), rfl⟩⟩
      · rename_i hf
        cases h
        exact ⟨tfits_join _ _, .inr ⟨fun e => hf (beq_iff_eq.mpr e.symm), rfl⟩⟩
theorem place_inj {rs : List Row} {p q z : Str} (hu : Uniq rs) (ha : Apart rs) (hp : placeS rs p = some z) (hq : placeS rs q = some z) : p = q := by
  obtain ⟨r, t, _, hr, et, fr, tr, cr⟩ := place_cases hp
  obtain ⟨s, u, _, hs, eu, fs, ts, cs⟩ := place_cases hq
  have e := tfits_one hu ha hr hs et eu tr ts
  subst e
  rw [et] at eu
  cases eu
  rcases cr with ⟨h1, h2, h3⟩ | ⟨h1, h2⟩
  · rcases cs with ⟨k1, k2, k3⟩ | ⟨k1, k2⟩
    · rw [h1, k1]
    · rw [h3] at k2; exact absurd k2 (join_ne h2)
  · rcases cs with ⟨k1, k2, k3⟩ | ⟨k1, k2⟩
    · rw [k3] at h2; exact absurd h2 (join_ne k2)
    · rw [join_rest fr h1, join_rest fs k1, joinedS_inj (h2.symm.trans k2)]
/-! ### what is taken -/
def pairD (rs : List Row) (f : File) : PyData := .tuple [encO (placeS rs f.1), linesD f.2]
def tk (rs : List Row) (fs : List File) : List File := fs.filterMap fun f => (placeS rs f.1).map fun z => (z, f.2)
def outS (rs : List Row) (fs : List File) : List File := fs.filter fun f => isN (encO (placeS rs f.1))
theorem tk_eq (rs : List Row) : ∀ fs : List File, (fs.filter fun f => !isN (encO (placeS rs f.1))).map (pairD rs) = (tk rs fs).map encF
  | [] => rfl
  | f :: fs => by
    have ih := tk_eq rs fs
    unfold tk at ih ⊢
    cases h : placeS rs f.1 with
    | none =>
      rw [List.filter_cons_of_neg (by rw [h]; decide), List.filterMap_cons_none (by rw [h]; rfl)]
      exact ih
    | some z =>
      rw [List.filter_cons_of_pos (by rw [h]; rfl), List.filterMap_cons_some (b := (z, f.2)) (by rw [h]; rfl), List.map_cons, List.map_cons, ih]
      congr 1
      unfold pairD
      rw [h]
      rfl
structure okT (fs : List File) : Prop where
  len : fs.length ≤ 20
  ok : ∀ f ∈ fs, okF f ∧ okP f.1
  uniq : ∀ f ∈ fs, ∀ g ∈ fs, f.1 = g.1 → f = g
theorem tk_mem {rs : List Row} {fs : List File} {g : File} (h : g ∈ tk rs fs) : ∃ f ∈ fs, placeS rs f.1 = some g.1 ∧ g.2 = f.2 := by
  obtain ⟨f, hf, e⟩ := List.mem_filterMap.mp h
  cases hq : placeS rs f.1 with
  | none => rw [hq] at e; cases e
  | some z => rw [hq] at e; cases e; exact ⟨f, hf, hq, rfl⟩
theorem tk_ok {rs : List Row} {fs : List File} (hrs : okRs rs) (h : okT fs) : ∀ g ∈ tk rs fs, okF g := fun g hg => by
  obtain ⟨f, hf, e1, e2⟩ := tk_mem hg
  refine ⟨placeS_ok hrs (h.ok f hf).2 e1, by rw [e2]; exact (h.ok f hf).1.many, by rw [e2]; exact (h.ok f hf).1.lines⟩
theorem tk_uniq {rs : List Row} {fs : List File} (hu : Uniq rs) (ha : Apart rs) (h : okT fs) : ∀ f ∈ tk rs fs, ∀ g ∈ tk rs fs, f.1 = g.1 → f = g := fun f hf g hg e => by
  obtain ⟨f', hf', e1, e2⟩ := tk_mem hf
  obtain ⟨g', hg', k1, k2⟩ := tk_mem hg
  rw [e] at e1
  have := h.uniq f' hf' g' hg' (place_inj hu ha e1 k1)
  subst this
  exact Prod.ext e (e2.trans k2.symm)
def takenD (rs : List Row) (fs : List File) : PyData := .tuple (sortK keyT ((tk rs fs).map encF))
def outD (rs : List Row) (fs : List File) : PyData := encT (outS rs fs)
abbrev preRT : List PyData → Prop := fun ds => ∃ (rs : List Row) (fs : List File), ds = [encRs rs, encT fs] ∧ Drawn rs ∧ okT fs
abbrev postRT (f : List Row → List File → PyData) : List PyData → PyData → Prop := fun ds e => ∃ (rs : List Row) (fs : List File), ds = [encRs rs, encT fs] ∧ e = f rs fs
theorem ev_rt {μ : Mu} {Γ : List Sl} {ta tb : TE} {E : XK} {rs : List Row} {fs : List File} {f : List Row → List File → PyData} (ha : Ev μ ta Γ 0 (Eq (encRs rs))) (hb : Ev μ tb Γ 0 (Eq (encT fs))) (h1 : Drawn rs) (h2 : okT fs) :
    Ev μ (tCall (spP preRT (postRT f)) [] E (tCons ta (tCons tb tNil))) Γ 0 (Eq (f rs fs)) :=
  (ev_callP (ea_cons0 ha (ea_cons0 hb ea_nil)) ⟨rs, fs, rfl, h1, h2⟩).imp fun d ⟨rs', p', e, e2⟩ => by
    simp only [List.cons.injEq, and_true] at e
    rw [e2, encRs_inj e.1, encT_inj e.2]
theorem ev_rtK {μ : Mu} {Γ : List Sl} {ta tb : TE} {E : XK} {rs : List Row} {fs : List File} {f : List Row → List File → PyData} {gV : List V → List V → List V} (hg : ∀ v w, gV [] [v, w] = [w, v]) (hb : Ev μ tb Γ 0 (Eq (encT fs))) (ha : Ev μ ta Γ 0 (Eq (encRs rs))) (h1 : Drawn rs) (h2 : okT fs) :
    Ev μ (tCallK (spP preRT (postRT f)) gV E tNil (tCons tb (tCons ta tNil))) Γ 0 (Eq (f rs fs)) :=
  (ev_callKE (ea_cons0 hb (ea_cons0 ha ea_nil)) (dt2 hg) ⟨rs, fs, rfl, h1, h2⟩).imp fun d ⟨rs', p', e, e2⟩ => by
    simp only [List.cons.injEq, and_true] at e
    rw [e2, encRs_inj e.1, encT_inj e.2]
section
variable {P : Program} {w : World} {K : PySem.W.Frag} {mg : Str → Option Value} {base : Heap}
theorem ok_taken (T : Tx K mg) : FnG P w K mg base CX0 4 T.a_taken T.d_taken ["rows", "tree"] (spP preRT (postRT takenD)) := by
  have G_place := ok_place (P := P) (w := w) (base := base) T
  refine ok_pure T.F_taken sc_taken (fun ds ⟨rs, p, e, _⟩ => by rw [e]; rfl) fun cdv A fs s H E hG hr => ⟨_, (pss_cons (ps_setLc (i := 2) (own := [("path", 3), ("lines", 4)]) (g := (gTup K 2 (gCons (gName 3) (gCons (gName 4) gNil)))) (by rfl) sc_taken.nd rfl rfl (sw_true rfl rfl rfl (by decide +kernel)) (piK_tup (K := K) rfl (pv 1)) (blkOk_by (own := [("path", 3), ("lines", 4)]) (N := N_taken) (sc := defScope s_taken) (by decide +kernel)) (fun _ _ _ _ _ => (pg_tup (by rfl) (pgs_cons (pg_name (i := 3) sc_taken.nd rfl (.inl rfl)) (pgs_cons (pg_name (i := 4) sc_taken.nd rfl (.inl rfl)) pgs_nil)))) (fun _ _ _ _ _ => pts_nil) (fun _ _ _ _ _ => (pe_tup (pa_cons (pc_call G_place hG (hr.mono (by decide)) (by rfl) T.g_place T.F_place.kp T.b_place .nil pass0 (pa_cons (pv 0) (pa_cons (pv 3) pa_nil))) (pa_cons (pv 4) pa_nil)))))
        (pss_one (ps_ret (pe_callTy (callK_tuple (K := K) rfl) (by rfl) T.m_tuple bt_tuple (pa_cons (pe_callB (crK_sortedT (K := K) rfl (u70 hr)) (by rfl) T.m_sorted bt_sorted (pa_cons (pe_lc (own := [("row", 5)]) (g := (gName 5)) (by rfl) sc_taken.nd (piK_list (K := K) rfl (pv 2)) (blkOk_by (own := [("row", 5)]) (N := N_taken) (sc := defScope s_taken) (by decide +kernel)) (fun _ _ _ _ _ => (pg_name (i := 5) sc_taken.nd rfl (.inl rfl))) (fun _ _ _ _ _ => (pts_one (pt_cmp (pc_notN (pe_ix (ixK_seq (K := K) rfl) (pv 5) pe_int (fun _ _ => rfl)))))) (fun _ _ _ _ _ => (pv 5))) pa_nil)) pa_nil))))), fun ds ⟨rs, fs, e, hD, hT⟩ => ?_⟩
  subst e
  have hrs := hD.ok
  show Go _ _ [.dat (encRs rs), .dat (encT fs), .un, .un, .un, .un] _ _
  refine gs_setE (ev_lcTM (enc := encF) (as := fs) (ew_tupE (ev_var rfl)).i (Nat.le_trans hT.len (by decide)) (by simp) (pairD rs) fun f hf => ⟨_, eg_tup (egs_cons eg_name (egs_cons eg_name egs_nil)) rfl, ev_tupE (ea_cons0 (ev_rp (rs := rs) (p := f.1) (ev_var rfl) (ev_var rfl) hrs (hT.ok f hf).2) (ea_cons0 (ev_var rfl) ea_nil)) (Nat.le_of_ble_eq_true rfl)⟩) (by decide) ?_
  refine go_retE (ev_tupleE (el_datE (ev_sortK (key := keyT) (ds := (tk rs fs).map encF) (el_datE (Ev.is (ev_lcT (enc := pairD rs) (as := fs) (is := [5]) (ew_listE (ev_var rfl)).i (Nat.le_trans hT.len (by decide)) (by simp) (fun f => !isN (encO (placeS rs f.1))) (pairD rs) fun f hf => ⟨_, eg_name, et_B (ev_notN (ev_op0 (ev_var rfl) ev_int (rd_ixsT (atI_nat (j := 0) rfl)))), fun _ => ev_var rfl⟩) (by rw [tk_eq]))) (sortable (tk_ok hrs hT) (tk_uniq hD.uniq hD.apart hT))))) (by decide) ⟨rs, fs, rfl, rfl⟩
theorem ok_outside (T : Tx K mg) : FnG P w K mg base CX0 4 T.a_outside T.d_outside ["rows", "tree"] (spP preRT (postRT outD)) := by
  have G_place := ok_place (P := P) (w := w) (base := base) T
  refine ok_pure T.F_outside sc_outside (fun ds ⟨rs, p, e, _⟩ => by rw [e]; rfl) fun cdv A fs s H E hG hr => ⟨_, (pss_one (ps_ret (pe_callTy (callK_tuple (K := K) rfl) (by rfl) T.m_tuple bt_tuple (pa_cons (pe_lc (own := [("row", 2)]) (g := (gName 2)) (by rfl) sc_outside.nd (piK_tup (K := K) rfl (pv 1)) (blkOk_by (own := [("row", 2)]) (N := N_outside) (sc := defScope s_outside) (by decide +kernel)) (fun _ _ _ _ _ => (pg_name (i := 2) sc_outside.nd rfl (.inl rfl))) (fun _ _ _ _ _ => (pts_one (pt_cmp (pc_isN (pc_call G_place hG (hr.mono (by decide)) (by rfl) T.g_place T.F_place.kp T.b_place .nil pass0 (pa_cons (pv 0) (pa_cons (pe_ix (ixK_seq (K := K) rfl) (pv 2) pe_int (fun _ _ => rfl)) pa_nil))))))) (fun _ _ _ _ _ => (pv 2))) pa_nil)))), fun ds ⟨rs, fs, e, hD, hT⟩ => ?_⟩
  subst e
  have hrs := hD.ok
  show Go _ _ [.dat (encRs rs), .dat (encT fs), .un] _ _
  refine go_retE (ev_tupleE (el_datE (ev_lcT (enc := encF) (as := fs) (is := [2]) (ew_tupE (ev_var rfl)).i (Nat.le_trans hT.len (by decide)) (by simp) (fun f => isN (encO (placeS rs f.1))) encF fun f hf => ⟨_, eg_name, et_B (ev_isN (ev_rp (rs := rs) (p := f.1) (ev_var rfl) (ev_op0 (ev_var rfl) ev_int (rd_ixsT (atI_nat (j := 0) rfl))) hrs (hT.ok f hf).2)), fun _ => ev_var rfl⟩))) (by decide) ⟨rs, fs, rfl, rfl⟩
end
section
variable {P : Program} {w : World} {K : PySem.W.Frag} {mg : Str → Option Value} {base : Heap}
theorem ok_law_taken (T : Tx K mg) : FnG P w K mg base CX0 3 T.a_law_taken T.d_law_taken ["_law_given", "_law_wood"] (spP preRT (postRT takenD)) := by
  have G_law_place := ok_law_place (P := P) (w := w) (base := base) T
  refine ok_pure T.F_law_taken sc_law_taken (fun ds ⟨rs, p, e, _⟩ => by rw [e]; rfl) fun cdv A fs s H E hG hr => ⟨_, (pss_cons (ps_setLc (i := 2) (own := [("_law_path", 3), ("_law_lines", 4)]) (g := (gTup K 2 (gCons (gName 3) (gCons (gName 4) gNil)))) (by rfl) sc_law_taken.nd rfl rfl (sw_true rfl rfl rfl (by decide +kernel)) (piK_tup (K := K) rfl (pv 1)) (blkOk_by (own := [("_law_path", 3), ("_law_lines", 4)]) (N := N_law_taken) (sc := defScope s_law_taken) (by decide +kernel)) (fun _ _ _ _ _ => (pg_tup (by rfl) (pgs_cons (pg_name (i := 3) sc_law_taken.nd rfl (.inl rfl)) (pgs_cons (pg_name (i := 4) sc_law_taken.nd rfl (.inl rfl)) pgs_nil)))) (fun _ _ _ _ _ => pts_nil) (fun _ _ _ _ _ => (pe_tup (pa_cons (pc_call G_law_place hG (hr.mono (by decide)) (by rfl) T.g_law_place T.F_law_place.kp T.b_law_place .nil pass0 (pa_cons (pv 0) (pa_cons (pv 3) pa_nil))) (pa_cons (pv 4) pa_nil)))))
        (pss_one (ps_ret (pe_callTy (callK_tuple (K := K) rfl) (by rfl) T.m_tuple bt_tuple (pa_cons (pe_callB (crK_sortedT (K := K) rfl (u70 hr)) (by rfl) T.m_sorted bt_sorted (pa_cons (pe_lc (own := [("_law_path", 3), ("_law_lines", 4)]) (g := (gTup K 2 (gCons (gName 3) (gCons (gName 4) gNil)))) (by rfl) sc_law_taken.nd (piK_list (K := K) rfl (pv 2)) (blkOk_by (own := [("_law_path", 3), ("_law_lines", 4)]) (N := N_law_taken) (sc := defScope s_law_taken) (by decide +kernel)) (fun _ _ _ _ _ => (pg_tup (by rfl) (pgs_cons (pg_name (i := 3) sc_law_taken.nd rfl (.inl rfl)) (pgs_cons (pg_name (i := 4) sc_law_taken.nd rfl (.inl rfl)) pgs_nil)))) (fun _ _ _ _ _ => (pts_one (pt_cmp (pc_notN (pv 3))))) (fun _ _ _ _ _ => (pe_tup (pa_cons (pv 3) (pa_cons (pv 4) pa_nil))))) pa_nil)) pa_nil))))), fun ds ⟨rs, fs, e, hD, hT⟩ => ?_⟩
  subst e
  have hrs := hD.ok
  show Go _ _ [.dat (encRs rs), .dat (encT fs), .un, .un, .un] _ _
  refine gs_setE (ev_lcTM (enc := encF) (as := fs) (ew_tupE (ev_var rfl)).i (Nat.le_trans hT.len (by decide)) (by simp) (pairD rs) fun f hf => ⟨_, eg_tup (egs_cons eg_name (egs_cons eg_name egs_nil)) rfl, ev_tupE (ea_cons0 (ev_lp (rs := rs) (p := f.1) (ev_var rfl) (ev_var rfl) hrs (hT.ok f hf).2 hD.uniq) (ea_cons0 (ev_var rfl) ea_nil)) (Nat.le_of_ble_eq_true rfl)⟩) (by decide) ?_
  refine go_retE (ev_tupleE (el_datE (ev_sortK (key := keyT) (ds := (tk rs fs).map encF) (el_datE (Ev.is (ev_lcT (enc := pairD rs) (as := fs) (ew_listE (ev_var rfl)).i (Nat.le_trans hT.len (by decide)) (by simp) (fun f => !isN (encO (placeS rs f.1))) (pairD rs) fun f hf => ⟨_, eg_tup (egs_cons eg_name (egs_cons eg_name egs_nil)) rfl, et_B (ev_notN (ev_var rfl)), fun _ => ev_tupE (ea_cons0 (ev_var rfl) (ea_cons0 (ev_var rfl) ea_nil)) (Nat.le_of_ble_eq_true rfl)⟩) (by rw [tk_eq]))) (sortable (tk_ok hrs hT) (tk_uniq hD.uniq hD.apart hT))))) (by decide) ⟨rs, fs, rfl, rfl⟩
theorem ok_law_outside (T : Tx K mg) : FnG P w K mg base CX0 3 T.a_law_outside T.d_law_outside ["_law_given", "_law_wood"] (spP preRT (postRT outD)) := by
  have G_law_place := ok_law_place (P := P) (w := w) (base := base) T
  refine ok_pure T.F_law_outside sc_law_outside (fun ds ⟨rs, p, e, _⟩ => by rw [e]; rfl) fun cdv A fs s H E hG hr => ⟨_, (pss_one (ps_ret (pe_callTy (callK_tuple (K := K) rfl) (by rfl) T.m_tuple bt_tuple (pa_cons (pe_lc (own := [("_law_path", 2), ("_law_lines", 3)]) (g := (gTup K 2 (gCons (gName 2) (gCons (gName 3) gNil)))) (by rfl) sc_law_outside.nd (piK_tup (K := K) rfl (pv 1)) (blkOk_by (own := [("_law_path", 2), ("_law_lines", 3)]) (N := N_law_outside) (sc := defScope s_law_outside) (by decide +kernel)) (fun _ _ _ _ _ => (pg_tup (by rfl) (pgs_cons (pg_name (i := 2) sc_law_outside.nd rfl (.inl rfl)) (pgs_cons (pg_name (i := 3) sc_law_outside.nd rfl (.inl rfl)) pgs_nil)))) (fun _ _ _ _ _ => (pts_one (pt_cmp (pc_isN (pc_call G_law_place hG (hr.mono (by decide)) (by rfl) T.g_law_place T.F_law_place.kp T.b_law_place .nil pass0 (pa_cons (pv 0) (pa_cons (pv 2) pa_nil))))))) (fun _ _ _ _ _ => (pe_tup (pa_cons (pv 2) (pa_cons (pv 3) pa_nil))))) pa_nil)))), fun ds ⟨rs, fs, e, hD, hT⟩ => ?_⟩
  subst e
  have hrs := hD.ok
  show Go _ _ [.dat (encRs rs), .dat (encT fs), .un, .un] _ _
  refine go_retE (ev_tupleE (el_datE (ev_lcT (enc := encF) (as := fs) (ew_tupE (ev_var rfl)).i (Nat.le_trans hT.len (by decide)) (by simp) (fun f => isN (encO (placeS rs f.1))) encF fun f hf => ⟨_, eg_tup (egs_cons eg_name (egs_cons eg_name egs_nil)) rfl, et_B (ev_isN (ev_lp (rs := rs) (p := f.1) (ev_var rfl) (ev_var rfl) hrs (hT.ok f hf).2 hD.uniq)), fun _ => ev_tupE (ea_cons0 (ev_var rfl) (ea_cons0 (ev_var rfl) ea_nil)) (Nat.le_of_ble_eq_true rfl)⟩))) (by decide) ⟨rs, fs, rfl, rfl⟩
theorem rp_lines {ls : List Str} (hm : ls.length ≤ 3) (h : ∀ l ∈ ls, PyData.strOk l = true ∧ l.length ≤ 100) : Rp 1 4000 (linesD ls) :=
  (rp_tup (m := 0) (n := 1002) (k := 3) (fun d hd => by
    obtain ⟨l, hl, rfl⟩ := List.mem_map.mp hd
    exact rp_str (L := 100) (h l hl).1 (h l hl).2) (by rw [List.length_map]; exact hm)).mono (Nat.le_refl _) (by decide)
theorem rp_file {f : File} (h : okF f) : Rp 2 20000 (encF f) :=
  (rp_tup (m := 1) (n := 6000) (k := 2) (fun d hd => by
    simp only [List.mem_cons, List.not_mem_nil, or_false] at hd
    rcases hd with rfl | rfl
    · exact (rp_str (L := 501) h.path.1 h.path.2).mono (by decide) (by decide)
    · exact (rp_lines h.many h.lines).mono (Nat.le_refl _) (by decide)) (Nat.le_of_ble_eq_true rfl)).mono (Nat.le_refl _) (by decide)
theorem rp_tree {fs : List File} {ds : List PyData} (h : ∀ f ∈ fs, okF f) (hl : fs.length ≤ 20) (hd : ds.Perm (fs.map encF)) : Rp 3 500000 (.tuple ds) :=
  (rp_tup (m := 2) (n := 20000) (k := 20) (fun d hd' => by
    obtain ⟨f, hf, rfl⟩ := List.mem_map.mp (hd.mem_iff.mp hd')
    exact rp_file (h f hf)) (by rw [hd.length_eq, List.length_map]; exact hl)).mono (Nat.le_refl _) (by decide)
theorem rp_rows {rs : List Row} (h : Drawn rs) : Rp 3 500000 (encRs rs) :=
  (rp_tup (m := 1) (n := 3000) (k := 5) (fun d hd => by
    obtain ⟨r, hr, rfl⟩ := List.mem_map.mp hd
    refine (rp_tup (m := 0) (n := 1004) (k := 2) (fun d hd => ?_) (Nat.le_of_ble_eq_true rfl)).mono (Nat.le_refl _) (by decide)
    have hok := h.ok.2 r hr
    simp only [List.mem_cons, List.not_mem_nil, or_false] at hd
    rcases hd with rfl | rfl
    · exact (rp_str (L := 100) hok.1.1 hok.1.2).mono (Nat.le_refl _) (by decide)
    · refine rp_O (n := 100) fun z hz => ?_
      have := hok.2
      rw [hz] at this
      exact this) (by rw [List.length_map]; exact h.len)).mono (by decide) (by decide)
theorem Wood.okT {fs : List File} (h : Wood PATHS fs) : okT fs :=
  ⟨Nat.le_trans h.len (by decide), fun f hf => ⟨h.ok (fun p hp => let z := (paths_ok p hp).1; ⟨z.1, Nat.le_trans z.2 (by decide)⟩) f hf, okP_of (paths_ok _ (h.path f hf)).1⟩, h.uniq⟩
theorem ok_law_right (T : Tx K mg) : FnG P w K mg base CX0 5 T.a_law_right T.d_law_right ["_law_box_here"] (spB 52 (fun ds => ds = []) (fun _ d => d = .bool true)) := by
  have G_law_rows_drawn := ok_law_rows_drawn (P := P) (w := w) (base := base) T
  have G_law_paths := ok_law_paths (P := P) (w := w) (base := base) T
  have G_law_tree := ok_law_tree (P := P) (w := w) (base := base) T
  have G_law_taken := ok_law_taken (P := P) (w := w) (base := base) T
  have G_law_outside := ok_law_outside (P := P) (w := w) (base := base) T
  have G_taken := ok_taken (P := P) (w := w) (base := base) T
  have G_outside := ok_outside (P := P) (w := w) (base := base) T
  refine ok_draw T.F_law_right sc_law_right (fun ds e => by rw [e]; rfl) fun cdv A fs s H E hG hr => ⟨_, (pss_cons (ps_set (i := 1) sc_law_right.nd rfl (.inl rfl) (pc_call G_law_rows_drawn hG (hr.mono (by decide)) (by rfl) T.g_law_rows_drawn T.F_law_rows_drawn.kp T.b_law_rows_drawn .nil pass0 (pa_cons (pv 0) pa_nil)))
        (pss_cons (ps_set (i := 2) sc_law_right.nd rfl (.inl rfl) (pc_call G_law_tree hG (hr.mono (by decide)) (by rfl) T.g_law_tree T.F_law_tree.kp T.b_law_tree .nil pass0 (pa_cons (pv 0) (pa_cons (pc_call0 G_law_paths hG (hr.mono (by decide)) (by rfl) T.g_law_paths T.F_law_paths.kp T.b_law_paths .nil pass0) pa_nil))))
        (pss_cons (ps_par (i := 3) (j := 4) (by rfl) sc_law_right.nd rfl rfl (by decide) rfl rfl (pa_cons (pe_callB (call_reprD hG (u70 hr)) (by rfl) T.m_repr bt_repr (pa_cons (pe_tup (pa_cons (pv 1) (pa_cons (pv 2) pa_nil))) pa_nil)) (pa_cons (pe_lst (pa_cons (pc_call G_law_taken hG (hr.mono (by decide)) (by rfl) T.g_law_taken T.F_law_taken.kp T.b_law_taken .nil pass0 (pa_cons (pv 1) (pa_cons (pv 2) pa_nil))) (pa_cons (pc_call G_law_outside hG (hr.mono (by decide)) (by rfl) T.g_law_outside T.F_law_outside.kp T.b_law_outside .nil pass0 (pa_cons (pv 1) (pa_cons (pv 2) pa_nil))) pa_nil))) pa_nil)) (by rfl))
        (pss_cons (ps_set (i := 5) sc_law_right.nd rfl (.inl rfl) (pe_lst (pa_cons (pc_call G_taken hG (hr.mono (by decide)) (by rfl) T.g_taken T.F_taken.kp T.b_taken .nil pass0 (pa_cons (pv 1) (pa_cons (pv 2) pa_nil))) (pa_cons (pc_call G_outside hG (hr.mono (by decide)) (by rfl) T.g_outside T.F_outside.kp T.b_outside .nil pass0 (pa_cons (pv 1) (pa_cons (pv 2) pa_nil))) pa_nil))))
        (pss_cons (ps_set (i := 6) sc_law_right.nd rfl (.inl rfl) (pe_lst (pa_cons (pc_callK0 G_taken hG (hr.mono (by decide)) (by rfl) T.g_taken T.F_taken.kp (k_taken_0_tree_rows T.F_taken) pass0 (pk_cons (pv 2) (pk_cons (pv 1) pk_nil))) (pa_cons (pc_callK0 G_outside hG (hr.mono (by decide)) (by rfl) T.g_outside T.F_outside.kp (k_outside_0_tree_rows T.F_outside) pass0 (pk_cons (pv 2) (pk_cons (pv 1) pk_nil))) pa_nil))))
        (pss_one (ps_ret (pe_and (pe_cmpR op_eq (pe_callB (call_reprD hG (u70 hr)) (by rfl) T.m_repr bt_repr (pa_cons (pv 5) pa_nil)) (pe_callB (call_reprD hG (u70 hr)) (by rfl) T.m_repr bt_repr (pa_cons (pv 4) pa_nil)) (nomark _)) (pe_and (pe_cmpR op_eq (pe_callB (call_reprD hG (u70 hr)) (by rfl) T.m_repr bt_repr (pa_cons (pv 6) pa_nil)) (pe_callB (call_reprD hG (u70 hr)) (by rfl) T.m_repr bt_repr (pa_cons (pv 4) pa_nil)) (nomark _)) (pe_one (pe_cmpR op_eq (pe_callB (call_reprD hG (u70 hr)) (by rfl) T.m_repr bt_repr (pa_cons (pe_tup (pa_cons (pv 1) (pa_cons (pv 2) pa_nil))) pa_nil)) (pv 3) (nomark _)))))))))))), fun b c ds hc e => ?_⟩
  subst e
  have hc' : c + 52 ≤ 1000000 := hc
  show Go _ _ [.raw (.ref b), .un, .un, .un, .un, .un, .un] _ _
  refine gs_set (n := 11) (ev_callB1 rfl rfl) (show c + 11 ≤ 1000000 by omega) fun d hd => ?_
  obtain ⟨rs, rfl, hD⟩ := hd
  have hrs := hD.ok
  refine gs_set (n := 0 + 41) (P := fun d => ∃ fs, d = encT fs ∧ Wood PATHS fs) (Ev.imp (ev_callB (n := 0) (P := Eq [.list (PATHS.map .str)]) rfl (ea_cons0 (Ev.imp (P1 := fun e => e = .list (PATHS.map .str)) (ev_callP (pre := fun ds => ds = []) ea_nil rfl) fun d e => e.symm) ea_nil) fun xs e => ⟨PATHS, e.symm, by decide, by decide, fun p hp => let z := (paths_ok p hp).1; ⟨z.1, Nat.le_trans z.2 (by decide)⟩⟩) ?_) (show c + 11 + (0 + 41) ≤ 1000000 by omega) fun d hd => ?_
  · rintro d ⟨xs, rfl, ps, fs, e, rfl, hW⟩
    have : ps = PATHS := by
      simp only [List.cons.injEq, PyData.list.injEq, and_true] at e
      exact (map_inj' (fun _ _ e => PyData.str.inj e) e).symm
    subst this
    exact ⟨fs, rfl, hW⟩
  obtain ⟨fs, rfl, hW⟩ := hd
  have hT := hW.okT
  have hr1 : Rp 4 2000000 (.tuple [encRs rs, encT fs]) := (rp_tup (m := 3) (n := 500000) (k := 2) (fun d hd => by
    simp only [List.mem_cons, List.not_mem_nil, or_false] at hd
    rcases hd with rfl | rfl
    · exact rp_rows hD
    · exact rp_tree (fun f hf => (hT.ok f hf).1) hT.len (List.Perm.refl _)) (Nat.le_of_ble_eq_true rfl)).mono (Nat.le_refl _) (by decide)
  have hr2 : Rp 4 2000000 (.list [takenD rs fs, outD rs fs]) := (rp_lst (m := 3) (n := 500000) (k := 2) (fun d hd => by
    simp only [List.mem_cons, List.not_mem_nil, or_false] at hd
    rcases hd with rfl | rfl
    · exact rp_tree (tk_ok hrs hT) (Nat.le_trans (List.length_filterMap_le _ _) hT.len) (sortK_perm _ _)
    · exact rp_tree (fs := outS rs fs) (fun f hf => (hT.ok f ((List.mem_filter.mp hf).1)).1) (Nat.le_trans (List.length_filter_le _ _) hT.len) (List.Perm.refl _)) (Nat.le_of_ble_eq_true rfl)).mono (Nat.le_refl _) (by decide)
  generalize hC : c + 11 + (0 + 41) = C
  have hC2 : C ≤ c + 52 := by omega
  have hC3 : C ≤ 1000000 := by omega
  show Go _ _ [.raw (.ref b), .dat (encRs rs), .dat (encT fs), .un, .un, .un, .un] C _
  refine go_seq (go_par (n := 0) (P := Eq [.str (PyData.tuple [encRs rs, encT fs]).shown, .list [takenD rs fs, outD rs fs]]) (ea_cons0 (ev_reprR (ev_tupE (ea_cons0 (ev_var rfl) (ea_cons0 (ev_var rfl) ea_nil)) (Nat.le_of_ble_eq_true rfl)) hr1) (ea_cons0 (ev_lstE (ea_cons0 (ev_rt (rs := rs) (fs := fs) (ev_var rfl) (ev_var rfl) hD hT) (ea_cons0 (ev_rt (rs := rs) (fs := fs) (ev_var rfl) (ev_var rfl) hD hT) ea_nil)) (Nat.le_of_ble_eq_true rfl)) ea_nil)) hC3 (fun xs e => by rw [← e]; rfl) fun x y e => ?_)
  cases e
  refine gs_setE (ev_lstE (ea_cons0 (ev_rt (rs := rs) (fs := fs) (ev_var rfl) (ev_var rfl) hD hT) (ea_cons0 (ev_rt (rs := rs) (fs := fs) (ev_var rfl) (ev_var rfl) hD hT) ea_nil)) (Nat.le_of_ble_eq_true rfl)) hC3 ?_
  refine gs_setE (ev_lstE (ea_cons0 (ev_rtK (rs := rs) (fs := fs) (fun _ _ => rfl) (ev_var rfl) (ev_var rfl) hD hT) (ea_cons0 (ev_rtK (rs := rs) (fs := fs) (fun _ _ => rfl) (ev_var rfl) (ev_var rfl) hD hT) ea_nil)) (Nat.le_of_ble_eq_true rfl)) hC3 ?_
  refine go_retE (d := .bool true) (Ev.is (ev_andV0 (ev_op0 (ev_reprR (ev_var rfl) hr2) (ev_reprR (ev_var rfl) hr2) rd_eqS) (fun _ => ev_andV0 (ev_op0 (ev_reprR (ev_var rfl) hr2) (ev_reprR (ev_var rfl) hr2) rd_eqS) (fun _ => ev_op0 (ev_reprR (ev_tupE (ea_cons0 (ev_var rfl) (ea_cons0 (ev_var rfl) ea_nil)) (Nat.le_of_ble_eq_true rfl)) hr1) (ev_var rfl) rd_eqS))) ?_) hC3 ⟨by omega, rfl⟩
  simp
theorem ok_law (T : Tx K mg) : FnG P w K mg base CX0 6 T.a_law T.d_law ["_law_script"] (spLaw K) := by
  have G_law_box := ok_law_box (P := P) (w := w) (base := base) T
  have G_law_right := ok_law_right (P := P) (w := w) (base := base) T
  refine Fun.okN T.F_law sc_law (fun vs H Q E ⟨a, ns, e, _⟩ => by rw [e]; rfl) fun cdv A fs s H vs Q E hG hr ⟨a, ns, e, hS, hl, q⟩ => ?_
  subst e
  refine ⟨_, (pss_cons (ps_for PassesOwn.never rfl (pi_range1 (by rfl) T.m_range (pa_cons (pe_callB (call_max2 rfl) (by rfl) T.m_max bt_max (pa_cons pe_int (pa_cons (pe_callB (call_min2 rfl) (by rfl) T.m_min bt_min (pa_cons pe_int (pa_cons (pe_callB (callK_len (K := K) rfl) (by rfl) T.m_len bt_len (pa_cons (pv 0) pa_nil)) pa_nil))) pa_nil))) pa_nil)) (pg_name (i := 1) sc_law.nd rfl (.inl rfl)) (pss_cons (ps_set (i := 2) sc_law.nd rfl (.inl rfl) (pc_call G_law_box hG (hr.mono (by decide)) (by rfl) T.g_law_box T.F_law_box.kp T.b_law_box .nil pass0 (pa_cons (pv 0) (pa_cons (pv 1) pa_nil))))
        (pss_one (ps_for PassesOwn.never rfl (pi_range1 (by rfl) T.m_range (pa_cons pe_int pa_nil)) (pg_name (i := 3) sc_law.nd rfl (.inl rfl)) (pss_one (ps_if (pt_not (pt_val (pc_call G_law_right hG (hr.mono (by decide)) (by rfl) T.g_law_right T.F_law_right.kp T.b_law_right .nil pass0 (pa_cons (pv 2) pa_nil)))) (pss_one (ps_ret pe_bl)) pss_nil))))))
        (pss_one (ps_ret pe_bl))), ?_⟩
  refine st_seq (law_for (by decide) (by decide) hS (fun σ' => ∃ y1 y2 y3, σ' = [some (.ref a), y1, y2, y3]) ⟨_, _, _, rfl⟩ (fun k s' H' hk ⟨y1, y2, y3, e⟩ sm => ?_) fun s' H' ⟨y1, y2, y3, e⟩ sm => q H')
  cases e
  exact law_bodyC (m := 12) (n := 52) (by omega) (sm.seq hS) hl (by decide) (by decide) fun y1 y2 y3 H2 sm2 => ⟨⟨_, rfl, _, _, _, rfl⟩, sm.trans sm2⟩
end
theorem tx_mk {K : PySem.W.Frag} {h : Heap} {mg : Str → Option Value} (X : K.In h) (G : h.Ns mainGlobals mg)
    (z_abs : PySem.W.nsIn K mainGlobals "abs" = some none)
    (z_any : PySem.W.nsIn K mainGlobals "any" = some none)
    (z_int : PySem.W.nsIn K mainGlobals "int" = some none)
    (z_len : PySem.W.nsIn K mainGlobals "len" = some none)
    (z_list : PySem.W.nsIn K mainGlobals "list" = some none)
    (z_max : PySem.W.nsIn K mainGlobals "max" = some none)
    (z_min : PySem.W.nsIn K mainGlobals "min" = some none)
    (z_range : PySem.W.nsIn K mainGlobals "range" = some none)
    (z_repr : PySem.W.nsIn K mainGlobals "repr" = some none)
    (z_sorted : PySem.W.nsIn K mainGlobals "sorted" = some none)
    (z_tuple : PySem.W.nsIn K mainGlobals "tuple" = some none)
    {t_SLASH : Tok} (z_SLASH : PySem.W.nsIn K mainGlobals "SLASH" = some (some (.str "/" t_SLASH)))
    {f_lies_below : Addr} {od_lies_below an_lies_below : Option Addr} {sl_lies_below : Array (Option Value)} {oc_lies_below kV_lies_below dc_lies_below pm_lies_below cd_lies_below ct_lies_below : Value} (a_lies_below : PySem.W.nsIn K mainGlobals "lies_below" = some (some (.ref f_lies_below)))
    (l_lies_below : K.lookup f_lies_below = some ⟨oc_lies_below, od_lies_below, .func (PySem.W.fnOf "lies_below" "lies_below" (defArgs s_lies_below) (defBody s_lies_below) (defScope s_lies_below) .none kV_lies_below dc_lies_below pm_lies_below an_lies_below cd_lies_below ct_lies_below), sl_lies_below⟩) (c_lies_below : PySem.W.codeIn K cd_lies_below "lies_below" = true) (k_lies_below : PySem.W.keepIn K (.ref f_lies_below) = true)
    {f_joined : Addr} {od_joined an_joined : Option Addr} {sl_joined : Array (Option Value)} {oc_joined kV_joined dc_joined pm_joined cd_joined ct_joined : Value} (a_joined : PySem.W.nsIn K mainGlobals "joined" = some (some (.ref f_joined)))
    (l_joined : K.lookup f_joined = some ⟨oc_joined, od_joined, .func (PySem.W.fnOf "joined" "joined" (defArgs s_joined) (defBody s_joined) (defScope s_joined) .none kV_joined dc_joined pm_joined an_joined cd_joined ct_joined), sl_joined⟩) (c_joined : PySem.W.codeIn K cd_joined "joined" = true) (k_joined : PySem.W.keepIn K (.ref f_joined) = true)
    {f_rest_of : Addr} {od_rest_of an_rest_of : Option Addr} {sl_rest_of : Array (Option Value)} {oc_rest_of kV_rest_of dc_rest_of pm_rest_of cd_rest_of ct_rest_of : Value} (a_rest_of : PySem.W.nsIn K mainGlobals "rest_of" = some (some (.ref f_rest_of)))
    (l_rest_of : K.lookup f_rest_of = some ⟨oc_rest_of, od_rest_of, .func (PySem.W.fnOf "rest_of" "rest_of" (defArgs s_rest_of) (defBody s_rest_of) (defScope s_rest_of) .none kV_rest_of dc_rest_of pm_rest_of an_rest_of cd_rest_of ct_rest_of), sl_rest_of⟩) (c_rest_of : PySem.W.codeIn K cd_rest_of "rest_of" = true) (k_rest_of : PySem.W.keepIn K (.ref f_rest_of) = true)
    {f_row_of : Addr} {od_row_of an_row_of : Option Addr} {sl_row_of : Array (Option Value)} {oc_row_of kV_row_of dc_row_of pm_row_of cd_row_of ct_row_of : Value} (a_row_of : PySem.W.nsIn K mainGlobals "row_of" = some (some (.ref f_row_of)))
    (l_row_of : K.lookup f_row_of = some ⟨oc_row_of, od_row_of, .func (PySem.W.fnOf "row_of" "row_of" (defArgs s_row_of) (defBody s_row_of) (defScope s_row_of) .none kV_row_of dc_row_of pm_row_of an_row_of cd_row_of ct_row_of), sl_row_of⟩) (c_row_of : PySem.W.codeIn K cd_row_of "row_of" = true) (k_row_of : PySem.W.keepIn K (.ref f_row_of) = true)
    {f_place : Addr} {od_place an_place : Option Addr} {sl_place : Array (Option Value)} {oc_place kV_place dc_place pm_place cd_place ct_place : Value} (a_place : PySem.W.nsIn K mainGlobals "place" = some (some (.ref f_place)))
    (l_place : K.lookup f_place = some ⟨oc_place, od_place, .func (PySem.W.fnOf "place" "place" (defArgs s_place) (defBody s_place) (defScope s_place) .none kV_place dc_place pm_place an_place cd_place ct_place), sl_place⟩) (c_place : PySem.W.codeIn K cd_place "place" = true) (k_place : PySem.W.keepIn K (.ref f_place) = true)
    {f_taken : Addr} {od_taken an_taken : Option Addr} {sl_taken : Array (Option Value)} {oc_taken kV_taken dc_taken pm_taken cd_taken ct_taken : Value} (a_taken : PySem.W.nsIn K mainGlobals "taken" = some (some (.ref f_taken)))
    (l_taken : K.lookup f_taken = some ⟨oc_taken, od_taken, .func (PySem.W.fnOf "taken" "taken" (defArgs s_taken) (defBody s_taken) (defScope s_taken) .none kV_taken dc_taken pm_taken an_taken cd_taken ct_taken), sl_taken⟩) (c_taken : PySem.W.codeIn K cd_taken "taken" = true) (k_taken : PySem.W.keepIn K (.ref f_taken) = true)
    {f_outside : Addr} {od_outside an_outside : Option Addr} {sl_outside : Array (Option Value)} {oc_outside kV_outside dc_outside pm_outside cd_outside ct_outside : Value} (a_outside : PySem.W.nsIn K mainGlobals "outside" = some (some (.ref f_outside)))
    (l_outside : K.lookup f_outside = some ⟨oc_outside, od_outside, .func (PySem.W.fnOf "outside" "outside" (defArgs s_outside) (defBody s_outside) (defScope s_outside) .none kV_outside dc_outside pm_outside an_outside cd_outside ct_outside), sl_outside⟩) (c_outside : PySem.W.codeIn K cd_outside "outside" = true) (k_outside : PySem.W.keepIn K (.ref f_outside) = true)
    {f_law_box : Addr} {od_law_box an_law_box : Option Addr} {sl_law_box : Array (Option Value)} {oc_law_box kV_law_box dc_law_box pm_law_box cd_law_box ct_law_box : Value} (a_law_box : PySem.W.nsIn K mainGlobals "_law_box" = some (some (.ref f_law_box)))
    (l_law_box : K.lookup f_law_box = some ⟨oc_law_box, od_law_box, .func (PySem.W.fnOf "_law_box" "_law_box" (defArgs s_law_box) (defBody s_law_box) (defScope s_law_box) .none kV_law_box dc_law_box pm_law_box an_law_box cd_law_box ct_law_box), sl_law_box⟩) (c_law_box : PySem.W.codeIn K cd_law_box "_law_box" = true) (k_law_box : PySem.W.keepIn K (.ref f_law_box) = true)
    {f_law_take : Addr} {od_law_take an_law_take : Option Addr} {sl_law_take : Array (Option Value)} {oc_law_take kV_law_take dc_law_take pm_law_take cd_law_take ct_law_take : Value} (a_law_take : PySem.W.nsIn K mainGlobals "_law_take" = some (some (.ref f_law_take)))
    (l_law_take : K.lookup f_law_take = some ⟨oc_law_take, od_law_take, .func (PySem.W.fnOf "_law_take" "_law_take" (defArgs s_law_take) (defBody s_law_take) (defScope s_law_take) .none kV_law_take dc_law_take pm_law_take an_law_take cd_law_take ct_law_take), sl_law_take⟩) (c_law_take : PySem.W.codeIn K cd_law_take "_law_take" = true) (k_law_take : PySem.W.keepIn K (.ref f_law_take) = true)
    {f_law_of : Addr} {od_law_of an_law_of : Option Addr} {sl_law_of : Array (Option Value)} {oc_law_of kV_law_of dc_law_of pm_law_of cd_law_of ct_law_of : Value} (a_law_of : PySem.W.nsIn K mainGlobals "_law_of" = some (some (.ref f_law_of)))
    (l_law_of : K.lookup f_law_of = some ⟨oc_law_of, od_law_of, .func (PySem.W.fnOf "_law_of" "_law_of" (defArgs s_law_of) (defBody s_law_of) (defScope s_law_of) .none kV_law_of dc_law_of pm_law_of an_law_of cd_law_of ct_law_of), sl_law_of⟩) (c_law_of : PySem.W.codeIn K cd_law_of "_law_of" = true) (k_law_of : PySem.W.keepIn K (.ref f_law_of) = true)
    {f_law_row : Addr} {od_law_row an_law_row : Option Addr} {sl_law_row : Array (Option Value)} {oc_law_row kV_law_row dc_law_row pm_law_row cd_law_row ct_law_row : Value} (a_law_row : PySem.W.nsIn K mainGlobals "_law_row" = some (some (.ref f_law_row)))
    (l_law_row : K.lookup f_law_row = some ⟨oc_law_row, od_law_row, .func (PySem.W.fnOf "_law_row" "_law_row" (defArgs s_law_row) (defBody s_law_row) (defScope s_law_row) .none kV_law_row dc_law_row pm_law_row an_law_row cd_law_row ct_law_row), sl_law_row⟩) (c_law_row : PySem.W.codeIn K cd_law_row "_law_row" = true) (k_law_row : PySem.W.keepIn K (.ref f_law_row) = true)
    {f_law_place : Addr} {od_law_place an_law_place : Option Addr} {sl_law_place : Array (Option Value)} {oc_law_place kV_law_place dc_law_place pm_law_place cd_law_place ct_law_place : Value} (a_law_place : PySem.W.nsIn K mainGlobals "_law_place" = some (some (.ref f_law_place)))
    (l_law_place : K.lookup f_law_place = some ⟨oc_law_place, od_law_place, .func (PySem.W.fnOf "_law_place" "_law_place" (defArgs s_law_place) (defBody s_law_place) (defScope s_law_place) .none kV_law_place dc_law_place pm_law_place an_law_place cd_law_place ct_law_place), sl_law_place⟩) (c_law_place : PySem.W.codeIn K cd_law_place "_law_place" = true) (k_law_place : PySem.W.keepIn K (.ref f_law_place) = true)
    {f_law_taken : Addr} {od_law_taken an_law_taken : Option Addr} {sl_law_taken : Array (Option Value)} {oc_law_taken kV_law_taken dc_law_taken pm_law_taken cd_law_taken ct_law_taken : Value} (a_law_taken : PySem.W.nsIn K mainGlobals "_law_taken" = some (some (.ref f_law_taken)))
    (l_law_taken : K.lookup f_law_taken = some ⟨oc_law_taken, od_law_taken, .func (PySem.W.fnOf "_law_taken" "_law_taken" (defArgs s_law_taken) (defBody s_law_taken) (defScope s_law_taken) .none kV_law_taken dc_law_taken pm_law_taken an_law_taken cd_law_taken ct_law_taken), sl_law_taken⟩) (c_law_taken : PySem.W.codeIn K cd_law_taken "_law_taken" = true) (k_law_taken : PySem.W.keepIn K (.ref f_law_taken) = true)
    {f_law_outside : Addr} {od_law_outside an_law_outside : Option Addr} {sl_law_outside : Array (Option Value)} {oc_law_outside kV_law_outside dc_law_outside pm_law_outside cd_law_outside ct_law_outside : Value} (a_law_outside : PySem.W.nsIn K mainGlobals "_law_outside" = some (some (.ref f_law_outside)))
    (l_law_outside : K.lookup f_law_outside = some ⟨oc_law_outside, od_law_outside, .func (PySem.W.fnOf "_law_outside" "_law_outside" (defArgs s_law_outside) (defBody s_law_outside) (defScope s_law_outside) .none kV_law_outside dc_law_outside pm_law_outside an_law_outside cd_law_outside ct_law_outside), sl_law_outside⟩) (c_law_outside : PySem.W.codeIn K cd_law_outside "_law_outside" = true) (k_law_outside : PySem.W.keepIn K (.ref f_law_outside) = true)
    {f_law_meets : Addr} {od_law_meets an_law_meets : Option Addr} {sl_law_meets : Array (Option Value)} {oc_law_meets kV_law_meets dc_law_meets pm_law_meets cd_law_meets ct_law_meets : Value} (a_law_meets : PySem.W.nsIn K mainGlobals "_law_meets" = some (some (.ref f_law_meets)))
    (l_law_meets : K.lookup f_law_meets = some ⟨oc_law_meets, od_law_meets, .func (PySem.W.fnOf "_law_meets" "_law_meets" (defArgs s_law_meets) (defBody s_law_meets) (defScope s_law_meets) .none kV_law_meets dc_law_meets pm_law_meets an_law_meets cd_law_meets ct_law_meets), sl_law_meets⟩) (c_law_meets : PySem.W.codeIn K cd_law_meets "_law_meets" = true) (k_law_meets : PySem.W.keepIn K (.ref f_law_meets) = true)
    {f_law_rows_drawn : Addr} {od_law_rows_drawn an_law_rows_drawn : Option Addr} {sl_law_rows_drawn : Array (Option Value)} {oc_law_rows_drawn kV_law_rows_drawn dc_law_rows_drawn pm_law_rows_drawn cd_law_rows_drawn ct_law_rows_drawn : Value} (a_law_rows_drawn : PySem.W.nsIn K mainGlobals "_law_rows_drawn" = some (some (.ref f_law_rows_drawn)))
    (l_law_rows_drawn : K.lookup f_law_rows_drawn = some ⟨oc_law_rows_drawn, od_law_rows_drawn, .func (PySem.W.fnOf "_law_rows_drawn" "_law_rows_drawn" (defArgs s_law_rows_drawn) (defBody s_law_rows_drawn) (defScope s_law_rows_drawn) .none kV_law_rows_drawn dc_law_rows_drawn pm_law_rows_drawn an_law_rows_drawn cd_law_rows_drawn ct_law_rows_drawn), sl_law_rows_drawn⟩) (c_law_rows_drawn : PySem.W.codeIn K cd_law_rows_drawn "_law_rows_drawn" = true) (k_law_rows_drawn : PySem.W.keepIn K (.ref f_law_rows_drawn) = true)
    {f_law_paths : Addr} {od_law_paths an_law_paths : Option Addr} {sl_law_paths : Array (Option Value)} {oc_law_paths kV_law_paths dc_law_paths pm_law_paths cd_law_paths ct_law_paths : Value} (a_law_paths : PySem.W.nsIn K mainGlobals "_law_paths" = some (some (.ref f_law_paths)))
    (l_law_paths : K.lookup f_law_paths = some ⟨oc_law_paths, od_law_paths, .func (PySem.W.fnOf "_law_paths" "_law_paths" (defArgs s_law_paths) (defBody s_law_paths) (defScope s_law_paths) .none kV_law_paths dc_law_paths pm_law_paths an_law_paths cd_law_paths ct_law_paths), sl_law_paths⟩) (c_law_paths : PySem.W.codeIn K cd_law_paths "_law_paths" = true) (k_law_paths : PySem.W.keepIn K (.ref f_law_paths) = true)
    {f_law_tree : Addr} {od_law_tree an_law_tree : Option Addr} {sl_law_tree : Array (Option Value)} {oc_law_tree kV_law_tree dc_law_tree pm_law_tree cd_law_tree ct_law_tree : Value} (a_law_tree : PySem.W.nsIn K mainGlobals "_law_tree" = some (some (.ref f_law_tree)))
    (l_law_tree : K.lookup f_law_tree = some ⟨oc_law_tree, od_law_tree, .func (PySem.W.fnOf "_law_tree" "_law_tree" (defArgs s_law_tree) (defBody s_law_tree) (defScope s_law_tree) .none kV_law_tree dc_law_tree pm_law_tree an_law_tree cd_law_tree ct_law_tree), sl_law_tree⟩) (c_law_tree : PySem.W.codeIn K cd_law_tree "_law_tree" = true) (k_law_tree : PySem.W.keepIn K (.ref f_law_tree) = true)
    {f_law_right : Addr} {od_law_right an_law_right : Option Addr} {sl_law_right : Array (Option Value)} {oc_law_right kV_law_right dc_law_right pm_law_right cd_law_right ct_law_right : Value} (a_law_right : PySem.W.nsIn K mainGlobals "_law_right" = some (some (.ref f_law_right)))
    (l_law_right : K.lookup f_law_right = some ⟨oc_law_right, od_law_right, .func (PySem.W.fnOf "_law_right" "_law_right" (defArgs s_law_right) (defBody s_law_right) (defScope s_law_right) .none kV_law_right dc_law_right pm_law_right an_law_right cd_law_right ct_law_right), sl_law_right⟩) (c_law_right : PySem.W.codeIn K cd_law_right "_law_right" = true) (k_law_right : PySem.W.keepIn K (.ref f_law_right) = true)
    {f_law : Addr} {od_law an_law : Option Addr} {sl_law : Array (Option Value)} {oc_law kV_law dc_law pm_law cd_law ct_law : Value} (a_law : PySem.W.nsIn K mainGlobals "law" = some (some (.ref f_law)))
    (l_law : K.lookup f_law = some ⟨oc_law, od_law, .func (PySem.W.fnOf "law" "law" (defArgs s_law) (defBody s_law) (defScope s_law) .none kV_law dc_law pm_law an_law cd_law ct_law), sl_law⟩) (c_law : PySem.W.codeIn K cd_law "law" = true) (k_law : PySem.W.keepIn K (.ref f_law) = true)
    : ∃ T : Tx K mg, T.a_law = f_law ∧ T.d_law = PySem.W.fnOf "law" "law" (defArgs s_law) (defBody s_law) (defScope s_law) .none kV_law dc_law pm_law an_law cd_law ct_law :=
  ⟨{ m_abs := PySem.W.mg_none_of X G z_abs,
     m_any := PySem.W.mg_none_of X G z_any,
     m_int := PySem.W.mg_none_of X G z_int,
     m_len := PySem.W.mg_none_of X G z_len,
     m_list := PySem.W.mg_none_of X G z_list,
     m_max := PySem.W.mg_none_of X G z_max,
     m_min := PySem.W.mg_none_of X G z_min,
     m_range := PySem.W.mg_none_of X G z_range,
     m_repr := PySem.W.mg_none_of X G z_repr,
     m_sorted := PySem.W.mg_none_of X G z_sorted,
     m_tuple := PySem.W.mg_none_of X G z_tuple,
     t_SLASH := t_SLASH, c_SLASH := PySem.W.mg_of X G z_SLASH,
     a_lies_below := f_lies_below, d_lies_below := _, F_lies_below := fun_mk (st := s_lies_below) l_lies_below c_lies_below k_lies_below, g_lies_below := PySem.W.mg_of X G a_lies_below, b_lies_below := (fun_mk (st := s_lies_below) l_lies_below c_lies_below k_lies_below).binds fun _ _ _ _ _ _ us hl => match us, hl with | [_, _], _ => rfl,
     a_joined := f_joined, d_joined := _, F_joined := fun_mk (st := s_joined) l_joined c_joined k_joined, g_joined := PySem.W.mg_of X G a_joined, b_joined := (fun_mk (st := s_joined) l_joined c_joined k_joined).binds fun _ _ _ _ _ _ us hl => match us, hl with | [_, _], _ => rfl,
     a_rest_of := f_rest_of, d_rest_of := _, F_rest_of := fun_mk (st := s_rest_of) l_rest_of c_rest_of k_rest_of, g_rest_of := PySem.W.mg_of X G a_rest_of, b_rest_of := (fun_mk (st := s_rest_of) l_rest_of c_rest_of k_rest_of).binds fun _ _ _ _ _ _ us hl => match us, hl with | [_, _], _ => rfl,
     a_row_of := f_row_of, d_row_of := _, F_row_of := fun_mk (st := s_row_of) l_row_of c_row_of k_row_of, g_row_of := PySem.W.mg_of X G a_row_of, b_row_of := (fun_mk (st := s_row_of) l_row_of c_row_of k_row_of).binds fun _ _ _ _ _ _ us hl => match us, hl with | [_, _], _ => rfl,
     a_place := f_place, d_place := _, F_place := fun_mk (st := s_place) l_place c_place k_place, g_place := PySem.W.mg_of X G a_place, b_place := (fun_mk (st := s_place) l_place c_place k_place).binds fun _ _ _ _ _ _ us hl => match us, hl with | [_, _], _ => rfl,
     a_taken := f_taken, d_taken := _, F_taken := fun_mk (st := s_taken) l_taken c_taken k_taken, g_taken := PySem.W.mg_of X G a_taken, b_taken := (fun_mk (st := s_taken) l_taken c_taken k_taken).binds fun _ _ _ _ _ _ us hl => match us, hl with | [_, _], _ => rfl,
     a_outside := f_outside, d_outside := _, F_outside := fun_mk (st := s_outside) l_outside c_outside k_outside, g_outside := PySem.W.mg_of X G a_outside, b_outside := (fun_mk (st := s_outside) l_outside c_outside k_outside).binds fun _ _ _ _ _ _ us hl => match us, hl with | [_, _], _ => rfl,
     a_law_box := f_law_box, d_law_box := _, F_law_box := fun_mk (st := s_law_box) l_law_box c_law_box k_law_box, g_law_box := PySem.W.mg_of X G a_law_box, b_law_box := (fun_mk (st := s_law_box) l_law_box c_law_box k_law_box).binds fun _ _ _ _ _ _ us hl => match us, hl with | [_, _], _ => rfl,
     a_law_take := f_law_take, d_law_take := _, F_law_take := fun_mk (st := s_law_take) l_law_take c_law_take k_law_take, g_law_take := PySem.W.mg_of X G a_law_take, b_law_take := (fun_mk (st := s_law_take) l_law_take c_law_take k_law_take).binds fun _ _ _ _ _ _ us hl => match us, hl with | [_, _], _ => rfl,
     a_law_of := f_law_of, d_law_of := _, F_law_of := fun_mk (st := s_law_of) l_law_of c_law_of k_law_of, g_law_of := PySem.W.mg_of X G a_law_of, b_law_of := (fun_mk (st := s_law_of) l_law_of c_law_of k_law_of).binds fun _ _ _ _ _ _ us hl => match us, hl with | [_, _], _ => rfl,
     a_law_row := f_law_row, d_law_row := _, F_law_row := fun_mk (st := s_law_row) l_law_row c_law_row k_law_row, g_law_row := PySem.W.mg_of X G a_law_row, b_law_row := (fun_mk (st := s_law_row) l_law_row c_law_row k_law_row).binds fun _ _ _ _ _ _ us hl => match us, hl with | [_, _], _ => rfl,
     a_law_place := f_law_place, d_law_place := _, F_law_place := fun_mk (st := s_law_place) l_law_place c_law_place k_law_place, g_law_place := PySem.W.mg_of X G a_law_place, b_law_place := (fun_mk (st := s_law_place) l_law_place c_law_place k_law_place).binds fun _ _ _ _ _ _ us hl => match us, hl with | [_, _], _ => rfl,
     a_law_taken := f_law_taken, d_law_taken := _, F_law_taken := fun_mk (st := s_law_taken) l_law_taken c_law_taken k_law_taken, g_law_taken := PySem.W.mg_of X G a_law_taken, b_law_taken := (fun_mk (st := s_law_taken) l_law_taken c_law_taken k_law_taken).binds fun _ _ _ _ _ _ us hl => match us, hl with | [_, _], _ => rfl,
     a_law_outside := f_law_outside, d_law_outside := _, F_law_outside := fun_mk (st := s_law_outside) l_law_outside c_law_outside k_law_outside, g_law_outside := PySem.W.mg_of X G a_law_outside, b_law_outside := (fun_mk (st := s_law_outside) l_law_outside c_law_outside k_law_outside).binds fun _ _ _ _ _ _ us hl => match us, hl with | [_, _], _ => rfl,
     a_law_meets := f_law_meets, d_law_meets := _, F_law_meets := fun_mk (st := s_law_meets) l_law_meets c_law_meets k_law_meets, g_law_meets := PySem.W.mg_of X G a_law_meets, b_law_meets := (fun_mk (st := s_law_meets) l_law_meets c_law_meets k_law_meets).binds fun _ _ _ _ _ _ us hl => match us, hl with | [_, _], _ => rfl,
     a_law_rows_drawn := f_law_rows_drawn, d_law_rows_drawn := _, F_law_rows_drawn := fun_mk (st := s_law_rows_drawn) l_law_rows_drawn c_law_rows_drawn k_law_rows_drawn, g_law_rows_drawn := PySem.W.mg_of X G a_law_rows_drawn, b_law_rows_drawn := (fun_mk (st := s_law_rows_drawn) l_law_rows_drawn c_law_rows_drawn k_law_rows_drawn).binds fun _ _ _ _ _ _ us hl => match us, hl with | [_], _ => rfl,
     a_law_paths := f_law_paths, d_law_paths := _, F_law_paths := fun_mk (st := s_law_paths) l_law_paths c_law_paths k_law_paths, g_law_paths := PySem.W.mg_of X G a_law_paths, b_law_paths := (fun_mk (st := s_law_paths) l_law_paths c_law_paths k_law_paths).binds fun _ _ _ _ _ _ us hl => match us, hl with | [], _ => rfl,
     a_law_tree := f_law_tree, d_law_tree := _, F_law_tree := fun_mk (st := s_law_tree) l_law_tree c_law_tree k_law_tree, g_law_tree := PySem.W.mg_of X G a_law_tree, b_law_tree := (fun_mk (st := s_law_tree) l_law_tree c_law_tree k_law_tree).binds fun _ _ _ _ _ _ us hl => match us, hl with | [_, _], _ => rfl,
     a_law_right := f_law_right, d_law_right := _, F_law_right := fun_mk (st := s_law_right) l_law_right c_law_right k_law_right, g_law_right := PySem.W.mg_of X G a_law_right, b_law_right := (fun_mk (st := s_law_right) l_law_right c_law_right k_law_right).binds fun _ _ _ _ _ _ us hl => match us, hl with | [_], _ => rfl,
     a_law := f_law, d_law := _, F_law := fun_mk (st := s_law) l_law c_law k_law, g_law := PySem.W.mg_of X G a_law, b_law := (fun_mk (st := s_law) l_law c_law k_law).binds fun _ _ _ _ _ _ us hl => match us, hl with | [_], _ => rfl }, rfl, rfl⟩
theorem all_mk {l : PySem.W.OpenLaw} {w : World} {K : PySem.W.Frag} {mg : Str → Option Value} {fa : Addr} (hfa : mg "law" = some (.ref fa)) (hT : ∃ (T : Tx K mg) (kV dc pm : Value) (an : Option Addr) (cd ct : Value), T.d_law = PySem.W.fnOf "law" "law" (defArgs s_law) (defBody s_law) (defScope s_law) .none kV dc pm an cd ct) :
    ∃ fd : FuncData, (∀ (s : Shared) (v : Value), BindsTo s fd ⟨[v], []⟩ [("_law_script", v)]) ∧ ∀ base : Heap, K.In base → base.Ns mainGlobals mg → FnG l.prog w K mg base CX0 6 fa fd ["_law_script"] (spLaw K) := by
  obtain ⟨T, kV, dc, pm, an, cd, ct, e⟩ := hT
  have e1 := hfa.symm.trans T.g_law
  cases e1
  exact ⟨T.d_law, fun s v => by rw [e]; exact .of_eq rfl, fun base _ _ => ok_law T⟩
theorem fin_mk {l : PySem.W.OpenLaw} {w : World} {K : PySem.W.Frag} {mg : Str → Option Value} {fa fl : Addr} {kV dc pm : Value} {an : Option Addr} {cd ct : Value} (hfa : mg "law" = some (.ref fa))
    (hT : ∃ T : Tx K mg, T.a_law = fl ∧ T.d_law = PySem.W.fnOf "law" "law" (defArgs s_law) (defBody s_law) (defScope s_law) .none kV dc pm an cd ct) :
    ∃ fd : FuncData, (∀ (s : Shared) (v : Value), BindsTo s fd ⟨[v], []⟩ [("_law_script", v)]) ∧ ∀ base : Heap, K.In base → base.Ns mainGlobals mg → FnG l.prog w K mg base CX0 6 fa fd ["_law_script"] (spLaw K) := by
  obtain ⟨T, _, e⟩ := hT
  exact all_mk hfa ⟨T, _, _, _, _, _, _, e⟩
end K21
open PySem PySem.W PyProof.Rows
set_option maxHeartbeats 0 in
theorem PySem.Challenge.cw_bothhistories_k21_what_is_taken_holds : PySem.Challenge.rw_bothhistories_k21_what_is_taken.Holds := by
  w_on; o_law; k_head; (case hw => w_witness2)
  k_fill
  refine B.walk_ofG (l := PySem.Challenge.rw_bothhistories_k21_what_is_taken) (n := 63) (k := 6) (x := "_law_script") (CX := L2.CX0) (sp := B.spLaw) rfl (by decide) rfl ⟨rfl, by decide, by decide⟩ (fun w h Y => PySem.W.kIn_of Y) ?F (fun _ _ a ns hl _ hS => B.law_starts hl hS) (fun _ _ _ _ h => h)
  case F =>
    intro w mg fa h KX G hmg
    refine' K21.fin_mk hmg (K21.tx_mk KX G ?z_abs ?z_any ?z_int ?z_len ?z_list ?z_max ?z_min ?z_range ?z_repr ?z_sorted ?z_tuple ?z_SLASH ?a_lies_below ?l_lies_below ?c_lies_below ?k_lies_below ?a_joined ?l_joined ?c_joined ?k_joined ?a_rest_of ?l_rest_of ?c_rest_of ?k_rest_of ?a_row_of ?l_row_of ?c_row_of ?k_row_of ?a_place ?l_place ?c_place ?k_place ?a_taken ?l_taken ?c_taken ?k_taken ?a_outside ?l_outside ?c_outside ?k_outside ?a_law_box ?l_law_box ?c_law_box ?k_law_box ?a_law_take ?l_law_take ?c_law_take ?k_law_take ?a_law_of ?l_law_of ?c_law_of ?k_law_of ?a_law_row ?l_law_row ?c_law_row ?k_law_row ?a_law_place ?l_law_place ?c_law_place ?k_law_place ?a_law_taken ?l_law_taken ?c_law_taken ?k_law_taken ?a_law_outside ?l_law_outside ?c_law_outside ?k_law_outside ?a_law_meets ?l_law_meets ?c_law_meets ?k_law_meets ?a_law_rows_drawn ?l_law_rows_drawn ?c_law_rows_drawn ?k_law_rows_drawn ?a_law_paths ?l_law_paths ?c_law_paths ?k_law_paths ?a_law_tree ?l_law_tree ?c_law_tree ?k_law_tree ?a_law_right ?l_law_right ?c_law_right ?k_law_right ?a_law ?l_law ?c_law ?k_law)
    (case z_abs => k_is); (case z_any => k_is); (case z_int => k_is); (case z_len => k_is); (case z_list => k_is); (case z_max => k_is); (case z_min => k_is); (case z_range => k_is); (case z_repr => k_is); (case z_sorted => k_is); (case z_tuple => k_is); (case z_SLASH => k_is); (case a_lies_below => k_is); (case l_lies_below => k_is); (case c_lies_below => k_is); (case k_lies_below => k_is); (case a_joined => k_is); (case l_joined => k_is); (case c_joined => k_is); (case k_joined => k_is); (case a_rest_of => k_is); (case l_rest_of => k_is); (case c_rest_of => k_is); (case k_rest_of => k_is); (case a_row_of => k_is); (case l_row_of => k_is); (case c_row_of => k_is); (case k_row_of => k_is); (case a_place => k_is); (case l_place => k_is); (case c_place => k_is); (case k_place => k_is); (case a_taken => k_is); (case l_taken => k_is); (case c_taken => k_is); (case k_taken => k_is); (case a_outside => k_is); (case l_outside => k_is); (case c_outside => k_is); (case k_outside => k_is); (case a_law_box => k_is); (case l_law_box => k_is); (case c_law_box => k_is); (case k_law_box => k_is); (case a_law_take => k_is); (case l_law_take => k_is); (case c_law_take => k_is); (case k_law_take => k_is); (case a_law_of => k_is); (case l_law_of => k_is); (case c_law_of => k_is); (case k_law_of => k_is); (case a_law_row => k_is); (case l_law_row => k_is); (case c_law_row => k_is); (case k_law_row => k_is); (case a_law_place => k_is); (case l_law_place => k_is); (case c_law_place => k_is); (case k_law_place => k_is); (case a_law_taken => k_is); (case l_law_taken => k_is); (case c_law_taken => k_is); (case k_law_taken => k_is); (case a_law_outside => k_is); (case l_law_outside => k_is); (case c_law_outside => k_is); (case k_law_outside => k_is); (case a_law_meets => k_is); (case l_law_meets => k_is); (case c_law_meets => k_is); (case k_law_meets => k_is); (case a_law_rows_drawn => k_is); (case l_law_rows_drawn => k_is); (case c_law_rows_drawn => k_is); (case k_law_rows_drawn => k_is); (case a_law_paths => k_is); (case l_law_paths => k_is); (case c_law_paths => k_is); (case k_law_paths => k_is); (case a_law_tree => k_is); (case l_law_tree => k_is); (case c_law_tree => k_is); (case k_law_tree => k_is); (case a_law_right => k_is); (case l_law_right => k_is); (case c_law_right => k_is); (case k_law_right => k_is); (case a_law => k_is); (case l_law => k_is); (case c_law => k_is); (case k_law => k_is)
    

