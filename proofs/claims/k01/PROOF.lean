import PyProof.Rows.All
import Wide.All
import OpenK.AllK
import Wide.FinOn
import HandS.ForMost
import HandS.Walk
import HandS.IsInst
import HandS.Wide
import HandS.Steps
import PyProof.StrLawsChain
import PySem.Challenge.RW_bothhistories_k01_lines_and_paths_of_any
set_option Elab.async false
set_option linter.all false
set_option maxRecDepth 100000
set_option maxHeartbeats 4000000
/-! B0: the data level. A frozen heap G within the heap H; what a value is as data in G; slots that hold data, own lists, own dicts; readings of expressions and statements over these. -/
namespace B
open PySem PySem.Spec PyProof.Rows L2

def keyD : Key → PyData
  | .inl i => .int i
  | .inr x => .str x
mutual
inductive Dt (G : Hp) : V → PyData → Prop
  | non : Dt G .non .none
  | bl (b : Bool) : Dt G (.bl b) (.bool b)
  | int (i : Int) : Dt G (.int i) (.int i)
  | str (x : Str) : Dt G (.str x) (.str x)
  | lst {a : Addr} {xs : List V} {ds : List PyData} : G a = some (.lst xs) → DtA G xs ds → Dt G (.ref a) (.list ds)
  | tup {a : Addr} {xs : List V} {ds : List PyData} : G a = some (.tup xs) → DtA G xs ds → Dt G (.ref a) (.tuple ds)
  | dct {a : Addr} {kvs : List (Key × V)} {es : List (PyData × PyData)} : G a = some (.dK kvs) → DtK G kvs es → Dt G (.ref a) (.dict es)
inductive DtA (G : Hp) : List V → List PyData → Prop
  | nil : DtA G [] []
  | cons {v : V} {vs : List V} {d : PyData} {ds : List PyData} : Dt G v d → DtA G vs ds → DtA G (v :: vs) (d :: ds)
inductive DtK (G : Hp) : List (Key × V) → List (PyData × PyData) → Prop
  | nil : DtK G [] []
  | cons {k : Key} {v : V} {d : PyData} {kvs : List (Key × V)} {es : List (PyData × PyData)} : Dt G v d → DtK G kvs es → DtK G ((k, v) :: kvs) ((keyD k, d) :: es)
end
mutual
theorem Dt.mono {G G' : Hp} (e : Same G G') : ∀ {v : V} {d : PyData}, Dt G v d → Dt G' v d
  | _, _, .non => .non
  | _, _, .bl b => .bl b
  | _, _, .int i => .int i
  | _, _, .str x => .str x
  | _, _, .lst h r => .lst (e _ _ h) (DtA.mono e r)
  | _, _, .tup h r => .tup (e _ _ h) (DtA.mono e r)
  | _, _, .dct h r => .dct (e _ _ h) (DtK.mono e r)
theorem DtA.mono {G G' : Hp} (e : Same G G') : ∀ {vs : List V} {ds : List PyData}, DtA G vs ds → DtA G' vs ds
  | _, _, .nil => .nil
  | _, _, .cons h r => .cons (Dt.mono e h) (DtA.mono e r)
theorem DtK.mono {G G' : Hp} (e : Same G G') : ∀ {vs : List (Key × V)} {ds : List (PyData × PyData)}, DtK G vs ds → DtK G' vs ds
  | _, _, .nil => .nil
  | _, _, .cons h r => .cons (Dt.mono e h) (DtK.mono e r)
end
theorem DtA.length {G : Hp} : ∀ {vs : List V} {ds : List PyData}, DtA G vs ds → vs.length = ds.length
  | _, _, .nil => rfl
  | _, _, .cons _ r => by rw [List.length_cons, List.length_cons, DtA.length r]
theorem DtA.get {G : Hp} : ∀ {vs : List V} {ds : List PyData} {i : Nat} {v : V}, DtA G vs ds → vs[i]? = some v → ∃ d, ds[i]? = some d ∧ Dt G v d
  | _, _, _, _, .nil, e => by simp at e
  | _, _, 0, _, .cons h _, e => by simp at e; subst e; exact ⟨_, rfl, h⟩
  | _, _, i + 1, v, .cons _ t, e => by
    obtain ⟨d, h1, h2⟩ := DtA.get (i := i) (v := v) t (by simpa using e)
    exact ⟨d, by simpa using h1, h2⟩
theorem DtA.getD {G : Hp} : ∀ {vs : List V} {ds : List PyData} {i : Nat} {d : PyData}, DtA G vs ds → ds[i]? = some d → ∃ v, vs[i]? = some v ∧ Dt G v d
  | _, _, _, _, .nil, e => by simp at e
  | _, _, 0, _, .cons h _, e => by simp at e; subst e; exact ⟨_, rfl, h⟩
  | _, _, i + 1, d, .cons _ t, e => by
    obtain ⟨v, h1, h2⟩ := DtA.getD (i := i) (d := d) t (by simpa using e)
    exact ⟨v, by simpa using h1, h2⟩
theorem DtA.append {G : Hp} : ∀ {vs ws : List V} {ds es : List PyData}, DtA G vs ds → DtA G ws es → DtA G (vs ++ ws) (ds ++ es)
  | _, _, _, _, .nil, s => s
  | _, _, _, _, .cons h t, s => .cons h (DtA.append t s)
theorem DtA.one {G : Hp} {v : V} {d : PyData} (h : Dt G v d) : DtA G [v] [d] := .cons h .nil
theorem DtA.take {G : Hp} : ∀ {vs : List V} {ds : List PyData} (n : Nat), DtA G vs ds → DtA G (vs.take n) (ds.take n)
  | _, _, 0, _ => .nil
  | _, _, _ + 1, .nil => .nil
  | _, _, n + 1, .cons h t => .cons h (DtA.take n t)
theorem DtA.drop {G : Hp} : ∀ {vs : List V} {ds : List PyData} (n : Nat), DtA G vs ds → DtA G (vs.drop n) (ds.drop n)
  | _, _, 0, r => r
  | _, _, _ + 1, .nil => .nil
  | _, _, n + 1, .cons _ t => DtA.drop n t
theorem DtA.strs {G : Hp} : ∀ zs : List Str, DtA G (zs.map V.str) (zs.map PyData.str)
  | [] => .nil
  | z :: r => .cons (.str z) (DtA.strs r)
theorem DtA.bls {G : Hp} : ∀ zs : List Bool, DtA G (zs.map V.bl) (zs.map PyData.bool)
  | [] => .nil
  | z :: r => .cons (.bl z) (DtA.bls r)
theorem DtA.of_bls {G : Hp} : ∀ {zs : List Bool} {vs : List V}, DtA G vs (zs.map PyData.bool) → vs = zs.map V.bl
  | [], _, .nil => rfl
  | z :: r, _, .cons h t => by cases h; rw [DtA.of_bls t]; rfl
theorem DtA.of_strs {G : Hp} : ∀ {zs : List Str} {vs : List V}, DtA G vs (zs.map PyData.str) → vs = zs.map V.str
  | [], _, .nil => rfl
  | z :: r, _, .cons h t => by cases h; rw [DtA.of_strs t]; rfl
theorem DtA.of_ints {G : Hp} : ∀ {zs : List Int} {vs : List V}, DtA G vs (zs.map PyData.int) → vs = zs.map V.int
  | [], _, .nil => rfl
  | z :: r, _, .cons h t => by cases h; rw [DtA.of_ints t]; rfl
theorem Same.new {H : Hp} {p : Addr} {o : HO} (h : H p = none) : Same H (upd H p o) := fun a u e => by
  rw [upd_ne (ne_of_none e h)]
  exact e

/-! ### what is new, what is kept -/
/-- G' has more than G, only where H had nothing -/
def Nw (G H G' : Hp) : Prop := Same G G' ∧ ∀ a, G' a ≠ none → G a ≠ none ∨ H a = none
def Fr (M : Addr → Prop) (H H' : Hp) : Prop := ∀ a o, ¬ M a → H a = some o → H' a = some o
theorem Nw.refl (G H : Hp) : Nw G H G := ⟨Same.refl G, fun _ h => .inl h⟩
theorem Fr.refl (M : Addr → Prop) (H : Hp) : Fr M H H := fun _ _ _ h => h
theorem Fr.of_same {M : Addr → Prop} {H H' : Hp} (h : Same H H') : Fr M H H' := fun a o _ e => h a o e
theorem Fr.trans {M : Addr → Prop} {H H1 H2 : Hp} (h : Fr M H H1) (k : Fr M H1 H2) : Fr M H H2 := fun a o m e => k a o m (h a o m e)
/-- from G in H to G' in H': new things, M changed alone -/
structure Ext (M : Addr → Prop) (G H G' H' : Hp) : Prop where
  nw : Nw G H G'
  fr : Fr M H H'
  dm : ∀ a, H' a = none → H a = none
theorem Ext.refl (M : Addr → Prop) (G H : Hp) : Ext M G H G H := ⟨Nw.refl G H, Fr.refl M H, fun _ h => h⟩
theorem Ext.trans {M : Addr → Prop} {G H G1 H1 G2 H2 : Hp} (a : Ext M G H G1 H1) (b : Ext M G1 H1 G2 H2) : Ext M G H G2 H2 :=
  ⟨⟨a.nw.1.trans b.nw.1, fun x h => (b.nw.2 x h).elim (fun z => a.nw.2 x z) fun z => .inr (a.dm x z)⟩, a.fr.trans b.fr, fun x h => a.dm x (b.dm x h)⟩
theorem Ext.same {M : Addr → Prop} {G H G' H' : Hp} (n : Nw G H G') (s : Same H H') : Ext M G H G' H' := ⟨n, Fr.of_same s, fun _ h => Same.free s h⟩
theorem Ext.gg {M : Addr → Prop} {G H G' H' : Hp} (a : Ext M G H G' H') : Same G G' := a.nw.1
theorem ne_none {H : Hp} {a : Addr} (h : H a ≠ none) : ∃ o, H a = some o := Option.ne_none_iff_exists'.mp h

/-- what may be changed: where, and what holds of it (by a count) -/
structure Mu where
  M : Addr → Prop
  I : Nat → Hp → Prop
  st : ∀ c H H', (∀ a o, M a → H a = some o → H' a = some o) → I c H → I c H'
  dom : ∀ c H a, I c H → M a → H a ≠ none
  up : ∀ c c' H, c ≤ c' → I c H → I c' H
def pureMu : Mu := ⟨fun _ => False, fun _ _ => True, fun _ _ _ _ _ => trivial, fun _ _ _ _ h => h.elim, fun _ _ _ _ _ => trivial⟩

inductive Sl where
  | un
  | dat (d : PyData)
  | own (ds : List PyData)
  | map (kvs : List (Key × PyData))
  | raw (v : V)
inductive DtM (G : Hp) : List (Key × V) → List (Key × PyData) → Prop
  | nil : DtM G [] []
  | cons {k : Key} {v : V} {d : PyData} {kvs : List (Key × V)} {es : List (Key × PyData)} : Dt G v d → DtM G kvs es → DtM G ((k, v) :: kvs) ((k, d) :: es)
theorem DtM.mono {G G' : Hp} (e : Same G G') : ∀ {vs : List (Key × V)} {ds : List (Key × PyData)}, DtM G vs ds → DtM G' vs ds
  | _, _, .nil => .nil
  | _, _, .cons h r => .cons (h.mono e) (DtM.mono e r)
def SlOk (G H0 H : Hp) : Sl → Option V → Prop
  | .un, _ => True
  | .dat d, o => ∃ v, o = some v ∧ Dt G v d
  | .own ds, o => ∃ p vs, o = some (.ref p) ∧ H0 p = none ∧ G p = none ∧ H p = some (.lst vs) ∧ DtA G vs ds
  | .map es, o => ∃ p kvs, o = some (.ref p) ∧ H0 p = none ∧ G p = none ∧ H p = some (.dK kvs) ∧ DtM G kvs es
  | .raw v, o => o = some v
def Owns (Γ : List Sl) (σ : L2.St) (i : Nat) (p : Addr) : Prop := ((∃ ds, Γ[i]? = some (.own ds)) ∨ ∃ es, Γ[i]? = some (.map es)) ∧ σ[i]? = some (some (.ref p))
/-- the state: H_0, G_0 the entry's; G what is frozen; c the count -/
structure Stt (μ : Mu) (G0 H0 G : Hp) (Γ : List Sl) (c : Nat) (σ : L2.St) (H : Hp) : Prop where
  len : σ.length = Γ.length
  new : Nw G0 H0 G
  sub : Same G H
  fr : Fr μ.M H0 H
  ent : ∀ a, μ.M a → H0 a ≠ none ∧ G0 a = none
  inv : μ.I c H
  sl : ∀ (i : Nat) (s : Sl), Γ[i]? = some s → ∃ o, σ[i]? = some o ∧ SlOk G H0 H s o
  dj : ∀ (i j : Nat) (p : Addr), Owns Γ σ i p → Owns Γ σ j p → i = j
section
variable {μ : Mu} {G0 H0 G G' : Hp} {Γ : List Sl} {c c' : Nat} {σ : L2.St} {H H' : Hp}
theorem Stt.h0 (S : Stt μ G0 H0 G Γ c σ H) {a : Addr} (h : H a = none) : H0 a = none := by
  cases e : H0 a with
  | none => rfl
  | some o =>
    by_cases m : μ.M a
    · exact absurd h (μ.dom c H a S.inv m)
    · rw [S.fr a o m e] at h; cases h
theorem Stt.gM (S : Stt μ G0 H0 G Γ c σ H) {a : Addr} (m : μ.M a) : G a = none := by
  cases e : G a with
  | none => rfl
  | some o =>
    rcases S.new.2 a (by rw [e]; simp) with h | h
    · exact absurd (S.ent a m).2 h
    · exact absurd h (S.ent a m).1
theorem Nw.trans (S : Stt μ G0 H0 G Γ c σ H) (n : Nw G H G') : Nw G0 H0 G' := by
  refine ⟨S.new.1.trans n.1, fun a h => ?_⟩
  rcases n.2 a h with h1 | h1
  · exact S.new.2 a h1
  · exact .inr (S.h0 h1)
theorem SlOk.ext {s : Sl} {o : Option V} (n : Nw G H G') (hf : ∀ p, H0 p = none → ∀ u, H p = some u → H' p = some u) (h : SlOk G H0 H s o) : SlOk G' H0 H' s o := by
  have free : ∀ p u, G p = none → H p = some u → G' p = none := fun p u g h => by
    cases e : G' p with
    | none => rfl
    | some w =>
      rcases n.2 p (by rw [e]; simp) with q | q
      · exact absurd g q
      · rw [h] at q; cases q
  cases s with
  | un => trivial
  | dat d => obtain ⟨v, e, h⟩ := h; exact ⟨v, e, h.mono n.1⟩
  | own ds => obtain ⟨p, vs, e, h0, g, h1, h2⟩ := h; exact ⟨p, vs, e, h0, free p _ g h1, hf p h0 _ h1, h2.mono n.1⟩
  | map ds => obtain ⟨p, vs, e, h0, g, h1, h2⟩ := h; exact ⟨p, vs, e, h0, free p _ g h1, hf p h0 _ h1, h2.mono n.1⟩
  | raw v => exact h
/-- the state behind what made new things and changed M alone -/
theorem Stt.ext (S : Stt μ G0 H0 G Γ c σ H) (n : Nw G H G') (s : Same G' H') (f : Fr μ.M H H') (i : μ.I c' H') : Stt μ G0 H0 G' Γ c' σ H' where
  len := S.len
  new := n.trans S
  sub := s
  fr := S.fr.trans f
  ent := S.ent
  inv := i
  sl := fun j s e => by
    obtain ⟨o, h1, h2⟩ := S.sl j s e
    exact ⟨o, h1, h2.ext n fun p h0 u hu => f p u (fun m => (S.ent p m).1 h0) hu⟩
  dj := S.dj
theorem Stt.same (S : Stt μ G0 H0 G Γ c σ H) (n : Nw G H G') (s : Same G' H') (f : Same H H') : Stt μ G0 H0 G' Γ c σ H' :=
  S.ext n s (Fr.of_same f) (μ.st c H H' (fun a o _ e => f a o e) S.inv)
theorem Stt.up (S : Stt μ G0 H0 G Γ c σ H) (h : c ≤ c') : Stt μ G0 H0 G Γ c' σ H :=
  ⟨S.len, S.new, S.sub, S.fr, S.ent, μ.up c c' H h S.inv, S.sl, S.dj⟩
/-- a new frozen object -/
theorem Nw.upd {p : Addr} {o : HO} (h : H p = none) (s : Same G H) : Nw G H (upd G p o) := by
  have g : G p = none := Same.free s h
  refine ⟨Same.new g, fun a e => ?_⟩
  by_cases q : a = p
  · subst q; exact .inr h
  · rw [upd_ne q] at e; exact .inl e
theorem Same.upd2 {p : Addr} {o : HO} (s : Same G H) : Same (upd G p o) (upd H p o) := fun a u e => by
  by_cases q : a = p
  · subst q; rw [upd_same] at e ⊢; exact e
  · rw [upd_ne q] at e ⊢; exact s a u e
theorem Stt.laid (S : Stt μ G0 H0 G Γ c σ H) {p : Addr} {o : HO} (h : H p = none) : Stt μ G0 H0 (upd G p o) Γ c σ (upd H p o) :=
  S.same (Nw.upd h S.sub) (Same.upd2 S.sub) (Same.new h)
/-- a slot is set to data -/
theorem Stt.set (S : Stt μ G0 H0 G Γ c σ H) {i : Nat} {v : V} {s : Sl} (h : SlOk G H0 H s (some v)) (hn : ∀ p, Owns (Γ.set i s) (σ.set i (some v)) i p → ∀ j, j ≠ i → ¬ Owns Γ σ j p) : Stt μ G0 H0 G (Γ.set i s) c (σ.set i (some v)) H where
  len := by rw [List.length_set, List.length_set]; exact S.len
  new := S.new
  sub := S.sub
  fr := S.fr
  ent := S.ent
  inv := S.inv
  sl := fun j t e => by
    by_cases q : j = i
    · subst q
      have hl : j < Γ.length := by
        have := (List.getElem?_eq_some_iff.mp e).1
        rw [List.length_set] at this; exact this
      rw [List.getElem?_set_self hl] at e
      cases e
      exact ⟨some v, List.getElem?_set_self (by rw [S.len]; exact hl), h⟩
    · rw [List.getElem?_set_ne (Ne.symm q)] at e ⊢
      exact S.sl j t e
  dj := fun j k p a b => by
    have oth : ∀ m, m ≠ i → Owns (Γ.set i s) (σ.set i (some v)) m p → Owns Γ σ m p := fun m q o => by
      unfold Owns at o ⊢
      rw [List.getElem?_set_ne (Ne.symm q), List.getElem?_set_ne (Ne.symm q)] at o
      exact o
    by_cases q : j = i
    · subst q
      by_cases q2 : k = j
      · exact q2.symm
      · exact absurd (oth k q2 b) (hn p a k q2)
    · by_cases q2 : k = i
      · subst q2
        exact absurd (oth j q a) (hn p b j q)
      · exact S.dj j k p (oth j q a) (oth k q2 b)
theorem Stt.setD (S : Stt μ G0 H0 G Γ c σ H) {i : Nat} {v : V} {d : PyData} (h : Dt G v d) : Stt μ G0 H0 G (Γ.set i (.dat d)) c (σ.set i (some v)) H :=
  S.set ⟨v, rfl, h⟩ fun p o j _ _ => by
    have hi : i < Γ.length := by
      rcases o.1 with ⟨ds, e⟩ | ⟨ds, e⟩ <;> (have := (List.getElem?_eq_some_iff.mp e).1; rw [List.length_set] at this; exact this)
    rcases o.1 with ⟨ds, e⟩ | ⟨ds, e⟩ <;> (rw [List.getElem?_set_self hi] at e; cases e)
/-- the slots forgotten -/
theorem Stt.nil (S : Stt μ G0 H0 G Γ c σ H) : Stt μ G0 H0 G [] c [] H :=
  ⟨rfl, S.new, S.sub, S.fr, S.ent, S.inv, fun i s e => by simp at e, fun i j p a _ => by rcases a.1 with ⟨_, e⟩ | ⟨_, e⟩ <;> simp at e⟩
theorem Stt.var (S : Stt μ G0 H0 G Γ c σ H) {i : Nat} {d : PyData} (h : Γ[i]? = some (.dat d)) : ∃ v, σ[i]? = some (some v) ∧ Dt G v d := by
  obtain ⟨o, e, v, rfl, q⟩ := S.sl i _ h
  exact ⟨v, e, q⟩
theorem Stt.raw (S : Stt μ G0 H0 G Γ c σ H) {i : Nat} {v : V} (h : Γ[i]? = some (.raw v)) : σ[i]? = some (some v) := by
  obtain ⟨o, e, rfl⟩ := S.sl i _ h
  exact e
end

/-! ### readings over data -/
def CM : Nat := 1000000
def Ev (μ : Mu) (te : TE) (Γ : List Sl) (n : Nat) (P : PyData → Prop) : Prop :=
  ∀ (G0 H0 G : Hp) (c : Nat) (σ : L2.St) (H : Hp) (Q : VK), Stt μ G0 H0 G Γ c σ H → c + n ≤ CM →
    (∀ d v G' H', P d → Stt μ G0 H0 G' Γ (c + n) σ H' → Ext μ.M G H G' H' → Dt G' v d → Q v H') → te σ H Q
def EvT (μ : Mu) (tt : TT) (Γ : List Sl) (n : Nat) (P : Bool → Prop) : Prop :=
  ∀ (G0 H0 G : Hp) (c : Nat) (σ : L2.St) (H : Hp) (Q : Bool → Hp → Prop), Stt μ G0 H0 G Γ c σ H → c + n ≤ CM →
    (∀ b G' H', P b → Stt μ G0 H0 G' Γ (c + n) σ H' → Ext μ.M G H G' H' → Q b H') → tt σ H Q
def EvA (μ : Mu) (ta : TA) (Γ : List Sl) (n : Nat) (P : List PyData → Prop) : Prop :=
  ∀ (G0 H0 G : Hp) (c : Nat) (σ : L2.St) (H : Hp) (Q : List V → Hp → Prop), Stt μ G0 H0 G Γ c σ H → c + n ≤ CM →
    (∀ ds vs G' H', P ds → Stt μ G0 H0 G' Γ (c + n) σ H' → Ext μ.M G H G' H' → DtA G' vs ds → Q vs H') → ta σ H Q
/-- a two-place operation on data: from x, y (in G) it gives z -/
def RD (r : R2) (x y z : PyData) : Prop := ∀ (G H : Hp) (v w : V) (Q : VK), Same G H → Dt G v x → Dt G w y →
  (∀ u G' H', Nw G H G' → Same G' H' → Same H H' → Dt G' u z → Q u H') → r v w H Q
def RU (r : V → Hp → VK → Prop) (x z : PyData) : Prop := ∀ (G H : Hp) (v : V) (Q : VK), Same G H → Dt G v x →
  (∀ u G' H', Nw G H G' → Same G' H' → Same H H' → Dt G' u z → Q u H') → r v H Q
def RC (r : List V → Hp → VK → Prop) (xs : List PyData) (z : PyData) : Prop := ∀ (G H : Hp) (vs : List V) (Q : VK), Same G H → DtA G vs xs →
  (∀ u G' H', Nw G H G' → Same G' H' → Same H H' → Dt G' u z → Q u H') → r vs H Q
/-- a method of a built-in type -/
def RM (r : V → List V → Hp → VK → Prop) (x : PyData) (xs : List PyData) (z : PyData) : Prop := ∀ (G H : Hp) (v : V) (vs : List V) (Q : VK), Same G H → Dt G v x → DtA G vs xs →
  (∀ u G' H', Nw G H G' → Same G' H' → Same H H' → Dt G' u z → Q u H') → r v vs H Q
section
variable {μ : Mu} {Γ : List Sl} {n n1 n2 : Nat} {P P1 P2 : PyData → Prop} {ta tb te : TE} {t u : TT} {x y z d : PyData} {r : R2} {K : PySem.W.Frag}
theorem Ev.imp (h : Ev μ te Γ n P1) (k : ∀ d, P1 d → P d) : Ev μ te Γ n P := fun G0 H0 G c σ H Q S l q => h G0 H0 G c σ H Q S l fun d v G' H' p => q d v G' H' (k d p)
theorem Ev.is (h : Ev μ te Γ n (Eq x)) (e : x = y) : Ev μ te Γ n (Eq y) := by rw [← e]; exact h
theorem Ev.cnt (h : Ev μ te Γ n1 P) (e : n1 ≤ n) : Ev μ te Γ n P := fun G0 H0 G c σ H Q S l q =>
  h G0 H0 G c σ H Q S (by omega) fun d v G' H' p S' => q d v G' H' p (S'.up (by omega))
theorem EvT.imp {P1 P : Bool → Prop} (h : EvT μ t Γ n P1) (k : ∀ d, P1 d → P d) : EvT μ t Γ n P := fun G0 H0 G c σ H Q S l q => h G0 H0 G c σ H Q S l fun d G' H' p => q d G' H' (k d p)
theorem EvT.is {x y : Bool} (h : EvT μ t Γ n (Eq x)) (e : x = y) : EvT μ t Γ n (Eq y) := by rw [← e]; exact h
theorem ev_var {i : Nat} (h : Γ[i]? = some (.dat d)) : Ev μ (tVar i) Γ 0 (Eq d) := fun G0 H0 G c σ H Q S _ q => by
  obtain ⟨v, e, hd⟩ := S.var h
  exact ⟨v, e, q d v G H rfl S (Ext.refl _ G H) hd⟩
theorem ev_int {i : Int} : Ev μ (tC (.int i)) Γ 0 (Eq (.int i)) := fun _ _ G _ _ H _ S _ q => q _ _ G H rfl S (Ext.refl _ G H) (.int i)
theorem ev_str {i : Str} : Ev μ (tC (.str i)) Γ 0 (Eq (.str i)) := fun _ _ G _ _ H _ S _ q => q _ _ G H rfl S (Ext.refl _ G H) (.str i)
theorem ev_bl {i : Bool} : Ev μ (tC (.bl i)) Γ 0 (Eq (.bool i)) := fun _ _ G _ _ H _ S _ q => q _ _ G H rfl S (Ext.refl _ G H) (.bl i)
theorem ev_non : Ev μ (tC .non) Γ 0 (Eq .none) := fun _ _ G _ _ H _ S _ q => q _ _ G H rfl S (Ext.refl _ G H) .non
/-- a two-place operation, all at once -/
theorem ev_opP (ha : Ev μ ta Γ n1 P1) (hb : Ev μ tb Γ n2 P2) (hr : ∀ x y, P1 x → P2 y → ∃ z, RD r x y z ∧ P z) : Ev μ (tOp r ta tb) Γ (n1 + n2) P := fun G0 H0 G c σ H Q S l q =>
  ha G0 H0 G c σ H _ S (by omega) fun x v G1 H1 p1 S1 e1 d1 => hb G0 H0 G1 (c + n1) σ H1 _ S1 (by omega) fun y w G2 H2 p2 S2 e2 d2 => by
    obtain ⟨z, h, pz⟩ := hr x y p1 p2
    refine h G2 H2 v w Q S2.sub (d1.mono e2.gg) d2 fun u G' H' nw s s' du => ?_
    have S3 := S2.same nw s s'
    rw [Nat.add_assoc] at S3
    exact q z u G' H' pz S3 ((e1.trans e2).trans (.same nw s')) du
theorem ev_op (ha : Ev μ ta Γ n1 (Eq x)) (hb : Ev μ tb Γ n2 (Eq y)) (hr : RD r x y z) : Ev μ (tOp r ta tb) Γ (n1 + n2) (Eq z) :=
  ev_opP ha hb fun _ _ e1 e2 => ⟨z, e1 ▸ e2 ▸ hr, rfl⟩
theorem ev_unP {r : V → Hp → VK → Prop} (ha : Ev μ ta Γ n P1) (hr : ∀ x, P1 x → ∃ z, RU r x z ∧ P z) : Ev μ (tUn r ta) Γ n P := fun G0 H0 G c σ H Q S l q =>
  ha G0 H0 G c σ H _ S l fun x v G1 H1 p1 S1 e1 d1 => by
    obtain ⟨z, h, pz⟩ := hr x p1
    exact h G1 H1 v Q S1.sub d1 fun u G' H' nw s s' du => q z u G' H' pz (S1.same nw s s') (e1.trans (.same nw s')) du
theorem ev_un {r : V → Hp → VK → Prop} (ha : Ev μ ta Γ n (Eq x)) (hr : RU r x z) : Ev μ (tUn r ta) Γ n (Eq z) := ev_unP ha fun _ e => ⟨z, e ▸ hr, rfl⟩
theorem ea_nil : EvA μ tNil Γ 0 (Eq []) := fun _ _ G _ _ H _ S _ q => q _ _ G H rfl S (Ext.refl _ G H) .nil
theorem ea_consP {tr : TA} {P2 P : List PyData → Prop} (ha : Ev μ ta Γ n1 P1) (hb : EvA μ tr Γ n2 P2) (hr : ∀ x y, P1 x → P2 y → P (x :: y)) : EvA μ (tCons ta tr) Γ (n1 + n2) P := fun G0 H0 G c σ H Q S l q =>
  ha G0 H0 G c σ H _ S (by omega) fun x v G1 H1 p1 S1 e1 d1 => hb G0 H0 G1 (c + n1) σ H1 _ S1 (by omega) fun y w G2 H2 p2 S2 e2 d2 => by
    rw [Nat.add_assoc] at S2
    exact q _ _ G2 H2 (hr x y p1 p2) S2 (e1.trans e2) (.cons (d1.mono e2.gg) d2)
theorem ea_cons {tr : TA} {xs : List PyData} (ha : Ev μ ta Γ n1 (Eq x)) (hb : EvA μ tr Γ n2 (Eq xs)) : EvA μ (tCons ta tr) Γ (n1 + n2) (Eq (x :: xs)) :=
  ea_consP ha hb fun _ _ e1 e2 => e1 ▸ e2 ▸ rfl
theorem EvA.imp {ta : TA} {P1 P : List PyData → Prop} (h : EvA μ ta Γ n P1) (k : ∀ d, P1 d → P d) : EvA μ ta Γ n P := fun G0 H0 G c σ H Q S l q => h G0 H0 G c σ H Q S l fun d v G' H' p => q d v G' H' (k d p)
theorem ev_lst {ta : TA} {P1 : List PyData → Prop} (h : EvA μ ta Γ n P1) (hl : ∀ xs, P1 xs → xs.length ≤ 100000) : Ev μ (tLst ta) Γ n (fun d => ∃ xs, P1 xs ∧ d = .list xs) := fun G0 H0 G c σ H Q S l q =>
  h G0 H0 G c σ H _ S l fun ds vs G1 H1 p1 S1 e1 d1 => ⟨by rw [d1.length]; exact Nat.le_trans (hl ds p1) (by decide), fun p hp =>
    q _ _ _ _ ⟨ds, p1, rfl⟩ (S1.laid hp) (e1.trans (.same (Nw.upd hp S1.sub) (Same.new hp))) (.lst upd_same (d1.mono (Nw.upd hp S1.sub).1))⟩
theorem ev_tup {ta : TA} {P1 : List PyData → Prop} (h : EvA μ ta Γ n P1) (hl : ∀ xs, P1 xs → xs.length ≤ 100000) : Ev μ (tTup ta) Γ n (fun d => ∃ xs, P1 xs ∧ d = .tuple xs) := fun G0 H0 G c σ H Q S l q =>
  h G0 H0 G c σ H _ S l fun ds vs G1 H1 p1 S1 e1 d1 => ⟨by rw [d1.length]; exact Nat.le_trans (hl ds p1) (by decide), fun p hp =>
    q _ _ _ _ ⟨ds, p1, rfl⟩ (S1.laid hp) (e1.trans (.same (Nw.upd hp S1.sub) (Same.new hp))) (.tup upd_same (d1.mono (Nw.upd hp S1.sub).1))⟩
theorem ev_lstE {ta : TA} {xs : List PyData} (h : EvA μ ta Γ n (Eq xs)) (hl : xs.length ≤ 100000 := by decide) : Ev μ (tLst ta) Γ n (Eq (.list xs)) :=
  (ev_lst h fun _ e => e ▸ hl).imp fun d ⟨ys, e1, e2⟩ => by rw [e2, ← e1]
theorem ev_tupE {ta : TA} {xs : List PyData} (h : EvA μ ta Γ n (Eq xs)) (hl : xs.length ≤ 100000 := by decide) : Ev μ (tTup ta) Γ n (Eq (.tuple xs)) :=
  (ev_tup h fun _ e => e ▸ hl).imp fun d ⟨ys, e1, e2⟩ => by rw [e2, ← e1]
/-- a built-in's call -/
theorem ev_cbP {r : List V → Hp → VK → Prop} {ta : TA} {P1 : List PyData → Prop} (ha : EvA μ ta Γ n P1) (hr : ∀ xs, P1 xs → ∃ z, RC r xs z ∧ P z) : Ev μ (tCB r ta) Γ n P := fun G0 H0 G c σ H Q S l q =>
  ha G0 H0 G c σ H _ S l fun x v G1 H1 p1 S1 e1 d1 => by
    obtain ⟨z, h, pz⟩ := hr x p1
    exact h G1 H1 v Q S1.sub d1 fun u G' H' nw s s' du => q z u G' H' pz (S1.same nw s s') (e1.trans (.same nw s')) du
theorem ev_cb {r : List V → Hp → VK → Prop} {ta : TA} {xs : List PyData} (ha : EvA μ ta Γ n (Eq xs)) (hr : RC r xs z) : Ev μ (tCB r ta) Γ n (Eq z) := ev_cbP ha fun _ e => ⟨z, e ▸ hr, rfl⟩
/-- a method of a text -/
theorem ev_m1P {r : V → List V → Hp → VK → Prop} (ha : Ev μ ta Γ n1 P1) (hb : Ev μ tb Γ n2 P2) (hx : ∀ x, P1 x → ∃ s, x = .str s) (hr : ∀ x y, P1 x → P2 y → ∃ z, RM r x [y] z ∧ P z) : Ev μ (tM1 r ta tb) Γ (n1 + n2) P := fun G0 H0 G c σ H Q S l q =>
  ha G0 H0 G c σ H _ S (by omega) fun x v G1 H1 p1 S1 e1 d1 => by
    obtain ⟨s, rfl⟩ := hx x p1
    refine ⟨by cases d1; exact ⟨s, rfl⟩, ?_⟩
    refine hb G0 H0 G1 (c + n1) σ H1 _ S1 (by omega) fun y w G2 H2 p2 S2 e2 d2 => ?_
    obtain ⟨z, h, pz⟩ := hr _ y p1 p2
    refine h G2 H2 v [w] Q S2.sub (d1.mono e2.gg) (.one d2) fun u G' H' nw s s' du => ?_
    have S3 := S2.same nw s s'
    rw [Nat.add_assoc] at S3
    exact q z u G' H' pz S3 ((e1.trans e2).trans (.same nw s')) du
theorem ev_m1 {r : V → List V → Hp → VK → Prop} {s : Str} (ha : Ev μ ta Γ n1 (Eq (.str s))) (hb : Ev μ tb Γ n2 (Eq y)) (hr : RM r (.str s) [y] z) : Ev μ (tM1 r ta tb) Γ (n1 + n2) (Eq z) :=
  ev_m1P ha hb (fun _ e => ⟨s, e.symm⟩) fun _ _ e1 e2 => ⟨z, e1 ▸ e2 ▸ hr, rfl⟩
/-! ### tests -/
theorem et_testP {P : Bool → Prop} (h : Ev μ te Γ n P1) (hb : ∀ d, P1 d → ∃ b, d = .bool b ∧ P b) : EvT μ (tTest te) Γ n P := fun G0 H0 G c σ H Q S l q =>
  h G0 H0 G c σ H _ S l fun d v G1 H1 p1 S1 e1 d1 => by
    obtain ⟨b, rfl, pb⟩ := hb d p1
    cases d1
    exact ⟨b, rfl, q b G1 H1 pb S1 e1⟩
theorem et_test {b : Bool} (h : Ev μ te Γ n (Eq (.bool b))) : EvT μ (tTest te) Γ n (Eq b) := et_testP h fun d e => ⟨b, e.symm, rfl⟩
theorem et_B {b : Bool} (h : Ev μ te Γ n (Eq (.bool b))) : EvT μ (tB te) Γ n (Eq b) := fun G0 H0 G c σ H Q S l q =>
  h G0 H0 G c σ H _ S l fun d v G1 H1 p1 S1 e1 d1 => by
    cases p1
    cases d1
    exact ⟨b, rfl, q b G1 H1 rfl S1 e1⟩
theorem et_not {b : Bool} (h : EvT μ t Γ n (Eq b)) : EvT μ (tNot t) Γ n (Eq (!b)) := fun G0 H0 G c σ H Q S l q =>
  h G0 H0 G c σ H _ S l fun d G1 H1 p1 => q (!d) G1 H1 (by rw [p1])
theorem et_and {a b : Bool} (h1 : EvT μ t Γ n1 (Eq a)) (h2 : a = true → EvT μ u Γ n2 (Eq b)) : EvT μ (tAnd t u) Γ (n1 + n2) (Eq (a && b)) := fun G0 H0 G c σ H Q S l q =>
  h1 G0 H0 G c σ H _ S (by omega) fun d G1 H1 p1 S1 e1 => by
    subst p1
    cases a with
    | true =>
      refine iteT (h2 rfl G0 H0 G1 (c + n1) σ H1 _ S1 (by omega) fun d2 G2 H2 p2 S2 e2 => ?_)
      rw [Nat.add_assoc] at S2
      exact q d2 G2 H2 (by rw [← p2]; rfl) S2 (e1.trans e2)
    | false => exact iteF (q false G1 H1 rfl (S1.up (by omega)) e1)
theorem et_or {a b : Bool} (h1 : EvT μ t Γ n1 (Eq a)) (h2 : a = false → EvT μ u Γ n2 (Eq b)) : EvT μ (tOr t u) Γ (n1 + n2) (Eq (a || b)) := fun G0 H0 G c σ H Q S l q =>
  h1 G0 H0 G c σ H _ S (by omega) fun d G1 H1 p1 S1 e1 => by
    subst p1
    cases a with
    | false =>
      refine iteF (h2 rfl G0 H0 G1 (c + n1) σ H1 _ S1 (by omega) fun d2 G2 H2 p2 S2 e2 => ?_)
      rw [Nat.add_assoc] at S2
      exact q d2 G2 H2 (by rw [← p2]; rfl) S2 (e1.trans e2)
    | true => exact iteT (q true G1 H1 rfl (S1.up (by omega)) e1)
theorem ev_andV {a : Bool} (h1 : Ev μ ta Γ n1 (Eq (.bool a))) (h2 : a = true → Ev μ tb Γ n2 (Eq y)) : Ev μ (tAndV ta tb) Γ (n1 + n2) (Eq (if a = true then y else .bool false)) := fun G0 H0 G c σ H Q S l q =>
  h1 G0 H0 G c σ H _ S (by omega) fun d v G1 H1 p1 S1 e1 d1 => by
    subst p1
    cases d1
    refine ⟨a, rfl, ?_⟩
    cases a with
    | true =>
      refine iteT (h2 rfl G0 H0 G1 (c + n1) σ H1 _ S1 (by omega) fun d2 v2 G2 H2 p2 S2 e2 d2' => ?_)
      rw [Nat.add_assoc] at S2
      exact q d2 v2 G2 H2 (by rw [← p2]; rfl) S2 (e1.trans e2) d2'
    | false => exact iteF (q _ _ G1 H1 rfl (S1.up (by omega)) e1 (.bl false))
theorem ev_orV {a : Bool} (h1 : Ev μ ta Γ n1 (Eq (.bool a))) (h2 : a = false → Ev μ tb Γ n2 (Eq y)) : Ev μ (tOrV ta tb) Γ (n1 + n2) (Eq (if a = true then .bool true else y)) := fun G0 H0 G c σ H Q S l q =>
  h1 G0 H0 G c σ H _ S (by omega) fun d v G1 H1 p1 S1 e1 d1 => by
    subst p1
    cases d1
    refine ⟨a, rfl, ?_⟩
    cases a with
    | false =>
      refine iteF (h2 rfl G0 H0 G1 (c + n1) σ H1 _ S1 (by omega) fun d2 v2 G2 H2 p2 S2 e2 d2' => ?_)
      rw [Nat.add_assoc] at S2
      exact q d2 v2 G2 H2 (by rw [← p2]; rfl) S2 (e1.trans e2) d2'
    | true => exact iteT (q _ _ G1 H1 rfl (S1.up (by omega)) e1 (.bl true))
theorem ev_notV {a : Bool} (h1 : Ev μ ta Γ n (Eq (.bool a))) : Ev μ (tNotV ta) Γ n (Eq (.bool (!a))) := fun G0 H0 G c σ H Q S l q =>
  h1 G0 H0 G c σ H _ S l fun d v G1 H1 p1 S1 e1 d1 => by
    subst p1
    cases d1
    exact ⟨a, rfl, q _ _ G1 H1 rfl S1 e1 (.bl _)⟩
theorem ev_if {b : Bool} (h : EvT μ t Γ n (Eq b)) (h1 : b = true → Ev μ ta Γ n1 P) (h2 : b = false → Ev μ tb Γ n2 P) : Ev μ (tIf t ta tb) Γ (n + max n1 n2) P := fun G0 H0 G c σ H Q S l q =>
  h G0 H0 G c σ H _ S (by omega) fun d G1 H1 p1 S1 e1 => by
    subst p1
    cases b with
    | true =>
      refine iteT (h1 rfl G0 H0 G1 (c + n) σ H1 _ S1 (by omega) fun d2 v2 G2 H2 p2 S2 e2 d2' => ?_)
      exact q d2 v2 G2 H2 p2 (S2.up (by omega)) (e1.trans e2) d2'
    | false =>
      refine iteF (h2 rfl G0 H0 G1 (c + n) σ H1 _ S1 (by omega) fun d2 v2 G2 H2 p2 S2 e2 d2' => ?_)
      exact q d2 v2 G2 H2 p2 (S2.up (by omega)) (e1.trans e2) d2'
end
end B

/-! B1: defs whose promise is kept where no repr is under way (guards = some []); statements over data. -/
namespace B
open PySem PySem.Spec PyProof.Rows L2

/-- as FnOk, where no repr is under way around the call -/
structure FnG (P : Program) (w : World) (K : PySem.W.Frag) (mg : Str → Option Value) (base : Heap) (CX : CXT) (k : Nat) (f : Addr) (fd : FuncData) (ps : List Str) (sp : Sp) : Prop where
  many : ∀ vs H Q E, sp vs H Q E → vs.length = ps.length
  runs : ∀ (A : Around) (fs : List Env) (s : Shared) (H : Hp) (given : Args) (us : List Value) (vs : List V) (Q : VK) (E : XK), A.guards = some [] → Room k A → Env0 P w K mg base A fs s H →
    BindsTo s fd given (ps.zip us) → Vals vs us → sp vs H Q E → codeAny (model P w) A (.call (.ref f) given) (CR CX fs P w H s Q E) s
section
variable {P : Program} {w : World} {K : PySem.W.Frag} {mg : Str → Option Value} {base : Heap} {CX : CXT}
theorem FnG.mono {j k : Nat} {f : Addr} {fd : FuncData} {ps : List Str} {sp : Sp} (F : FnG P w K mg base CX j f fd ps sp) (h : j ≤ k) : FnG P w K mg base CX k f fd ps sp :=
  ⟨F.many, fun A fs s H g us vs Q E hg hr => F.runs A fs s H g us vs Q E hg (hr.mono h)⟩
theorem FnG.of_ok {k : Nat} {f : Addr} {fd : FuncData} {ps : List Str} {sp : Sp} (F : FnOk P w K mg base CX k f fd ps sp) : FnG P w K mg base CX k f fd ps sp :=
  ⟨F.len, fun A fs s H g us vs Q E _ hr => F.run A fs s H g us vs Q E hr⟩
theorem FnG.imp {k : Nat} {f : Addr} {fd : FuncData} {ps : List Str} {sp sp' : Sp} (F : FnG P w K mg base CX k f fd ps sp) (h : ∀ vs H Q E, sp' vs H Q E → sp vs H Q E) : FnG P w K mg base CX k f fd ps sp' :=
  ⟨fun vs H Q E q => F.many vs H Q E (h vs H Q E q), fun A fs s H g us vs Q E hg hr he hb hv q => F.runs A fs s H g us vs Q E hg hr he hb hv (h vs H Q E q)⟩
/-- a def's body, the guards known: X is the body's context -/
theorem Fun.okG {x qual : Str} {st : Stmt} {f : Addr} {fd : FuncData} {N ps : List Str} {k : Nat} {sp : Sp} (F : Fun K x qual st f fd) (S : FnScope N ps (defScope st)) (hlen : ∀ vs H Q E, sp vs H Q E → vs.length = ps.length)
    (body : ∀ (cdv : Value) (A : Around) (fs : List Env) (s : Shared) (H : Hp) (vs : List V) (Q : VK) (E : XK), A.guards = some [] → Room k (A.deeper (envOfC qual (defScope st) s.heap.objs.size f cdv)) → sp vs H Q E →
      ∃ t, PSs (cxOf CX P w K mg base N qual (defScope st) f cdv A fs s H E) (defBody st) t ∧ t { nx := fun _ H' => Q .non H', rt := Q } (start N vs) H) :
    FnG P w K mg base CX (k + 1) f fd ps sp := by
  obtain ⟨oc, od, kV, doc, pm, an, cdv, ct, osl, rfl, lk, hcd⟩ := F.ex
  refine ⟨hlen, fun A fs s H g us vs Q E hg hr env hb rel want => ?_⟩
  have inK : K.In s.heap := env.mod.kin.keeps fun b o e => (env.bs b o e).1
  have nolim : s.heap.NoLimit := env.mod.nolimit.keeps fun b o e => (env.bs b o e).1
  have kinds : ∀ y ∈ ps.zip us, (defScope st).names.lookup y.1 = some .local ∨
      ((defScope st).names.lookup y.1 = some .cell ∧ ((cellsFrom (s.heap.objs.size + 1) (defScope st).names []).lookup y.1).isSome = true) := by
    rintro ⟨nm, u⟩ hy
    exact (S.par nm (List.of_mem_zip hy).1).imp id fun c => ⟨c, PySem.W.cellsFrom_some _ _ _ (.inl c)⟩
  apply codeAny_call_function hr.depth (inK _ _ lk) rfl S.co S.gen rfl (PySem.W.codeRec_of inK hcd)
  refine hb _ _ _ _ (wpAny_newFunctionEnv_cells S.kind kinds fun ev hev s1 inC => ?_)
  cases hev
  refine ⟨nolim.keeps inC.toInCall.keep, codeAny_func ?_⟩
  obtain ⟨t, ht, go⟩ := body cdv A fs s H vs Q E hg (hr.deeper _) want
  have I0 := inv_start (CX := CX) (E := E) S hr.hd env (hlen _ _ _ _ want) rel inC
  refine wpAny_mono (ht.run [] s1 (start N vs) H _ I0 go) ?_ fun e s' z => z
  intro fl s' z
  cases fl with
  | ret u =>
    obtain ⟨v, σ', H', J, rv, q⟩ := z
    exact ⟨v, H', J.os, J.bare, J.base, J.hok, rv, q⟩
  | next =>
    obtain ⟨σ', H', J, q⟩ := z
    exact ⟨.non, H', J.os, J.bare, J.base, J.hok, rfl, q⟩
  | brk => exact z.elim fun _ z => z.elim fun _ z => z.2.elim
  | cont => exact z.elim fun _ z => z.elim fun _ z => z.2.elim
/-- .. where nothing that is raised leaves the body -/
theorem Fun.okN {x qual : Str} {st : Stmt} {f : Addr} {fd : FuncData} {N ps : List Str} {k : Nat} {sp : Sp} (F : Fun K x qual st f fd) (S : FnScope N ps (defScope st)) (hlen : ∀ vs H Q E, sp vs H Q E → vs.length = ps.length)
    (body : ∀ (cdv : Value) (A : Around) (fs : List Env) (s : Shared) (H : Hp) (vs : List V) (Q : VK) (E : XK), A.guards = some [] → Room k (A.deeper (envOfC qual (defScope st) s.heap.objs.size f cdv)) → sp vs H Q E →
      ∃ t, PSs (cxOf CX0 P w K mg base N qual (defScope st) f cdv A fs s H E).nox (defBody st) t ∧ t { nx := fun _ H' => Q .non H', rt := Q } (start N vs) H) :
    FnG P w K mg base CX0 (k + 1) f fd ps sp :=
  Fun.okG F S hlen fun cdv A fs s H vs Q E hg hr q => let ⟨t, h, go⟩ := body cdv A fs s H vs Q E hg hr q; ⟨t, h.nox, go⟩
end
section
variable {X : Cx} {CX : CXT} {k : Nat} {f : Addr} {fd : FuncData} {ps ks : List Str} {sp : Sp} {dvs : List V} {ds : List Value} {E : XK} {x : Str} {p pos : Pos} {e : Expr} {es : List Expr} {kws : List Keyword} {t tk : TA}
theorem ends_call {pins : List (Addr × Obj)} {σ : L2.St} {H : Hp} {s : Shared} {Q : VK} (hx : Passes CX X E) (I : Inv X pins σ H s) {r : Result} {s' : Shared} (h : CR CX X.stack X.prog X.w H s Q E r s') :
    match r with
    | .ok (.ret u) => EP X pins σ Q u s'
    | .ok _ => False
    | .error e => X.xe e s' := by
  cases r with
  | error e => exact hx pins σ H s e s' I h
  | ok fl => cases fl <;> first | exact I.after h | exact h
theorem runG {pins : List (Addr × Obj)} {σ : L2.St} {H : Hp} {s : Shared} {Q : VK} {us : List Value} {vs : List V} (F : FnG X.prog X.w X.K X.mg X.base CX k f fd ps sp) (hg : X.A.guards = some []) (hr : Room k X.A) (hb : Binds X.K fd ps ds) (hd : Vals dvs ds) (hx : Passes CX X E)
    (I : Inv X pins σ H s) (r : Vals vs us) (h : sp (vs ++ dvs) H Q E) : wpAny (model X.prog X.w) X.A (call (.ref f) us) (EP X pins σ Q) X.xe s := by
  have rel := r.append hd
  have many := F.many _ _ _ _ h
  rw [rel.length] at many
  refine wpAny_call (codeAny_mono (F.runs X.A X.stack s H ⟨us, []⟩ (us ++ ds) (vs ++ dvs) Q E hg hr I.env0 (hb s us I.kIn many) rel h) fun res s' z => ?_)
  have z' := ends_call hx I z
  cases res with
  | error e => exact z'
  | ok fl => cases fl <;> first | exact z' | exact z'.elim
theorem runGK {pins : List (Addr × Obj)} {σ : L2.St} {H : Hp} {s : Shared} {Q : VK} {us ws : List Value} {vs zs : List V} {g : List Value → List Value → List Value} {gV : List V → List V → List V} (F : FnG X.prog X.w X.K X.mg X.base CX k f fd ps sp) (hg : X.A.guards = some [])
    (hr : Room k X.A) (hb : KBinds X.K fd ps ks g gV) (hx : Passes CX X E) (I : Inv X pins σ H s) (r : Vals vs us) (rz : Vals zs ws) (h : sp (gV vs zs) H Q E) : wpAny (model X.prog X.w) X.A (call (.ref f) us (ks.zip ws)) (EP X pins σ Q) X.xe s := by
  have rel := hb.rel r rz
  have many := F.many _ _ _ _ h
  rw [rel.length] at many
  refine wpAny_call (codeAny_mono (F.runs X.A X.stack s H ⟨us, ks.zip ws⟩ (g us ws) (gV vs zs) Q E hg hr I.env0 (hb.to s us ws I.kIn many) rel h) fun res s' z => ?_)
  have z' := ends_call hx I z
  cases res with
  | error e => exact z'
  | ok fl => cases fl <;> first | exact z' | exact z'.elim
/-- f(e, ..) -/
theorem pc_call (F : FnG X.prog X.w X.K X.mg X.base CX k f fd ps sp) (hG : X.A.guards = some []) (hr : Room k X.A) (hg : Gl X x) (hm : X.mg x = some (.ref f)) (hk : PySem.W.keepIn X.K (.ref f) = true) (hb : Binds X.K fd ps ds) (hd : Vals dvs ds) (hx : Passes CX X E)
    (ha : PA X (e :: es) t) (hdb : (x == ("__debug__" : Str)) = false := by decide) (he : starEach (e :: es) X.env = (false, eval e X.env) :: starEach es X.env := by rfl) (hpl : (backTo pos (starEach es X.env)).any (·.1) = false := by rfl) :
    PE X (.Call (.Name x p) (e :: es) [] pos) (tCall sp dvs E t) := ⟨fun pins s σ H Q I h =>
  wpAny_Call_Name_kw (ld_glob I hg hm (PySem.W.callWith_K (h₀ := X.base) I.mod.kin hk (thn (ha.run pos pins s σ H _ I h) fun us s1 ⟨vs, H1, I1, r, q⟩ => ⟨I1.kIn, runG F hG hr hb hd hx I1 r q⟩) he hpl) hdb)⟩
/-- f() -/
theorem pc_call0 (F : FnG X.prog X.w X.K X.mg X.base CX k f fd ps sp) (hG : X.A.guards = some []) (hr : Room k X.A) (hg : Gl X x) (hm : X.mg x = some (.ref f)) (hk : PySem.W.keepIn X.K (.ref f) = true) (hb : Binds X.K fd ps ds) (hd : Vals dvs ds) (hx : Passes CX X E)
    (hdb : (x == ("__debug__" : Str)) = false := by decide) : PE X (.Call (.Name x p) [] [] pos) (tCall sp dvs E tNil) := ⟨fun pins s σ H Q I h =>
  wpAny_Call_Name_kw (ld_glob I hg hm (PySem.W.callWith_K0 I.kIn hk (runG (us := []) F hG hr hb hd hx I .nil h)) hdb)⟩
/-- f(e, .., k = v, ..) -/
theorem pc_callK {g : List Value → List Value → List Value} {gV : List V → List V → List V} (F : FnG X.prog X.w X.K X.mg X.base CX k f fd ps sp) (hG : X.A.guards = some []) (hr : Room k X.A) (hg : Gl X x) (hm : X.mg x = some (.ref f)) (hk : PySem.W.keepIn X.K (.ref f) = true)
    (hb : KBinds X.K fd ps ks g gV) (hx : Passes CX X E) (ha : PA X (e :: es) t) (hkw : PK X kws tk) (hall : (backToKw pos (keywordEach kws X.env)).all (·.1.isSome) = true := by rfl) (hks : (backToKw pos (keywordEach kws X.env)).filterMap (·.1) = ks := by rfl)
    (hdb : (x == ("__debug__" : Str)) = false := by decide) (he : starEach (e :: es) X.env = (false, eval e X.env) :: starEach es X.env := by rfl)
    (hpl : ((backTo pos (starEach (e :: es) X.env)).any (·.1) || (backToKw pos (keywordEach kws X.env)).any (·.1.isNone)) = false := by rfl) :
    PE X (.Call (.Name x p) (e :: es) kws pos) (tCallK sp gV E t tk) := ⟨fun pins s σ H Q I h =>
  wpAny_Call_Name_kw (ld_glob I hg hm (PySem.W.callWith_KW (h₀ := X.base) I.mod.kin hk hall (thn (ha.run pos pins s σ H _ I h) fun us s1 ⟨vs, H1, I1, r, q⟩ =>
    thn (hkw.run pos pins s1 σ H1 _ I1 q) fun ws s2 ⟨zs, H2, I2, rz, q2⟩ => ⟨I2.kIn, by rw [hks]; exact runGK F hG hr hb hx I2 r rz q2⟩) hpl he) hdb)⟩
end
end B
namespace B
open PySem PySem.Spec PyProof.Rows L2
/-- f(k = v, ..) -/
theorem pc_callK0 {X : Cx} {CX : CXT} {k : Nat} {f : Addr} {fd : FuncData} {ps ks : List Str} {sp : Sp} {E : XK} {x : Str} {p pos : Pos} {kws : List Keyword} {tk : TA} {g : List Value → List Value → List Value} {gV : List V → List V → List V} (F : FnG X.prog X.w X.K X.mg X.base CX k f fd ps sp)
    (hG : X.A.guards = some []) (hr : Room k X.A) (hg : Gl X x) (hm : X.mg x = some (.ref f)) (hk : PySem.W.keepIn X.K (.ref f) = true) (hb : KBinds X.K fd ps ks g gV) (hx : Passes CX X E) (hkw : PK X kws tk)
    (hall : (backToKw pos (keywordEach kws X.env)).all (·.1.isSome) = true := by rfl) (hks : (backToKw pos (keywordEach kws X.env)).filterMap (·.1) = ks := by rfl) (hdb : (x == ("__debug__" : Str)) = false := by decide)
    (hpl : ((backTo pos (starEach [] X.env)).any (·.1) || (backToKw pos (keywordEach kws X.env)).any (·.1.isNone)) = false := by rfl) :
    PE X (.Call (.Name x p) [] kws pos) (tCallK sp gV E tNil tk) := ⟨fun pins s σ H Q I h =>
  wpAny_Call_Name_kw (ld_glob I hg hm (PySem.W.callWith_KW0 (h₀ := X.base) I.mod.kin hk hall (thn (hkw.run pos pins s σ H _ I h) fun ws s2 ⟨zs, H2, I2, rz, q2⟩ =>
    ⟨I2.kIn, by rw [hks]; exact runGK (us := []) F hG hr hb hx I2 .nil rz q2⟩) hpl) hdb)⟩
end B

/-! B2: targets, walks, comprehensions, statements, promises over data. -/
namespace B
open PySem PySem.Spec PyProof.Rows L2

/-! ### slots forgotten -/
def wipeG (Γ : List Sl) : List Nat → List Sl
  | [] => Γ
  | v :: vs => (wipeG Γ vs).set v .un
theorem set_none_comm (σ : L2.St) (i j : Nat) (v : Option V) : i ≠ j → (σ.set i v).set j none = (σ.set j none).set i v := fun h => List.set_comm _ _ h
theorem wipe_set_mem {j : Nat} {v : Option V} : ∀ {vs : List Nat} (σ : L2.St), j ∈ vs → wipe (σ.set j v) vs = wipe σ vs
  | [], _, h => by simp at h
  | w :: ws, σ, h => by
    by_cases hm : j ∈ ws
    · show (wipe (σ.set j v) ws).set w none = (wipe σ ws).set w none
      rw [wipe_set_mem σ hm]
    · have e : j = w := by
        rcases List.mem_cons.mp h with e | e
        · exact e
        · exact absurd e hm
      subst e
      show (wipe (σ.set j v) ws).set j none = (wipe σ ws).set j none
      have : ∀ (us : List Nat) (τ : L2.St), j ∉ us → wipe (τ.set j v) us = (wipe τ us).set j v := by
        intro us
        induction us with
        | nil => intro τ _; rfl
        | cons u us ih =>
          intro τ hu
          have h1 : j ≠ u := fun e => hu (by rw [e]; exact List.mem_cons_self)
          have h2 : j ∉ us := fun e => hu (List.mem_cons_of_mem _ e)
          show (wipe (τ.set j v) us).set u none = ((wipe τ us).set u none).set j v
          rw [ih τ h2, List.set_comm _ _ h1]
      rw [this ws σ hm, List.set_set]
theorem wipe_wipe : ∀ (vs : List Nat) (σ : L2.St) (us : List Nat), (∀ v ∈ vs, v ∈ us) → wipe (wipe σ vs) us = wipe σ us
  | [], _, _, _ => rfl
  | v :: vs, σ, us, h => by
    show wipe ((wipe σ vs).set v none) us = wipe σ us
    rw [wipe_set_mem _ (h v List.mem_cons_self), wipe_wipe vs σ us fun w hw => h w (List.mem_cons_of_mem _ hw)]
section
variable {μ : Mu} {G0 H0 G G' : Hp} {Γ : List Sl} {c c' : Nat} {σ : L2.St} {H H' : Hp}
theorem Stt.unset (S : Stt μ G0 H0 G Γ c σ H) {i : Nat} {o : Option V} : Stt μ G0 H0 G (Γ.set i .un) c (σ.set i o) H where
  len := by rw [List.length_set, List.length_set]; exact S.len
  new := S.new
  sub := S.sub
  fr := S.fr
  ent := S.ent
  inv := S.inv
  sl := fun j t e => by
    by_cases q : j = i
    · subst q
      have hl : j < Γ.length := by
        have := (List.getElem?_eq_some_iff.mp e).1
        rw [List.length_set] at this; exact this
      rw [List.getElem?_set_self hl] at e
      cases e
      exact ⟨o, List.getElem?_set_self (by rw [S.len]; exact hl), trivial⟩
    · rw [List.getElem?_set_ne (Ne.symm q)] at e ⊢
      exact S.sl j t e
  dj := fun j k p a b => by
    have key : ∀ m, Owns (Γ.set i .un) (σ.set i o) m p → m ≠ i := fun m z q => by
      subst q
      rcases z.1 with ⟨ds, e⟩ | ⟨ds, e⟩
      all_goals
        have hl : m < Γ.length := by
          have := (List.getElem?_eq_some_iff.mp e).1
          rw [List.length_set] at this; exact this
        rw [List.getElem?_set_self hl] at e
        cases e
    have oth : ∀ m, Owns (Γ.set i .un) (σ.set i o) m p → Owns Γ σ m p := fun m z => by
      have q := key m z
      unfold Owns at z ⊢
      rw [List.getElem?_set_ne (Ne.symm q), List.getElem?_set_ne (Ne.symm q)] at z
      exact z
    exact S.dj j k p (oth j a) (oth k b)
theorem Stt.wipe (S : Stt μ G0 H0 G Γ c σ H) : ∀ vs : List Nat, Stt μ G0 H0 G (wipeG Γ vs) c (L2.wipe σ vs) H
  | [] => S
  | v :: vs => (Stt.wipe S vs).unset
end

/-! ### targets -/
def EvG (g : TG) (d : PyData) (is : List Nat) (Γ Γ' : List Sl) : Prop :=
  ∀ (μ : Mu) (G0 H0 G : Hp) (c : Nat) (σ : L2.St) (H : Hp) (v : V) (Q : L2.St → Hp → Prop), Stt μ G0 H0 G Γ c σ H → Dt G v d →
    (∀ σ', Stt μ G0 H0 G Γ' c σ' H → (∀ vs, (∀ i ∈ is, i ∈ vs) → wipe σ' vs = wipe σ vs) → Q σ' H) → g v σ H Q
def EvGs (g : TGs) (ds : List PyData) (is : List Nat) (Γ Γ' : List Sl) : Prop :=
  ∀ (μ : Mu) (G0 H0 G : Hp) (c : Nat) (σ : L2.St) (H : Hp) (vs : List V) (Q : L2.St → Hp → Prop), Stt μ G0 H0 G Γ c σ H → DtA G vs ds →
    (∀ σ', Stt μ G0 H0 G Γ' c σ' H → (∀ vs, (∀ i ∈ is, i ∈ vs) → wipe σ' vs = wipe σ vs) → Q σ' H) → g vs σ H Q
theorem eg_name {i : Nat} {d : PyData} {Γ : List Sl} : EvG (gName i) d [i] Γ (Γ.set i (.dat d)) := fun μ G0 H0 G c σ H v Q S h q =>
  q _ (S.setD h) fun vs hv => wipe_set_mem σ (hv i List.mem_cons_self)
theorem egs_nil {Γ : List Sl} : EvGs gNil [] [] Γ Γ := fun μ G0 H0 G c σ H v Q S h q => by
  cases h
  exact ⟨rfl, q σ S fun _ _ => rfl⟩
theorem egs_cons {g : TG} {gs : TGs} {d : PyData} {ds : List PyData} {is js : List Nat} {Γ Γ1 Γ2 : List Sl} (h1 : EvG g d is Γ Γ1) (h2 : EvGs gs ds js Γ1 Γ2) : EvGs (gCons g gs) (d :: ds) (is ++ js) Γ Γ2 := fun μ G0 H0 G c σ H vs Q S h q => by
  cases h with
  | cons a b =>
    refine ⟨_, _, rfl, h1 μ G0 H0 G c σ H _ _ S a fun σ1 S1 w1 => h2 μ G0 H0 G c σ1 H _ _ S1 b fun σ2 S2 w2 => q σ2 S2 fun us hu => ?_⟩
    rw [w2 us fun i hi => hu i (List.mem_append_right _ hi), w1 us fun i hi => hu i (List.mem_append_left _ hi)]
theorem eg_tup {K : PySem.W.Frag} {n : Nat} {gs : TGs} {ds : List PyData} {is : List Nat} {Γ Γ' : List Sl} (h : EvGs gs ds is Γ Γ') (hn : ds.length = n) : EvG (gTup K n gs) (.tuple ds) is Γ Γ' := fun μ G0 H0 G c σ H v Q S hd q => by
  cases hd with
  | tup e r => exact ⟨_, _, rfl, SqT.of (S.sub _ _ e), by rw [r.length]; exact hn, h μ G0 H0 G c σ H _ _ S r q⟩

/-! ### walks -/
/-- J gives ds, one by one, while G stands and the pins hold -/
structure DWalk (J : It) (G : Hp) (pins : List (Addr × HO)) (ds : List PyData) : Prop where
  go : ∀ i H, i < ds.length → Same G H → (∀ p ∈ pins, H p.1 = some p.2) → J.go i H
  stop : ∀ H, Same G H → (∀ p ∈ pins, H p.1 = some p.2) → J.stop ds.length H
  yld : ∀ i H G1 x H', i < ds.length → Same G G1 → Same G1 H → (∀ p ∈ pins, H p.1 = some p.2) → J.yld i H x H' → ∃ G2 d, ds[i]? = some d ∧ Nw G1 H G2 ∧ Same G2 H' ∧ Same H H' ∧ Dt G2 x d
theorem DWalk.mono {J : It} {G G' : Hp} {pins : List (Addr × HO)} {ds : List PyData} (w : DWalk J G pins ds) (e : Same G G') : DWalk J G' pins ds :=
  ⟨fun i H hi s p => w.go i H hi (e.trans s) p, fun H s p => w.stop H (e.trans s) p, fun i H G1 x H' hi s s1 p y => w.yld i H G1 x H' hi (e.trans s) s1 p y⟩
def EvI (μ : Mu) (wi : TI) (Γ : List Sl) (n : Nat) (P : List PyData → Prop) : Prop :=
  ∀ (G0 H0 G : Hp) (c : Nat) (σ : L2.St) (H : Hp) (R : It → Hp → Prop), Stt μ G0 H0 G Γ c σ H → c + n ≤ CM →
    (∀ ds J pins G' H', P ds → Stt μ G0 H0 G' Γ (c + n) σ H' → Ext μ.M G H G' H' → DWalk J G' pins ds → (∀ p ∈ pins, ¬ μ.M p.1 ∧ H' p.1 = some p.2) → R J H') → wi σ H R
/-- .. without pins -/
def EvW (μ : Mu) (wi : TI) (Γ : List Sl) (n : Nat) (P : List PyData → Prop) : Prop :=
  ∀ (G0 H0 G : Hp) (c : Nat) (σ : L2.St) (H : Hp) (R : It → Hp → Prop), Stt μ G0 H0 G Γ c σ H → c + n ≤ CM →
    (∀ ds J G' H', P ds → Stt μ G0 H0 G' Γ (c + n) σ H' → Ext μ.M G H G' H' → DWalk J G' [] ds → R J H') → wi σ H R
theorem EvW.i {μ : Mu} {wi : TI} {Γ : List Sl} {n : Nat} {P : List PyData → Prop} (h : EvW μ wi Γ n P) : EvI μ wi Γ n P := fun G0 H0 G c σ H R S l q =>
  h G0 H0 G c σ H R S l fun ds J G' H' p S' e w => q ds J [] G' H' p S' e w fun p hp => by simp at hp
theorem EvI.imp {μ : Mu} {wi : TI} {Γ : List Sl} {n : Nat} {P P' : List PyData → Prop} (h : EvI μ wi Γ n P) (k : ∀ d, P d → P' d) : EvI μ wi Γ n P' := fun G0 H0 G c σ H Q S l q => h G0 H0 G c σ H Q S l fun ds J pins G' H' p => q ds J pins G' H' (k ds p)
theorem EvW.imp {μ : Mu} {wi : TI} {Γ : List Sl} {n : Nat} {P P' : List PyData → Prop} (h : EvW μ wi Γ n P) (k : ∀ d, P d → P' d) : EvW μ wi Γ n P' := fun G0 H0 G c σ H Q S l q => h G0 H0 G c σ H Q S l fun ds J G' H' p => q ds J G' H' (k ds p)
section
variable {μ : Mu} {Γ : List Sl} {n : Nat} {K : PySem.W.Frag} {te : TE} {ta : TA}
theorem dwalk_at {J : It} {xs : List V} {G : Hp} {C : Hp → Prop} {pins : List (Addr × HO)} {ds : List PyData} (w : Walk J xs.length C (YAt xs)) (hC : ∀ H, Same G H → (∀ p ∈ pins, H p.1 = some p.2) → C H) (hd : DtA G xs ds) : DWalk J G pins ds := by
  have hl := hd.length
  refine ⟨fun i H hi s p => w.goes i H (by omega) (hC H s p), fun H s p => by rw [← hl]; exact w.stops H (hC H s p), fun i H G1 x H' hi s s1 p y => ?_⟩
  obtain ⟨e1, e2⟩ := w.yields i H x H' (by omega) (hC H (s.trans s1) p) y
  subst e1
  obtain ⟨d, h1, h2⟩ := hd.get e2
  exact ⟨G1, d, h1, Nw.refl _ _, s1, Same.refl _, h2.mono s⟩
theorem dwalk_fn {J : It} {f : Nat → V} {G : Hp} {C : Hp → Prop} {pins : List (Addr × HO)} {ds : List PyData} (w : Walk J ds.length C (YFn f)) (hC : ∀ H, C H) (hd : ∀ i d, ds[i]? = some d → Dt G (f i) d) : DWalk J G pins ds := by
  refine ⟨fun i H hi s p => w.goes i H hi (hC H), fun H s p => w.stops H (hC H), fun i H G1 x H' hi s s1 p y => ?_⟩
  obtain ⟨e1, e2⟩ := w.yields i H x H' hi (hC H) y
  subst e1 e2
  exact ⟨G1, ds[i], List.getElem?_eq_getElem hi, Nw.refl _ _, s1, Same.refl _, (hd i _ (List.getElem?_eq_getElem hi)).mono s⟩
theorem ew_list {P : PyData → Prop} (h : Ev μ te Γ n P) (hl : ∀ d, P d → ∃ ds, d = .list ds) : EvW μ (iList K te) Γ n (fun ds => P (.list ds)) := fun G0 H0 G c σ H R S l q =>
  h G0 H0 G c σ H _ S l fun d v G1 H1 p S1 e hd => by
    obtain ⟨ds, rfl⟩ := hl d p
    cases hd with
    | lst a r => exact ⟨_, rfl, ⟨_, SqL.of (S1.sub _ _ a)⟩, q ds _ G1 H1 p S1 e (dwalk_at walk_list (fun H s _ => SqL.of (s _ _ a)) r)⟩
theorem ew_tup {P : PyData → Prop} (h : Ev μ te Γ n P) (hl : ∀ d, P d → ∃ ds, d = .tuple ds) : EvW μ (iTup K te) Γ n (fun ds => P (.tuple ds)) := fun G0 H0 G c σ H R S l q =>
  h G0 H0 G c σ H _ S l fun d v G1 H1 p S1 e hd => by
    obtain ⟨ds, rfl⟩ := hl d p
    cases hd with
    | tup a r => exact ⟨_, rfl, ⟨_, SqT.of (S1.sub _ _ a)⟩, q ds _ G1 H1 p S1 e (dwalk_at walk_tup (fun H s _ => SqT.of (s _ _ a)) r)⟩
theorem ew_listE {ds : List PyData} (h : Ev μ te Γ n (Eq (.list ds))) : EvW μ (iList K te) Γ n (Eq ds) := (ew_list h fun d e => ⟨ds, e.symm⟩).imp fun d e => by cases e; rfl
theorem ew_tupE {ds : List PyData} (h : Ev μ te Γ n (Eq (.tuple ds))) : EvW μ (iTup K te) Γ n (Eq ds) := (ew_tup h fun d e => ⟨ds, e.symm⟩).imp fun d e => by cases e; rfl
def rngD (lo : Int) (n : Nat) : List PyData := (List.range n).map fun i => .int (lo + (i : Nat))
theorem rngD_len (lo : Int) (n : Nat) : (rngD lo n).length = n := by unfold rngD; rw [List.length_map, List.length_range]
theorem rngD_get {lo : Int} {n i : Nat} {d : PyData} (h : (rngD lo n)[i]? = some d) : d = .int (lo + (i : Nat)) := by
  unfold rngD at h
  have hi := (List.getElem?_eq_some_iff.mp h).1
  rw [List.length_map, List.length_range] at hi
  rw [List.getElem?_map, List.getElem?_range hi] at h
  cases h; rfl
theorem ew_rng1 {P : List PyData → Prop} (h : EvA μ ta Γ n P) (hl : ∀ d, P d → ∃ i : Int, d = [.int i] ∧ i ≤ 1000000 ∧ -1000000 ≤ i) : EvW μ (iRng1 ta) Γ n (fun ds => ∃ i : Int, P [.int i] ∧ ds = rngD 0 i.toNat) := fun G0 H0 G c σ H R S l q =>
  h G0 H0 G c σ H _ S l fun d v G1 H1 p S1 e hd => by
    obtain ⟨i, rfl, b1, b2⟩ := hl d p
    cases hd with
    | cons a r =>
      cases a
      cases r
      refine ⟨i, rfl, by omega, by omega, q _ _ G1 H1 ⟨i, p, rfl⟩ S1 e (dwalk_fn (C := fun _ => True) (by rw [rngD_len]; exact walk_range) (fun _ => trivial) fun j d h => ?_)⟩
      rw [rngD_get h]
      exact .int _
theorem ew_rng1E {i : Int} (h : EvA μ ta Γ n (Eq [.int i])) (h1 : i ≤ 1000000) (h2 : -1000000 ≤ i) : EvW μ (iRng1 ta) Γ n (Eq (rngD 0 i.toNat)) :=
  (ew_rng1 h fun d e => ⟨i, e.symm, h1, h2⟩).imp fun d ⟨j, e1, e2⟩ => by cases e1; exact e2.symm
theorem ew_rng2E {i j : Int} (h : EvA μ ta Γ n (Eq [.int i, .int j])) (h1 : i ≤ 1000000) (h2 : -1000000 ≤ i) (h3 : j ≤ 1000000) (h4 : -1000000 ≤ j) : EvW μ (iRng2 ta) Γ n (Eq (rngD i (j - i).toNat)) := fun G0 H0 G c σ H R S l q =>
  h G0 H0 G c σ H _ S l fun d v G1 H1 p S1 e hd => by
    cases p
    cases hd with
    | cons a r =>
      cases a
      cases r with
      | cons a r =>
        cases a
        cases r
        refine ⟨i, j, rfl, by omega, q _ _ G1 H1 rfl S1 e (dwalk_fn (C := fun _ => True) (by rw [rngD_len]; exact walk_range) (fun _ => trivial) fun j d h => ?_)⟩
        rw [rngD_get h]
        exact .int _
def chD (z : Str) : List PyData := z.cps.toList.map fun c => .str ⟨#[c]⟩
theorem ew_str {z : Str} (h : Ev μ te Γ n (Eq (.str z))) : EvW μ (iStr te) Γ n (Eq (chD z)) := fun G0 H0 G c σ H R S l q =>
  h G0 H0 G c σ H _ S l fun d v G1 H1 p S1 e hd => by
    cases p
    cases hd
    refine ⟨z, rfl, q _ _ G1 H1 rfl S1 e ?_⟩
    have hl : (chD z).length = z.cps.size := by unfold chD; simp
    refine ⟨fun i H hi s p => (walk_str (z := z)).goes i H (by omega) trivial, fun H s p => by rw [hl]; exact (walk_str (z := z)).stops H trivial, fun i H G2 x H' hi s s1 p y => ?_⟩
    obtain ⟨e1, ch, hc, e2⟩ := (walk_str (z := z)).yields i H x H' (by omega) trivial y
    subst e1 e2
    refine ⟨G2, .str ⟨#[ch]⟩, ?_, Nw.refl _ _, s1, Same.refl _, .str _⟩
    unfold chD
    rw [List.getElem?_map, Array.getElem?_toList, hc]; rfl
end

/-! ### comprehensions -/
theorem Stt.of {μ : Mu} {G0 H0 G G' : Hp} {Γ Γ' : List Sl} {c c' : Nat} {σ σ' : L2.St} {H H' : Hp} (S : Stt μ G0 H0 G Γ c σ H) (e : Ext μ.M G H G' H') (S' : Stt μ G0 H0 G' Γ' c' σ' H') : Stt μ G0 H0 G' Γ c' σ H' := S.ext e.nw S'.sub e.fr S'.inv
theorem Ext.out {M : Addr → Prop} {G H G' H' : Hp} {p : Addr} {o : HO} (e : Ext M G H G' H') (g : G p = none) (h : H p = some o) : G' p = none := by
  cases z : G' p with
  | none => rfl
  | some u =>
    rcases e.nw.2 p (by rw [z]; simp) with q | q
    · exact absurd g q
    · rw [h] at q; cases q
section
variable {μ : Mu} {Γ : List Sl} {n k m : Nat} {te : TE} {tt : TT} {wi : TI} {g : TG} {vs is : List Nat}
/-- what stands between two turns of a comprehension: D holds what was made -/
structure LcW (μ : Mu) (G0 H0 G1 H1 : Hp) (Γ : List Sl) (c : Nat) (σ : L2.St) (D : Addr) (R : List PyData → Prop) (H' : Hp) : Prop where
  ex : ∃ G' es us, Stt μ G0 H0 G' Γ c σ H' ∧ Ext μ.M G1 H1 G' H' ∧ G' D = none ∧ H' D = some (.lst us) ∧ DtA G' us es ∧ R es
/-- the general rule: R i tells what was made in the first i turns, w how much was drawn -/
theorem ev_lcR {Pd : List PyData → Prop} {P : PyData → Prop} {w : Nat → Nat} (hi : EvI μ wi Γ n Pd) (hm : ∀ ds, Pd ds → ds.length ≤ 50000) (hv : ∀ i ∈ is, i ∈ vs) (R : List PyData → Nat → List PyData → Prop) (h0 : ∀ ds, Pd ds → R ds 0 []) (hw : ∀ i, w i ≤ w (i + 1)) (hwm : ∀ ds, Pd ds → w ds.length ≤ m)
    (hlen : ∀ ds i es, Pd ds → R ds i es → es.length ≤ i) (hend : ∀ ds es, Pd ds → R ds ds.length es → P (.list es))
    (ht : ∀ ds (i : Nat) d es, Pd ds → ds[i]? = some d → R ds i es → ∃ Γ' f k1 k2 Pe, EvG g d is (wipeG Γ vs) Γ' ∧ EvT μ tt Γ' k1 (Eq f) ∧ (f = true → Ev μ te Γ' k2 Pe ∧ (∀ e, Pe e → R ds (i + 1) (es ++ [e]))) ∧ (f = false → R ds (i + 1) es) ∧ w i + k1 + k2 ≤ w (i + 1)) :
    Ev μ (tLc wi g tt te vs) Γ (n + m) P := fun G0 H0 G c σ H Q S l q => by
  refine hi G0 H0 G c σ H _ S (by omega) fun ds J pins G1 H1 p S1 e1 wk hp => fun D hD => ?_
  have hml := hm ds p
  have hwm' := hwm ds p
  have hwmono : ∀ i j, i ≤ j → w i ≤ w j := fun i j hij => by
    induction hij with
    | refl => exact Nat.le_refl _
    | step _ ih => exact Nat.le_trans ih (hw _)
  have hMD : ¬ μ.M D := fun hm' => (S1.ent D hm').1 (S1.h0 hD)
  refine ⟨fun i left H' => left = ds.length - i ∧ i ≤ ds.length ∧ LcW μ G0 H0 G1 H1 Γ (c + n + w i) σ D (R ds i) H',
    ⟨ds.length, by omega, Nat.zero_le _, ⟨G1, [], [], ?_, .same (Nw.refl _ _) (Same.new hD), Same.free S1.sub hD, upd_same, .nil, h0 ds p⟩⟩, fun i left H' hW => ?_⟩
  · exact (S1.same (G' := G1) (H' := upd H1 D (.lst [])) (Nw.refl _ _) (S1.sub.trans (Same.new hD)) (Same.new hD)).up (by omega)
  · obtain ⟨rfl, hil, G2, es, us, S2, e2, gD, hH, hd, hR⟩ := hW
    have pin2 : ∀ p ∈ pins, H' p.1 = some p.2 := fun p' hp' => e2.fr _ _ (hp p' hp').1 (hp p' hp').2
    by_cases hi : i < ds.length
    · refine .inr ⟨wk.go i H' hi (e2.gg.trans S2.sub) pin2, LcW μ G0 H0 G1 H1 Γ (c + n + w (i + 1)) σ D (R ds (i + 1)), fun H'' z => ⟨ds.length - (i + 1), by omega, rfl, by omega, z⟩, fun x H3 y => ?_⟩
      obtain ⟨G3, d, hdd, nw, s3, s3', hx⟩ := wk.yld i H' G2 x H3 hi e2.gg S2.sub pin2 y
      obtain ⟨Γ', f, k1, k2, Pe, hg, htt, he, hf, hk⟩ := ht ds i d es p hdd hR
      have S3 := S2.same nw s3 s3'
      have e3 : Ext μ.M G2 H' G3 H3 := .same nw s3'
      have hwi := hwmono (i + 1) ds.length (by omega)
      refine hg μ G0 H0 G3 _ _ H3 x _ (S3.wipe vs) hx fun σ' S4 hwp => ⟨?_, ?_⟩
      · rw [hwp vs hv, wipe_wipe vs σ vs fun _ h => h]
      refine htt G0 H0 G3 _ σ' H3 _ S4 (by omega) fun b G5 H5 pb S5 e5 => ?_
      subst pb
      have e35 := e3.trans e5
      have hD5 : H5 D = some (.lst us) := e35.fr _ _ hMD hH
      have gD5 : G5 D = none := e35.out gD hH
      cases f with
      | true =>
        obtain ⟨hev, hRe⟩ := he rfl
        show te σ' H5 _
        refine hev G0 H0 G5 _ σ' H5 _ S5 (by omega) fun d6 v6 G6 H6 p6 S6 e6 hd6 => ?_
        have e36 := e35.trans e6
        have hD6 : H6 D = some (.lst us) := e6.fr _ _ hMD hD5
        have gD6 : G6 D = none := e6.out gD5 hD5
        have hlen' := hlen ds i es p hR
        have fresh : ∀ a o, G6 a = some o → a ≠ D := fun a o ha z => by rw [z, gD6] at ha; cases ha
        refine ⟨us, hD6, ?_, ⟨G6, es ++ [d6], us ++ [v6], ?_, ?_, gD6, upd_same, (hd.mono e36.gg).append (.one hd6), hRe d6 p6⟩⟩
        · rw [hd.length]
          exact Nat.lt_of_le_of_lt hlen' (Nat.lt_of_lt_of_le (show i < 50000 by omega) (by decide))
        · have Sx := (S2.of e36 S6).up (c' := c + n + w (i + 1)) (by omega)
          refine ⟨Sx.len, Sx.new, fun a o ha => by rw [upd_ne (fresh a o ha)]; exact Sx.sub a o ha, fun a o ha hh => ?_, Sx.ent, ?_, fun j s hs => ?_, Sx.dj⟩
          · have : a ≠ D := fun z => by
              subst z
              rw [S1.h0 hD] at hh; cases hh
            rw [upd_ne this]; exact Sx.fr a o ha hh
          · exact μ.st _ H6 _ (fun a o ha hh => by
              have na : a ≠ D := fun z => by rw [z] at ha; exact hMD ha
              rw [upd_ne na]; exact hh) Sx.inv
          · obtain ⟨o, ho, hok⟩ := Sx.sl j s hs
            refine ⟨o, ho, ?_⟩
            have hnD : ∀ q u, Owns Γ σ j q → H6 q = some u → (upd H6 D (.lst (us ++ [v6]))) q = some u := fun q u ow hu => by
              have : q ≠ D := fun z => by
                subst z
                obtain ⟨o1, ho1, hok1⟩ := S1.sl j s hs
                rw [ow.2] at ho1; cases ho1
                rcases ow.1 with ⟨xs, hx⟩ | ⟨xs, hx⟩
                · rw [hx] at hs; cases hs
                  obtain ⟨q', vs', z1, _, _, z2, _⟩ := hok1
                  cases z1; rw [hD] at z2; cases z2
                · rw [hx] at hs; cases hs
                  obtain ⟨q', vs', z1, _, _, z2, _⟩ := hok1
                  cases z1; rw [hD] at z2; cases z2
              rw [upd_ne this]; exact hu
            cases s with
            | un => trivial
            | dat d => exact hok
            | raw v => exact hok
            | own xs => obtain ⟨q, vs', z1, z2, z3, z4, z5⟩ := hok; subst z1; exact ⟨q, vs', rfl, z2, z3, hnD q _ ⟨.inl ⟨_, hs⟩, ho⟩ z4, z5⟩
            | map xs => obtain ⟨q, vs', z1, z2, z3, z4, z5⟩ := hok; subst z1; exact ⟨q, vs', rfl, z2, z3, hnD q _ ⟨.inr ⟨_, hs⟩, ho⟩ z4, z5⟩
        · have ee := e2.trans e36
          refine ⟨ee.nw, fun a o ha hh => ?_, fun a ha => ?_⟩
          · rw [upd_ne (fun z => by subst z; rw [hD] at hh; cases hh)]; exact ee.fr a o ha hh
          · by_cases z : a = D
            · subst z; exact hD
            · rw [upd_ne z] at ha; exact ee.dm a ha
      | false =>
        show LcW _ _ _ _ _ _ _ _ _ _ _
        exact ⟨G5, es, us, (S2.of e35 S5).up (by omega), e2.trans e35, gD5, hD5, hd.mono e35.gg, hf rfl⟩
    · have ei : i = ds.length := by omega
      subst ei
      refine .inl ⟨wk.stop H' (e2.gg.trans S2.sub) pin2, ?_⟩
      -- the new list is frozen
      have hnew : Nw G1 H1 (upd G2 D (.lst us)) := ⟨e2.gg.trans (Same.new gD), fun a ha => by
        by_cases z : a = D
        · subst z; exact .inr hD
        · rw [upd_ne z] at ha; exact e2.nw.2 a ha⟩
      have hsub : Same (upd G2 D (.lst us)) H' := fun a o ha => by
        by_cases z : a = D
        · subst z; rw [upd_same] at ha; rw [hH]; exact ha
        · rw [upd_ne z] at ha; exact S2.sub a o ha
      have e4 : Ext μ.M G1 H1 (upd G2 D (.lst us)) H' := ⟨hnew, e2.fr, e2.dm⟩
      refine q _ _ _ H' (hend ds es p hR) ?_ (e1.trans e4) (.lst upd_same (hd.mono (Same.new gD)))
      exact S1.ext hnew hsub e2.fr (μ.up _ _ _ (by omega) S2.inv)
/-- each turn draws k at most and gives something of P -/
theorem ev_lcP {Pd : List PyData → Prop} {P : PyData → Prop} (hi : EvI μ wi Γ n Pd) (hm : ∀ ds, Pd ds → ds.length ≤ m) (hm2 : m ≤ 50000) (hv : ∀ i ∈ is, i ∈ vs)
    (ht : ∀ ds d, Pd ds → d ∈ ds → ∃ Γ', EvG g d is (wipeG Γ vs) Γ' ∧ Ev μ te Γ' k P) :
    Ev μ (tLc wi g tYes te vs) Γ (n + m * k) (fun d => ∃ es ds, d = .list es ∧ Pd ds ∧ es.length = ds.length ∧ ∀ e ∈ es, P e) :=
  ev_lcR (w := fun i => i * k) hi (fun ds p => Nat.le_trans (hm ds p) hm2) hv (fun ds i es => es.length = i ∧ ∀ e ∈ es, P e) (fun _ _ => ⟨rfl, by simp⟩) (fun i => Nat.mul_le_mul_right _ (Nat.le_succ _)) (fun ds p => Nat.mul_le_mul_right _ (hm ds p))
    (fun ds i es _ h => Nat.le_of_eq h.1) (fun ds es p h => ⟨es, ds, rfl, p, h⟩) fun ds i d es p hd hR => by
      obtain ⟨Γ', hg, he⟩ := ht ds d p (List.mem_of_getElem? hd)
      refine ⟨Γ', true, 0, k, P, hg, fun _ _ G c σ H Q S l q => q true G H rfl S (Ext.refl _ G H), fun _ => ⟨he, fun e pe => ⟨by rw [List.length_append, hR.1]; rfl, fun e' he' => ?_⟩⟩, (fun z => by cases z), by rw [Nat.add_mul]; omega⟩
      rcases List.mem_append.mp he' with z | z
      · exact hR.2 e' z
      · rw [List.mem_singleton.mp z]; exact pe
/-- no drawing: what is kept, what is made of it -/
theorem ev_lcE {ds : List PyData} (hi : EvI μ wi Γ n (Eq ds)) (hm : ds.length ≤ 50000) (hv : ∀ i ∈ is, i ∈ vs) (f : PyData → Bool) (h : PyData → PyData)
    (ht : ∀ d, d ∈ ds → ∃ Γ', EvG g d is (wipeG Γ vs) Γ' ∧ EvT μ tt Γ' 0 (Eq (f d)) ∧ (f d = true → Ev μ te Γ' 0 (Eq (h d)))) :
    Ev μ (tLc wi g tt te vs) Γ n (Eq (.list ((ds.filter f).map h))) := by
  have key := ev_lcR (w := fun _ => 0) (m := 0) (P := Eq (.list ((ds.filter f).map h))) hi (fun ds p => by cases p; exact hm) hv (fun ds' i es => es = ((ds'.take i).filter f).map h) (fun _ _ => rfl) (fun _ => Nat.le_refl _) (fun _ _ => Nat.le_refl _)
    (fun ds' i es _ e => by
      rw [e, List.length_map]
      exact Nat.le_trans (List.length_filter_le _ _) (by rw [List.length_take]; omega)) (fun ds' es p e => by cases p; rw [e, List.take_length]) fun ds' i d es p hd hR => by
      cases p
      obtain ⟨Γ', hg, h1, h2⟩ := ht d (List.mem_of_getElem? hd)
      have ht' : ds.take (i + 1) = ds.take i ++ [d] := by rw [List.take_add_one, hd]; rfl
      refine ⟨Γ', f d, 0, 0, Eq (h d), hg, h1, fun z => ⟨h2 z, fun e pe => ?_⟩, fun z => ?_, Nat.le_refl _⟩
      · rw [ht', List.filter_append, List.map_append, ← hR, ← pe]
        simp [z]
      · rw [ht', List.filter_append, List.map_append, ← hR]
        simp [z]
  exact key
theorem et_yes {Γ : List Sl} : EvT μ tYes Γ 0 (Eq true) := fun _ _ G c σ H Q S l q => q true G H rfl S (Ext.refl _ G H)
/-- .. everything is kept -/
theorem ev_lcM {ds : List PyData} (hi : EvI μ wi Γ n (Eq ds)) (hm : ds.length ≤ 50000) (hv : ∀ i ∈ is, i ∈ vs) (h : PyData → PyData)
    (ht : ∀ d, d ∈ ds → ∃ Γ', EvG g d is (wipeG Γ vs) Γ' ∧ Ev μ te Γ' 0 (Eq (h d))) : Ev μ (tLc wi g tYes te vs) Γ n (Eq (.list (ds.map h))) := by
  have := ev_lcE (tt := tYes) hi hm hv (fun _ => true) h fun d hd => let ⟨Γ', a, b⟩ := ht d hd; ⟨Γ', a, et_yes, fun _ => b⟩
  rw [List.filter_eq_self.mpr fun _ _ => rfl] at this
  exact this
end
end B

/-! B3: statements over data; promises; defs. -/
namespace B
open PySem PySem.Spec PyProof.Rows L2

structure Po where
  nx : List Sl → Nat → Prop
  rt : PyData → Nat → Prop
  bk : List Sl → Nat → Prop := fun _ _ => False
  ct : List Sl → Nat → Prop := fun _ _ => False
/-- Gs: what was frozen ahead, and stays -/
structure Leads (μ : Mu) (G0 H0 Gs : Hp) (R : Po) (D : Ends) : Prop where
  nx : ∀ Γ c G σ H, R.nx Γ c → Stt μ G0 H0 G Γ c σ H → Same Gs G → D.nx σ H
  rt : ∀ d c v G H, R.rt d c → Stt μ G0 H0 G [] c [] H → Dt G v d → D.rt v H
  bk : ∀ Γ c G σ H, R.bk Γ c → Stt μ G0 H0 G Γ c σ H → Same Gs G → D.bk σ H
  ct : ∀ Γ c G σ H, R.ct Γ c → Stt μ G0 H0 G Γ c σ H → Same Gs G → D.ct σ H
def Go (μ : Mu) (ts : TS) (Γ : List Sl) (c : Nat) (R : Po) : Prop :=
  ∀ (G0 H0 Gs G : Hp) (σ : L2.St) (H : Hp) (D : Ends), Stt μ G0 H0 G Γ c σ H → Same Gs G → Leads μ G0 H0 Gs R D → ts D σ H
section
variable {μ : Mu} {Γ : List Sl} {c n : Nat} {R : Po} {t u ts : TS} {te : TE} {tt : TT} {wi : TI} {g : TG} {P : PyData → Prop} {i j : Nat} {is : List Nat}
theorem go_seq (h : Go μ t Γ c { R with nx := fun Γ' c' => Go μ u Γ' c' R }) : Go μ (tSeq t u) Γ c R := fun G0 H0 Gs G σ H D S gs L =>
  h G0 H0 Gs G σ H { D with nx := u D } S gs ⟨fun Γ' c' G' σ' H' q S' gs' => q G0 H0 Gs G' σ' H' D S' gs' L, L.rt, L.bk, L.ct⟩
theorem go_next (h : R.nx Γ c) : Go μ tNext Γ c R := fun G0 H0 Gs G σ H D S gs L => L.nx Γ c G σ H h S gs
theorem go_brk (h : R.bk Γ c) : Go μ tBreak Γ c R := fun G0 H0 Gs G σ H D S gs L => L.bk Γ c G σ H h S gs
theorem go_cont (h : R.ct Γ c) : Go μ tCont Γ c R := fun G0 H0 Gs G σ H D S gs L => L.ct Γ c G σ H h S gs
theorem go_asg (h : Ev μ te Γ n P) (hc : c + n ≤ CM) (k : ∀ d, P d → ∃ is Γ', EvG g d is Γ Γ' ∧ R.nx Γ' (c + n)) : Go μ (tAsg te g) Γ c R := fun G0 H0 Gs G σ H D S gs L =>
  h G0 H0 G c σ H _ S hc fun d v G1 H1 p S1 e1 d1 => by
    obtain ⟨is, Γ', hg, q⟩ := k d p
    exact hg μ G0 H0 G1 _ σ H1 v _ S1 d1 fun σ' S' _ => L.nx Γ' _ G1 σ' H1 q S' (gs.trans e1.gg)
theorem go_set (h : Ev μ te Γ n P) (hc : c + n ≤ CM) (k : ∀ d, P d → R.nx (Γ.set i (.dat d)) (c + n)) : Go μ (tAsg te (gName i)) Γ c R :=
  go_asg h hc fun d p => ⟨_, _, eg_name, k d p⟩
/-- x = e; the rest -/
theorem gs_set (h : Ev μ te Γ n P) (hc : c + n ≤ CM) (k : ∀ d, P d → Go μ u (Γ.set i (.dat d)) (c + n) R) : Go μ (tSeq (tAsg te (gName i)) u) Γ c R := go_seq (go_set h hc k)
theorem gs_setE {d : PyData} (h : Ev μ te Γ 0 (Eq d)) (hc : c ≤ CM) (k : Go μ u (Γ.set i (.dat d)) c R) : Go μ (tSeq (tAsg te (gName i)) u) Γ c R := gs_set h hc fun d' e => e ▸ k
theorem gs_asgE {d : PyData} {Γ' : List Sl} (h : Ev μ te Γ 0 (Eq d)) (hc : c ≤ CM) (hg : EvG g d is Γ Γ') (k : Go μ u Γ' c R) : Go μ (tSeq (tAsg te g) u) Γ c R := go_seq (go_asg h hc fun d' e => ⟨is, Γ', e ▸ hg, k⟩)
theorem go_drop (h : Ev μ te Γ n P) (hc : c + n ≤ CM) (k : R.nx Γ (c + n)) : Go μ (tDrop te) Γ c R := fun G0 H0 Gs G σ H D S gs L =>
  h G0 H0 G c σ H _ S hc fun d v G1 H1 p S1 e1 d1 => L.nx Γ _ G1 σ H1 k S1 (gs.trans e1.gg)
theorem go_ret (h : Ev μ te Γ n P) (hc : c + n ≤ CM) (k : ∀ d, P d → R.rt d (c + n)) : Go μ (tRet te) Γ c R := fun G0 H0 Gs G σ H D S gs L =>
  h G0 H0 G c σ H _ S hc fun d v G1 H1 p S1 e1 d1 => L.rt d _ v G1 H1 (k d p) S1.nil d1
theorem go_retE {d : PyData} (h : Ev μ te Γ 0 (Eq d)) (hc : c ≤ CM) (k : R.rt d c) : Go μ (tRet te) Γ c R := go_ret h hc fun d' e => e ▸ k
theorem go_retN (k : R.rt .none c) : Go μ tRetN Γ c R := fun G0 H0 Gs G σ H D S gs L => L.rt .none c .non G H k S.nil .non
theorem go_if {PB : Bool → Prop} (h : EvT μ tt Γ n PB) (hc : c + n ≤ CM) (h1 : PB true → Go μ t Γ (c + n) R) (h2 : PB false → Go μ u Γ (c + n) R) : Go μ (tIfS tt t u) Γ c R := fun G0 H0 Gs G σ H D S gs L =>
  h G0 H0 G c σ H _ S hc fun b G1 H1 p S1 e1 => by
    cases b with
    | true => exact iteT (h1 p G0 H0 Gs G1 σ H1 D S1 (gs.trans e1.gg) L)
    | false => exact iteF (h2 p G0 H0 Gs G1 σ H1 D S1 (gs.trans e1.gg) L)
theorem gs_if {PB : Bool → Prop} {v : TS} (h : EvT μ tt Γ n PB) (hc : c + n ≤ CM) (h1 : PB true → Go μ (tSeq t v) Γ (c + n) R) (h2 : PB false → Go μ (tSeq u v) Γ (c + n) R) : Go μ (tSeq (tIfS tt t u) v) Γ c R := fun G0 H0 Gs G σ H D S gs L =>
  h G0 H0 G c σ H _ S hc fun b G1 H1 p S1 e1 => by
    cases b with
    | true => exact iteT (h1 p G0 H0 Gs G1 σ H1 D S1 (gs.trans e1.gg) L)
    | false => exact iteF (h2 p G0 H0 Gs G1 σ H1 D S1 (gs.trans e1.gg) L)
/-- if t: suite; rest -/
theorem gs_when {PB : Bool → Prop} {v : TS} (h : EvT μ tt Γ n PB) (hc : c + n ≤ CM) (h1 : PB true → Go μ (tSeq t v) Γ (c + n) R) (h2 : PB false → Go μ v Γ (c + n) R) : Go μ (tSeq (tIfS tt t tNext) v) Γ c R :=
  gs_if h hc h1 fun p => go_seq (go_next (h2 p))
theorem gs_ret {v : TS} (h : Go μ (tRet te) Γ c R) : Go μ (tSeq (tRet te) v) Γ c R := go_seq (fun G0 H0 Gs G σ H D S gs L => h G0 H0 Gs G σ H { D with nx := fun _ _ => True } S gs ⟨fun _ _ _ _ _ _ _ _ => trivial, L.rt, L.bk, L.ct⟩)
theorem Go.up {c' : Nat} (h : Go μ ts Γ c' R) (hc : c ≤ c') : Go μ ts Γ c R := fun G0 H0 Gs G σ H D S gs L => h G0 H0 Gs G σ H D (S.up hc) gs L
theorem Go.imp {R' : Po} (h : Go μ ts Γ c R') (hn : ∀ Γ c, R'.nx Γ c → R.nx Γ c) (hr : ∀ d c, R'.rt d c → R.rt d c) (hb : ∀ Γ c, R'.bk Γ c → R.bk Γ c) (ht : ∀ Γ c, R'.ct Γ c → R.ct Γ c) : Go μ ts Γ c R := fun G0 H0 Gs G σ H D S gs L =>
  h G0 H0 Gs G σ H D S gs ⟨fun Γ c G σ H q => L.nx Γ c G σ H (hn Γ c q), fun d c v G H q => L.rt d c v G H (hr d c q), fun Γ c G σ H q => L.bk Γ c G σ H (hb Γ c q), fun Γ c G σ H q => L.ct Γ c G σ H (ht Γ c q)⟩

/-! ### own lists -/
/-- an own list is given up to the data -/
theorem Stt.freeze {G0 H0 G : Hp} {σ : L2.St} {H : Hp} {ds : List PyData} (S : Stt μ G0 H0 G Γ c σ H) (h : Γ[i]? = some (.own ds)) :
    ∃ p vs, σ[i]? = some (some (.ref p)) ∧ H0 p = none ∧ G p = none ∧ H p = some (.lst vs) ∧ DtA G vs ds ∧ Stt μ G0 H0 (upd G p (.lst vs)) (Γ.set i (.dat (.list ds))) c σ H := by
  obtain ⟨o, ho, p, vs, rfl, h0, g, hp, hd⟩ := S.sl i _ h
  refine ⟨p, vs, ho, h0, g, hp, hd, ?_⟩
  have hl : i < Γ.length := (List.getElem?_eq_some_iff.mp h).1
  have hs : σ.set i (some (.ref p)) = σ := by
    apply List.ext_getElem?
    intro j
    by_cases q : j = i
    · subst q
      rw [List.getElem?_set_self (by rw [S.len]; exact hl), ho]
    · rw [List.getElem?_set_ne (Ne.symm q)]
  have hsub : Same (upd G p (.lst vs)) H := fun a o ha => by
    by_cases z : a = p
    · subst z; rw [upd_same] at ha; rw [hp]; exact ha
    · rw [upd_ne z] at ha; exact S.sub a o ha
  have oth : ∀ m, Owns (Γ.set i (.dat (.list ds))) σ m = fun q => m ≠ i ∧ Owns Γ σ m q := fun m => by
    funext q
    unfold Owns
    by_cases z : m = i
    · subst z
      rw [List.getElem?_set_self hl]
      simp
    · rw [List.getElem?_set_ne (Ne.symm z)]
      simp [z]
  refine ⟨by rw [List.length_set]; exact S.len, ⟨S.new.1.trans (Same.new g), fun a ha => ?_⟩, hsub, S.fr, S.ent, S.inv, fun j s hj => ?_, fun j k q a b => ?_⟩
  · by_cases z : a = p
    · subst z; exact .inr h0
    · rw [upd_ne z] at ha; exact S.new.2 a ha
  · by_cases z : j = i
    · subst z
      rw [List.getElem?_set_self hl] at hj
      cases hj
      exact ⟨_, ho, .ref p, rfl, .lst upd_same (hd.mono (Same.new g))⟩
    · rw [List.getElem?_set_ne (Ne.symm z)] at hj
      obtain ⟨o, ho', hk⟩ := S.sl j s hj
      refine ⟨o, ho', ?_⟩
      have ne : ∀ q, Owns Γ σ j q → q ≠ p := fun q hq e => by
        subst e
        exact z (S.dj j i q hq ⟨.inl ⟨ds, h⟩, ho⟩)
      cases s with
      | un => trivial
      | dat d => obtain ⟨v, e, hv⟩ := hk; exact ⟨v, e, hv.mono (Same.new g)⟩
      | raw v => exact hk
      | own xs =>
        obtain ⟨q, us, e, a1, a2, a3, a4⟩ := hk
        subst e
        exact ⟨q, us, rfl, a1, by rw [upd_ne (ne q ⟨.inl ⟨_, hj⟩, ho'⟩)]; exact a2, a3, a4.mono (Same.new g)⟩
      | map xs =>
        obtain ⟨q, us, e, a1, a2, a3, a4⟩ := hk
        subst e
        exact ⟨q, us, rfl, a1, by rw [upd_ne (ne q ⟨.inr ⟨_, hj⟩, ho'⟩)]; exact a2, a3, a4.mono (Same.new g)⟩
  · have a' := (congrFun (oth j) q).mp a
    have b' := (congrFun (oth k) q).mp b
    exact S.dj j k q a'.2 b'.2
theorem go_freeze {ds : List PyData} (h : Γ[i]? = some (.own ds)) (k : Go μ ts (Γ.set i (.dat (.list ds))) c R) : Go μ ts Γ c R := fun G0 H0 Gs G σ H D S gs L => by
  obtain ⟨p, vs, _, _, g, _, _, S'⟩ := S.freeze h
  exact k G0 H0 Gs _ σ H D S' (gs.trans (Same.new g)) L
/-- a new own thing at a slot -/
theorem Stt.newOwn {G0 H0 G : Hp} {σ : L2.St} {H : Hp} {p : Addr} {vs : List V} {ds : List PyData} (S : Stt μ G0 H0 G Γ c σ H) (hp : H p = none) (hd : DtA G vs ds) : Stt μ G0 H0 G (Γ.set i (.own ds)) c (σ.set i (some (.ref p))) (upd H p (.lst vs)) := by
  have S1 := S.same (G' := G) (H' := upd H p (.lst vs)) (Nw.refl _ _) (S.sub.trans (Same.new hp)) (Same.new hp)
  refine S1.set ⟨p, vs, rfl, S.h0 hp, Same.free S.sub hp, upd_same, hd⟩ fun q o j hj ow => ?_
  have eq : q = p := by
    have hi : i < σ.length := by
      have := (List.getElem?_eq_some_iff.mp o.2).1
      rw [List.length_set] at this; exact this
    have := o.2
    rw [List.getElem?_set_self hi] at this
    cases this; rfl
  subst eq
  rcases ow.1 with ⟨xs, hx⟩ | ⟨xs, hx⟩
  · obtain ⟨o', ho', q', us, e, _, _, h1, _⟩ := S.sl j _ hx
    subst e
    rw [ow.2] at ho'; cases ho'
    rw [hp] at h1; cases h1
  · obtain ⟨o', ho', q', us, e, _, _, h1, _⟩ := S.sl j _ hx
    subst e
    rw [ow.2] at ho'; cases ho'
    rw [hp] at h1; cases h1
theorem go_own0 (k : R.nx (Γ.set i (.own [])) c) : Go μ (tAsg (tLst tNil) (gName i)) Γ c R := fun G0 H0 Gs G σ H D S gs L =>
  ⟨Nat.zero_le _, fun p hp => L.nx _ _ G _ _ k (S.newOwn hp .nil) gs⟩
/-- x.append(e) -/
theorem Stt.putOwn {G0 H0 G : Hp} {σ : L2.St} {H : Hp} {p : Addr} {vs : List V} {ds es : List PyData} (S : Stt μ G0 H0 G Γ c σ H) (h : Γ[i]? = some (.own es)) (hs : σ[i]? = some (some (.ref p))) (hd : DtA G vs ds) : Stt μ G0 H0 G (Γ.set i (.own ds)) c σ (upd H p (.lst vs)) := by
  obtain ⟨o, ho, p', us, rfl, h0, g, hp, _⟩ := S.sl i _ h
  rw [hs] at ho; cases ho
  have hl : i < Γ.length := (List.getElem?_eq_some_iff.mp h).1
  have hM : ¬ μ.M p := fun m => (S.ent p m).1 h0
  have oth : ∀ m q, Owns (Γ.set i (.own ds)) σ m q → Owns Γ σ m q := fun m q z => by
    unfold Owns at z ⊢
    by_cases e : m = i
    · subst e
      rw [List.getElem?_set_self hl] at z
      exact ⟨.inl ⟨es, h⟩, z.2⟩
    · rw [List.getElem?_set_ne (Ne.symm e)] at z
      exact z
  refine ⟨by rw [List.length_set]; exact S.len, S.new, fun a o ha => ?_, fun a o ha hh => ?_, S.ent, ?_, fun j s hj => ?_, fun j k q a b => S.dj j k q (oth j q a) (oth k q b)⟩
  · rw [upd_ne (fun z => by subst z; rw [g] at ha; cases ha)]; exact S.sub a o ha
  · rw [upd_ne (fun z => by subst z; rw [h0] at hh; cases hh)]; exact S.fr a o ha hh
  · exact μ.st _ H _ (fun a o ha hh => by
      have na : a ≠ p := fun z => by rw [z] at ha; exact hM ha
      rw [upd_ne na]; exact hh) S.inv
  · by_cases z : j = i
    · subst z
      rw [List.getElem?_set_self hl] at hj
      cases hj
      exact ⟨_, hs, p, vs, rfl, h0, g, upd_same, hd⟩
    · rw [List.getElem?_set_ne (Ne.symm z)] at hj
      obtain ⟨o, ho', hk⟩ := S.sl j s hj
      refine ⟨o, ho', ?_⟩
      have ne : ∀ q, Owns Γ σ j q → q ≠ p := fun q hq e => by
        subst e
        exact z (S.dj j i q hq ⟨.inl ⟨es, h⟩, hs⟩)
      cases s with
      | un => trivial
      | dat d => exact hk
      | raw v => exact hk
      | own xs =>
        obtain ⟨q, us, e, a1, a2, a3, a4⟩ := hk
        subst e
        exact ⟨q, us, rfl, a1, a2, by rw [upd_ne (ne q ⟨.inl ⟨_, hj⟩, ho'⟩)]; exact a3, a4⟩
      | map xs =>
        obtain ⟨q, us, e, a1, a2, a3, a4⟩ := hk
        subst e
        exact ⟨q, us, rfl, a1, a2, by rw [upd_ne (ne q ⟨.inr ⟨_, hj⟩, ho'⟩)]; exact a3, a4⟩
theorem Stt.own {G0 H0 G : Hp} {σ : L2.St} {H : Hp} {ds : List PyData} (S : Stt μ G0 H0 G Γ c σ H) (h : Γ[i]? = some (.own ds)) : ∃ p vs, σ[i]? = some (some (.ref p)) ∧ ¬ μ.M p ∧ H p = some (.lst vs) ∧ DtA G vs ds := by
  obtain ⟨o, ho, p, us, rfl, h0, g, hp, hd⟩ := S.sl i _ h
  exact ⟨p, us, ho, fun m => (S.ent p m).1 h0, hp, hd⟩
theorem go_app {K : PySem.W.Frag} {ds : List PyData} (h : Γ[i]? = some (.own ds)) (he : Ev μ te Γ n P) (hl : ds.length ≤ 50000) (hc : c + n ≤ CM) (k : ∀ d, P d → R.nx (Γ.set i (.own (ds ++ [d]))) (c + n)) :
    Go μ (tDrop (tBM K "list" rAppend (tVar i) (tCons te tNil))) Γ c R := fun G0 H0 Gs G σ H D S gs L => by
  obtain ⟨p, vs, hs, hM, hp, hd⟩ := S.own h
  refine ⟨.ref p, hs, .inl ⟨rfl, _, SqL.of hp⟩, he G0 H0 G c σ H _ S hc fun d v G1 H1 pd S1 e1 d1 => ?_⟩
  have hp1 := e1.fr _ _ hM hp
  exact ⟨p, vs, v, rfl, rfl, hp1, by rw [hd.length]; exact Nat.lt_of_le_of_lt hl (by decide), L.nx _ _ G1 σ _ (k d pd) (S1.putOwn h hs ((hd.mono e1.gg).append (.one d1))) (gs.trans e1.gg)⟩
/-- x.extend(e), e a list of data -/
theorem go_ext {K : PySem.W.Frag} {ds : List PyData} (h : Γ[i]? = some (.own ds)) (he : Ev μ te Γ n P) (hl : ds.length ≤ 50000) (hP : ∀ d, P d → ∃ es, d = .list es ∧ es.length ≤ 50000) (hc : c + n ≤ CM) (k : ∀ es, P (.list es) → R.nx (Γ.set i (.own (ds ++ es))) (c + n)) :
    Go μ (tDrop (tBM K "list" (fun x vs H Q => ∃ l b xs zs, x = .ref l ∧ vs = [.ref b] ∧ H l = some (.lst xs) ∧ H b = some (.lst zs) ∧ xs.length + zs.length ≤ sizeLine ∧ Q .non (upd H l (.lst (xs ++ zs)))) (tVar i) (tCons te tNil))) Γ c R := fun G0 H0 Gs G σ H D S gs L => by
  obtain ⟨p, vs, hs, hM, hp, hd⟩ := S.own h
  refine ⟨.ref p, hs, .inl ⟨rfl, _, SqL.of hp⟩, he G0 H0 G c σ H _ S hc fun d v G1 H1 pd S1 e1 d1 => ?_⟩
  have hp1 := e1.fr _ _ hM hp
  obtain ⟨es, rfl, hle⟩ := hP d pd
  cases d1 with
  | lst a r =>
    refine ⟨p, _, vs, _, rfl, rfl, hp1, S1.sub _ _ a, ?_, L.nx _ _ G1 σ _ (k es pd) (S1.putOwn h hs ((hd.mono e1.gg).append r)) (gs.trans e1.gg)⟩
    rw [hd.length, r.length]
    exact Nat.le_trans (Nat.add_le_add hl hle) (by decide)

/-! ### loops -/
theorem go_for {Pd : List PyData → Prop} (hi : EvW μ wi Γ n Pd) (hc : c + n ≤ CM) (hk : ∀ ds, Pd ds → ∃ J : Nat → List Sl → Nat → Prop, J 0 Γ (c + n) ∧
      (∀ (i : Nat) d Γ' c', ds[i]? = some d → J i Γ' c' → ∃ is Γ'', EvG g d is Γ' Γ'' ∧ Go μ ts Γ'' c' { R with nx := J (i + 1), ct := J (i + 1), bk := R.nx }) ∧ ∀ Γ' c', J ds.length Γ' c' → R.nx Γ' c') :
    Go μ (tFor wi g ts) Γ c R := fun G0 H0 Gs G σ H D S gs L =>
  hi G0 H0 G c σ H _ S hc fun ds J G1 H1 p S1 e1 w => by
    obtain ⟨Jv, h0, hs, hd⟩ := hk ds p
    refine ⟨fun i left σ' H' => left = ds.length - i ∧ i ≤ ds.length ∧ ∃ Γ' c' G', Jv i Γ' c' ∧ Stt μ G0 H0 G' Γ' c' σ' H' ∧ Same G1 G', ⟨ds.length, by omega, Nat.zero_le _, Γ, _, G1, h0, S1, Same.refl _⟩, fun i left σ' H' hW => ?_⟩
    obtain ⟨rfl, hil, Γ', c', G2, hJ, S2, e2⟩ := hW
    by_cases hi : i < ds.length
    · refine .inr ⟨w.go i H' hi (e2.trans S2.sub) (by simp), fun σ'' H'' => ∃ Γ' c' G', Jv (i + 1) Γ' c' ∧ Stt μ G0 H0 G' Γ' c' σ'' H'' ∧ Same G1 G', fun σ'' H'' z => ⟨ds.length - (i + 1), by omega, rfl, by omega, z⟩, fun x H3 y => ?_⟩
      obtain ⟨G3, d, hdd, nw, s3, s3', hx⟩ := w.yld i H' G2 x H3 hi e2 S2.sub (by simp) y
      obtain ⟨is, Γ'', hg, hgo⟩ := hs i d Γ' c' hdd hJ
      have S3 := S2.same nw s3 s3'
      refine hg μ G0 H0 G3 c' σ' H3 x _ S3 hx fun σ4 S4 _ => ?_
      refine hgo G0 H0 G1 G3 σ4 H3 _ S4 (e2.trans nw.1) ⟨fun Γ5 c5 G5 σ5 H5 q S5 g5 => ⟨Γ5, c5, G5, q, S5, g5⟩, L.rt, fun Γ5 c5 G5 σ5 H5 q S5 g5 => L.nx Γ5 c5 G5 σ5 H5 q S5 ((gs.trans e1.gg).trans g5), fun Γ5 c5 G5 σ5 H5 q S5 g5 => ⟨Γ5, c5, G5, q, S5, g5⟩⟩
    · have ei : i = ds.length := by omega
      subst ei
      exact .inl ⟨w.stop H' (e2.trans S2.sub) (by simp), L.nx Γ' c' G2 σ' H' (hd Γ' c' hJ) S2 ((gs.trans e1.gg).trans e2)⟩
/-- while: W with its measure -/
theorem go_while (W : Nat → List Sl → Nat → Prop) (m0 : Nat) (h0 : W m0 Γ c) (hs : ∀ m Γ' c', W m Γ' c' → ∃ n b, EvT μ tt Γ' n (Eq b) ∧ c' + n ≤ CM ∧
      (b = true → Go μ ts Γ' (c' + n) { R with nx := fun Γ2 c2 => ∃ m', m' < m ∧ W m' Γ2 c2, ct := fun Γ2 c2 => ∃ m', m' < m ∧ W m' Γ2 c2, bk := R.nx }) ∧ (b = false → R.nx Γ' (c' + n))) :
    Go μ (tWhile tt ts) Γ c R := fun G0 H0 Gs G σ H D S gs L => by
  refine ⟨fun m σ' H' => ∃ Γ' c' G', W m Γ' c' ∧ Stt μ G0 H0 G' Γ' c' σ' H' ∧ Same Gs G', ⟨m0, Γ, c, G, h0, S, gs⟩, fun m σ' H' hW => ?_⟩
  obtain ⟨Γ', c', G2, hw, S2, e2⟩ := hW
  obtain ⟨n, b, ht, hc, h1, h2⟩ := hs m Γ' c' hw
  refine ht G0 H0 G2 c' σ' H' _ S2 hc fun b' G3 H3 pb S3 e3 => ?_
  subst pb
  cases b with
  | true =>
    refine iteT ⟨fun σ5 H5 => ∃ m', m' < m ∧ ∃ Γ' c' G', W m' Γ' c' ∧ Stt μ G0 H0 G' Γ' c' σ5 H5 ∧ Same Gs G', fun σ5 H5 ⟨m', hm, z⟩ => ⟨m', hm, z⟩, ?_⟩
    refine h1 rfl G0 H0 Gs G3 σ' H3 _ S3 (e2.trans e3.gg) ⟨fun Γ5 c5 G5 σ5 H5 q S5 g5 => ?_, L.rt, L.nx, fun Γ5 c5 G5 σ5 H5 q S5 g5 => ?_⟩
    · obtain ⟨m', hm, z⟩ := q; exact ⟨m', hm, Γ5, c5, G5, z, S5, g5⟩
    · obtain ⟨m', hm, z⟩ := q; exact ⟨m', hm, Γ5, c5, G5, z, S5, g5⟩
  | false => exact iteF (L.nx Γ' _ G3 σ' H3 (h2 rfl) S3 (e2.trans e3.gg))
end

/-! ### promises -/
/-- a def that changes nothing: data in, data out -/
def spP (pre : List PyData → Prop) (post : List PyData → PyData → Prop) : Sp := fun vs H Q _ => ∃ G ds, Same G H ∧ DtA G vs ds ∧ pre ds ∧ ∀ d v G' H', post ds d → Nw G H G' → Same G' H' → Same H H' → Dt G' v d → Q v H'
/-- the box: three ints, the third counts -/
def BoxAt (b : Addr) (c : Nat) (H : Hp) : Prop := ∃ f s n : Int, H b = some (.lst [.int f, .int s, .int n]) ∧ 0 ≤ f ∧ f < 10 ^ 300 ∧ 0 ≤ s ∧ s < 2 ^ 61 ∧ 0 ≤ n ∧ n ≤ c
def boxMu (b : Addr) : Mu := ⟨fun a => a = b, BoxAt b, fun c H H' h ⟨f, s, n, e, r⟩ => ⟨f, s, n, h b _ rfl e, r⟩, fun c H a ⟨f, s, n, e, _⟩ m => by
  have m' : a = b := m
  subst m'
  rw [e]; simp, fun c c' H h ⟨f, s, n, e, r1, r2, r3, r4, r5, r6⟩ => ⟨f, s, n, e, r1, r2, r3, r4, r5, by omega⟩⟩
/-- a def that draws k numbers at most from the box, its first argument -/
def spB (k : Nat) (pre : List PyData → Prop) (post : List PyData → PyData → Prop) : Sp := fun vs H Q _ => ∃ b ws c G ds, vs = .ref b :: ws ∧ Same G H ∧ G b = none ∧ BoxAt b c H ∧ c + k ≤ CM ∧ DtA G ws ds ∧ pre ds ∧
  ∀ d v G' H', post ds d → Ext (fun a => a = b) G H G' H' → Same G' H' → BoxAt b (c + k) H' → Dt G' v d → Q v H'
section
variable {μ : Mu} {Γ : List Sl} {n k : Nat} {ta tk : TA} {E : XK} {P : List PyData → Prop} {pre : List PyData → Prop} {post : List PyData → PyData → Prop} {b : Addr} {i : Nat}
theorem ev_call (ha : EvA μ ta Γ n P) (hp : ∀ xs, P xs → pre xs) : Ev μ (tCall (spP pre post) [] E ta) Γ n (fun d => ∃ xs, P xs ∧ post xs d) := fun G0 H0 G c σ H Q S l q =>
  ha G0 H0 G c σ H _ S l fun xs vs G1 H1 p S1 e1 d1 => ⟨G1, xs, S1.sub, by rw [List.append_nil]; exact d1, hp xs p, fun d v G' H' po nw s s' hd => q d v G' H' ⟨xs, p, po⟩ (S1.same nw s s') (e1.trans (.same nw s')) hd⟩
theorem ev_callE {xs : List PyData} {d : PyData} (ha : EvA μ ta Γ n (Eq xs)) (hp : pre xs) (hd : ∀ e, post xs e → d = e) : Ev μ (tCall (spP pre post) [] E ta) Γ n (Eq d) := (ev_call ha fun _ e => e ▸ hp).imp fun d ⟨ys, e, po⟩ => hd d (e ▸ po)
theorem ev_callK {gV : List V → List V → List V} {xs ys zs : List PyData} {n' : Nat} (ha : EvA μ ta Γ n (Eq xs)) (hk : EvA μ tk Γ n' (Eq ys)) (hg : ∀ G vs ws, DtA G vs xs → DtA G ws ys → DtA G (gV vs ws) zs) (hp : pre zs) : Ev μ (tCallK (spP pre post) gV E ta tk) Γ (n + n') (fun d => post zs d) := fun G0 H0 G c σ H Q S l q =>
  ha G0 H0 G c σ H _ S (by omega) fun xs' vs G1 H1 p S1 e1 d1 => hk G0 H0 G1 _ σ H1 _ S1 (by omega) fun ys' ws G2 H2 p2 S2 e2 d2 => by
    cases p; cases p2
    rw [Nat.add_assoc] at S2
    exact ⟨G2, zs, S2.sub, hg G2 vs ws (d1.mono e2.gg) d2, hp, fun d v G' H' po nw s s' hd => q d v G' H' po (S2.same nw s s') ((e1.trans e2).trans (.same nw s')) hd⟩
theorem ev_callB (hi : Γ[i]? = some (.raw (.ref b))) (ha : EvA (boxMu b) ta Γ n P) (hp : ∀ xs, P xs → pre xs) : Ev (boxMu b) (tCall (spB k pre post) [] E (tCons (tVar i) ta)) Γ (n + k) (fun d => ∃ xs, P xs ∧ post xs d) := fun G0 H0 G c σ H Q S l q =>
  ⟨.ref b, S.raw hi, ha G0 H0 G c σ H _ S (by omega) fun xs vs G1 H1 p S1 e1 d1 => by
    refine ⟨b, vs, c + n, G1, xs, by rw [List.append_nil], S1.sub, S1.gM (rfl : b = b), S1.inv, by omega, d1, hp xs p, fun d v G' H' po e s bx hd => ?_⟩
    rw [Nat.add_assoc] at bx
    exact q d v G' H' ⟨xs, p, po⟩ (S1.ext e.nw s e.fr bx) (e1.trans e) hd⟩
theorem ev_callB1 (hi : Γ[i]? = some (.raw (.ref b))) (hp : pre []) : Ev (boxMu b) (tCall (spB k pre post) [] E (tCons (tVar i) tNil)) Γ k (fun d => post [] d) := by
  have := ev_callB (post := post) (k := k) (E := E) hi ea_nil (pre := pre) fun _ e => e ▸ hp
  rw [Nat.zero_add] at this
  exact this.imp fun d ⟨xs, e, po⟩ => e ▸ po
end

/-! ### defs -/
def datΓ (N : List Str) (ds : List PyData) : List Sl := ds.map .dat ++ List.replicate (N.length - ds.length) .un
theorem start_ok {μ : Mu} {N : List Str} {G H : Hp} {vs : List V} {ds : List PyData} (pre : List V) (pres : List Sl) (hpl : pre.length = pres.length) (hraw : ∀ (i : Nat) s, pres[i]? = some s → ∃ v, pre[i]? = some v ∧ s = .raw v)
    (s : Same G H) (hM : ∀ a, μ.M a → H a ≠ none ∧ G a = none) {c : Nat} (hI : μ.I c H) (hd : DtA G vs ds) :
    Stt μ G H G (pres ++ ds.map .dat ++ List.replicate (N.length - (pre ++ vs).length) .un) c (start N (pre ++ vs)) H := by
  have hl := hd.length
  have get : ∀ (i : Nat) s, (pres ++ ds.map Sl.dat ++ List.replicate (N.length - (pre ++ vs).length) Sl.un)[i]? = some s → ∃ o, (start N (pre ++ vs))[i]? = some o ∧ SlOk G H H s o ∧ ((∃ d, s = .dat d) ∨ s = .un ∨ ∃ v, s = .raw v) := by
    intro i s hs
    unfold L2.start
    by_cases h1 : i < pres.length
    · rw [List.append_assoc, List.getElem?_append_left h1] at hs
      obtain ⟨v, hv, rfl⟩ := hraw i s hs
      refine ⟨some v, ?_, rfl, .inr (.inr ⟨v, rfl⟩)⟩
      rw [List.getElem?_append_left (by simp; omega), List.getElem?_map, List.getElem?_append_left (by omega), hv]; rfl
    · by_cases h2 : i < pres.length + ds.length
      · rw [List.getElem?_append_left (by simpa using h2), List.getElem?_append_right (by omega), List.getElem?_map] at hs
        cases hq : ds[i - pres.length]? with
        | none => rw [hq] at hs; cases hs
        | some d =>
          rw [hq] at hs; cases hs
          obtain ⟨v, hv, hdv⟩ := hd.getD hq
          refine ⟨some v, ?_, ⟨v, rfl, hdv⟩, .inl ⟨d, rfl⟩⟩
          rw [List.getElem?_append_left (by simp; omega), List.getElem?_map, List.getElem?_append_right (by omega), hpl, hv]; rfl
      · rw [List.getElem?_append_right (by simp; omega)] at hs
        rw [List.getElem?_replicate] at hs
        split at hs
        · rename_i hr
          cases hs
          refine ⟨none, ?_, trivial, .inr (.inl rfl)⟩
          rw [List.getElem?_append_right (by simp; omega), List.getElem?_replicate, if_pos]
          simp at hr ⊢
          omega
        · cases hs
  refine ⟨?_, Nw.refl _ _, s, Fr.refl _ _, hM, hI, fun i s hs => let ⟨o, a, b, _⟩ := get i s hs; ⟨o, a, b⟩, fun i j p a b => ?_⟩
  · unfold L2.start
    simp
    omega
  · rcases a.1 with ⟨xs, hx⟩ | ⟨xs, hx⟩
    · obtain ⟨o, _, _, h⟩ := get i _ hx
      rcases h with ⟨d, e⟩ | e | ⟨v, e⟩ <;> cases e
    · obtain ⟨o, _, _, h⟩ := get i _ hx
      rcases h with ⟨d, e⟩ | e | ⟨v, e⟩ <;> cases e
section
variable {P : Program} {w : World} {K : PySem.W.Frag} {mg : Str → Option Value} {base : Heap}
/-- a pure def: its body over data -/
theorem ok_pure {x qual : Str} {st : Stmt} {f : Addr} {fd : FuncData} {N ps : List Str} {k : Nat} {pre : List PyData → Prop} {post : List PyData → PyData → Prop} (F : Fun K x qual st f fd) (S : FnScope N ps (defScope st)) (hlen : ∀ ds, pre ds → ds.length = ps.length)
    (body : ∀ (cdv : Value) (A : Around) (fs : List Env) (s : Shared) (H : Hp) (E : XK), A.guards = some [] → Room k (A.deeper (envOfC qual (defScope st) s.heap.objs.size f cdv)) →
      ∃ t, PSs (cxOf CX0 P w K mg base N qual (defScope st) f cdv A fs s H E).nox (defBody st) t ∧ ∀ ds, pre ds → Go pureMu t (ds.map .dat ++ List.replicate (N.length - ps.length) .un) 0 { nx := fun _ _ => post ds .none, rt := fun d _ => post ds d }) :
    FnG P w K mg base CX0 (k + 1) f fd ps (spP pre post) := by
  refine Fun.okN F S (fun vs H Q E ⟨G, ds, _, hd, hp, _⟩ => hd.length.trans (hlen ds hp)) fun cdv A fs s H vs Q E hg hr ⟨G, ds, sG, hd, hp, q⟩ => ?_
  obtain ⟨t, ht, go⟩ := body cdv A fs s H E hg hr
  refine ⟨t, ht, ?_⟩
  have S0 := start_ok (μ := pureMu) (N := N) (c := 0) [] [] rfl (by simp) sG (fun a m => m.elim) trivial hd
  simp only [List.nil_append] at S0
  rw [hd.length, hlen ds hp] at S0
  refine go ds hp G H G G _ H _ S0 (Same.refl _) ⟨fun Γ c G' σ H' po S' _ => ?_, fun d c v G' H' po S' hd' => ?_, fun _ _ _ _ _ z => z.elim, fun _ _ _ _ _ z => z.elim⟩
  · exact q .none .non G' H' po S'.new S'.sub (fun a o e => S'.fr a o (fun z => z) e) .non
  · exact q d v G' H' po S'.new S'.sub (fun a o e => S'.fr a o (fun z => z) e) hd'
/-- a def that draws -/
theorem ok_draw {x qual : Str} {st : Stmt} {f : Addr} {fd : FuncData} {N ps : List Str} {k n : Nat} {p0 : Str} {pre : List PyData → Prop} {post : List PyData → PyData → Prop} (F : Fun K x qual st f fd) (S : FnScope N (p0 :: ps) (defScope st)) (hlen : ∀ ds, pre ds → ds.length = ps.length)
    (body : ∀ (cdv : Value) (A : Around) (fs : List Env) (s : Shared) (H : Hp) (E : XK), A.guards = some [] → Room k (A.deeper (envOfC qual (defScope st) s.heap.objs.size f cdv)) →
      ∃ t, PSs (cxOf CX0 P w K mg base N qual (defScope st) f cdv A fs s H E).nox (defBody st) t ∧ ∀ b c ds, c + n ≤ CM → pre ds → Go (boxMu b) t (.raw (.ref b) :: ds.map .dat ++ List.replicate (N.length - (ps.length + 1)) .un) c { nx := fun _ c' => c' ≤ c + n ∧ post ds .none, rt := fun d c' => c' ≤ c + n ∧ post ds d }) :
    FnG P w K mg base CX0 (k + 1) f fd (p0 :: ps) (spB n pre post) := by
  refine Fun.okN F S (fun vs H Q E ⟨b, ws, c, G, ds, e, _, _, _, _, hd, hp, _⟩ => by rw [e, List.length_cons, List.length_cons, hd.length, hlen ds hp]) fun cdv A fs s H vs Q E hg hr ⟨b, ws, c, G, ds, e, sG, gb, bx, hc, hd, hp, q⟩ => ?_
  subst e
  obtain ⟨t, ht, go⟩ := body cdv A fs s H E hg hr
  refine ⟨t, ht, ?_⟩
  have S0 := start_ok (μ := boxMu b) (N := N) (c := c) [.ref b] [.raw (.ref b)] rfl (fun i s hs => by
    cases i with
    | zero => cases hs; exact ⟨_, rfl, rfl⟩
    | succ i => simp at hs) sG (fun a m => by
      have m' : a = b := m
      subst m'
      exact ⟨(boxMu a).dom c H a bx rfl, gb⟩) bx hd
  simp only [List.singleton_append] at S0
  rw [List.length_cons, hd.length, hlen ds hp] at S0
  have fin : ∀ {d c' v G' H'}, c' ≤ c + n → post ds d → Stt (boxMu b) G H G' [] c' [] H' → Dt G' v d → Q v H' := fun {d c' v G' H'} hle po S' hd' =>
    q d v G' H' po ⟨S'.new, S'.fr, fun a h => S'.h0 h⟩ S'.sub ((boxMu b).up _ _ _ hle S'.inv) hd'
  exact go b c ds hc hp G H G G _ H _ S0 (Same.refl _) ⟨fun Γ c G' σ H' po S' _ => fin po.1 po.2 S'.nil .non, fun d c v G' H' po S' hd' => fin po.1 po.2 S' hd', fun _ _ _ _ _ z => z.elim, fun _ _ _ _ _ z => z.elim⟩
end
end B

/-! B4: operations over data. -/
namespace B
open PySem PySem.Spec PyProof.Rows L2

section
variable {μ : Mu} {Γ : List Sl} {n n1 n2 n3 : Nat} {P P1 P2 : PyData → Prop} {ta tb te : TE} {t u : TT} {x y z d : PyData} {r : R2} {K : PySem.W.Frag}
/-! ### ints -/
theorem rd_I0 {g : Int → Int → Int} {i j : Int} : RD (rI0 fun i j => .int (g i j)) (.int i) (.int j) (.int (g i j)) := fun G H v w Q s hv hw q => by
  cases hv; cases hw
  exact ⟨i, j, rfl, rfl, q _ G H (Nw.refl _ _) s (Same.refl _) (.int _)⟩
theorem rd_B0 {g : Int → Int → Bool} {i j : Int} : RD (rI0 fun i j => .bl (g i j)) (.int i) (.int j) (.bool (g i j)) := fun G H v w Q s hv hw q => by
  cases hv; cases hw
  exact ⟨i, j, rfl, rfl, q _ G H (Nw.refl _ _) s (Same.refl _) (.bl _)⟩
theorem rd_I {C : Int → Int → Prop} {g : Int → Int → Int} {i j : Int} (h : C i j) : RD (rI C fun i j => .int (g i j)) (.int i) (.int j) (.int (g i j)) := fun G H v w Q s hv hw q => by
  cases hv; cases hw
  exact ⟨i, j, rfl, rfl, h, q _ G H (Nw.refl _ _) s (Same.refl _) (.int _)⟩
theorem ru_U {g : Int → Int} {i : Int} : RU (rU fun i => .int (g i)) (.int i) (.int (g i)) := fun G H v Q s hv q => by
  cases hv
  exact ⟨i, rfl, q _ G H (Nw.refl _ _) s (Same.refl _) (.int _)⟩
theorem ev_add {i j : Int} (ha : Ev μ ta Γ n1 (Eq (.int i))) (hb : Ev μ tb Γ n2 (Eq (.int j))) : Ev μ (tOp (rI0 fun i j => .int (i + j)) ta tb) Γ (n1 + n2) (Eq (.int (i + j))) := ev_op ha hb rd_I0
theorem ev_sub {i j : Int} (ha : Ev μ ta Γ n1 (Eq (.int i))) (hb : Ev μ tb Γ n2 (Eq (.int j))) : Ev μ (tOp (rI0 fun i j => .int (i - j)) ta tb) Γ (n1 + n2) (Eq (.int (i - j))) := ev_op ha hb rd_I0
theorem ev_neg {i : Int} (ha : Ev μ ta Γ n (Eq (.int i))) : Ev μ (tUn (rU fun i => .int (-i)) ta) Γ n (Eq (.int (-i))) := ev_un ha ru_U
theorem ev_pow {i j : Int} (ha : Ev μ ta Γ n1 (Eq (.int i))) (hb : Ev μ tb Γ n2 (Eq (.int j))) (h : CPow i j) : Ev μ (tOp (rI CPow fun i j => .int (i ^ j.toNat)) ta tb) Γ (n1 + n2) (Eq (.int (i ^ j.toNat))) := ev_op ha hb (rd_I h)
theorem ev_mul {i j : Int} (ha : Ev μ ta Γ n1 (Eq (.int i))) (hb : Ev μ tb Γ n2 (Eq (.int j))) (h : CMul i j) : Ev μ (tOp (rI CMul fun i j => .int (i * j)) ta tb) Γ (n1 + n2) (Eq (.int (i * j))) := ev_op ha hb (rd_I h)
/-! ### equality -/
theorem rd_eqS {a b : Str} : RD rEq (.str a) (.str b) (.bool (a == b)) := fun G H v w Q s hv hw q => by
  cases hv; cases hw
  exact ⟨rfl, by rw [dec_str]; exact q _ G H (Nw.refl _ _) s (Same.refl _) (.bl _)⟩
theorem rd_eqI {a b : Int} : RD rEq (.int a) (.int b) (.bool (a == b)) := fun G H v w Q s hv hw q => by
  cases hv; cases hw
  exact ⟨rfl, by rw [dec_int]; exact q _ G H (Nw.refl _ _) s (Same.refl _) (.bl _)⟩
theorem rd_eqB {a b : Bool} : RD rEq (.bool a) (.bool b) (.bool (a == b)) := fun G H v w Q s hv hw q => by
  cases hv; cases hw
  exact ⟨rfl, by rw [dec_bl]; exact q _ G H (Nw.refl _ _) s (Same.refl _) (.bl _)⟩
mutual
theorem Dt.dp {G H : Hp} (s : Same G H) : ∀ {v : V} {d : PyData}, Dt G v d → d.canLay0 = true → Dp K H v d
  | _, _, .non, _ => .non
  | _, _, .bl b, _ => .bl b
  | _, _, .int i, _ => .int i
  | _, _, .str x, _ => .str x
  | _, _, .lst h r, c => .lst (SqL.of (s _ _ h)) (DtA.dp s r (by simpa [PyData.canLay0] using c))
  | _, _, .tup h r, c => .tup (SqT.of (s _ _ h)) (DtA.dp s r (by simpa [PyData.canLay0] using c))
  | _, _, .dct h r, c => by simp [PyData.canLay0] at c
theorem DtA.dp {G H : Hp} (s : Same G H) : ∀ {vs : List V} {ds : List PyData}, DtA G vs ds → PyData.canLayAll0 ds = true → DpAll K H vs ds
  | _, _, .nil, _ => .nil
  | _, d :: ds, .cons h r, c => by
    have c' : d.canLay0 = true ∧ PyData.canLayAll0 ds = true := by simpa [PyData.canLayAll0] using c
    exact .cons (Dt.dp s h c'.1) (DtA.dp s r c'.2)
end
theorem rd_eqD (hx : SeqAt.shaped x = true) (hy : SeqAt.shaped y = true) : RD (rEqD K) x y (.bool (PyData.eqv x y)) := fun G H v w Q s hv hw q =>
  ⟨x, y, hv.dp s (SeqAt.canLay_of_shaped hx), hw.dp s (SeqAt.canLay_of_shaped hy), hx, hy, q _ G H (Nw.refl _ _) s (Same.refl _) (.bl _)⟩
theorem rd_neD (hx : SeqAt.shaped x = true) (hy : SeqAt.shaped y = true) : RD (rNeD K) x y (.bool (!PyData.eqv x y)) := fun G H v w Q s hv hw q =>
  ⟨x, y, hv.dp s (SeqAt.canLay_of_shaped hx), hw.dp s (SeqAt.canLay_of_shaped hy), hx, hy, q _ G H (Nw.refl _ _) s (Same.refl _) (.bl _)⟩
theorem ev_eqD (ha : Ev μ ta Γ n1 (Eq x)) (hb : Ev μ tb Γ n2 (Eq y)) (hx : SeqAt.shaped x = true) (hy : SeqAt.shaped y = true) : Ev μ (tOp (rEqD K) ta tb) Γ (n1 + n2) (Eq (.bool (PyData.eqv x y))) := ev_op ha hb (rd_eqD hx hy)
theorem ev_neD (ha : Ev μ ta Γ n1 (Eq x)) (hb : Ev μ tb Γ n2 (Eq y)) (hx : SeqAt.shaped x = true) (hy : SeqAt.shaped y = true) : Ev μ (tOp (rNeD K) ta tb) Γ (n1 + n2) (Eq (.bool (!PyData.eqv x y))) := ev_op ha hb (rd_neD hx hy)
/-! ### what a thing is -/
def tyD : PyData → String
  | .none => "NoneType" | .bool _ => "bool" | .int _ => "int" | .str _ => "str" | .list _ => "list" | .tuple _ => "tuple" | .dict _ => "dict"
def isT (T a : String) : Bool := a == T || (T == "int" && a == "bool")
def isD (T : String) (d : PyData) : Bool := isT T (tyD d)
def tyNames : List String := ["NoneType", "bool", "int", "str", "list", "tuple", "dict"]
theorem tyD_mem (d : PyData) : tyD d ∈ tyNames := by cases d <;> simp [tyD, tyNames]
theorem tyX_of {G H : Hp} {v : V} (s : Same G H) (h : Dt G v d) : TyX K H v (.type (tyD d)) := by
  cases h with
  | non => exact .base .non
  | bl b => exact .base (.bl b)
  | int i => exact .base (.int i)
  | str x => exact .base (.str x)
  | lst h r => exact .base (.lst (s _ _ h))
  | tup h r => exact .base (.tup (s _ _ h))
  | dct h r => exact .base (.dK (s _ _ h))
theorem ev_isiP {T : String} (hT : ∀ d, kitB (tyD d) T = some (isD T d)) (h : Ev μ te Γ n P1) : Ev μ (tCB (rIsi K) (tCons te (tCons (tC (.ty T)) tNil))) Γ n (fun e => ∃ d, P1 d ∧ e = .bool (isD T d)) := fun G0 H0 G c σ H Q S l q =>
  h G0 H0 G c σ H _ S l fun d v G1 H1 p S1 e1 d1 => ⟨v, .ty T, _, _, isD T d, rfl, .ty T, tyX_of S1.sub d1, kit_ty (hT d), q _ _ G1 H1 ⟨d, p, rfl⟩ S1 e1 (.bl _)⟩
theorem ev_isi {T : String} (hT : ∀ d, kitB (tyD d) T = some (isD T d)) (h : Ev μ te Γ n (Eq x)) : Ev μ (tCB (rIsi K) (tCons te (tCons (tC (.ty T)) tNil))) Γ n (Eq (.bool (isD T x))) :=
  (ev_isiP hT h).imp fun e ⟨d, p, q⟩ => by rw [q, p]
theorem isi_str (d : PyData) : kitB (tyD d) "str" = some (isD "str" d) := (show ∀ a ∈ tyNames, kitB a "str" = some (isT "str" a) by decide +kernel) _ (tyD_mem d)
theorem isi_tuple (d : PyData) : kitB (tyD d) "tuple" = some (isD "tuple" d) := (show ∀ a ∈ tyNames, kitB a "tuple" = some (isT "tuple" a) by decide +kernel) _ (tyD_mem d)
theorem isi_list (d : PyData) : kitB (tyD d) "list" = some (isD "list" d) := (show ∀ a ∈ tyNames, kitB a "list" = some (isT "list" a) by decide +kernel) _ (tyD_mem d)
theorem isi_int (d : PyData) : kitB (tyD d) "int" = some (isD "int" d) := (show ∀ a ∈ tyNames, kitB a "int" = some (isT "int" a) by decide +kernel) _ (tyD_mem d)
theorem isi_bool (d : PyData) : kitB (tyD d) "bool" = some (isD "bool" d) := (show ∀ a ∈ tyNames, kitB a "bool" = some (isT "bool" a) by decide +kernel) _ (tyD_mem d)
/-! ### lengths -/
abbrev rLen (K : PySem.W.Frag) : List V → Hp → VK → Prop := fun xs H Q => ∃ x n, xs = [x] ∧ LenV K x H n ∧ Q (.int n) H
theorem rc_lenS {a : Str} (h : a.length ≤ 10000000) : RC (rLen K) [.str a] (.int (a.length : Int)) := fun G H vs Q s hv q => by
  cases hv with
  | cons h1 h2 =>
    cases h1; cases h2
    exact ⟨_, a.length, rfl, ⟨Nat.le_trans h (by decide), rfl⟩, q _ G H (Nw.refl _ _) s (Same.refl _) (.int _)⟩
theorem rc_lenL {ds : List PyData} : RC (rLen K) [.list ds] (.int (ds.length : Int)) := fun G H vs Q s hv q => by
  cases hv with
  | cons h1 h2 =>
    cases h2
    cases h1 with
    | lst a r => exact ⟨_, _, rfl, .inl ⟨_, SqL.of (s _ _ a), rfl⟩, by rw [r.length]; exact q _ G H (Nw.refl _ _) s (Same.refl _) (.int _)⟩
theorem rc_lenT {ds : List PyData} : RC (rLen K) [.tuple ds] (.int (ds.length : Int)) := fun G H vs Q s hv q => by
  cases hv with
  | cons h1 h2 =>
    cases h2
    cases h1 with
    | tup a r => exact ⟨_, _, rfl, .inr ⟨_, SqT.of (s _ _ a), rfl⟩, by rw [r.length]; exact q _ G H (Nw.refl _ _) s (Same.refl _) (.int _)⟩
theorem ev_lenS {a : Str} (h : Ev μ te Γ n (Eq (.str a))) (hl : a.length ≤ 10000000) : Ev μ (tCB (rLen K) (tCons te tNil)) Γ n (Eq (.int (a.length : Int))) := ev_cb (ea_cons h ea_nil) (rc_lenS hl)
theorem ev_lenL {ds : List PyData} (h : Ev μ te Γ n (Eq (.list ds))) : Ev μ (tCB (rLen K) (tCons te tNil)) Γ n (Eq (.int (ds.length : Int))) := ev_cb (ea_cons h ea_nil) rc_lenL
theorem ev_lenT {ds : List PyData} (h : Ev μ te Γ n (Eq (.tuple ds))) : Ev μ (tCB (rLen K) (tCons te tNil)) Γ n (Eq (.int (ds.length : Int))) := ev_cb (ea_cons h ea_nil) rc_lenT
/-! ### texts -/
abbrev rInSg : R2 := fun x y H Q => ∃ (c : Nat) (z : Str), x = .str ⟨#[c]⟩ ∧ y = .str z ∧ Q (.bl (decide (c ∈ z.cps.toList))) H
theorem rd_inSg {c : Nat} {z : Str} : RD rInSg (.str ⟨#[c]⟩) (.str z) (.bool (decide (c ∈ z.cps.toList))) := fun G H v w Q s hv hw q => by
  cases hv; cases hw
  exact ⟨c, z, rfl, rfl, q _ G H (Nw.refl _ _) s (Same.refl _) (.bl _)⟩
abbrev rAddSt : R2 := fun x y H Q => ∃ i j, x = .str i ∧ y = .str j ∧ i.length + j.length ≤ sizeLine ∧ Q (.str (i ++ j)) H
theorem rd_addS {a b : Str} (h : a.length + b.length ≤ 10000000) : RD rAddSt (.str a) (.str b) (.str (a ++ b)) := fun G H v w Q s hv hw q => by
  cases hv; cases hw
  exact ⟨a, b, rfl, rfl, Nat.le_trans h (by decide), q _ G H (Nw.refl _ _) s (Same.refl _) (.str _)⟩
abbrev rSplit : V → List V → Hp → VK → Prop := fun x xs H Q => ∃ a b, x = .str a ∧ xs = [.str b] ∧ (b.length == 0) = false ∧ a.length + 2 ≤ sizeLine ∧ rNewStrs (Txt.split a b) H Q
theorem rm_split {a b : Str} (hb : (b.length == 0) = false) (h : a.length ≤ 10000000) : RM rSplit (.str a) [.str b] (.list ((Txt.split a b).map .str)) := fun G H v vs Q s hv hvs q => by
  cases hv
  cases hvs with
  | cons h1 h2 =>
    cases h1; cases h2
    exact ⟨a, b, rfl, rfl, hb, Nat.le_trans (Nat.add_le_add_right h 2) (by decide), fun p hp => q _ _ _ (Nw.upd hp s) (Same.upd2 s) (Same.new hp) (.lst upd_same (DtA.strs _))⟩
abbrev rJoin (K : PySem.W.Frag) : V → List V → Hp → VK → Prop := fun x xs H Q => ∃ a p, ∃ ys : List Str, x = .str a ∧ xs = [.ref p] ∧ (SqL K H p (ys.map V.str) ∨ SqT K H p (ys.map V.str)) ∧ (ys.map (·.length)).sum + ys.length * a.length ≤ 16777216 ∧ Q (.str (Txt.join a ys)) H
theorem rm_join {a : Str} {ys : List Str} (h : (ys.map (·.length)).sum + ys.length * a.length ≤ 16777216) : RM (rJoin K) (.str a) [.list (ys.map .str)] (.str (Txt.join a ys)) := fun G H v vs Q s hv hvs q => by
  cases hv
  cases hvs with
  | cons h1 h2 =>
    cases h2
    cases h1 with
    | lst e r =>
      have := r.of_strs
      subst this
      exact ⟨a, _, ys, rfl, rfl, .inl (SqL.of (s _ _ e)), h, q _ G H (Nw.refl _ _) s (Same.refl _) (.str _)⟩
/-! ### lists and tuples -/
theorem rc_all {bs : List Bool} : RC (rAll K) [.list (bs.map .bool)] (.bool (bs.all id)) := fun G H vs Q s hv q => by
  cases hv with
  | cons h1 h2 =>
    cases h2
    cases h1 with
    | lst e r =>
      have := r.of_bls
      subst this
      exact ⟨_, bs, rfl, SqL.of (s _ _ e), q _ G H (Nw.refl _ _) s (Same.refl _) (.bl _)⟩
theorem rc_any {bs : List Bool} : RC (rAny K) [.list (bs.map .bool)] (.bool (bs.any id)) := fun G H vs Q s hv q => by
  cases hv with
  | cons h1 h2 =>
    cases h2
    cases h1 with
    | lst e r =>
      have := r.of_bls
      subst this
      exact ⟨_, bs, rfl, SqL.of (s _ _ e), q _ G H (Nw.refl _ _) s (Same.refl _) (.bl _)⟩
theorem ev_all {bs : List Bool} (h : Ev μ te Γ n (Eq (.list (bs.map .bool)))) : Ev μ (tCB (rAll K) (tCons te tNil)) Γ n (Eq (.bool (bs.all id))) := ev_cb (ea_cons h ea_nil) rc_all
theorem ev_any {bs : List Bool} (h : Ev μ te Γ n (Eq (.list (bs.map .bool)))) : Ev μ (tCB (rAny K) (tCons te tNil)) Γ n (Eq (.bool (bs.any id))) := ev_cb (ea_cons h ea_nil) rc_any
theorem rd_cat {xs ys : List PyData} (h : xs.length + ys.length ≤ 10000000) : RD rCat (.list xs) (.list ys) (.list (xs ++ ys)) := fun G H v w Q s hv hw q => by
  cases hv with
  | lst a r =>
    cases hw with
    | lst a2 r2 =>
      refine ⟨_, _, _, _, rfl, rfl, s _ _ a, s _ _ a2, by rw [r.length, r2.length]; exact Nat.le_trans h (by decide), fun p hp => q _ _ _ (Nw.upd hp s) (Same.upd2 s) (Same.new hp) (.lst upd_same ((r.append r2).mono (Nw.upd hp s).1))⟩
theorem atI_of {α β : Type} {xs : List α} {ys : List β} {i : Int} {v : α} (hl : xs.length = ys.length) (h : atI xs i = some v) : ∃ j : Nat, xs[j]? = some v ∧ atI ys i = ys[j]? := by
  unfold atI at h ⊢
  rw [← hl]
  cases e : ixN xs.length i with
  | none => rw [e] at h; cases h
  | some j => rw [e] at h; exact ⟨j, h, rfl⟩
theorem rd_ixL {ds : List PyData} {i : Int} (h : atI ds i = some d) : RD (rIxL K) (.list ds) (.int i) d := fun G H v w Q s hv hw q => by
  cases hw
  cases hv with
  | lst a r =>
    obtain ⟨j, h1, h2⟩ := atI_of r.length.symm h
    obtain ⟨u, hu, hd⟩ := r.getD h1
    exact ⟨_, _, i, u, rfl, rfl, SqL.of (s _ _ a), h2.trans hu, q _ G H (Nw.refl _ _) s (Same.refl _) hd⟩
theorem rd_ixT {ds : List PyData} {i : Int} (h : atI ds i = some d) : RD (rIxT K) (.tuple ds) (.int i) d := fun G H v w Q s hv hw q => by
  cases hw
  cases hv with
  | tup a r =>
    obtain ⟨j, h1, h2⟩ := atI_of r.length.symm h
    obtain ⟨u, hu, hd⟩ := r.getD h1
    exact ⟨_, _, i, u, rfl, rfl, SqT.of (s _ _ a), h2.trans hu, q _ G H (Nw.refl _ _) s (Same.refl _) hd⟩
theorem rd_ixS {a : Str} {i : Int} {ch : Nat} (hl : a.length ≤ 10000000) (h : atI a.cps.toList i = some ch) : RD rIxS (.str a) (.int i) (.str ⟨#[ch]⟩) := fun G H v w Q s hv hw q => by
  cases hw; cases hv
  exact ⟨a, i, ch, rfl, rfl, Nat.le_trans hl (by decide), h, q _ G H (Nw.refl _ _) s (Same.refl _) (.str _)⟩
theorem rd_ixsL {ds : List PyData} {i : Int} (h : atI ds i = some d) : RD (rIx K) (.list ds) (.int i) d := fun G H v w Q s hv hw q => .inl (rd_ixL h G H v w Q s hv hw q)
theorem rd_ixsT {ds : List PyData} {i : Int} (h : atI ds i = some d) : RD (rIx K) (.tuple ds) (.int i) d := fun G H v w Q s hv hw q => .inr (.inl (rd_ixT h G H v w Q s hv hw q))
theorem rd_ixsS {a : Str} {i : Int} {ch : Nat} (hl : a.length ≤ 10000000) (h : atI a.cps.toList i = some ch) : RD (rIx K) (.str a) (.int i) (.str ⟨#[ch]⟩) := fun G H v w Q s hv hw q => .inr (.inr (rd_ixS hl h G H v w Q s hv hw q))
theorem atI_mem {α : Type} {xs : List α} {i : Int} (h0 : 0 ≤ i) (h1 : i < xs.length) : ∃ v, v ∈ xs ∧ atI xs i = some v := by
  obtain ⟨k, rfl⟩ : ∃ k : Nat, i = (k : Int) := ⟨i.toNat, by omega⟩
  have hk : k < xs.length := by omega
  exact ⟨xs[k], List.getElem_mem _, atI_nat (List.getElem?_eq_getElem hk)⟩
/-! ### chains, truths, None -/
theorem ev_chain {r' : R2} {tc : TE} {a : Bool} {w : PyData} (h1 : Ev μ ta Γ n1 (Eq x)) (h2 : Ev μ tb Γ n2 (Eq y)) (h3 : Ev μ tc Γ n3 (Eq w)) (hr : RD r x y (.bool a)) (hr' : a = true → RD r' y w z) : Ev μ (tChain r r' ta tb tc) Γ (n1 + n2 + n3) (Eq (if a = true then z else .bool false)) := fun G0 H0 G c σ H Q S l q =>
  h1 G0 H0 G c σ H _ S (by omega) fun d1 v1 G1 H1 p1 S1 e1 hd1 => h2 G0 H0 G1 _ σ H1 _ S1 (by omega) fun d2 v2 G2 H2 p2 S2 e2 hd2 => by
    cases p1; cases p2
    refine hr G2 H2 v1 v2 _ S2.sub (hd1.mono e2.gg) hd2 fun u G3 H3 nw s s' du => ?_
    cases du
    refine ⟨a, rfl, ?_⟩
    have S3 := S2.same nw s s'
    have e3 : Ext μ.M G2 H2 G3 H3 := .same nw s'
    cases a with
    | false => exact iteF (q _ _ G3 H3 rfl (S3.up (by omega)) ((e1.trans e2).trans e3) (.bl false))
    | true =>
      refine iteT (h3 G0 H0 G3 _ σ H3 _ S3 (by omega) fun d4 v4 G4 H4 p4 S4 e4 hd4 => ?_)
      cases p4
      refine hr' rfl G4 H4 v2 v4 _ S4.sub (hd2.mono (e3.trans e4).gg) hd4 fun u G5 H5 nw5 s5 s5' du5 => ?_
      exact q _ _ G5 H5 rfl ((S4.same nw5 s5 s5').up (by omega)) (((e1.trans e2).trans (e3.trans e4)).trans (.same nw5 s5')) du5
def isN : PyData → Bool
  | .none => true
  | _ => false
theorem ev_isN (h : Ev μ te Γ n (Eq x)) : Ev μ (tIsN te) Γ n (Eq (.bool (isN x))) := fun G0 H0 G c σ H Q S l q =>
  h G0 H0 G c σ H _ S l fun d v G1 H1 p S1 e1 d1 => by
    cases p
    have e : decide (v = .non) = isN x := by cases d1 <;> rfl
    show Q (.bl (decide (v = .non))) H1
    rw [e]
    exact q _ _ G1 H1 rfl S1 e1 (.bl _)
theorem ev_notN (h : Ev μ te Γ n (Eq x)) : Ev μ (tNotN te) Γ n (Eq (.bool (!isN x))) := fun G0 H0 G c σ H Q S l q =>
  h G0 H0 G c σ H _ S l fun d v G1 H1 p S1 e1 d1 => by
    cases p
    have e : decide (v = .non) = isN x := by cases d1 <;> rfl
    show Q (.bl (!decide (v = .non))) H1
    rw [e]
    exact q _ _ G1 H1 rfl S1 e1 (.bl _)
/-- a, b = x, y: two plain names -/
theorem go_par {ta : TA} {R : Po} {c i j : Nat} {P : List PyData → Prop} (h : EvA μ ta Γ n P) (hc : c + n ≤ CM) (hl : ∀ xs, P xs → xs.length = 2) (k : ∀ a b, P [a, b] → R.nx ((Γ.set i (.dat a)).set j (.dat b)) (c + n)) : Go μ (tPar i j ta) Γ c R := fun G0 H0 Gs G σ H D S gs L =>
  h G0 H0 G c σ H _ S hc fun ds vs G1 H1 p S1 e1 d1 => by
    have hl' := hl ds p
    cases d1 with
    | nil => cases hl'
    | cons h1 r1 =>
      cases r1 with
      | nil => cases hl'
      | cons h2 r2 =>
        cases r2 with
        | cons _ _ => simp at hl'
        | nil => exact ⟨_, _, rfl, L.nx _ _ G1 _ H1 (k _ _ p) ((S1.setD h1).setD h2) (gs.trans e1.gg)⟩
end
end B

/-! B5: a law's end, the guards known. -/
namespace B
open PySem PySem.Spec PyProof.Rows L2
section
variable {P : Program} {w : World} {K : PySem.W.Frag} {mg mb : Str → Option Value} {CX : CXT} {k : Nat} {fa a : Addr} {fd : FuncData} {x : Str} {sp : Sp} {s1 : Shared} {us : List Value} {ns : List Int}
/-- what the script's list is as an abstract heap -/
structure Lone (P : Program) (w : World) (K : PySem.W.Frag) (s1 : Shared) (a : Addr) (us : List Value) (ns : List Int) (H : Hp) : Prop where
  only : Only H
  list : SqL K H a (ns.map V.int)
  ok : HOk P w H s1.heap
  here : ∀ b u, H b = some u → b = a ∧ K.lookup a = none
theorem lone_mk (hK : K.In s1.heap) (ha : s1.heap.get? a = some { cls := .type "list", data := .seq us.toArray }) (hi : IntsAre us ns) (hl : ns.length ≤ sizeLine) : ∃ H, Lone P w K s1 a us ns H := by
  have rel := vals_ints hi
  by_cases hk : K.lookup a = none
  · refine ⟨upd (fun _ => none) a (.frz { cls := .type "list", data := .seq us.toArray } (.lst (ns.map V.int))), fun b => ?_, .inl (.inr ⟨_, upd_same⟩), fun b u e => ?_, fun b u e => ?_⟩
    · by_cases hb : b = a
      · subst hb; exact .inr ⟨_, _, upd_same⟩
      · exact .inl (upd_ne hb)
    · by_cases hb : b = a
      · subst hb
        rw [upd_same] at e
        cases e
        exact ⟨ha, by simpa using hl, us, _, rel, ha⟩
      · rw [upd_ne hb] at e; cases e
    · by_cases hb : b = a
      · exact ⟨hb, hk⟩
      · rw [upd_ne hb] at e; cases e
  · obtain ⟨o, ho⟩ := Option.ne_none_iff_exists'.mp hk
    have e := hK a o ho
    rw [ha] at e
    cases e
    refine ⟨fun _ => none, fun _ => .inl rfl, .inr ⟨_, us.toArray, _, ho, rfl, rfl, rfl, ?_, by simpa using rel⟩, (fun b u e => by cases e), (fun b u e => by cases e)⟩
    rw [List.size_toArray, hi.length]; exact hl
theorem lawG (hK : K.In s1.heap) (hns : s1.heap.Ns mainGlobals mg) (hb : s1.heap.Ns builtinsNs mb) (hbb : ∀ x : Str, x ≠ "__name__" → mb x = bootBuiltins x) (hlim : s1.heap.NoLimit) (hg : s1.gens = #[])
    (ha : s1.heap.get? a = some { cls := .type "list", data := .seq us.toArray }) (hi : IntsAre us ns) (hl : ns.length ≤ sizeLine) (hr : Room k callerA)
    (F : ∀ base : Heap, K.In base → base.Ns mainGlobals mg → FnG P w K mg base CX k fa fd [x] sp) (hbd : ∀ (s : Shared) (u : Value), BindsTo s fd ⟨[u], []⟩ [(x, u)])
    (hsp : ∀ H : Hp, Only H → SqL K H a (ns.map V.int) → sp [.ref a] H (fun v _ => v = .bl true) fun _ _ _ => False) (hCX : ∀ H e s', CX [] H s1 (fun _ _ _ => False) e s' → False) :
    codeAny (model P w) callerA (.call (.ref fa) ⟨[.ref a], []⟩) (fun r s' => r = .ok (.ret (.bool true)) ∧ OldK s1.heap s'.heap ∧ s'.os = s1.os ∧ AllBare s'.gens) s1 := by
  obtain ⟨H, L⟩ := lone_mk (P := P) (w := w) hK ha hi hl
  -- the heap without the script is the base
  have free : ∀ b o, s1.heap.get? b = some o → (∀ v n, o.data ≠ .seq v n) → H b = none := fun b o e d => by
    cases q : H b with
    | none => rfl
    | some u =>
      obtain ⟨z, _⟩ := L.here b u q
      subst z
      rw [ha] at e
      cases e
      exact (d _ _ rfl).elim
  have nsB : ∀ b m, s1.heap.Ns b m → (hidT s1.heap H).Ns b m := fun b m ⟨o, es, ep, e, d, r⟩ => ⟨o, es, ep, hidT_get e (free b o e fun v n z => by rw [d] at z; cases z), d, r⟩
  have kB : K.In (hidT s1.heap H) := fun b o e => hidT_get (hK b o e) (by
    cases q : H b with
    | none => rfl
    | some u =>
      obtain ⟨z1, z2⟩ := L.here b u q
      subst z1
      rw [z2] at e; cases e)
  have md : Mod K mg (hidT s1.heap H) := ⟨kB, nsB _ _ hns, ⟨mb, nsB _ _ hb, hbb⟩, let ⟨mc, h1, h2⟩ := hlim; ⟨mc, nsB _ _ h1, h2⟩⟩
  have nof : ∀ b, b ∉ frs ([] : List Env) := fun b z => by simp [frs] at z
  have env : Env0 P w K mg (hidT s1.heap H) callerA [] s1 H := ⟨rfl, md, fun b o e => of_hidT e, Nat.le_of_eq (hidT_size _ _), trivial, fun b z => (nof b z).elim, L.ok, .of_eq hg⟩
  refine codeAny_mono ((F _ kB (nsB _ _ hns)).runs callerA [] s1 H ⟨[.ref a], []⟩ [.ref a] [.ref a] _ _ rfl hr env (hbd s1 (.ref a)) (.cons rfl .nil) (hsp H L.only L.list)) fun r s' z => ?_
  cases r with
  | error e => exact (hCX H e s' z).elim
  | ok fl =>
    cases fl with
    | ret u =>
      obtain ⟨v, H', os, bare, un, ok', rv, (q : v = .bl true)⟩ := z
      subst q
      cases (show u = Value.bool true from rv)
      refine ⟨rfl, OldK.of_keep fun b o e => ?_, os, bare⟩
      rcases L.only b with q | ⟨ob, xs, q⟩
      · exact un.keep b o e q (nof b) (by simp)
      · have e1 := (L.ok b _ q).1
        rw [e] at e1
        cases e1
        exact (ok' b _ (un.frzs b _ _ q)).1
    | next => exact z.elim
    | brk => exact z.elim
    | cont => exact z.elim
end
theorem walk_ofG {l : PySem.W.OpenLaw} {n k : Nat} {q : Program} {loose : List Str} {XP : (Str → Option Value) → Heap → Prop} {YP : World → Heap → Prop} {d : DefRec} {K : Params → PySem.W.Frag} {CX : CXT} {sp : PySem.W.Frag → Sp} {x : Str}
    (hn : l.most = some n) (hn2 : n ≤ sizeLine) (hdf : d.params.defaults = []) (hr : Room k callerA) (hY : ∀ (w : World) (h : Heap), YP w h → (K w.params).In h)
    (F : ∀ (w : World) (mg : Str → Option Value) (fa : Addr) (h : Heap), (K w.params).In h → h.Ns mainGlobals mg → mg d.name = some (.ref fa) →
      ∃ fd : FuncData, (∀ (s : Shared) (u : Value), BindsTo s fd ⟨[u], []⟩ [(x, u)]) ∧ ∀ base : Heap, (K w.params).In base → base.Ns mainGlobals mg → FnG l.prog w (K w.params) mg base CX k fa fd [x] (sp (K w.params)))
    (hsp : ∀ (K : PySem.W.Frag) (H : Hp) (a : Addr) (ns : List Int), ns.length ≤ n → Only H → SqL K H a (ns.map V.int) → sp K [.ref a] H (fun v _ => v = .bl true) fun _ _ _ => False)
    (hCX : ∀ (H : Hp) (s : Shared) (e : Value) (s' : Shared), CX [] H s (fun _ _ _ => False) e s' → False) :
    PySem.W.WalkO q loose XP YP l.row.toRowW d [] (fun f vs => PySem.call f vs) :=
  Att.attach_call hn hdf fun w s0 s1 mg mb fa o pm cd doc a us ns G Y ho hd hcd hmg hobj hints hlen hg => by
    obtain ⟨fd, hb, hF⟩ := F w mg fa _ (hY w _ Y) G.T.g hmg
    exact lawG (hY w _ Y) G.T.g G.T.b G.T.builtins G.T.nolimit hg hobj hints (Nat.le_trans hlen hn2) hr hF hb (fun H hO hS => hsp _ H a ns hlen hO hS) fun H e s' => hCX H s1 e s'
theorem bt_len : bootBuiltins "len" = some (.builtin "len") := by decide +kernel
theorem bt_all : bootBuiltins "all" = some (.builtin "all") := by decide +kernel
theorem bt_any : bootBuiltins "any" = some (.builtin "any") := by decide +kernel
theorem bt_isinstance : bootBuiltins "isinstance" = some (.builtin "isinstance") := by decide +kernel
theorem bt_max : bootBuiltins "max" = some (.builtin "max") := by decide +kernel
theorem bt_min : bootBuiltins "min" = some (.builtin "min") := by decide +kernel
theorem bt_abs : bootBuiltins "abs" = some (.builtin "abs") := by decide +kernel
theorem bt_int : bootBuiltins "int" = some (.type "int") := by decide +kernel
theorem bt_str : bootBuiltins "str" = some (.type "str") := by decide +kernel
theorem bt_bool : bootBuiltins "bool" = some (.type "bool") := by decide +kernel
theorem bt_tuple : bootBuiltins "tuple" = some (.type "tuple") := by decide +kernel
theorem bt_list : bootBuiltins "list" = some (.type "list") := by decide +kernel
theorem bt_dict : bootBuiltins "dict" = some (.type "dict") := by decide +kernel
theorem bt_set : bootBuiltins "set" = some (.type "set") := by decide +kernel
theorem bt_sorted : bootBuiltins "sorted" = some (.builtin "sorted") := by decide +kernel
theorem bt_repr : bootBuiltins "repr" = some (.builtin "repr") := by decide +kernel
theorem bt_zip : bootBuiltins "zip" = some (.type "zip") := by decide +kernel
theorem bt_sum : bootBuiltins "sum" = some (.builtin "sum") := by decide +kernel
end B

/-! B6: values that are known to the letter (for the box). -/
namespace B
open PySem PySem.Spec PyProof.Rows L2
section
variable {σ : L2.St} {H : Hp} {v x y z : V} {ta tb te : TE} {b : Bool} {K : PySem.W.Frag} {a : Addr} {i j : Int}
theorem vI0 {g : Int → Int → V} (ha : Val ta σ H (.int i)) (hb : Val tb σ H (.int j)) : Val (tOp (rI0 g) ta tb) σ H (g i j) := val_op ha hb fun Q q => ⟨i, j, rfl, rfl, q⟩
theorem vI {C : Int → Int → Prop} {g : Int → Int → V} (ha : Val ta σ H (.int i)) (hb : Val tb σ H (.int j)) (h : C i j) : Val (tOp (rI C g) ta tb) σ H (g i j) := val_op ha hb fun Q q => ⟨i, j, rfl, rfl, h, q⟩
theorem vix {xs : List V} (ha : Val ta σ H (.ref a)) (hb : Val tb σ H (.int i)) (h : SqL K H a xs) (e : atI xs i = some v) : Val (tOp (rIxL K) ta tb) σ H v := val_op ha hb fun Q q => ⟨a, xs, i, v, rfl, rfl, h, e, q⟩
abbrev rInt1 : List V → Hp → VK → Prop := fun xs H Q => (∃ i, xs = [.int i] ∧ Q (.int i) H) ∨ ∃ k, xs = [.bl k] ∧ Q (.int (if k then 1 else 0)) H
theorem vint (ha : Val ta σ H (.int i)) : Val (tCB rInt1 (tCons ta tNil)) σ H (.int i) := fun Q q => ha _ (.inl ⟨i, rfl, q⟩)
theorem vintB (ha : Val ta σ H (.bl b)) : Val (tCB rInt1 (tCons ta tNil)) σ H (.int (if b then 1 else 0)) := fun Q q => ha _ (.inr ⟨b, rfl, q⟩)
theorem vabs (ha : Val ta σ H (.int i)) : Val (tCB (fun xs H Q => ∃ i, xs = [.int i] ∧ Q (.int (if i < 0 then -i else i)) H) (tCons ta tNil)) σ H (.int (if i < 0 then -i else i)) := fun Q q => ha _ ⟨i, rfl, q⟩
theorem vlenL {xs : List V} (ha : Val ta σ H (.ref a)) (h : SqL K H a xs) : Val (tCB (rLen K) (tCons ta tNil)) σ H (.int (xs.length : Int)) := fun Q q => ha _ ⟨_, _, rfl, .inl ⟨xs, h, rfl⟩, q⟩
theorem aB {g : Int → Int → Bool} (ha : Val ta σ H (.int i)) (hb : Val tb σ H (.int j)) (e : g i j = b) : Ans (tTest (tOp (rI0 fun i j => .bl (g i j)) ta tb)) σ H b := ans_cmp ha hb fun Q q => ⟨i, j, rfl, rfl, by show Q (.bl (g i j)) H; rw [e]; exact q⟩
theorem v_ret3 {t1 t2 t3 : TE} {v1 v2 v3 : V} {D : Ends} (h1 : Val t1 σ H v1) (h2 : Val t2 σ H v2) (h3 : Val t3 σ H v3) (q : ∀ p, H p = none → D.rt (.ref p) (upd H p (.lst [v1, v2, v3]))) : tRet (tLst (tCons t1 (tCons t2 (tCons t3 tNil)))) D σ H :=
  h1 _ (h2 _ (h3 _ ⟨by show 3 ≤ sizeLine; decide, q⟩))
theorem v_ret {D : Ends} (h : Val te σ H v) (q : D.rt v H) : tRet te D σ H := h _ q
def CPowW (i j : Int) : Prop := 0 ≤ j ∧ (Builtin.Int.intBits i : Int) * j ≤ 2 ^ 27
theorem op_powW {X : Cx} : OpR X (binaryOp .Pow) (rI CPowW fun i j => .int (i ^ j.toNat)) := opI fun _ _ _ _ _ _ _ hc q => pow_int hc.1 hc.2 q
end
theorem emod_lt' {a m : Int} (h : 0 < m) : 0 ≤ a % m ∧ a % m < m := ⟨Int.emod_nonneg _ (by omega), Int.emod_lt_of_pos _ h⟩
end B

/-! B7: nothing drawn; short forms. -/
namespace B
open PySem PySem.Spec PyProof.Rows L2
section
variable {μ : Mu} {Γ : List Sl} {n : Nat} {P P1 P2 : PyData → Prop} {ta tb tc te : TE} {t u : TT} {x y z w d : PyData} {r r' : R2} {K : PySem.W.Frag} {a b : Bool} {i j : Int}
theorem ea_cons0 {tr : TA} {xs : List PyData} (ha : Ev μ ta Γ 0 (Eq x)) (hb : EvA μ tr Γ 0 (Eq xs)) : EvA μ (tCons ta tr) Γ 0 (Eq (x :: xs)) := ea_cons ha hb
theorem ev_op0 (ha : Ev μ ta Γ 0 (Eq x)) (hb : Ev μ tb Γ 0 (Eq y)) (hr : RD r x y z) : Ev μ (tOp r ta tb) Γ 0 (Eq z) := ev_op ha hb hr
theorem ev_add0 (ha : Ev μ ta Γ 0 (Eq (.int i))) (hb : Ev μ tb Γ 0 (Eq (.int j))) : Ev μ (tOp (rI0 fun i j => .int (i + j)) ta tb) Γ 0 (Eq (.int (i + j))) := ev_add ha hb
theorem ev_sub0 (ha : Ev μ ta Γ 0 (Eq (.int i))) (hb : Ev μ tb Γ 0 (Eq (.int j))) : Ev μ (tOp (rI0 fun i j => .int (i - j)) ta tb) Γ 0 (Eq (.int (i - j))) := ev_sub ha hb
theorem ev_cmp0 {g : Int → Int → Bool} (ha : Ev μ ta Γ 0 (Eq (.int i))) (hb : Ev μ tb Γ 0 (Eq (.int j))) : Ev μ (tOp (rI0 fun i j => .bl (g i j)) ta tb) Γ 0 (Eq (.bool (g i j))) := ev_op ha hb rd_B0
theorem ev_pow0 (ha : Ev μ ta Γ 0 (Eq (.int i))) (hb : Ev μ tb Γ 0 (Eq (.int j))) (h : CPow i j) : Ev μ (tOp (rI CPow fun i j => .int (i ^ j.toNat)) ta tb) Γ 0 (Eq (.int (i ^ j.toNat))) := ev_pow ha hb h
theorem ev_eqD0 (ha : Ev μ ta Γ 0 (Eq x)) (hb : Ev μ tb Γ 0 (Eq y)) (hx : SeqAt.shaped x = true) (hy : SeqAt.shaped y = true) : Ev μ (tOp (rEqD K) ta tb) Γ 0 (Eq (.bool (PyData.eqv x y))) := ev_eqD ha hb hx hy
theorem ev_neD0 (ha : Ev μ ta Γ 0 (Eq x)) (hb : Ev μ tb Γ 0 (Eq y)) (hx : SeqAt.shaped x = true) (hy : SeqAt.shaped y = true) : Ev μ (tOp (rNeD K) ta tb) Γ 0 (Eq (.bool (!PyData.eqv x y))) := ev_neD ha hb hx hy
theorem et_and0 (h1 : EvT μ t Γ 0 (Eq a)) (h2 : a = true → EvT μ u Γ 0 (Eq b)) : EvT μ (tAnd t u) Γ 0 (Eq (a && b)) := et_and h1 h2
theorem et_or0 (h1 : EvT μ t Γ 0 (Eq a)) (h2 : a = false → EvT μ u Γ 0 (Eq b)) : EvT μ (tOr t u) Γ 0 (Eq (a || b)) := et_or h1 h2
theorem ev_andV0 (h1 : Ev μ ta Γ 0 (Eq (.bool a))) (h2 : a = true → Ev μ tb Γ 0 (Eq (.bool b))) : Ev μ (tAndV ta tb) Γ 0 (Eq (.bool (a && b))) := (ev_andV h1 h2).imp fun d e => by rw [← e]; cases a <;> rfl
theorem ev_orV0 (h1 : Ev μ ta Γ 0 (Eq (.bool a))) (h2 : a = false → Ev μ tb Γ 0 (Eq (.bool b))) : Ev μ (tOrV ta tb) Γ 0 (Eq (.bool (a || b))) := (ev_orV h1 h2).imp fun d e => by rw [← e]; cases a <;> rfl
theorem ev_if0 (h : EvT μ t Γ 0 (Eq b)) (h1 : b = true → Ev μ ta Γ 0 (Eq x)) (h2 : b = false → Ev μ tb Γ 0 (Eq y)) : Ev μ (tIf t ta tb) Γ 0 (Eq (if b = true then x else y)) :=
  ev_if (P := Eq (if b = true then x else y)) (n1 := 0) (n2 := 0) h (fun e => by subst e; exact h1 rfl) (fun e => by subst e; exact h2 rfl)
theorem ev_chain0 (h1 : Ev μ ta Γ 0 (Eq x)) (h2 : Ev μ tb Γ 0 (Eq y)) (h3 : Ev μ tc Γ 0 (Eq w)) (hr : RD r x y (.bool a)) (hr' : a = true → RD r' y w (.bool b)) : Ev μ (tChain r r' ta tb tc) Γ 0 (Eq (.bool (a && b))) := (ev_chain h1 h2 h3 hr hr').imp fun d e => by rw [← e]; cases a <;> rfl
theorem ev_split {s sep : Str} (ha : Ev μ ta Γ 0 (Eq (.str s))) (hb : Ev μ tb Γ 0 (Eq (.str sep))) (h1 : (sep.length == 0) = false) (h2 : s.length ≤ 10000000) : Ev μ (tM1 rSplit ta tb) Γ 0 (Eq (.list ((Txt.split s sep).map .str))) := ev_m1 ha hb (rm_split h1 h2)
theorem ev_isi0 {T : String} (hT : ∀ d, kitB (tyD d) T = some (isD T d)) (h : Ev μ te Γ 0 (Eq x)) : Ev μ (tCB (rIsi K) (tCons te (tCons (tC (.ty T)) tNil))) Γ 0 (Eq (.bool (isD T x))) := ev_isi hT h
theorem ev_inSg {c : Nat} {z : Str} (ha : Ev μ ta Γ 0 (Eq (.str ⟨#[c]⟩))) (hb : Ev μ tb Γ 0 (Eq (.str z))) : Ev μ (tOp rInSg ta tb) Γ 0 (Eq (.bool (decide (c ∈ z.cps.toList)))) := ev_op ha hb rd_inSg
theorem ev_callP {ta : TA} {E : XK} {pre : List PyData → Prop} {post : List PyData → PyData → Prop} {xs : List PyData} (ha : EvA μ ta Γ 0 (Eq xs)) (hp : pre xs) : Ev μ (tCall (spP pre post) [] E ta) Γ 0 (post xs) := (ev_call ha fun _ e => e ▸ hp).imp fun d ⟨ys, e, po⟩ => e ▸ po
end
theorem split_len {s sep p : Str} (h : p ∈ Txt.split s sep) : p.length ≤ s.length := by
  have := join_mem_le sep (Txt.split s sep) p h
  rw [PySem.StrLaws.join_split] at this
  exact this
theorem len_app (a b : Str) : (a ++ b).length = a.length + b.length := by
  show (Array.append a.cps b.cps).size = a.cps.size + b.cps.size
  simp
theorem join_many (sep : Str) : ∀ ts : List Str, ts.length * sep.length ≤ (Str.join sep ts).length + sep.length
  | [] => by simp
  | [x] => by simp
  | x :: y :: r => by
    have ih := join_many sep (y :: r)
    show _ ≤ (x ++ sep ++ Str.join sep (y :: r)).length + sep.length
    rw [len_app, len_app]
    rw [List.length_cons, Nat.add_mul, Nat.one_mul]
    omega
theorem join_len_le (sep : Str) : ∀ ts : List Str, (Str.join sep ts).length ≤ (ts.map (·.length)).sum + ts.length * sep.length
  | [] => by simp [Str.join]; rfl
  | [x] => by simp [Str.join]
  | x :: y :: r => by
    have ih := join_len_le sep (y :: r)
    show (x ++ sep ++ Str.join sep (y :: r)).length ≤ _
    rw [len_app, len_app, List.map_cons, List.sum_cons]
    rw [List.length_cons, Nat.add_mul, Nat.one_mul]
    omega
theorem sum_le_mul {α : Type} (f : α → Nat) (B : Nat) : ∀ xs : List α, (∀ x ∈ xs, f x ≤ B) → (xs.map f).sum ≤ xs.length * B
  | [], _ => by simp
  | x :: r, h => by
    have ih := sum_le_mul f B r fun y hy => h y (List.mem_cons_of_mem _ hy)
    have hx := h x List.mem_cons_self
    rw [List.map_cons, List.sum_cons, List.length_cons, Nat.add_mul, Nat.one_mul]
    omega
theorem split_many {s : Str} : (Txt.split s "/").length ≤ s.length + 1 := by
  have h := join_many "/" (Txt.split s "/")
  rw [PySem.StrLaws.join_split] at h
  have e : (("/" : Str)).length = 1 := by decide +kernel
  rw [e] at h
  omega
theorem mem_strs {xs : List Str} {d : PyData} (h : d ∈ xs.map PyData.str) : ∃ z, z ∈ xs ∧ d = .str z := let ⟨z, a, b⟩ := List.mem_map.mp h; ⟨z, a, b.symm⟩
theorem mem_ints {xs : List Int} {d : PyData} (h : d ∈ xs.map PyData.int) : ∃ z, z ∈ xs ∧ d = .int z := let ⟨z, a, b⟩ := List.mem_map.mp h; ⟨z, a, b.symm⟩
theorem mem_chD {z : Str} {d : PyData} (h : d ∈ chD z) : ∃ c, c ∈ z.cps.toList ∧ d = .str ⟨#[c]⟩ := let ⟨c, a, b⟩ := List.mem_map.mp h; ⟨c, a, b.symm⟩
end B

/-! B8: written dicts; one of some things; how many draws. -/
namespace B
open PySem PySem.Spec PyProof.Rows L2
section
variable {μ : Mu} {Γ : List Sl} {n k : Nat} {P P1 P2 : PyData → Prop} {ta tb tc te : TE} {x y z w d : PyData} {K : PySem.W.Frag} {b : Addr} {i : Nat} {E : XK}
theorem ev_dnew : Ev μ tDNewK Γ 0 (Eq (.dict [])) := fun G0 H0 G c σ H Q S l q => fun p hp =>
  q _ _ _ _ rfl (S.laid hp) (.same (Nw.upd hp S.sub) (Same.new hp)) (.dct upd_same .nil)
/-- {'k': e} -/
theorem ev_disp1 {s : Str} (h : Ev μ te Γ n P) : Ev μ (tDisp [(tC (.str s), te)]) Γ n (fun d => ∃ x, P x ∧ d = .dict [(.str s, x)]) := fun G0 H0 G c σ H Q S l q => fun p hp => by
  have S1 := S.same (G' := G) (H' := upd H p (.dK [])) (Nw.refl _ _) (S.sub.trans (Same.new hp)) (Same.new hp)
  have e1 : Ext μ.M G H G (upd H p (.dK [])) := .same (Nw.refl _ _) (Same.new hp)
  have hM : ¬ μ.M p := fun hm' => (S.ent p hm').1 (S.h0 hp)
  refine h G0 H0 G c σ _ _ S1 l fun x v G2 H2 px S2 e2 d2 => ?_
  have hp2 : H2 p = some (.dK []) := e2.fr _ _ hM upd_same
  have gp2 : G2 p = none := e2.out (Same.free S.sub hp) upd_same
  refine ⟨hp2, [(.inr s, v)], rfl, by show 1 ≤ 15; decide, ?_⟩
  have hnew : Nw G H (upd G2 p (.dK [(.inr s, v)])) := ⟨(e1.trans e2).gg.trans (Same.new gp2), fun a ha => by
    by_cases z : a = p
    · subst z; exact .inr hp
    · rw [upd_ne z] at ha; exact (e1.trans e2).nw.2 a ha⟩
  have ee := e1.trans e2
  have hsub : Same (upd G2 p (.dK [(.inr s, v)])) (upd H2 p (.dK [(.inr s, v)])) := Same.upd2 S2.sub
  have hfr : Fr μ.M H (upd H2 p (.dK [(.inr s, v)])) := fun a o ha hh => by
    rw [upd_ne (fun z => by subst z; rw [hp] at hh; cases hh)]; exact ee.fr a o ha hh
  have e3 : Ext μ.M G H (upd G2 p (.dK [(.inr s, v)])) (upd H2 p (.dK [(.inr s, v)])) := ⟨hnew, hfr, fun a ha => by
    by_cases z : a = p
    · subst z; exact hp
    · rw [upd_ne z] at ha; exact ee.dm a ha⟩
  refine q _ _ _ _ ⟨x, px, rfl⟩ (S.ext hnew hsub hfr ?_) e3 (.dct upd_same (.cons (d2.mono (Same.new gp2)) .nil))
  exact μ.st _ H2 _ (fun a o ha hh => by
    have na : a ≠ p := fun z => by rw [z] at ha; exact hM ha
    rw [upd_ne na]; exact hh) S2.inv
theorem ev_disp1E {s : Str} (h : Ev μ te Γ 0 (Eq x)) : Ev μ (tDisp [(tC (.str s), te)]) Γ 0 (Eq (.dict [(.str s, x)])) := (ev_disp1 h).imp fun d ⟨y, e1, e2⟩ => by rw [e2, e1]
/-! ### one of some things -/
def ofPre (ds : List PyData) : Prop := ∃ x, ds = [x] ∧ ((∃ xs, x = .list xs ∧ 1 ≤ xs.length ∧ xs.length ≤ 1000000) ∨ ∃ z : Str, x = .str z ∧ 1 ≤ z.length ∧ z.length ≤ 1000000)
def ofPost (ds : List PyData) (d : PyData) : Prop := ∃ x, ds = [x] ∧ ((∃ xs, x = .list xs ∧ d ∈ xs) ∨ ∃ z : Str, x = .str z ∧ d ∈ chD z)
abbrev takePre : List PyData → Prop := fun ds => ∃ m : Int, ds = [.int m] ∧ 1 ≤ m ∧ m ≤ 1000000
abbrev takePost : List PyData → PyData → Prop := fun ds d => ∃ m i : Int, ds = [.int m] ∧ d = .int i ∧ 0 ≤ i ∧ i < m
theorem ev_ofP (hi : Γ[i]? = some (.raw (.ref b))) (h : Ev (boxMu b) te Γ n P) (hP : ∀ d, P d → ∃ xs, d = .list xs ∧ 1 ≤ xs.length ∧ xs.length ≤ 1000000) : Ev (boxMu b) (tCall (spB 1 ofPre ofPost) [] E (tCons (tVar i) (tCons te tNil))) Γ (n + 1) (fun d => ∃ xs, P (.list xs) ∧ d ∈ xs) :=
  (ev_callB (n := n + 0) hi (ea_consP (P := fun xs => ∃ x, P x ∧ xs = [x]) h ea_nil fun x y p e => ⟨x, p, by rw [← e]⟩) fun ys ⟨x, p, e⟩ => ⟨x, e, .inl (hP x p)⟩).imp fun d ⟨ys, ⟨x, p, e⟩, x', e', h'⟩ => by
    subst e
    cases e'
    obtain ⟨xs, rfl, _⟩ := hP x p
    rcases h' with ⟨xs', e2, hd⟩ | ⟨z, e2, _⟩
    · cases e2; exact ⟨xs, p, hd⟩
    · cases e2
theorem ev_ofL {xs : List PyData} (hi : Γ[i]? = some (.raw (.ref b))) (h : Ev (boxMu b) te Γ 0 (Eq (.list xs))) (h1 : 1 ≤ xs.length := by decide) (h2 : xs.length ≤ 1000000 := by decide) : Ev (boxMu b) (tCall (spB 1 ofPre ofPost) [] E (tCons (tVar i) (tCons te tNil))) Γ 1 (fun d => d ∈ xs) :=
  (ev_ofP hi h fun d e => ⟨xs, e.symm, h1, h2⟩).imp fun d ⟨ys, e, hd⟩ => by cases e; exact hd
theorem ev_ofS {s : Str} (hi : Γ[i]? = some (.raw (.ref b))) (h : Ev (boxMu b) te Γ 0 (Eq (.str s))) (h1 : 1 ≤ s.length) (h2 : s.length ≤ 1000000) : Ev (boxMu b) (tCall (spB 1 ofPre ofPost) [] E (tCons (tVar i) (tCons te tNil))) Γ 1 (fun d => d ∈ chD s) :=
  (ev_callB (n := 0) hi (ea_cons0 h ea_nil) fun ys e => ⟨_, e.symm, .inr ⟨s, rfl, h1, h2⟩⟩).imp fun d ⟨ys, e, x, e', h'⟩ => by
    subst e
    cases e'
    rcases h' with ⟨xs', e2, hd⟩ | ⟨z, e2, hd⟩
    · cases e2
    · cases e2; exact hd
theorem ev_take {m : Int} (hi : Γ[i]? = some (.raw (.ref b))) (h : Ev (boxMu b) te Γ 0 (Eq (.int m))) (h1 : 1 ≤ m := by decide) (h2 : m ≤ 1000000 := by decide) : Ev (boxMu b) (tCall (spB 1 takePre takePost) [] E (tCons (tVar i) (tCons te tNil))) Γ 1 (fun d => ∃ i : Int, d = .int i ∧ 0 ≤ i ∧ i < m) :=
  (ev_callB (n := 0) hi (ea_cons0 h ea_nil) fun ys e => ⟨m, e.symm, h1, h2⟩).imp fun d ⟨ys, e, m', i', e', h', h3, h4⟩ => by
    subst e
    cases e'
    exact ⟨i', h', h3, h4⟩
theorem ev_join {sep : Str} (ha : Ev μ ta Γ 0 (Eq (.str sep))) (hb : Ev μ tb Γ n P1) (hP : ∀ d, P1 d → ∃ ys : List Str, d = .list (ys.map .str) ∧ (ys.map (·.length)).sum + ys.length * sep.length ≤ 16777216 ∧ P (.str (Txt.join sep ys))) : Ev μ (tM1 (rJoin K) ta tb) Γ n P := by
  have := ev_m1P (r := rJoin K) (P := P) ha hb (fun _ e => ⟨sep, e.symm⟩) fun x y e p => by
    obtain ⟨ys, rfl, h1, h2⟩ := hP y p
    exact ⟨_, e ▸ rm_join h1, h2⟩
  rw [Nat.zero_add] at this
  exact this
end
/-! ### a law's own def -/
def spBox (K : PySem.W.Frag) : Sp := fun vs H Q _ => ∃ (a : Addr) (ns : List Int) (j : Nat), vs = [.ref a, .int (j : Int)] ∧ SqL K H a (ns.map V.int) ∧ ns.length ≤ 63 ∧ j ≤ 10 ∧ ∀ b H', H b = none → Same H H' → BoxAt b 0 H' → Q (.ref b) H'
def spLaw (K : PySem.W.Frag) : Sp := fun vs H Q _ => ∃ (a : Addr) (ns : List Int), vs = [.ref a] ∧ SqL K H a (ns.map V.int) ∧ ns.length ≤ 63 ∧ ∀ H', Q (.bl true) H'
theorem law_starts {K : PySem.W.Frag} {H : Hp} {a : Addr} {ns : List Int} (hl : ns.length ≤ 63) (hS : SqL K H a (ns.map V.int)) : spLaw K [.ref a] H (fun v _ => v = .bl true) fun _ _ _ => False := ⟨a, ns, rfl, hS, hl, fun _ => rfl⟩
section
variable {K : PySem.W.Frag} {σ : L2.St} {H : Hp} {a : Addr} {ns : List Int} {E E' : XK} {ta tb : TE} {i j : Int} {D : Ends} {tu : TS}
theorem vmax (ha : Val ta σ H (.int i)) (hb : Val tb σ H (.int j)) : Val (tCB (fun xs H Q => ∃ i j, xs = [.int i, .int j] ∧ Q (.int (if j > i then j else i)) H) (tCons ta (tCons tb tNil))) σ H (.int (if j > i then j else i)) := fun Q q => ha _ (hb _ ⟨i, j, rfl, q⟩)
theorem vmin (ha : Val ta σ H (.int i)) (hb : Val tb σ H (.int j)) : Val (tCB (fun xs H Q => ∃ i j, xs = [.int i, .int j] ∧ Q (.int (if j < i then j else i)) H) (tCons ta (tCons tb tNil))) σ H (.int (if j < i then j else i)) := fun Q q => ha _ (hb _ ⟨i, j, rfl, q⟩)
theorem v_rng {te : TE} {J : Int} {R : It → Hp → Prop} (h : Val te σ H (.int J)) (h1 : -(2 ^ 62) ≤ J) (h2 : J < 2 ^ 62) (q : R (Itr 0 J.toNat) H) : iRng1 (tCons te tNil) σ H R := h _ ⟨J, rfl, h1, h2, q⟩
/-- for k in range(max(1, min(m, len(script)))): what stands between two turns is the heap alone -/
theorem law_for {m : Int} {s0 : L2.St} (hm : 1 ≤ m) (hm2 : m ≤ 10) (hS : SqL K H a (ns.map V.int)) (N : L2.St → Prop) (h0 : N (some (.ref a) :: s0))
    (hs : ∀ (k : Nat) s' H', k < 10 → N (some (.ref a) :: s') → Same H H' → tu { D with nx := fun σ' H'' => (∃ s2, σ' = some (.ref a) :: s2 ∧ N (some (.ref a) :: s2)) ∧ Same H H'', ct := fun σ' H'' => (∃ s2, σ' = some (.ref a) :: s2 ∧ N (some (.ref a) :: s2)) ∧ Same H H'', bk := D.nx } ((some (.ref a) :: s').set 1 (some (.int (k : Int)))) H')
    (hd : ∀ s' H', N (some (.ref a) :: s') → Same H H' → D.nx (some (.ref a) :: s') H') :
    tFor (iRng1 (tCons (tCB (fun xs H Q => ∃ i j, xs = [.int i, .int j] ∧ Q (.int (if j > i then j else i)) H) (tCons (tC (.int 1)) (tCons (tCB (fun xs H Q => ∃ i j, xs = [.int i, .int j] ∧ Q (.int (if j < i then j else i)) H) (tCons (tC (.int m)) (tCons (tCB (rLen K) (tCons (tVar 0) tNil)) tNil))) tNil))) tNil)) (gName 1) tu D (some (.ref a) :: s0) H := by
  have hv := vmax (σ := some (.ref a) :: s0) (val_c (v := .int 1) (H := H)) (vmin (val_c (v := .int m)) (vlenL (val_var (i := 0) rfl) hS))
  rw [List.length_map] at hv
  generalize hJ : (if (if ((ns.length : Nat) : Int) < m then ((ns.length : Nat) : Int) else m) > 1 then (if ((ns.length : Nat) : Int) < m then ((ns.length : Nat) : Int) else m) else 1) = J at hv
  have hJ2 : 1 ≤ J ∧ J ≤ 10 := by rw [← hJ]; repeat (split) <;> omega
  refine v_rng hv (by omega) (by omega) (for_range (lo := 0) (n := J.toNat) (fun i σ' H' => (∃ s2, σ' = some (.ref a) :: s2 ∧ N (some (.ref a) :: s2)) ∧ Same H H') ⟨⟨s0, rfl, h0⟩, Same.refl H⟩ ?_ ?_)
  · rintro i σ' H' hi ⟨⟨s2, rfl, n2⟩, sm⟩
    rw [Int.zero_add]
    exact hs i s2 H' (by omega) n2 sm
  · rintro σ' H' ⟨⟨s2, rfl, n2⟩, sm⟩
    exact hd s2 H' n2 sm
/-- right(box(script, k)) -/
theorem v_right {n k : Nat} (h0 : σ[0]? = some (some (.ref a))) (h1 : σ[1]? = some (some (.int (k : Int)))) (hk : k ≤ 10) (hS : SqL K H a (ns.map V.int)) (hl : ns.length ≤ 63) (hn : n ≤ CM) {Q : VK} (q : ∀ H', Same H H' → Q (.bl true) H') :
    tCall (spB n (fun ds => ds = []) (fun _ d => d = .bool true)) [] E (tCons (tCall (spBox K) [] E' (tCons (tVar 0) (tCons (tVar 1) tNil))) tNil) σ H Q := by
  refine ⟨_, h0, _, h1, a, ns, k, rfl, hS, hl, hk, fun b H1 hb sm bx => ⟨b, [], 0, fun _ => none, [], rfl, (fun _ _ e => by cases e), rfl, bx, by omega, .nil, rfl, fun d v G' H' hd ex s' bx' dt => ?_⟩⟩
  subst hd
  cases dt
  exact q H' fun x o e => ex.fr x o (fun z => by subst z; rw [hb] at e; cases e) (sm x o e)
/-- box = box(script, k) -/
theorem v_box {k : Nat} (h0 : σ[0]? = some (some (.ref a))) (h1 : σ[1]? = some (some (.int (k : Int)))) (hk : k ≤ 10) (hS : SqL K H a (ns.map V.int)) (hl : ns.length ≤ 63) {Q : VK} (q : ∀ b H', H b = none → Same H H' → BoxAt b 0 H' → Q (.ref b) H') :
    tCall (spBox K) [] E' (tCons (tVar 0) (tCons (tVar 1) tNil)) σ H Q := ⟨_, h0, _, h1, a, ns, k, rfl, hS, hl, hk, q⟩
end
end B

namespace K01
open PySem PySem.Spec PyProof.Rows L2 B
def topS (i : Nat) : Stmt := PySem.Challenge.pw_bothhistories_k01_lines_and_paths_of_any.main.body.getD i (.Pass ⟨0, 0, 0, 0⟩)
abbrev s_is_line : Stmt := topS 6
abbrev N_is_line : List Str := ["value", "sign"]
theorem sc_is_line : FnScope N_is_line ["value"] (defScope s_is_line) := ⟨rfl, rfl, rfl, by decide +kernel, rfl, by decide +kernel, by decide +kernel⟩
abbrev s_is_name : Stmt := topS 7
abbrev N_is_name : List Str := ["value", "sign"]
theorem sc_is_name : FnScope N_is_name ["value"] (defScope s_is_name) := ⟨rfl, rfl, rfl, by decide +kernel, rfl, by decide +kernel, by decide +kernel⟩
abbrev s_is_path : Stmt := topS 8
abbrev N_is_path : List Str := ["value", "part"]
theorem sc_is_path : FnScope N_is_path ["value"] (defScope s_is_path) := ⟨rfl, rfl, rfl, by decide +kernel, rfl, by decide +kernel, by decide +kernel⟩
abbrev s_law_box : Stmt := topS 10
abbrev N_law_box : List Str := ["_law_script", "_law_k", "_law_cell", "_law_own"]
theorem sc_law_box : FnScope N_law_box ["_law_script", "_law_k"] (defScope s_law_box) := ⟨rfl, rfl, rfl, by decide +kernel, rfl, by decide +kernel, by decide +kernel⟩
abbrev s_law_take : Stmt := topS 11
abbrev N_law_take : List Str := ["_law_box_here", "_law_many", "_law_digit", "_law_made"]
theorem sc_law_take : FnScope N_law_take ["_law_box_here", "_law_many"] (defScope s_law_take) := ⟨rfl, rfl, rfl, by decide +kernel, rfl, by decide +kernel, by decide +kernel⟩
abbrev s_law_of : Stmt := topS 12
abbrev N_law_of : List Str := ["_law_box_here", "_law_some"]
theorem sc_law_of : FnScope N_law_of ["_law_box_here", "_law_some"] (defScope s_law_of) := ⟨rfl, rfl, rfl, by decide +kernel, rfl, by decide +kernel, by decide +kernel⟩
abbrev s_law_text : Stmt := topS 13
abbrev N_law_text : List Str := ["_law_box_here", "_law_signs", "_law_many", "_law_text_here", "_law_turn"]
theorem sc_law_text : FnScope N_law_text ["_law_box_here"] (defScope s_law_text) := ⟨rfl, rfl, rfl, by decide +kernel, rfl, by decide +kernel, by decide +kernel⟩
abbrev s_law_odd : Stmt := topS 14
abbrev N_law_odd : List Str := ["_law_box_here", "_law_some", "_law_found", "_law_turn"]
theorem sc_law_odd : FnScope N_law_odd ["_law_box_here"] (defScope s_law_odd) := ⟨rfl, rfl, rfl, by decide +kernel, rfl, by decide +kernel, by decide +kernel⟩
abbrev s_law_is_line : Stmt := topS 15
abbrev N_law_is_line : List Str := ["_law_thing", "_law_sign"]
theorem sc_law_is_line : FnScope N_law_is_line ["_law_thing"] (defScope s_law_is_line) := ⟨rfl, rfl, rfl, by decide +kernel, rfl, by decide +kernel, by decide +kernel⟩
abbrev s_law_is_name : Stmt := topS 16
abbrev N_law_is_name : List Str := ["_law_word", "_law_sign"]
theorem sc_law_is_name : FnScope N_law_is_name ["_law_word"] (defScope s_law_is_name) := ⟨rfl, rfl, rfl, by decide +kernel, rfl, by decide +kernel, by decide +kernel⟩
abbrev s_law_is_path : Stmt := topS 17
abbrev N_law_is_path : List Str := ["_law_thing", "_law_word"]
theorem sc_law_is_path : FnScope N_law_is_path ["_law_thing"] (defScope s_law_is_path) := ⟨rfl, rfl, rfl, by decide +kernel, rfl, by decide +kernel, by decide +kernel⟩
abbrev s_law_told : Stmt := topS 18
abbrev N_law_told : List Str := ["_law_told_here", "_law_due"]
theorem sc_law_told : FnScope N_law_told ["_law_told_here", "_law_due"] (defScope s_law_told) := ⟨rfl, rfl, rfl, by decide +kernel, rfl, by decide +kernel, by decide +kernel⟩
abbrev s_law_right : Stmt := topS 19
abbrev N_law_right : List Str := ["_law_box_here", "_law_some", "_law_turn", "_law_thing", "_law_line", "_law_path"]
theorem sc_law_right : FnScope N_law_right ["_law_box_here"] (defScope s_law_right) := ⟨rfl, rfl, rfl, by decide +kernel, rfl, by decide +kernel, by decide +kernel⟩
abbrev s_law : Stmt := topS 20
abbrev N_law : List Str := ["_law_script", "_law_k"]
theorem sc_law : FnScope N_law ["_law_script"] (defScope s_law) := ⟨rfl, rfl, rfl, by decide +kernel, rfl, by decide +kernel, by decide +kernel⟩
/-- what the top has left -/
structure Tx (K : PySem.W.Frag) (mg : Str → Option Value) where
  m_abs : mg "abs" = none
  m_all : mg "all" = none
  m_bool : mg "bool" = none
  m_int : mg "int" = none
  m_isinstance : mg "isinstance" = none
  m_len : mg "len" = none
  m_max : mg "max" = none
  m_min : mg "min" = none
  m_range : mg "range" = none
  m_str : mg "str" = none
  t_LETTERS : Tok
  c_LETTERS : mg "LETTERS" = some (.str "0123456789abcdefghijklmnopqrstuvwxyz" t_LETTERS)
  t_BLANK : Tok
  c_BLANK : mg "BLANK" = some (.str " " t_BLANK)
  t_SLASH : Tok
  c_SLASH : mg "SLASH" = some (.str "/" t_SLASH)
  t_MOST_SIGNS : Tok
  c_MOST_SIGNS : mg "MOST_SIGNS" = some (.int 60 t_MOST_SIGNS)
  t_MOST_LETTERS : Tok
  c_MOST_LETTERS : mg "MOST_LETTERS" = some (.int 8 t_MOST_LETTERS)
  a_is_line : Addr
  d_is_line : FuncData
  F_is_line : Fun K "is_line" "is_line" s_is_line a_is_line d_is_line
  g_is_line : mg "is_line" = some (.ref a_is_line)
  b_is_line : Binds K d_is_line ["value"] []
  a_is_name : Addr
  d_is_name : FuncData
  F_is_name : Fun K "is_name" "is_name" s_is_name a_is_name d_is_name
  g_is_name : mg "is_name" = some (.ref a_is_name)
  b_is_name : Binds K d_is_name ["value"] []
  a_is_path : Addr
  d_is_path : FuncData
  F_is_path : Fun K "is_path" "is_path" s_is_path a_is_path d_is_path
  g_is_path : mg "is_path" = some (.ref a_is_path)
  b_is_path : Binds K d_is_path ["value"] []
  a_law_box : Addr
  d_law_box : FuncData
  F_law_box : Fun K "_law_box" "_law_box" s_law_box a_law_box d_law_box
  g_law_box : mg "_law_box" = some (.ref a_law_box)
  b_law_box : Binds K d_law_box ["_law_script", "_law_k"] []
  a_law_take : Addr
  d_law_take : FuncData
  F_law_take : Fun K "_law_take" "_law_take" s_law_take a_law_take d_law_take
  g_law_take : mg "_law_take" = some (.ref a_law_take)
  b_law_take : Binds K d_law_take ["_law_box_here", "_law_many"] []
  a_law_of : Addr
  d_law_of : FuncData
  F_law_of : Fun K "_law_of" "_law_of" s_law_of a_law_of d_law_of
  g_law_of : mg "_law_of" = some (.ref a_law_of)
  b_law_of : Binds K d_law_of ["_law_box_here", "_law_some"] []
  a_law_text : Addr
  d_law_text : FuncData
  F_law_text : Fun K "_law_text" "_law_text" s_law_text a_law_text d_law_text
  g_law_text : mg "_law_text" = some (.ref a_law_text)
  b_law_text : Binds K d_law_text ["_law_box_here"] []
  a_law_odd : Addr
  d_law_odd : FuncData
  F_law_odd : Fun K "_law_odd" "_law_odd" s_law_odd a_law_odd d_law_odd
  g_law_odd : mg "_law_odd" = some (.ref a_law_odd)
  b_law_odd : Binds K d_law_odd ["_law_box_here"] []
  a_law_is_line : Addr
  d_law_is_line : FuncData
  F_law_is_line : Fun K "_law_is_line" "_law_is_line" s_law_is_line a_law_is_line d_law_is_line
  g_law_is_line : mg "_law_is_line" = some (.ref a_law_is_line)
  b_law_is_line : Binds K d_law_is_line ["_law_thing"] []
  a_law_is_name : Addr
  d_law_is_name : FuncData
  F_law_is_name : Fun K "_law_is_name" "_law_is_name" s_law_is_name a_law_is_name d_law_is_name
  g_law_is_name : mg "_law_is_name" = some (.ref a_law_is_name)
  b_law_is_name : Binds K d_law_is_name ["_law_word"] []
  a_law_is_path : Addr
  d_law_is_path : FuncData
  F_law_is_path : Fun K "_law_is_path" "_law_is_path" s_law_is_path a_law_is_path d_law_is_path
  g_law_is_path : mg "_law_is_path" = some (.ref a_law_is_path)
  b_law_is_path : Binds K d_law_is_path ["_law_thing"] []
  a_law_told : Addr
  d_law_told : FuncData
  F_law_told : Fun K "_law_told" "_law_told" s_law_told a_law_told d_law_told
  g_law_told : mg "_law_told" = some (.ref a_law_told)
  b_law_told : Binds K d_law_told ["_law_told_here", "_law_due"] []
  a_law_right : Addr
  d_law_right : FuncData
  F_law_right : Fun K "_law_right" "_law_right" s_law_right a_law_right d_law_right
  g_law_right : mg "_law_right" = some (.ref a_law_right)
  b_law_right : Binds K d_law_right ["_law_box_here"] []
  a_law : Addr
  d_law : FuncData
  F_law : Fun K "law" "law" s_law a_law d_law
  g_law : mg "law" = some (.ref a_law)
  b_law : Binds K d_law ["_law_script"] []
def vk_is_line_0_value : List Value → List Value → List Value := fun us ws => match us, ws with | [], [w0] => [w0] | _, _ => []
def wk_is_line_0_value : List V → List V → List V := fun us ws => match us, ws with | [], [w0] => [w0] | _, _ => []
theorem k_is_line_0_value {K : PySem.W.Frag} {f : Addr} {fd : FuncData} (F : Fun K "is_line" "is_line" s_is_line f fd) : KBinds K fd ["value"] ["value"] vk_is_line_0_value wk_is_line_0_value := by
  obtain ⟨oc, od, kV, doc, pm, an, cdv, ct, osl, rfl, lk, hcd⟩ := F.ex
  refine ⟨fun s us ws _ hl => ?_, fun {vs us zs ws} r1 r2 => ?_⟩
  · match us, ws, hl with
    | [], [w0], _ => exact .of_eq rfl
  · unfold vk_is_line_0_value wk_is_line_0_value
    rcases r1 with _ | ⟨a0, r1⟩ <;> (try rcases r1 with _ | ⟨a1, r1⟩) <;> (try rcases r1 with _ | ⟨a2, r1⟩) <;> rcases r2 with _ | ⟨b0, r2⟩ <;> (try rcases r2 with _ | ⟨b1, r2⟩) <;> (try rcases r2 with _ | ⟨b2, r2⟩) <;> (try rcases r2 with _ | ⟨b3, r2⟩) <;>
      first | exact .nil | exact .cons (by assumption) .nil | exact .cons (by assumption) (.cons (by assumption) .nil) | exact .cons (by assumption) (.cons (by assumption) (.cons (by assumption) .nil))
def vk_is_path_0_value : List Value → List Value → List Value := fun us ws => match us, ws with | [], [w0] => [w0] | _, _ => []
def wk_is_path_0_value : List V → List V → List V := fun us ws => match us, ws with | [], [w0] => [w0] | _, _ => []
theorem k_is_path_0_value {K : PySem.W.Frag} {f : Addr} {fd : FuncData} (F : Fun K "is_path" "is_path" s_is_path f fd) : KBinds K fd ["value"] ["value"] vk_is_path_0_value wk_is_path_0_value := by
  obtain ⟨oc, od, kV, doc, pm, an, cdv, ct, osl, rfl, lk, hcd⟩ := F.ex
  refine ⟨fun s us ws _ hl => ?_, fun {vs us zs ws} r1 r2 => ?_⟩
  · match us, ws, hl with
    | [], [w0], _ => exact .of_eq rfl
  · unfold vk_is_path_0_value wk_is_path_0_value
    rcases r1 with _ | ⟨a0, r1⟩ <;> (try rcases r1 with _ | ⟨a1, r1⟩) <;> (try rcases r1 with _ | ⟨a2, r1⟩) <;> rcases r2 with _ | ⟨b0, r2⟩ <;> (try rcases r2 with _ | ⟨b1, r2⟩) <;> (try rcases r2 with _ | ⟨b2, r2⟩) <;> (try rcases r2 with _ | ⟨b3, r2⟩) <;>
      first | exact .nil | exact .cons (by assumption) .nil | exact .cons (by assumption) (.cons (by assumption) .nil) | exact .cons (by assumption) (.cons (by assumption) (.cons (by assumption) .nil))
/-! ### how expressions are read off -/
local macro_rules | `(tactic| walk_at "ev") => `(tactic| first
  | exact ea_nil
  | (apply ea_cons0 <;> walk_at "ev")
  | exact ev_int | exact ev_str | exact ev_bl | exact ev_non | exact ev_var rfl | exact ev_dnew
  | (apply ev_lstE <;> walk_at "ev")
  | (apply ev_tupE <;> walk_at "ev")
  | (apply ev_disp1E <;> walk_at "ev")
  | (apply ev_neg <;> walk_at "ev")
  | (apply ev_add0 <;> walk_at "ev")
  | (apply ev_sub0 <;> walk_at "ev")
  | (apply ev_cmp0 <;> walk_at "ev")
  | (apply ev_pow0 <;> walk_at "ev")
  | (apply ev_isi0 isi_str <;> walk_at "ev")
  | (apply ev_isi0 isi_tuple <;> walk_at "ev")
  | (apply ev_isi0 isi_bool <;> walk_at "ev")
  | (apply ev_isi0 isi_int <;> walk_at "ev")
  | (apply et_B <;> walk_at "ev")
  | (apply et_test <;> walk_at "ev")
  | (apply et_not <;> walk_at "ev")
  | exact Nat.le_of_ble_eq_true rfl
  | exact ⟨by decide, by decide, by decide⟩)
section
variable {P : Program} {w : World} {K : PySem.W.Frag} {mg : Str → Option Value} {base : Heap}
/-! ### the box -/
theorem ok_law_box (T : Tx K mg) : FnG P w K mg base CX0 1 T.a_law_box T.d_law_box ["_law_script", "_law_k"] (spBox K) := by
  refine Fun.okN T.F_law_box sc_law_box (fun vs H Q E ⟨a, ns, j, e, _⟩ => by rw [e]; rfl) fun cdv A fs s H vs Q E hG hr ⟨a, ns, j, e, hS, hl, hj, q⟩ => ?_
  subst e
  refine ⟨_, (pss_cons (ps_set (i := 2) sc_law_box.nd rfl (.inl rfl) (pe_ifExp (pt_cmpR op_lt (pv 1) (pe_callB call_len (by rfl) T.m_len bt_len (pa_cons (pv 0) pa_nil)) (nomark _)) (pe_ix ix_list (pv 0) (pv 1) (fun _ _ => rfl)) (pe_op op_add (pe_op op_mul pe_int (pv 1)) pe_int)))
        (pss_cons (ps_set (i := 3) sc_law_box.nd rfl (.inl rfl) (pe_op op_mul (pe_op op_mod (pe_callTy call_int1 (by rfl) T.m_int bt_int (pa_cons (pe_callB call_abs (by rfl) T.m_abs bt_abs (pa_cons (pv 2) pa_nil)) pa_nil)) (pe_op op_powW (pe_op op_pow pe_int pe_int) pe_int)) (pe_callTy call_int1 (by rfl) T.m_int bt_int (pa_cons (pe_cmpR op_ge (pe_callB call_abs (by rfl) T.m_abs bt_abs (pa_cons (pv 2) pa_nil)) (pe_op op_pow pe_int pe_int) (nomark _)) pa_nil))))
        (pss_one (ps_ret (pe_lst (pa_cons (pv 3) (pa_cons (pe_op op_mod (pe_callTy call_int1 (by rfl) T.m_int bt_int (pa_cons (pe_op op_add (pe_op op_add (pe_op op_mul (pe_op op_mod (pe_callTy call_int1 (by rfl) T.m_int bt_int (pa_cons (pv 2) pa_nil)) pe_int) pe_int) (pe_op op_mul (pe_op op_mul pe_int (pv 1)) (pv 1))) pe_int) pa_nil)) pe_int) (pa_cons pe_int pa_nil)))))))), ?_⟩
  have hj0 : (0 : Int) ≤ (j : Int) := by omega
  have hj1 : (j : Int) ≤ 10 := by omega
  generalize (j : Int) = jj at hj0 hj1 ⊢
  -- the cell
  refine st_seq (st_setH (PV := fun v H' => H' = H ∧ ∃ cell : Int, v = .int cell) (fun Q k => ?_) fun v H' ⟨e, cell, e2⟩ => ?_)
  · by_cases hlt : jj < (ns.length : Int)
    · refine aB (b := true) (val_var rfl) (vlenL (val_var rfl) hS) (by rw [List.length_map]; exact decide_eq_true hlt) _ ?_
      refine iteT ?_
      obtain ⟨v, hv, hat⟩ := atI_mem (xs := ns.map V.int) hj0 (by rw [List.length_map]; exact hlt)
      obtain ⟨n, _, rfl⟩ := List.mem_map.mp hv
      exact vix (val_var rfl) (val_var rfl) hS hat _ (k _ _ ⟨rfl, n, rfl⟩)
    · refine aB (b := false) (val_var rfl) (vlenL (val_var rfl) hS) (by rw [List.length_map]; exact decide_eq_false hlt) _ ?_
      refine iteF ?_
      exact vI0 (vI val_c (val_var rfl) (.inl ⟨by decide, by decide⟩)) val_c _ (k _ _ ⟨rfl, _, rfl⟩)
  subst e e2
  have habs : (0 : Int) ≤ (if cell < 0 then -cell else cell) := by split <;> omega
  generalize hac : (if cell < 0 then -cell else cell) = ac at habs
  have b1 := emod_lt' (a := ac) (m := ((10 : Int) ^ 60) ^ 5) (by decide)
  have b2 := emod_lt' (a := cell) (m := 2305843009213693951) (by decide)
  dsimp only
  refine st_seq (st_setH (PV := fun v H2 => H2 = H' ∧ ∃ own : Int, v = .int own ∧ 0 ≤ own ∧ own < 10 ^ 300) (fun Q k => ?_) fun v H2 ⟨e, own, e2, o0, o1⟩ => ?_)
  · have e1 := vabs (val_var (σ := [some (V.ref a), some (V.int jj), some (V.int cell), none]) (H := H') (i := 2) rfl)
    rw [hac] at e1
    have e2 : Val _ _ H' _ := vI (C := CMul) (g := fun i j => .int (i * j)) (vI (C := fun _ j => 0 < j) (g := fun i j => .int (i % j)) (vint e1) (vI (C := CPowW) (g := fun i j => .int (i ^ j.toNat)) (vI (C := CPow) (g := fun i j => .int (i ^ j.toNat)) (val_c (v := .int 10)) (val_c (v := .int 60)) (show CPow 10 60 from ⟨by decide, by decide, by decide⟩)) (val_c (v := .int 5)) (show CPowW (10 ^ 60) 5 from ⟨by decide, by decide +kernel⟩)) (show (0 : Int) < (10 ^ 60) ^ 5 by decide +kernel))
      (vintB (vI0 (g := fun i j => .bl (decide (j ≤ i))) e1 (vI (C := CPow) (g := fun i j => .int (i ^ j.toNat)) (val_c (v := .int 10)) (val_c (v := .int 18)) (show CPow 10 18 from ⟨by decide, by decide, by decide⟩)) )) (.inr (by split <;> decide))
    refine e2 Q (k _ _ ⟨rfl, _, rfl, ?_⟩)
    have e3 : ((10 : Int) ^ (60 : Int).toNat) ^ (5 : Int).toNat = (10 ^ 60) ^ 5 := by decide +kernel
    rw [e3]
    have e4 : ((10 : Int) ^ 60) ^ 5 = 10 ^ 300 := by decide +kernel
    rw [e4] at b1 ⊢
    split
    · rw [Int.mul_one]; exact b1
    · rw [Int.mul_zero]; exact ⟨by decide, by decide +kernel⟩
  subst e e2
  dsimp only
  refine v_ret3 (val_var rfl) (vI (C := fun _ j => 0 < j) (vint (vI0 (vI0 (vI (C := CMul) (vI (C := fun _ j => 0 < j) (vint (val_var rfl)) val_c (show (0 : Int) < 2305843009213693951 by decide)) val_c (.inr ⟨by decide, by decide⟩)) (vI (C := CMul) (vI (C := CMul) val_c (val_var rfl) (.inl ⟨by decide, by decide⟩)) (val_var rfl) (.inr ⟨by omega, by omega⟩))) val_c)) val_c (show (0 : Int) < 2305843009213693921 by decide)) val_c fun p hp => q p _ hp (Same.new hp) ⟨_, _, 0, upd_same, o0, o1, ?_⟩
  have b3 := emod_lt' (a := cell % 2305843009213693951 * 70321 + 6491 * jj * jj + 83) (m := 2305843009213693921) (by decide)
  exact ⟨b3.1, by omega, by decide, by decide⟩
theorem ok_law_take (T : Tx K mg) : FnG P w K mg base CX0 1 T.a_law_take T.d_law_take ["_law_box_here", "_law_many"] (spB 1 takePre takePost) := by
  refine Fun.okN T.F_law_take sc_law_take (fun vs H Q E ⟨b, ws, c, G, ds, e, _, _, _, _, hd, ⟨m, e2, _⟩, _⟩ => by subst e2; rw [e, List.length_cons, hd.length]; rfl) fun cdv A fs s H vs Q E hG hr ⟨b, ws, c, G, ds, e, sG, gb, bx, hc, hd, ⟨m, e2, h1, h2⟩, q⟩ => ?_
  subst e e2
  obtain ⟨f, sd, n, hb, f0, f1, s0, s1, n0, n1⟩ := bx
  cases hd with
  | cons hm hr0 =>
  cases hm
  cases hr0
  have hcm : c + 1 ≤ 1000000 := hc
  refine ⟨_, (pss_cons (ps_if (pt_cmpR op_gt (pe_ix ix_list (pv 0) pe_int (fun _ _ => rfl)) pe_int (nomark _)) (pss_cons (ps_set (i := 2) sc_law_take.nd rfl (.inl rfl) (pe_op op_mod (pe_callTy call_int1 (by rfl) T.m_int bt_int (pa_cons (pe_ix ix_list (pv 0) pe_int (fun _ _ => rfl)) pa_nil)) (pv 1)))
        (pss_cons (ps_asg (pe_op op_fdiv (pe_ix ix_list (pv 0) pe_int (fun _ _ => rfl)) (pv 1)) (pg_sub (pv 0) pe_int set_list))
        (pss_one (ps_ret (pv 2))))) pss_nil)
        (pss_cons (ps_asg (pe_op op_add (pe_ix ix_list (pv 0) pe_int (fun _ _ => rfl)) pe_int) (pg_sub (pv 0) pe_int set_list))
        (pss_cons (ps_set (i := 3) sc_law_take.nd rfl (.inl rfl) (pe_op op_mod (pe_callTy call_int1 (by rfl) T.m_int bt_int (pa_cons (pe_op op_mul (pe_op op_add (pe_op op_add (pe_ix ix_list (pv 0) pe_int (fun _ _ => rfl)) (pe_op op_mul (pe_op op_mul pe_int (pe_ix ix_list (pv 0) pe_int (fun _ _ => rfl))) (pe_ix ix_list (pv 0) pe_int (fun _ _ => rfl)))) pe_int) pe_int) pa_nil)) pe_int))
        (pss_cons (ps_set (i := 3) sc_law_take.nd rfl (.inl rfl) (pe_op op_mod (pe_callTy call_int1 (by rfl) T.m_int bt_int (pa_cons (pe_op op_mul (pv 3) (pe_op op_add (pe_op op_mod (pe_callTy call_int1 (by rfl) T.m_int bt_int (pa_cons (pv 3) pa_nil)) pe_int) (pe_op op_mul pe_int (pe_ix ix_list (pv 0) pe_int (fun _ _ => rfl))))) pa_nil)) pe_int))
        (pss_one (ps_ret (pe_op op_mod (pe_callTy call_int1 (by rfl) T.m_int bt_int (pa_cons (pe_op op_add (pe_op op_fdiv (pv 3) pe_int) (pe_op op_fdiv (pv 3) pe_int)) pa_nil)) (pv 1)))))))), ?_⟩
  have fin : ∀ (f' n' i : Int), 0 ≤ f' → f' < 10 ^ 300 → 0 ≤ n' → n' ≤ c + 1 → 0 ≤ i → i < m → Q (.int i) (upd H b (.lst [.int f', .int sd, .int n'])) := fun f' n' i a1 a2 a3 a4 a5 a6 => by
    refine q (.int i) _ G _ ⟨m, i, rfl, rfl, a5, a6⟩ ⟨Nw.refl _ _, fun a o na ha => by rw [upd_ne na]; exact ha, fun a ha => ?_⟩ (fun a o ha => ?_) ⟨f', sd, n', upd_same, a1, a2, s0, s1, a3, by omega⟩ (.int i)
    · by_cases z : a = b
      · subst z; rw [upd_same] at ha; cases ha
      · rw [upd_ne z] at ha; exact ha
    · rw [upd_ne (fun z => by subst z; rw [gb] at ha; cases ha)]; exact sG a o ha
  by_cases hf : 0 < f
  · refine st_seq (st_yes (aB (vix (val_var rfl) val_c (SqL.of hb) (atI_nat (j := 0) rfl)) val_c (decide_eq_true hf)) ?_)
    refine st_seq (st_set (vI (vint (vix (val_var rfl) val_c (SqL.of hb) (atI_nat (j := 0) rfl))) (val_var rfl) (show (0 : Int) < m by omega)) ?_)
    refine st_seq ?_
    refine vI (vix (val_var rfl) val_c (SqL.of hb) (atI_nat (j := 0) rfl)) (val_var rfl) ⟨by omega, by omega⟩ _ ?_
    refine ⟨_, rfl, b, _, _, 0, rfl, rfl, hb, rfl, ?_⟩
    refine val_var rfl _ ?_
    have d0 : 0 ≤ f / m := Int.ediv_nonneg f0 (by omega)
    have d1 : f / m ≤ f := Int.ediv_le_self _ f0
    have d2 := emod_lt' (a := f) (m := m) (by omega)
    exact fin _ _ _ d0 (by omega) n0 (by omega) d2.1 d2.2
  · refine st_seq (st_no (aB (vix (val_var rfl) val_c (SqL.of hb) (atI_nat (j := 0) rfl)) val_c (decide_eq_false hf)) ?_)
    refine st_next (st_seq ?_)
    refine vI0 (vix (val_var rfl) val_c (SqL.of hb) (atI_nat (j := 2) rfl)) val_c _ ?_
    refine ⟨_, rfl, b, _, _, 2, rfl, rfl, hb, rfl, ?_⟩
    have hb' : (upd H b (.lst ([V.int f, .int sd, .int n].set 2 (.int (n + 1))))) b = some (.lst [.int f, .int sd, .int (n + 1)]) := upd_same
    have fin1 : ∀ i : Int, 0 ≤ i → i < m → Q (.int i) (upd H b (.lst ([V.int f, .int sd, .int n].set 2 (.int (n + 1))))) := fun i a5 a6 => fin f (n + 1) i f0 f1 (by omega) (by omega) a5 a6
    generalize upd H b (.lst ([V.int f, .int sd, .int n].set 2 (.int (n + 1)))) = H1 at hb' fin1 ⊢
    have i1 : ∀ σ : L2.St, σ[0]? = some (some (V.ref b)) → Val (tOp (rIxL K) (tVar 0) (tC (.int 1))) σ H1 (.int sd) := fun σ h => vix (val_var h) val_c (SqL.of hb') (atI_nat (j := 1) rfl)
    have i2 : ∀ σ : L2.St, σ[0]? = some (some (V.ref b)) → Val (tOp (rIxL K) (tVar 0) (tC (.int 2))) σ H1 (.int (n + 1)) := fun σ h => vix (val_var h) val_c (SqL.of hb') (atI_nat (j := 2) rfl)
    have hn1 : n + 1 ≤ 1000000 := by omega
    dsimp only
    refine st_seq (st_set (vI (C := fun _ j => 0 < j) (vint (vI (C := CMul) (vI0 (vI0 (i1 _ rfl) (vI (C := CMul) (vI (C := CMul) val_c (i2 _ rfl) (.inl ⟨by decide, by decide⟩)) (i2 _ rfl) (.inr ⟨by omega, by omega⟩))) val_c) val_c (.inr ⟨by decide, by decide⟩))) val_c (show (0 : Int) < 2305843009213693921 by decide)) ?_)
    have m1 := emod_lt' (a := (sd + 65537 * (n + 1) * (n + 1) + 41) * 48271) (m := 2305843009213693921) (by decide)
    generalize (sd + 65537 * (n + 1) * (n + 1) + 41) * 48271 % 2305843009213693921 = made at m1 ⊢
    dsimp only
    refine st_seq (st_set (vI (C := fun _ j => 0 < j) (vint (vI (C := CMul) (val_var rfl) (vI0 (vI (C := fun _ j => 0 < j) (vint (val_var rfl)) val_c (show (0 : Int) < 1000003 by decide)) (vI (C := CMul) val_c (i2 _ rfl) (.inl ⟨by decide, by decide⟩))) (.inl ⟨by omega, by omega⟩))) val_c (show (0 : Int) < 2305843009213693907 by decide)) ?_)
    have m2 := emod_lt' (a := made * (made % 1000003 + 99991 * (n + 1))) (m := 2305843009213693907) (by decide)
    generalize made * (made % 1000003 + 99991 * (n + 1)) % 2305843009213693907 = made2 at m2 ⊢
    dsimp only
    refine v_ret (vI (C := fun _ j => 0 < j) (vint (vI0 (vI (C := CDiv) (val_var rfl) val_c ⟨by decide, by decide⟩) (vI (C := CDiv) (val_var rfl) val_c ⟨by decide, by decide⟩))) (val_var rfl) (show (0 : Int) < m by omega)) ?_
    have m3 := emod_lt' (a := made2 / 107 + made2 / 1000033) (m := m) (by omega)
    exact fin1 _ m3.1 m3.2
theorem ok_law_of (T : Tx K mg) : FnG P w K mg base CX0 2 T.a_law_of T.d_law_of ["_law_box_here", "_law_some"] (spB 1 ofPre ofPost) := by
  have G_law_take := ok_law_take (P := P) (w := w) (base := base) T
  refine ok_draw T.F_law_of sc_law_of (fun ds ⟨x, e, _⟩ => by rw [e]; rfl) fun cdv A fs s H E hG hr => ⟨_, (pss_one (ps_ret (pe_ix ix_seq (pv 1) (pc_call G_law_take hG (hr.mono (by decide)) (by rfl) T.g_law_take T.F_law_take.kp T.b_law_take .nil pass0 (pa_cons (pv 0) (pa_cons (pe_callB call_len (by rfl) T.m_len bt_len (pa_cons (pv 1) pa_nil)) pa_nil))) (fun _ _ => rfl)))), fun b c ds hc ⟨x, e, hx⟩ => ?_⟩
  subst e
  rcases hx with ⟨xs, rfl, h1, h2⟩ | ⟨z, rfl, h1, h2⟩
  · refine go_ret (n := 0 + (0 + 1)) (ev_opP (ev_var rfl) (ev_callB rfl (ea_cons (ev_lenL (ev_var rfl)) ea_nil) (fun ys e => ⟨_, e.symm, by omega, by omega⟩)) ?_) (by omega) fun d p => ⟨Nat.le_refl _, p⟩
    rintro x y rfl ⟨ys, rfl, m, i, e1, rfl, hi0, hi1⟩
    cases e1
    obtain ⟨d, hd, hat⟩ := atI_mem (xs := xs) hi0 hi1
    exact ⟨d, rd_ixsL hat, _, rfl, .inl ⟨xs, rfl, hd⟩⟩
  · refine go_ret (n := 0 + (0 + 1)) (ev_opP (ev_var rfl) (ev_callB rfl (ea_cons (ev_lenS (ev_var rfl) (by omega)) ea_nil) (fun ys e => ⟨_, e.symm, by omega, by omega⟩)) ?_) (by omega) fun d p => ⟨Nat.le_refl _, p⟩
    rintro x y rfl ⟨ys, rfl, m, i, e1, rfl, hi0, hi1⟩
    cases e1
    have hl : z.length = z.cps.toList.length := by simp [Str.length]
    obtain ⟨ch, hd, hat⟩ := atI_mem (xs := z.cps.toList) hi0 (by omega)
    exact ⟨_, rd_ixsS (by omega) hat, _, rfl, .inr ⟨z, rfl, List.mem_map.mpr ⟨ch, hd, rfl⟩⟩⟩
/-! ### lines and paths, by plain functions -/
def LET : Str := "0123456789abcdefghijklmnopqrstuvwxyz"
def LETB : Str := " 0123456789abcdefghijklmnopqrstuvwxyz"
def inS (z : Str) (c : Nat) : Bool := decide (c ∈ z.cps.toList)
def szD : PyData → Prop
  | .str z => z.length ≤ 1000
  | _ => True
def lineD : PyData → Bool
  | .str z => decide ((z.length : Int) ≤ 60) && z.cps.toList.all (inS LETB)
  | _ => false
def nameS (z : Str) : Bool := (decide (1 ≤ (z.length : Int)) && decide ((z.length : Int) ≤ 8)) && z.cps.toList.all (inS LET)
def pathD : PyData → Bool
  | .str z => (Txt.split z "/").all nameS
  | _ => false
abbrev pre1 : List PyData → Prop := fun ds => ∃ d, ds = [d] ∧ szD d
abbrev post1 (f : PyData → Bool) : List PyData → PyData → Prop := fun ds e => ∃ d, ds = [d] ∧ e = .bool (f d)
theorem isD_ss {z : Str} : isD "str" (.str z) = true := rfl
theorem isD_str {d : PyData} (h : ∀ z, d ≠ .str z) : isD "str" d = false := by
  cases d <;> first | rfl | exact absurd rfl (h _)
theorem one_eq {c k : Nat} : ((⟨#[c]⟩ : Str) == (⟨#[k]⟩ : Str)) = decide (c = k) := by
  rw [Bool.eq_iff_iff, beq_iff_eq, decide_eq_true_eq]
  constructor
  · intro e
    have e2 := congrArg (fun z : Str => z.cps.toList) e
    simpa using e2
  · intro e; rw [e]
theorem blank_in {c : Nat} : PyData.bool (((⟨#[c]⟩ : Str) == (Str.ofString " ")) || decide (c ∈ (Str.ofString "0123456789abcdefghijklmnopqrstuvwxyz").cps.toList)) = .bool (inS LETB c) := by
  have e1 : (Str.ofString " ") = ⟨#[32]⟩ := by decide +kernel
  have e2 : LETB.cps.toList = 32 :: (Str.ofString "0123456789abcdefghijklmnopqrstuvwxyz").cps.toList := by decide +kernel
  unfold inS
  rw [e1, one_eq, e2]
  congr 1
  rw [Bool.eq_iff_iff]
  simp
theorem all_chars {μ : Mu} {Γ : List Sl} {te ti : TE} {z : Str} {i : Nat} {vs : List Nat} (f : Nat → Bool) (hz : z.length ≤ 1000) (hv : i ∈ vs) (h : Ev μ ti Γ 0 (Eq (.str z)))
    (he : ∀ c, Ev μ te ((wipeG Γ vs).set i (.dat (.str ⟨#[c]⟩))) 0 (Eq (.bool (f c)))) : Ev μ (tCB (rAll K) (tCons (tLc (iStr ti) (gName i) tYes te vs) tNil)) Γ 0 (Eq (.bool (z.cps.toList.all f))) := by
  have hl : (chD z).length ≤ 50000 := by unfold chD; rw [List.length_map, Array.length_toList]; exact Nat.le_trans hz (by decide)
  have key := ev_lcM (is := [i]) (vs := vs) (g := gName i) (te := te) (ew_str h).i hl (by simp [hv]) (fun d => match d with | .str x => .bool (f (x.cps.toList.headD 0)) | _ => .none) (fun d hd => by
    obtain ⟨c, hc, rfl⟩ := mem_chD hd
    exact ⟨_, eg_name, he c⟩)
  have e : (chD z).map (fun d => match d with | .str x => PyData.bool (f (x.cps.toList.headD 0)) | _ => .none) = (z.cps.toList.map f).map PyData.bool := by
    unfold chD
    rw [List.map_map, List.map_map]
    rfl
  rw [e] at key
  have k2 := ev_all (K := K) key
  rw [List.all_map] at k2
  exact k2
theorem ok_is_line (T : Tx K mg) : FnG P w K mg base CX0 1 T.a_is_line T.d_is_line ["value"] (spP pre1 (post1 lineD)) := by
  refine ok_pure T.F_is_line sc_is_line (fun ds ⟨x, e, _⟩ => by rw [e]; rfl) fun cdv A fs s H E hG hr => ⟨_, (pss_cons (ps_if (PW.pt (pw_or (pt_not (pt_val (pe_callB call_isi (by rfl) T.m_isinstance bt_isinstance (pa_cons (pv 0) (pa_cons (pe_bltn (v := .ty "str") (by rfl) T.m_str bt_str rfl) pa_nil))))) (pw_or1 (pt_cmpR op_gt (pe_callB call_len (by rfl) T.m_len bt_len (pa_cons (pv 0) pa_nil)) (pe_glob (v := .int 60) (by rfl) T.c_MOST_SIGNS ⟨_, rfl⟩) (nomark _))))) (pss_one (ps_ret pe_bl)) pss_nil)
        (pss_one (ps_ret (pe_callB (cr_all rfl) (by rfl) T.m_all bt_all (pa_cons (pe_lc (own := [("sign", 1)]) (g := (gName 1)) (by rfl) sc_is_line.nd (pi_str (pv 0)) (blkOk_by (own := [("sign", 1)]) (N := N_is_line) (sc := defScope s_is_line) (by decide +kernel)) (fun _ _ _ _ _ => (pg_name (i := 1) sc_is_line.nd rfl (.inl rfl))) (fun _ _ _ _ _ => pts_nil) (fun _ _ _ _ _ => (pe_or (pe_cmpR op_eq (pv 1) (pe_glob (v := .str " ") (by rfl) T.c_BLANK ⟨_, rfl⟩) (nomark _)) (pe_one (pe_cmpR op_in_sign (pv 1) (pe_glob (v := .str "0123456789abcdefghijklmnopqrstuvwxyz") (by rfl) T.c_LETTERS ⟨_, rfl⟩) (by rfl)))))) pa_nil))))), fun ds ⟨d, e, hd⟩ => ?_⟩
  subst e
  show Go _ _ [.dat d, .un] _ _
  by_cases hs : ∃ z, d = .str z
  · obtain ⟨z, rfl⟩ := hs
    have hz : z.length ≤ 1000 := hd
    refine gs_when (et_or0 (et_not (et_B (ev_isi0 isi_str (ev_var rfl)))) (fun _ => et_test (ev_cmp0 (ev_lenS (ev_var rfl) (by omega)) ev_int))) (by decide) (fun h => ?_) fun h => ?_
    · refine gs_ret (go_retE ev_bl (by decide) ⟨_, rfl, ?_⟩)
      have h' : decide ((60 : Int) < (z.length : Int)) = true := by rw [isD_ss] at h; simpa using h
      have h2 : ¬ ((z.length : Int) ≤ 60) := by have := of_decide_eq_true h'; omega
      simp only [lineD, decide_eq_false h2, Bool.false_and]
    · refine go_retE (all_chars (inS LETB) hz (by simp) (ev_var rfl) fun c => ?_) (by decide) ⟨_, rfl, ?_⟩
      · refine (ev_orV0 (ev_op0 (ev_var rfl) ev_str rd_eqS) (fun _ => ev_inSg (ev_var rfl) ev_str)).imp fun d e => e ▸ ?_
        rw [blank_in]
      · have h' : decide ((60 : Int) < (z.length : Int)) = false := by rw [isD_ss] at h; simpa using h
        have h2 : ((z.length : Int) ≤ 60) := by have := of_decide_eq_false h'; omega
        simp only [lineD, decide_eq_true h2, Bool.true_and]
  · have hn : isD "str" d = false := isD_str fun z e => hs ⟨z, e⟩
    refine gs_when (et_or0 (b := false) ((et_not (et_B (ev_isi0 isi_str (ev_var rfl)))).is (by rw [hn])) (fun h => by cases h)) (by decide) (fun h => ?_) (fun h => by cases h)
    refine gs_ret (go_retE ev_bl (by decide) ⟨_, rfl, ?_⟩)
    cases d <;> first | rfl | exact absurd ⟨_, rfl⟩ hs
theorem ok_is_name (T : Tx K mg) : FnG P w K mg base CX0 1 T.a_is_name T.d_is_name ["value"] (spP (fun ds => ∃ z : Str, ds = [.str z] ∧ z.length ≤ 1000) (fun ds e => ∃ z : Str, ds = [.str z] ∧ e = .bool (nameS z))) := by
  refine ok_pure T.F_is_name sc_is_name (fun ds ⟨x, e, _⟩ => by rw [e]; rfl) fun cdv A fs s H E hG hr => ⟨_, (pss_cons (ps_if (PW.pt (pw_or (pt_not (pt_val (pe_callB call_isi (by rfl) T.m_isinstance bt_isinstance (pa_cons (pv 0) (pa_cons (pe_bltn (v := .ty "str") (by rfl) T.m_str bt_str rfl) pa_nil))))) (pw_or1 (pt_not (pt_chain op_le op_le pe_int (pe_callB call_len (by rfl) T.m_len bt_len (pa_cons (pv 0) pa_nil)) (pe_glob (v := .int 8) (by rfl) T.c_MOST_LETTERS ⟨_, rfl⟩)))))) (pss_one (ps_ret pe_bl)) pss_nil)
        (pss_one (ps_ret (pe_callB (cr_all rfl) (by rfl) T.m_all bt_all (pa_cons (pe_lc (own := [("sign", 1)]) (g := (gName 1)) (by rfl) sc_is_name.nd (pi_str (pv 0)) (blkOk_by (own := [("sign", 1)]) (N := N_is_name) (sc := defScope s_is_name) (by decide +kernel)) (fun _ _ _ _ _ => (pg_name (i := 1) sc_is_name.nd rfl (.inl rfl))) (fun _ _ _ _ _ => pts_nil) (fun _ _ _ _ _ => (pe_cmpR op_in_sign (pv 1) (pe_glob (v := .str "0123456789abcdefghijklmnopqrstuvwxyz") (by rfl) T.c_LETTERS ⟨_, rfl⟩) (by rfl)))) pa_nil))))), fun ds ⟨z, e, hz⟩ => ?_⟩
  subst e
  show Go _ _ [.dat (.str z), .un] _ _
  refine gs_when (et_or0 (et_not (et_B (ev_isi0 isi_str (ev_var rfl)))) (fun _ => et_not (et_test (ev_chain0 ev_int (ev_lenS (ev_var rfl) (by omega)) ev_int rd_B0 (fun _ => rd_B0))))) (by decide) (fun h => ?_) fun h => ?_
  · refine gs_ret (go_retE ev_bl (by decide) ⟨_, rfl, ?_⟩)
    rw [isD_ss] at h
    have h' : (decide (1 ≤ (z.length : Int)) && decide ((z.length : Int) ≤ 8)) = false := by
      cases q : (decide (1 ≤ (z.length : Int)) && decide ((z.length : Int) ≤ 8)) with
      | false => rfl
      | true => rw [q] at h; cases h
    simp only [nameS, h', Bool.false_and]
  · refine go_retE (all_chars (inS LET) hz (by simp) (ev_var rfl) fun c => ev_inSg (ev_var rfl) ev_str) (by decide) ⟨_, rfl, ?_⟩
    rw [isD_ss] at h
    have h' : (decide (1 ≤ (z.length : Int)) && decide ((z.length : Int) ≤ 8)) = true := by
      cases q : (decide (1 ≤ (z.length : Int)) && decide ((z.length : Int) ≤ 8)) with
      | true => rfl
      | false => rw [q] at h; cases h
    simp only [nameS, h', Bool.true_and]
/-- all([f(part) for part in text.split('/')]) -/
theorem all_parts {μ : Mu} {Γ : List Sl} {te ti : TE} {z : Str} {i : Nat} {vs : List Nat} (hz : z.length ≤ 1000) (hv : i ∈ vs) (h : Ev μ ti Γ 0 (Eq (.list ((Txt.split z "/").map .str)))) 
    (he : ∀ p : Str, p.length ≤ 1000 → Ev μ te ((wipeG Γ vs).set i (.dat (.str p))) 0 (Eq (.bool (nameS p)))) : Ev μ (tCB (rAll K) (tCons (tLc (iList K ti) (gName i) tYes te vs) tNil)) Γ 0 (Eq (.bool ((Txt.split z "/").all nameS))) := by
  have key := ev_lcM (is := [i]) (vs := vs) (g := gName i) (te := te) (ew_listE (K := K) h).i (by have := split_many (s := z); rw [List.length_map]; omega) (by simp [hv]) (fun d => match d with | .str x => .bool (nameS x) | _ => .none) (fun d hd => by
    obtain ⟨p, hp, rfl⟩ := mem_strs hd
    exact ⟨_, eg_name, he p (Nat.le_trans (split_len hp) hz)⟩)
  have e : ((Txt.split z "/").map PyData.str).map (fun d => match d with | .str x => PyData.bool (nameS x) | _ => .none) = ((Txt.split z "/").map nameS).map PyData.bool := by
    rw [List.map_map, List.map_map]
    rfl
  rw [e] at key
  have k2 := ev_all (K := K) key
  rw [List.all_map] at k2
  exact k2
theorem ok_is_path (T : Tx K mg) : FnG P w K mg base CX0 2 T.a_is_path T.d_is_path ["value"] (spP pre1 (post1 pathD)) := by
  have G_is_name := ok_is_name (P := P) (w := w) (base := base) T
  refine ok_pure T.F_is_path sc_is_path (fun ds ⟨x, e, _⟩ => by rw [e]; rfl) fun cdv A fs s H E hG hr => ⟨_, (pss_one (ps_ret (pe_and (pe_callB call_isi (by rfl) T.m_isinstance bt_isinstance (pa_cons (pv 0) (pa_cons (pe_bltn (v := .ty "str") (by rfl) T.m_str bt_str rfl) pa_nil))) (pe_one (pe_callB (cr_all rfl) (by rfl) T.m_all bt_all (pa_cons (pe_lc (own := [("part", 1)]) (g := (gName 1)) (by rfl) sc_is_path.nd (pi_list (pe_split (pv 0) (pe_glob (v := .str "/") (by rfl) T.c_SLASH ⟨_, rfl⟩))) (blkOk_by (own := [("part", 1)]) (N := N_is_path) (sc := defScope s_is_path) (by decide +kernel)) (fun _ _ _ _ _ => (pg_name (i := 1) sc_is_path.nd rfl (.inl rfl))) (fun _ _ _ _ _ => pts_nil) (fun _ _ _ _ _ => (pc_call G_is_name hG (hr.mono (by decide)) (by rfl) T.g_is_name T.F_is_name.kp T.b_is_name .nil pass0 (pa_cons (pv 1) pa_nil)))) pa_nil)))))), fun ds ⟨d, e, hd⟩ => ?_⟩
  subst e
  show Go _ _ [.dat d, .un] _ _
  by_cases hs : ∃ z, d = .str z
  · obtain ⟨z, rfl⟩ := hs
    have hz : z.length ≤ 1000 := hd
    refine go_retE (ev_andV0 (ev_isi0 isi_str (ev_var rfl)) (fun _ => all_parts hz (by simp) (ev_split (ev_var rfl) ev_str (by decide +kernel) (by omega)) fun p hp => (ev_callP (ea_cons0 (ev_var rfl) ea_nil) ⟨p, rfl, hp⟩).imp fun d ⟨z', e, e2⟩ => by cases e; exact e2.symm)) (by decide) ⟨_, rfl, ?_⟩
    rw [isD_ss]; rfl
  · have hn : isD "str" d = false := isD_str fun z e => hs ⟨z, e⟩
    refine go_retE (ev_andV0 (b := false) ((ev_isi0 isi_str (ev_var rfl)).is (by rw [hn])) (fun h => by cases h)) (by decide) ⟨_, rfl, ?_⟩
    cases d <;> first | rfl | exact absurd ⟨_, rfl⟩ hs
/-! ### the law's own -/
theorem ok_law_is_line (T : Tx K mg) : FnG P w K mg base CX0 1 T.a_law_is_line T.d_law_is_line ["_law_thing"] (spP pre1 (post1 lineD)) := by
  refine ok_pure T.F_law_is_line sc_law_is_line (fun ds ⟨x, e, _⟩ => by rw [e]; rfl) fun cdv A fs s H E hG hr => ⟨_, (pss_cons (ps_if (PW.pt (pw_or (pt_not (pt_val (pe_callB call_isi (by rfl) T.m_isinstance bt_isinstance (pa_cons (pv 0) (pa_cons (pe_bltn (v := .ty "str") (by rfl) T.m_str bt_str rfl) pa_nil))))) (pw_or1 (pt_cmpR op_gt (pe_callB call_len (by rfl) T.m_len bt_len (pa_cons (pv 0) pa_nil)) pe_int (nomark _))))) (pss_one (ps_ret pe_bl)) pss_nil)
        (pss_one (ps_ret (pe_callB (cr_all rfl) (by rfl) T.m_all bt_all (pa_cons (pe_lc (own := [("_law_sign", 1)]) (g := (gName 1)) (by rfl) sc_law_is_line.nd (pi_str (pv 0)) (blkOk_by (own := [("_law_sign", 1)]) (N := N_law_is_line) (sc := defScope s_law_is_line) (by decide +kernel)) (fun _ _ _ _ _ => (pg_name (i := 1) sc_law_is_line.nd rfl (.inl rfl))) (fun _ _ _ _ _ => pts_nil) (fun _ _ _ _ _ => (pe_cmpR op_in_sign (pv 1) pe_str (by rfl)))) pa_nil))))), fun ds ⟨d, e, hd⟩ => ?_⟩
  subst e
  show Go _ _ [.dat d, .un] _ _
  by_cases hs : ∃ z, d = .str z
  · obtain ⟨z, rfl⟩ := hs
    have hz : z.length ≤ 1000 := hd
    refine gs_when (et_or0 (et_not (et_B (ev_isi0 isi_str (ev_var rfl)))) (fun _ => et_test (ev_cmp0 (ev_lenS (ev_var rfl) (by omega)) ev_int))) (by decide) (fun h => ?_) fun h => ?_
    · refine gs_ret (go_retE ev_bl (by decide) ⟨_, rfl, ?_⟩)
      have h' : decide ((60 : Int) < (z.length : Int)) = true := by rw [isD_ss] at h; simpa using h
      have h2 : ¬ ((z.length : Int) ≤ 60) := by have := of_decide_eq_true h'; omega
      simp only [lineD, decide_eq_false h2, Bool.false_and]
    · refine go_retE (all_chars (inS LETB) hz (by simp) (ev_var rfl) fun c => ev_inSg (ev_var rfl) ev_str) (by decide) ⟨_, rfl, ?_⟩
      have h' : decide ((60 : Int) < (z.length : Int)) = false := by rw [isD_ss] at h; simpa using h
      have h2 : ((z.length : Int) ≤ 60) := by have := of_decide_eq_false h'; omega
      simp only [lineD, decide_eq_true h2, Bool.true_and]
  · have hn : isD "str" d = false := isD_str fun z e => hs ⟨z, e⟩
    refine gs_when (et_or0 (b := false) ((et_not (et_B (ev_isi0 isi_str (ev_var rfl)))).is (by rw [hn])) (fun h => by cases h)) (by decide) (fun h => ?_) (fun h => by cases h)
    refine gs_ret (go_retE ev_bl (by decide) ⟨_, rfl, ?_⟩)
    cases d <;> first | rfl | exact absurd ⟨_, rfl⟩ hs
theorem ok_law_is_name (T : Tx K mg) : FnG P w K mg base CX0 1 T.a_law_is_name T.d_law_is_name ["_law_word"] (spP (fun ds => ∃ z : Str, ds = [.str z] ∧ z.length ≤ 1000) (fun ds e => ∃ z : Str, ds = [.str z] ∧ e = .bool (nameS z))) := by
  refine ok_pure T.F_law_is_name sc_law_is_name (fun ds ⟨x, e, _⟩ => by rw [e]; rfl) fun cdv A fs s H E hG hr => ⟨_, (pss_one (ps_ret (pe_and (pe_chain op_lt op_lt pe_int (pe_callB call_len (by rfl) T.m_len bt_len (pa_cons (pv 0) pa_nil)) pe_int) (pe_one (pe_callB (cr_all rfl) (by rfl) T.m_all bt_all (pa_cons (pe_lc (own := [("_law_sign", 1)]) (g := (gName 1)) (by rfl) sc_law_is_name.nd (pi_str (pv 0)) (blkOk_by (own := [("_law_sign", 1)]) (N := N_law_is_name) (sc := defScope s_law_is_name) (by decide +kernel)) (fun _ _ _ _ _ => (pg_name (i := 1) sc_law_is_name.nd rfl (.inl rfl))) (fun _ _ _ _ _ => pts_nil) (fun _ _ _ _ _ => (pe_cmpR op_in_sign (pv 1) pe_str (by rfl)))) pa_nil)))))), fun ds ⟨z, e, hz⟩ => ?_⟩
  subst e
  show Go _ _ [.dat (.str z), .un] _ _
  refine go_retE (ev_andV0 (ev_chain0 ev_int (ev_lenS (ev_var rfl) (by omega)) ev_int rd_B0 (fun _ => rd_B0)) (fun _ => all_chars (inS LET) hz (by simp) (ev_var rfl) fun c => ev_inSg (ev_var rfl) ev_str)) (by decide) ⟨_, rfl, ?_⟩
  have e1 : decide ((0 : Int) < (z.length : Int)) = decide (1 ≤ (z.length : Int)) := by rw [Bool.eq_iff_iff, decide_eq_true_eq, decide_eq_true_eq]; omega
  have e2 : decide ((z.length : Int) < 9) = decide ((z.length : Int) ≤ 8) := by rw [Bool.eq_iff_iff, decide_eq_true_eq, decide_eq_true_eq]; omega
  rw [e1, e2]
  rfl
theorem ok_law_is_path (T : Tx K mg) : FnG P w K mg base CX0 2 T.a_law_is_path T.d_law_is_path ["_law_thing"] (spP pre1 (post1 pathD)) := by
  have G_law_is_name := ok_law_is_name (P := P) (w := w) (base := base) T
  refine ok_pure T.F_law_is_path sc_law_is_path (fun ds ⟨x, e, _⟩ => by rw [e]; rfl) fun cdv A fs s H E hG hr => ⟨_, (pss_one (ps_ret (pe_and (pe_callB call_isi (by rfl) T.m_isinstance bt_isinstance (pa_cons (pv 0) (pa_cons (pe_bltn (v := .ty "str") (by rfl) T.m_str bt_str rfl) pa_nil))) (pe_one (pe_callB (cr_all rfl) (by rfl) T.m_all bt_all (pa_cons (pe_lc (own := [("_law_word", 1)]) (g := (gName 1)) (by rfl) sc_law_is_path.nd (pi_list (pe_split (pv 0) pe_str)) (blkOk_by (own := [("_law_word", 1)]) (N := N_law_is_path) (sc := defScope s_law_is_path) (by decide +kernel)) (fun _ _ _ _ _ => (pg_name (i := 1) sc_law_is_path.nd rfl (.inl rfl))) (fun _ _ _ _ _ => pts_nil) (fun _ _ _ _ _ => (pc_call G_law_is_name hG (hr.mono (by decide)) (by rfl) T.g_law_is_name T.F_law_is_name.kp T.b_law_is_name .nil pass0 (pa_cons (pv 1) pa_nil)))) pa_nil)))))), fun ds ⟨d, e, hd⟩ => ?_⟩
  subst e
  show Go _ _ [.dat d, .un] _ _
  by_cases hs : ∃ z, d = .str z
  · obtain ⟨z, rfl⟩ := hs
    have hz : z.length ≤ 1000 := hd
    refine go_retE (ev_andV0 (ev_isi0 isi_str (ev_var rfl)) (fun _ => all_parts hz (by simp) (ev_split (ev_var rfl) ev_str (by decide +kernel) (by omega)) fun p hp => (ev_callP (ea_cons0 (ev_var rfl) ea_nil) ⟨p, rfl, hp⟩).imp fun d ⟨z', e, e2⟩ => by cases e; exact e2.symm)) (by decide) ⟨_, rfl, ?_⟩
    rw [isD_ss]; rfl
  · have hn : isD "str" d = false := isD_str fun z e => hs ⟨z, e⟩
    refine go_retE (ev_andV0 (b := false) ((ev_isi0 isi_str (ev_var rfl)).is (by rw [hn])) (fun h => by cases h)) (by decide) ⟨_, rfl, ?_⟩
    cases d <;> first | rfl | exact absurd ⟨_, rfl⟩ hs
theorem ok_law_told (T : Tx K mg) : FnG P w K mg base CX0 1 T.a_law_told T.d_law_told ["_law_told_here", "_law_due"] (spP (fun ds => ∃ a b : Bool, ds = [.bool a, .bool b]) (fun ds e => ∃ a b : Bool, ds = [.bool a, .bool b] ∧ e = .bool (a == b))) := by
  refine ok_pure T.F_law_told sc_law_told (fun ds ⟨x, y, e⟩ => by rw [e]; rfl) fun cdv A fs s H E hG hr => ⟨_, (pss_one (ps_ret (pe_and (pe_callB call_isi (by rfl) T.m_isinstance bt_isinstance (pa_cons (pv 0) (pa_cons (pe_bltn (v := .ty "bool") (by rfl) T.m_bool bt_bool rfl) pa_nil))) (pe_one (pe_cmpR (op_eqD hr.units) (pv 0) (pv 1) (nomark _)))))), fun ds ⟨a, b, e⟩ => ?_⟩
  subst e
  show Go _ _ [.dat (.bool a), .dat (.bool b)] _ _
  refine go_retE (ev_andV0 (ev_isi0 isi_bool (ev_var rfl)) (fun _ => ev_eqD0 (ev_var rfl) (ev_var rfl) rfl rfl)) (by decide) ⟨a, b, rfl, ?_⟩
  rfl
/-! ### what is drawn -/
theorem ok_law_text (T : Tx K mg) : FnG P w K mg base CX0 3 T.a_law_text T.d_law_text ["_law_box_here"] (spB 66 (fun ds => ds = []) (fun _ d => ∃ z : Str, d = .str z ∧ z.length ≤ 1000)) := by
  have G_law_of := ok_law_of (P := P) (w := w) (base := base) T
  refine ok_draw T.F_law_text sc_law_text (fun ds e => by rw [e]; rfl) fun cdv A fs s H E hG hr => ⟨_, (pss_cons (ps_set (i := 1) sc_law_text.nd rfl (.inr rfl) (pc_call G_law_of hG (hr.mono (by decide)) (by rfl) T.g_law_of T.F_law_of.kp T.b_law_of .nil pass0 (pa_cons (pv 0) (pa_cons (pe_lst (pa_cons pe_str (pa_cons pe_str (pa_cons pe_str (pa_cons pe_str (pa_cons pe_str (pa_cons pe_str (pa_cons pe_str (pa_cons pe_str pa_nil))))))))) pa_nil))))
        (pss_cons (ps_set (i := 2) sc_law_text.nd rfl (.inl rfl) (pc_call G_law_of hG (hr.mono (by decide)) (by rfl) T.g_law_of T.F_law_of.kp T.b_law_of .nil pass0 (pa_cons (pv 0) (pa_cons (pe_lst (pa_cons pe_int (pa_cons pe_int (pa_cons pe_int (pa_cons pe_int (pa_cons pe_int (pa_cons pe_int (pa_cons pe_int (pa_cons pe_int (pa_cons pe_int (pa_cons pe_int (pa_cons pe_int (pa_cons pe_int pa_nil))))))))))))) pa_nil))))
        (pss_cons (ps_set (i := 3) sc_law_text.nd rfl (.inl rfl) (pe_join pe_str (pe_lc (own := [("_law_turn", 4)]) (g := (gName 4)) (by rfl) sc_law_text.nd (pi_range1 (by rfl) T.m_range (pa_cons (pv 2) pa_nil)) (blkOk_by (own := [("_law_turn", 4)]) (N := N_law_text) (sc := defScope s_law_text) (by decide +kernel)) (fun _ _ _ _ _ => (pg_name (i := 4) sc_law_text.nd rfl (.inl rfl))) (fun _ _ _ _ _ => pts_nil) (fun _ _ _ _ _ => (pc_call G_law_of hG (hr.mono (by decide)) (by rfl) T.g_law_of T.F_law_of.kp T.b_law_of .nil pass0 (pa_cons (pv 0) (pa_cons (pv 1) pa_nil)))))))
        (pss_one (ps_ret (pe_op op_add_str (pv 3) (pc_call G_law_of hG (hr.mono (by decide)) (by rfl) T.g_law_of T.F_law_of.kp T.b_law_of .nil pass0 (pa_cons (pv 0) (pa_cons (pe_lst (pa_cons pe_str (pa_cons pe_str (pa_cons pe_str (pa_cons pe_str (pa_cons pe_str (pa_cons pe_str (pa_cons pe_str (pa_cons pe_str (pa_cons pe_str (pa_cons pe_str pa_nil))))))))))) pa_nil))))))))), fun b c ds hc e => ?_⟩
  subst e
  have hc' : c + 66 ≤ 1000000 := hc
  show Go _ _ [.raw (.ref b), .un, .un, .un, .un] _ _
  refine gs_set (ev_ofL rfl (by walk_at "ev")) (show c + 1 ≤ 1000000 by omega) fun d hd => ?_
  obtain ⟨z, hz, rfl⟩ := mem_strs (xs := ["ab z09", "abz09", "az09/", "a/", "aZ", "a.-_~", "a\n", " "]) hd
  have hz2 : 1 ≤ z.length ∧ z.length ≤ 10 := (show ∀ z ∈ (["ab z09", "abz09", "az09/", "a/", "aZ", "a.-_~", "a\n", " "] : List Str), 1 ≤ z.length ∧ z.length ≤ 10 by decide +kernel) z hz
  refine gs_set (ev_ofL rfl (by walk_at "ev")) (show c + 1 + 1 ≤ 1000000 by omega) fun d hd => ?_
  obtain ⟨m, hm, rfl⟩ := mem_ints (xs := [0, 1, 2, 3, 7, 8, 9, 17, 59, 60, 61, 63]) hd
  have hm2 : 0 ≤ m ∧ m ≤ 63 := (show ∀ m ∈ ([0, 1, 2, 3, 7, 8, 9, 17, 59, 60, 61, 63] : List Int), 0 ≤ m ∧ m ≤ 63 by decide +kernel) m hm
  refine gs_set (P := fun d => ∃ z : Str, d = .str z ∧ z.length ≤ 63) (ev_join ev_str (ev_lcP (m := 63) (k := 1) (is := [4]) (ew_rng1E (by walk_at "ev") (by omega) (by omega)).i (fun ds e => by rw [← e, rngD_len]; omega) (by decide) (by simp)
    fun ds d p hd => ⟨_, eg_name, by exact ev_ofS rfl (ev_var rfl) hz2.1 (by omega)⟩) ?_) (show c + 1 + 1 + (0 + 63 * 1) ≤ 1000000 by omega) fun d hd => ?_
  · rintro d ⟨es, ds, rfl, e, hlen, hall⟩
    have hstr : ∀ es : List PyData, (∀ e ∈ es, e ∈ chD z) → ∃ ys : List Str, es = ys.map .str ∧ ∀ y ∈ ys, y.length ≤ 1 := by
      intro es
      induction es with
      | nil => exact fun _ => ⟨[], rfl, by simp⟩
      | cons x r ih =>
        intro h
        obtain ⟨ys, e1, e2⟩ := ih fun y hy => h y (List.mem_cons_of_mem _ hy)
        obtain ⟨ch, _, rfl⟩ := mem_chD (h x List.mem_cons_self)
        refine ⟨⟨#[ch]⟩ :: ys, by rw [e1]; rfl, fun y hy => ?_⟩
        rcases List.mem_cons.mp hy with z | z
        · rw [z]; exact Nat.le_refl 1
        · exact e2 y z
    obtain ⟨ys, rfl, hy⟩ := hstr es hall
    have hlen2 : ys.length ≤ 63 := by
      rw [List.length_map] at hlen
      rw [hlen, ← e, rngD_len]; omega
    have hsum := sum_le_mul (·.length) 1 ys hy
    have he0 : (("" : Str)).length = 0 := by decide +kernel
    refine ⟨ys, rfl, by rw [he0]; omega, _, rfl, ?_⟩
    rw [TL.join_eq]
    have := join_len_le "" ys
    rw [he0] at this
    omega
  · obtain ⟨t, rfl, ht⟩ := hd
    refine go_ret (n := 0 + 1) (ev_opP (P := fun d => ∃ z : Str, d = .str z ∧ z.length ≤ 1000) (ev_var rfl) (ev_ofL rfl (by walk_at "ev")) ?_) (show c + 1 + 1 + (0 + 63 * 1) + (0 + 1) ≤ 1000000 by omega) fun d hd => ⟨by omega, hd⟩
    rintro x y rfl hy
    obtain ⟨u, hu, rfl⟩ := mem_strs (xs := ["", "", "", "/", "/b", " ", "\n", "A", "/abcdefgh", "/abcdefghi"]) hy
    have hu2 : u.length ≤ 10 := (show ∀ z ∈ (["", "", "", "/", "/b", " ", "\n", "A", "/abcdefgh", "/abcdefghi"] : List Str), z.length ≤ 10 by decide +kernel) u hu
    exact ⟨_, rd_addS (by omega), _, rfl, by rw [len_app]; omega⟩
theorem ok_law_odd (T : Tx K mg) : FnG P w K mg base CX0 3 T.a_law_odd T.d_law_odd ["_law_box_here"] (spB 17 (fun ds => ds = []) (fun _ d => szD d)) := by
  have G_law_of := ok_law_of (P := P) (w := w) (base := base) T
  refine ok_draw T.F_law_odd sc_law_odd (fun ds e => by rw [e]; rfl) fun cdv A fs s H E hG hr => ⟨_, (pss_cons (ps_set (i := 1) sc_law_odd.nd rfl (.inl rfl) (pe_lst (pa_cons pe_non (pa_cons pe_bl (pa_cons pe_bl (pa_cons pe_int (pa_cons (pe_un un_neg pe_int) (pa_cons pe_int (pa_cons (pe_op op_pow pe_int pe_int) (pa_cons pe_str (pa_cons pe_str (pa_cons pe_str (pa_cons pe_str (pa_cons pe_str (pa_cons pe_str (pa_cons (pe_tup pa_nil) (pa_cons (pe_lst pa_nil) (pa_cons pe_dnewK (pa_cons (pe_tup (pa_cons (pe_tup pa_nil) pa_nil)) (pa_cons (pe_lst (pa_cons (pe_tup pa_nil) pa_nil)) pa_nil))))))))))))))))))))
        (pss_cons (ps_set (i := 2) sc_law_odd.nd rfl (.inl rfl) (pc_call G_law_of hG (hr.mono (by decide)) (by rfl) T.g_law_of T.F_law_of.kp T.b_law_of .nil pass0 (pa_cons (pv 0) (pa_cons (pe_op op_cat (pv 1) (pe_lst (pa_cons (pe_disp (pps_cons pe_str (pe_tup pa_nil) pps_nil) (by rfl) (by rfl) (fun z => by cases z) (by decide)) (pa_cons (pe_tup (pa_cons pe_str (pa_cons (pe_tup pa_nil) pa_nil))) (pa_cons (pe_tup (pa_cons (pe_tup (pa_cons pe_str (pa_cons (pe_tup pa_nil) pa_nil))) pa_nil)) (pa_cons (pe_tup (pa_cons (pe_tup (pa_cons pe_str (pa_cons (pe_tup (pa_cons pe_str pa_nil)) pa_nil))) (pa_cons (pe_tup (pa_cons pe_str (pa_cons (pe_lst pa_nil) pa_nil))) pa_nil))) (pa_cons (pe_lst (pa_cons (pe_tup (pa_cons pe_str (pa_cons (pe_tup pa_nil) pa_nil))) pa_nil)) (pa_cons (pe_tup (pa_cons pe_int (pa_cons pe_int pa_nil))) pa_nil)))))))) pa_nil))))
        (pss_cons (ps_for PassesOwn.never rfl (pi_range1 (by rfl) T.m_range (pa_cons (pc_call G_law_of hG (hr.mono (by decide)) (by rfl) T.g_law_of T.F_law_of.kp T.b_law_of .nil pass0 (pa_cons (pv 0) (pa_cons (pe_lst (pa_cons pe_int (pa_cons pe_int (pa_cons pe_int (pa_cons pe_int (pa_cons pe_int (pa_cons pe_int (pa_cons pe_int pa_nil)))))))) pa_nil))) pa_nil)) (pg_name (i := 3) sc_law_odd.nd rfl (.inl rfl)) (pss_one (ps_set (i := 2) sc_law_odd.nd rfl (.inl rfl) (pc_call G_law_of hG (hr.mono (by decide)) (by rfl) T.g_law_of T.F_law_of.kp T.b_law_of .nil pass0 (pa_cons (pv 0) (pa_cons (pe_lst (pa_cons (pe_tup (pa_cons (pv 2) pa_nil)) (pa_cons (pe_lst (pa_cons (pv 2) pa_nil)) (pa_cons (pe_disp (pps_cons pe_str (pv 2) pps_nil) (by rfl) (by rfl) (fun z => by cases z) (by decide)) (pa_cons (pe_tup (pa_cons (pv 2) (pa_cons pe_int pa_nil))) pa_nil))))) pa_nil))))))
        (pss_one (ps_ret (pv 2)))))), fun b c ds hc e => ?_⟩
  subst e
  have hc' : c + 17 ≤ 1000000 := hc
  show Go _ _ [.raw (.ref b), .un, .un, .un] _ _
  refine gs_setE (by walk_at "ev") (show c ≤ 1000000 by omega) ?_
  refine gs_set (P := szD) ((ev_ofL rfl (ev_op0 (ev_var rfl) (by walk_at "ev") (rd_cat (by decide)))).imp fun d hd => ?_) (show c + 1 ≤ 1000000 by omega) fun d hd => ?_
  · simp only [List.cons_append, List.nil_append, List.mem_cons, List.not_mem_nil, or_false] at hd
    repeat (first | (rcases hd with rfl | hd; · first | trivial | (show Str.length _ ≤ 1000; decide +kernel)) | (subst hd; trivial))
  refine go_seq (go_for (n := 1) (ew_rng1 (P := fun ds => ∃ m : Int, ds = [.int m] ∧ 0 ≤ m ∧ m ≤ 15) (ea_consP (P := fun ds => ∃ m : Int, ds = [.int m] ∧ 0 ≤ m ∧ m ≤ 15) (ev_ofL rfl (by walk_at "ev")) ea_nil ?_) fun d ⟨m, e, h1, h2⟩ => ⟨m, e, by omega, by omega⟩) (show c + 1 + 1 ≤ 1000000 by omega) ?_)
  · rintro x y hx rfl
    obtain ⟨m, hm, rfl⟩ := mem_ints (xs := [0, 0, 0, 0, 1, 2, 15]) hx
    exact ⟨m, rfl, (show ∀ m ∈ ([0, 0, 0, 0, 1, 2, 15] : List Int), 0 ≤ m ∧ m ≤ 15 by decide +kernel) m hm⟩
  · rintro ds ⟨m, ⟨m', e, h1, h2⟩, rfl⟩
    cases e
    refine ⟨fun i Γ' c' => ∃ d s1 s3, Γ' = [.raw (.ref b), s1, .dat d, s3] ∧ szD d ∧ c' ≤ c + 2 + i, ⟨d, _, _, rfl, hd, by omega⟩, ?_, ?_⟩
    · rintro i x Γ' c' hx ⟨d, s1, s3, rfl, hsz, hc2⟩
      have hi : i < 15 := by
        have := (List.getElem?_eq_some_iff.mp hx).1
        rw [rngD_len] at this; omega
      refine ⟨_, _, eg_name, go_set (P := szD) ((ev_ofL rfl (by walk_at "ev") (by simp) (by simp)).imp fun d' hd' => ?_) (show c' + 1 ≤ 1000000 by omega) fun d' hd' => ⟨d', _, _, rfl, hd', by omega⟩⟩
      simp only [List.mem_cons, List.not_mem_nil, or_false] at hd'
      rcases hd' with rfl | rfl | rfl | rfl <;> trivial
    · rintro Γ' c' ⟨d, s1, s3, rfl, hsz, hc2⟩
      rw [rngD_len] at hc2
      exact go_retE (ev_var rfl) (show c' ≤ 1000000 by omega) ⟨by omega, hsz⟩
/-! ### the law -/
theorem ev_c1 {μ : Mu} {Γ : List Sl} {ta : TA} {E : XK} {f : PyData → Bool} {x : PyData} (ha : EvA μ ta Γ 0 (Eq [x])) (hx : szD x) : Ev μ (tCall (spP pre1 (post1 f)) [] E ta) Γ 0 (Eq (.bool (f x))) :=
  (ev_callP ha ⟨x, rfl, hx⟩).imp fun d ⟨x', e, e2⟩ => by cases e; exact e2.symm
theorem ev_k1 {μ : Mu} {Γ : List Sl} {tk : TA} {E : XK} {f : PyData → Bool} {x : PyData} {gV : List V → List V → List V} (hg : ∀ v, gV [] [v] = [v]) (ha : EvA μ tk Γ 0 (Eq [x])) (hx : szD x) : Ev μ (tCallK (spP pre1 (post1 f)) gV E tNil tk) Γ 0 (Eq (.bool (f x))) :=
  (ev_callK (zs := [x]) ea_nil ha (fun G vs ws h1 h2 => by
    cases h1
    cases h2 with
    | cons a r => cases r; rw [hg]; exact .one a) ⟨x, rfl, hx⟩).imp fun d ⟨x', e, e2⟩ => by cases e; exact e2.symm
theorem ev_told {μ : Mu} {Γ : List Sl} {ta tb : TE} {E : XK} {a b : Bool} (ha : Ev μ ta Γ 0 (Eq (.bool a))) (hb : Ev μ tb Γ 0 (Eq (.bool b))) : Ev μ (tCall (spP (fun ds => ∃ a b : Bool, ds = [.bool a, .bool b]) (fun ds e => ∃ a b : Bool, ds = [.bool a, .bool b] ∧ e = .bool (a == b))) [] E (tCons ta (tCons tb tNil))) Γ 0 (Eq (.bool (a == b))) :=
  (ev_callP (ea_cons0 ha (ea_cons0 hb ea_nil)) ⟨a, b, rfl⟩).imp fun d ⟨x', y', e, e2⟩ => by cases e; exact e2.symm
theorem ok_law_right (T : Tx K mg) : FnG P w K mg base CX0 4 T.a_law_right T.d_law_right ["_law_box_here"] (spB 3200 (fun ds => ds = []) (fun _ d => d = .bool true)) := by
  have G_law_text := ok_law_text (P := P) (w := w) (base := base) T
  have G_law_odd := ok_law_odd (P := P) (w := w) (base := base) T
  have G_law_is_line := ok_law_is_line (P := P) (w := w) (base := base) T
  have G_law_is_path := ok_law_is_path (P := P) (w := w) (base := base) T
  have G_is_line := ok_is_line (P := P) (w := w) (base := base) T
  have G_is_path := ok_is_path (P := P) (w := w) (base := base) T
  have G_law_told := ok_law_told (P := P) (w := w) (base := base) T
  refine ok_draw T.F_law_right sc_law_right (fun ds e => by rw [e]; rfl) fun cdv A fs s H E hG hr => ⟨_, (pss_cons (ps_set (i := 1) sc_law_right.nd rfl (.inl rfl) (pe_op op_cat (pe_lc (own := [("_law_turn", 2)]) (g := (gName 2)) (by rfl) sc_law_right.nd (pi_range1 (by rfl) T.m_range (pa_cons pe_int pa_nil)) (blkOk_by (own := [("_law_turn", 2)]) (N := N_law_right) (sc := defScope s_law_right) (by decide +kernel)) (fun _ _ _ _ _ => (pg_name (i := 2) sc_law_right.nd rfl (.inl rfl))) (fun _ _ _ _ _ => pts_nil) (fun _ _ _ _ _ => (pc_call G_law_text hG (hr.mono (by decide)) (by rfl) T.g_law_text T.F_law_text.kp T.b_law_text .nil pass0 (pa_cons (pv 0) pa_nil)))) (pe_lc (own := [("_law_turn", 2)]) (g := (gName 2)) (by rfl) sc_law_right.nd (pi_range1 (by rfl) T.m_range (pa_cons pe_int pa_nil)) (blkOk_by (own := [("_law_turn", 2)]) (N := N_law_right) (sc := defScope s_law_right) (by decide +kernel)) (fun _ _ _ _ _ => (pg_name (i := 2) sc_law_right.nd rfl (.inl rfl))) (fun _ _ _ _ _ => pts_nil) (fun _ _ _ _ _ => (pc_call G_law_odd hG (hr.mono (by decide)) (by rfl) T.g_law_odd T.F_law_odd.kp T.b_law_odd .nil pass0 (pa_cons (pv 0) pa_nil))))))
        (pss_cons (ps_for PassesOwn.never rfl (pi_list (pv 1)) (pg_name (i := 3) sc_law_right.nd rfl (.inl rfl)) (pss_cons (ps_par (i := 4) (j := 5) (by rfl) sc_law_right.nd rfl rfl (by decide) rfl rfl (pa_cons (pc_call G_law_is_line hG (hr.mono (by decide)) (by rfl) T.g_law_is_line T.F_law_is_line.kp T.b_law_is_line .nil pass0 (pa_cons (pv 3) pa_nil)) (pa_cons (pc_call G_law_is_path hG (hr.mono (by decide)) (by rfl) T.g_law_is_path T.F_law_is_path.kp T.b_law_is_path .nil pass0 (pa_cons (pv 3) pa_nil)) pa_nil)) (by rfl))
        (pss_cons (ps_if (PW.pt (pw_or (pt_not (pt_val (pc_call G_law_told hG (hr.mono (by decide)) (by rfl) T.g_law_told T.F_law_told.kp T.b_law_told .nil pass0 (pa_cons (pc_call G_is_line hG (hr.mono (by decide)) (by rfl) T.g_is_line T.F_is_line.kp T.b_is_line .nil pass0 (pa_cons (pv 3) pa_nil)) (pa_cons (pv 4) pa_nil))))) (pw_or1 (pt_not (pt_val (pc_call G_law_told hG (hr.mono (by decide)) (by rfl) T.g_law_told T.F_law_told.kp T.b_law_told .nil pass0 (pa_cons (pc_call G_is_path hG (hr.mono (by decide)) (by rfl) T.g_is_path T.F_is_path.kp T.b_is_path .nil pass0 (pa_cons (pv 3) pa_nil)) (pa_cons (pv 5) pa_nil)))))))) (pss_one (ps_ret pe_bl)) pss_nil)
        (pss_one (ps_if (PW.pt (pw_or (pt_not (pt_val (pc_call G_law_told hG (hr.mono (by decide)) (by rfl) T.g_law_told T.F_law_told.kp T.b_law_told .nil pass0 (pa_cons (pc_callK0 G_is_line hG (hr.mono (by decide)) (by rfl) T.g_is_line T.F_is_line.kp (k_is_line_0_value T.F_is_line) pass0 (pk_cons (pv 3) pk_nil)) (pa_cons (pv 4) pa_nil))))) (pw_or1 (pt_not (pt_val (pc_call G_law_told hG (hr.mono (by decide)) (by rfl) T.g_law_told T.F_law_told.kp T.b_law_told .nil pass0 (pa_cons (pc_callK0 G_is_path hG (hr.mono (by decide)) (by rfl) T.g_is_path T.F_is_path.kp (k_is_path_0_value T.F_is_path) pass0 (pk_cons (pv 3) pk_nil)) (pa_cons (pv 5) pa_nil)))))))) (pss_one (ps_ret pe_bl)) pss_nil)))))
        (pss_one (ps_ret pe_bl)))), fun b c ds hc e => ?_⟩
  subst e
  have hc' : c + 3200 ≤ 1000000 := hc
  show Go _ _ [.raw (.ref b), .un, .un, .un, .un, .un] _ _
  refine gs_set (P := fun d => ∃ es, d = .list es ∧ ∀ e ∈ es, szD e) (ev_opP
    (ev_lcP (P := szD) (m := 40) (k := 66) (is := [2]) (ew_rng1E (by walk_at "ev") (by decide) (by decide)).i (fun ds e => by rw [← e, rngD_len]; decide) (by decide) (by simp) fun ds d p hd => ⟨_, eg_name, by refine Ev.imp (ev_callB1 rfl rfl) ?_; rintro d ⟨z, rfl, h⟩; exact h⟩)
    (ev_lcP (P := szD) (m := 30) (k := 17) (is := [2]) (ew_rng1E (by walk_at "ev") (by decide) (by decide)).i (fun ds e => by rw [← e, rngD_len]; decide) (by decide) (by simp) fun ds d p hd => ⟨_, eg_name, by exact ev_callB1 rfl rfl⟩) ?_) (show c + (0 + 40 * 66 + (0 + 30 * 17)) ≤ 1000000 by omega) fun d hd => ?_
  · rintro x y ⟨es, ds, rfl, rfl, h1, h2⟩ ⟨es', ds', rfl, rfl, h3, h4⟩
    rw [rngD_len] at h1 h3
    refine ⟨_, rd_cat (by rw [h1, h3]; decide), _, rfl, fun e he => ?_⟩
    rcases List.mem_append.mp he with z | z
    · exact h2 e z
    · exact h4 e z
  · obtain ⟨es, rfl, hes⟩ := hd
    generalize hC : c + (0 + 40 * 66 + (0 + 30 * 17)) = C
    have hC2 : C ≤ c + 3200 := by omega
    refine go_seq (go_for (n := 0) (ew_listE (ev_var rfl)) (show C ≤ 1000000 by omega) fun ds e => ?_)
    subst e
    refine ⟨fun i Γ' c' => ∃ s2 s3 s4 s5, Γ' = [.raw (.ref b), .dat (.list es), s2, s3, s4, s5] ∧ c' ≤ C, ⟨_, _, _, _, rfl, by omega⟩, ?_, ?_⟩
    · rintro i x Γ' c' hx ⟨s2, s3, s4, s5, rfl, hc2⟩
      have hsz := hes x (List.mem_of_getElem? hx)
      refine ⟨_, _, eg_name, ?_⟩
      show Go _ _ [.raw (.ref b), .dat (.list es), s2, .dat x, s4, s5] _ _
      refine go_seq (go_par (n := 0) (ea_cons0 (ev_c1 (ea_cons0 (ev_var rfl) ea_nil) hsz) (ea_cons0 (ev_c1 (ea_cons0 (ev_var rfl) ea_nil) hsz) ea_nil)) (show c' ≤ 1000000 by omega) (fun xs e => by rw [← e]; rfl) fun a a2 e => ?_)
      cases e
      show Go _ _ [.raw (.ref b), .dat (.list es), s2, .dat x, .dat (.bool (lineD x)), .dat (.bool (pathD x))] _ _
      refine gs_when (et_or0 (et_not (et_B (ev_told (ev_c1 (ea_cons0 (ev_var rfl) ea_nil) hsz) (ev_var rfl)))) (fun _ => et_not (et_B (ev_told (ev_c1 (ea_cons0 (ev_var rfl) ea_nil) hsz) (ev_var rfl))))) (show c' ≤ 1000000 by omega) (fun h => ?_) fun h => ?_
      · rw [beq_self_eq_true, beq_self_eq_true] at h; cases h
      · refine go_if (et_or0 (et_not (et_B (ev_told (ev_k1 (fun _ => rfl) (ea_cons0 (ev_var rfl) ea_nil) hsz) (ev_var rfl)))) (fun _ => et_not (et_B (ev_told (ev_k1 (fun _ => rfl) (ea_cons0 (ev_var rfl) ea_nil) hsz) (ev_var rfl))))) (show c' ≤ 1000000 by omega) (fun h => ?_) fun h => ?_
        · rw [beq_self_eq_true, beq_self_eq_true] at h; cases h
        · exact go_next ⟨_, _, _, _, rfl, hc2⟩
    · rintro Γ' c' ⟨s2, s3, s4, s5, rfl, hc2⟩
      exact go_retE ev_bl (show c' ≤ 1000000 by omega) ⟨by omega, rfl⟩
theorem ok_law (T : Tx K mg) : FnG P w K mg base CX0 5 T.a_law T.d_law ["_law_script"] (spLaw K) := by
  have G_law_box := ok_law_box (P := P) (w := w) (base := base) T
  have G_law_right := ok_law_right (P := P) (w := w) (base := base) T
  refine Fun.okN T.F_law sc_law (fun vs H Q E ⟨a, ns, e, _⟩ => by rw [e]; rfl) fun cdv A fs s H vs Q E hG hr ⟨a, ns, e, hS, hl, q⟩ => ?_
  subst e
  refine ⟨_, (pss_cons (ps_for PassesOwn.never rfl (pi_range1 (by rfl) T.m_range (pa_cons (pe_callB (call_max2 rfl) (by rfl) T.m_max bt_max (pa_cons pe_int (pa_cons (pe_callB (call_min2 rfl) (by rfl) T.m_min bt_min (pa_cons pe_int (pa_cons (pe_callB call_len (by rfl) T.m_len bt_len (pa_cons (pv 0) pa_nil)) pa_nil))) pa_nil))) pa_nil)) (pg_name (i := 1) sc_law.nd rfl (.inl rfl)) (pss_one (ps_if (pt_not (pt_val (pc_call G_law_right hG (hr.mono (by decide)) (by rfl) T.g_law_right T.F_law_right.kp T.b_law_right .nil pass0 (pa_cons (pc_call G_law_box hG (hr.mono (by decide)) (by rfl) T.g_law_box T.F_law_box.kp T.b_law_box .nil pass0 (pa_cons (pv 0) (pa_cons (pv 1) pa_nil))) pa_nil)))) (pss_one (ps_ret pe_bl)) pss_nil)))
        (pss_one (ps_ret pe_bl))), ?_⟩
  refine st_seq (law_for (by decide) (by decide) hS (fun σ' => ∃ x, σ' = [some (.ref a), x]) ⟨_, rfl⟩ (fun k s' H' hk ⟨x, e⟩ sm => ?_) fun s' H' ⟨x, e⟩ sm => q H')
  cases e
  refine v_right (n := 3200) rfl rfl (by omega) (sm.seq hS) hl (by decide) fun H2 sm2 => ⟨true, rfl, iteF ⟨⟨_, rfl, _, rfl⟩, sm.trans sm2⟩⟩
end
theorem tx_mk {K : PySem.W.Frag} {h : Heap} {mg : Str → Option Value} (X : K.In h) (G : h.Ns mainGlobals mg)
    (z_abs : PySem.W.nsIn K mainGlobals "abs" = some none)
    (z_all : PySem.W.nsIn K mainGlobals "all" = some none)
    (z_bool : PySem.W.nsIn K mainGlobals "bool" = some none)
    (z_int : PySem.W.nsIn K mainGlobals "int" = some none)
    (z_isinstance : PySem.W.nsIn K mainGlobals "isinstance" = some none)
    (z_len : PySem.W.nsIn K mainGlobals "len" = some none)
    (z_max : PySem.W.nsIn K mainGlobals "max" = some none)
    (z_min : PySem.W.nsIn K mainGlobals "min" = some none)
    (z_range : PySem.W.nsIn K mainGlobals "range" = some none)
    (z_str : PySem.W.nsIn K mainGlobals "str" = some none)
    {t_LETTERS : Tok} (z_LETTERS : PySem.W.nsIn K mainGlobals "LETTERS" = some (some (.str "0123456789abcdefghijklmnopqrstuvwxyz" t_LETTERS)))
    {t_BLANK : Tok} (z_BLANK : PySem.W.nsIn K mainGlobals "BLANK" = some (some (.str " " t_BLANK)))
    {t_SLASH : Tok} (z_SLASH : PySem.W.nsIn K mainGlobals "SLASH" = some (some (.str "/" t_SLASH)))
    {t_MOST_SIGNS : Tok} (z_MOST_SIGNS : PySem.W.nsIn K mainGlobals "MOST_SIGNS" = some (some (.int 60 t_MOST_SIGNS)))
    {t_MOST_LETTERS : Tok} (z_MOST_LETTERS : PySem.W.nsIn K mainGlobals "MOST_LETTERS" = some (some (.int 8 t_MOST_LETTERS)))
    {f_is_line : Addr} {od_is_line an_is_line : Option Addr} {sl_is_line : Array (Option Value)} {oc_is_line kV_is_line dc_is_line pm_is_line cd_is_line ct_is_line : Value} (a_is_line : PySem.W.nsIn K mainGlobals "is_line" = some (some (.ref f_is_line)))
    (l_is_line : K.lookup f_is_line = some ⟨oc_is_line, od_is_line, .func (PySem.W.fnOf "is_line" "is_line" (defArgs s_is_line) (defBody s_is_line) (defScope s_is_line) .none kV_is_line dc_is_line pm_is_line an_is_line cd_is_line ct_is_line), sl_is_line⟩) (c_is_line : PySem.W.codeIn K cd_is_line "is_line" = true) (k_is_line : PySem.W.keepIn K (.ref f_is_line) = true)
    {f_is_name : Addr} {od_is_name an_is_name : Option Addr} {sl_is_name : Array (Option Value)} {oc_is_name kV_is_name dc_is_name pm_is_name cd_is_name ct_is_name : Value} (a_is_name : PySem.W.nsIn K mainGlobals "is_name" = some (some (.ref f_is_name)))
    (l_is_name : K.lookup f_is_name = some ⟨oc_is_name, od_is_name, .func (PySem.W.fnOf "is_name" "is_name" (defArgs s_is_name) (defBody s_is_name) (defScope s_is_name) .none kV_is_name dc_is_name pm_is_name an_is_name cd_is_name ct_is_name), sl_is_name⟩) (c_is_name : PySem.W.codeIn K cd_is_name "is_name" = true) (k_is_name : PySem.W.keepIn K (.ref f_is_name) = true)
    {f_is_path : Addr} {od_is_path an_is_path : Option Addr} {sl_is_path : Array (Option Value)} {oc_is_path kV_is_path dc_is_path pm_is_path cd_is_path ct_is_path : Value} (a_is_path : PySem.W.nsIn K mainGlobals "is_path" = some (some (.ref f_is_path)))
    (l_is_path : K.lookup f_is_path = some ⟨oc_is_path, od_is_path, .func (PySem.W.fnOf "is_path" "is_path" (defArgs s_is_path) (defBody s_is_path) (defScope s_is_path) .none kV_is_path dc_is_path pm_is_path an_is_path cd_is_path ct_is_path), sl_is_path⟩) (c_is_path : PySem.W.codeIn K cd_is_path "is_path" = true) (k_is_path : PySem.W.keepIn K (.ref f_is_path) = true)
    {f_law_box : Addr} {od_law_box an_law_box : Option Addr} {sl_law_box : Array (Option Value)} {oc_law_box kV_law_box dc_law_box pm_law_box cd_law_box ct_law_box : Value} (a_law_box : PySem.W.nsIn K mainGlobals "_law_box" = some (some (.ref f_law_box)))
    (l_law_box : K.lookup f_law_box = some ⟨oc_law_box, od_law_box, .func (PySem.W.fnOf "_law_box" "_law_box" (defArgs s_law_box) (defBody s_law_box) (defScope s_law_box) .none kV_law_box dc_law_box pm_law_box an_law_box cd_law_box ct_law_box), sl_law_box⟩) (c_law_box : PySem.W.codeIn K cd_law_box "_law_box" = true) (k_law_box : PySem.W.keepIn K (.ref f_law_box) = true)
    {f_law_take : Addr} {od_law_take an_law_take : Option Addr} {sl_law_take : Array (Option Value)} {oc_law_take kV_law_take dc_law_take pm_law_take cd_law_take ct_law_take : Value} (a_law_take : PySem.W.nsIn K mainGlobals "_law_take" = some (some (.ref f_law_take)))
    (l_law_take : K.lookup f_law_take = some ⟨oc_law_take, od_law_take, .func (PySem.W.fnOf "_law_take" "_law_take" (defArgs s_law_take) (defBody s_law_take) (defScope s_law_take) .none kV_law_take dc_law_take pm_law_take an_law_take cd_law_take ct_law_take), sl_law_take⟩) (c_law_take : PySem.W.codeIn K cd_law_take "_law_take" = true) (k_law_take : PySem.W.keepIn K (.ref f_law_take) = true)
    {f_law_of : Addr} {od_law_of an_law_of : Option Addr} {sl_law_of : Array (Option Value)} {oc_law_of kV_law_of dc_law_of pm_law_of cd_law_of ct_law_of : Value} (a_law_of : PySem.W.nsIn K mainGlobals "_law_of" = some (some (.ref f_law_of)))
    (l_law_of : K.lookup f_law_of = some ⟨oc_law_of, od_law_of, .func (PySem.W.fnOf "_law_of" "_law_of" (defArgs s_law_of) (defBody s_law_of) (defScope s_law_of) .none kV_law_of dc_law_of pm_law_of an_law_of cd_law_of ct_law_of), sl_law_of⟩) (c_law_of : PySem.W.codeIn K cd_law_of "_law_of" = true) (k_law_of : PySem.W.keepIn K (.ref f_law_of) = true)
    {f_law_text : Addr} {od_law_text an_law_text : Option Addr} {sl_law_text : Array (Option Value)} {oc_law_text kV_law_text dc_law_text pm_law_text cd_law_text ct_law_text : Value} (a_law_text : PySem.W.nsIn K mainGlobals "_law_text" = some (some (.ref f_law_text)))
    (l_law_text : K.lookup f_law_text = some ⟨oc_law_text, od_law_text, .func (PySem.W.fnOf "_law_text" "_law_text" (defArgs s_law_text) (defBody s_law_text) (defScope s_law_text) .none kV_law_text dc_law_text pm_law_text an_law_text cd_law_text ct_law_text), sl_law_text⟩) (c_law_text : PySem.W.codeIn K cd_law_text "_law_text" = true) (k_law_text : PySem.W.keepIn K (.ref f_law_text) = true)
    {f_law_odd : Addr} {od_law_odd an_law_odd : Option Addr} {sl_law_odd : Array (Option Value)} {oc_law_odd kV_law_odd dc_law_odd pm_law_odd cd_law_odd ct_law_odd : Value} (a_law_odd : PySem.W.nsIn K mainGlobals "_law_odd" = some (some (.ref f_law_odd)))
    (l_law_odd : K.lookup f_law_odd = some ⟨oc_law_odd, od_law_odd, .func (PySem.W.fnOf "_law_odd" "_law_odd" (defArgs s_law_odd) (defBody s_law_odd) (defScope s_law_odd) .none kV_law_odd dc_law_odd pm_law_odd an_law_odd cd_law_odd ct_law_odd), sl_law_odd⟩) (c_law_odd : PySem.W.codeIn K cd_law_odd "_law_odd" = true) (k_law_odd : PySem.W.keepIn K (.ref f_law_odd) = true)
    {f_law_is_line : Addr} {od_law_is_line an_law_is_line : Option Addr} {sl_law_is_line : Array (Option Value)} {oc_law_is_line kV_law_is_line dc_law_is_line pm_law_is_line cd_law_is_line ct_law_is_line : Value} (a_law_is_line : PySem.W.nsIn K mainGlobals "_law_is_line" = some (some (.ref f_law_is_line)))
    (l_law_is_line : K.lookup f_law_is_line = some ⟨oc_law_is_line, od_law_is_line, .func (PySem.W.fnOf "_law_is_line" "_law_is_line" (defArgs s_law_is_line) (defBody s_law_is_line) (defScope s_law_is_line) .none kV_law_is_line dc_law_is_line pm_law_is_line an_law_is_line cd_law_is_line ct_law_is_line), sl_law_is_line⟩) (c_law_is_line : PySem.W.codeIn K cd_law_is_line "_law_is_line" = true) (k_law_is_line : PySem.W.keepIn K (.ref f_law_is_line) = true)
    {f_law_is_name : Addr} {od_law_is_name an_law_is_name : Option Addr} {sl_law_is_name : Array (Option Value)} {oc_law_is_name kV_law_is_name dc_law_is_name pm_law_is_name cd_law_is_name ct_law_is_name : Value} (a_law_is_name : PySem.W.nsIn K mainGlobals "_law_is_name" = some (some (.ref f_law_is_name)))
    (l_law_is_name : K.lookup f_law_is_name = some ⟨oc_law_is_name, od_law_is_name, .func (PySem.W.fnOf "_law_is_name" "_law_is_name" (defArgs s_law_is_name) (defBody s_law_is_name) (defScope s_law_is_name) .none kV_law_is_name dc_law_is_name pm_law_is_name an_law_is_name cd_law_is_name ct_law_is_name), sl_law_is_name⟩) (c_law_is_name : PySem.W.codeIn K cd_law_is_name "_law_is_name" = true) (k_law_is_name : PySem.W.keepIn K (.ref f_law_is_name) = true)
    {f_law_is_path : Addr} {od_law_is_path an_law_is_path : Option Addr} {sl_law_is_path : Array (Option Value)} {oc_law_is_path kV_law_is_path dc_law_is_path pm_law_is_path cd_law_is_path ct_law_is_path : Value} (a_law_is_path : PySem.W.nsIn K mainGlobals "_law_is_path" = some (some (.ref f_law_is_path)))
    (l_law_is_path : K.lookup f_law_is_path = some ⟨oc_law_is_path, od_law_is_path, .func (PySem.W.fnOf "_law_is_path" "_law_is_path" (defArgs s_law_is_path) (defBody s_law_is_path) (defScope s_law_is_path) .none kV_law_is_path dc_law_is_path pm_law_is_path an_law_is_path cd_law_is_path ct_law_is_path), sl_law_is_path⟩) (c_law_is_path : PySem.W.codeIn K cd_law_is_path "_law_is_path" = true) (k_law_is_path : PySem.W.keepIn K (.ref f_law_is_path) = true)
    {f_law_told : Addr} {od_law_told an_law_told : Option Addr} {sl_law_told : Array (Option Value)} {oc_law_told kV_law_told dc_law_told pm_law_told cd_law_told ct_law_told : Value} (a_law_told : PySem.W.nsIn K mainGlobals "_law_told" = some (some (.ref f_law_told)))
    (l_law_told : K.lookup f_law_told = some ⟨oc_law_told, od_law_told, .func (PySem.W.fnOf "_law_told" "_law_told" (defArgs s_law_told) (defBody s_law_told) (defScope s_law_told) .none kV_law_told dc_law_told pm_law_told an_law_told cd_law_told ct_law_told), sl_law_told⟩) (c_law_told : PySem.W.codeIn K cd_law_told "_law_told" = true) (k_law_told : PySem.W.keepIn K (.ref f_law_told) = true)
    {f_law_right : Addr} {od_law_right an_law_right : Option Addr} {sl_law_right : Array (Option Value)} {oc_law_right kV_law_right dc_law_right pm_law_right cd_law_right ct_law_right : Value} (a_law_right : PySem.W.nsIn K mainGlobals "_law_right" = some (some (.ref f_law_right)))
    (l_law_right : K.lookup f_law_right = some ⟨oc_law_right, od_law_right, .func (PySem.W.fnOf "_law_right" "_law_right" (defArgs s_law_right) (defBody s_law_right) (defScope s_law_right) .none kV_law_right dc_law_right pm_law_right an_law_right cd_law_right ct_law_right), sl_law_right⟩) (c_law_right : PySem.W.codeIn K cd_law_right "_law_right" = true) (k_law_right : PySem.W.keepIn K (.ref f_law_right) = true)
    {f_law : Addr} {od_law an_law : Option Addr} {sl_law : Array (Option Value)} {oc_law kV_law dc_law pm_law cd_law ct_law : Value} (a_law : PySem.W.nsIn K mainGlobals "law" = some (some (.ref f_law)))
    (l_law : K.lookup f_law = some ⟨oc_law, od_law, .func (PySem.W.fnOf "law" "law" (defArgs s_law) (defBody s_law) (defScope s_law) .none kV_law dc_law pm_law an_law cd_law ct_law), sl_law⟩) (c_law : PySem.W.codeIn K cd_law "law" = true) (k_law : PySem.W.keepIn K (.ref f_law) = true)
    : ∃ T : Tx K mg, T.a_law = f_law ∧ T.d_law = PySem.W.fnOf "law" "law" (defArgs s_law) (defBody s_law) (defScope s_law) .none kV_law dc_law pm_law an_law cd_law ct_law :=
  ⟨{ m_abs := PySem.W.mg_none_of X G z_abs,
     m_all := PySem.W.mg_none_of X G z_all,
     m_bool := PySem.W.mg_none_of X G z_bool,
     m_int := PySem.W.mg_none_of X G z_int,
     m_isinstance := PySem.W.mg_none_of X G z_isinstance,
     m_len := PySem.W.mg_none_of X G z_len,
     m_max := PySem.W.mg_none_of X G z_max,
     m_min := PySem.W.mg_none_of X G z_min,
     m_range := PySem.W.mg_none_of X G z_range,
     m_str := PySem.W.mg_none_of X G z_str,
     t_LETTERS := t_LETTERS, c_LETTERS := PySem.W.mg_of X G z_LETTERS,
     t_BLANK := t_BLANK, c_BLANK := PySem.W.mg_of X G z_BLANK,
     t_SLASH := t_SLASH, c_SLASH := PySem.W.mg_of X G z_SLASH,
     t_MOST_SIGNS := t_MOST_SIGNS, c_MOST_SIGNS := PySem.W.mg_of X G z_MOST_SIGNS,
     t_MOST_LETTERS := t_MOST_LETTERS, c_MOST_LETTERS := PySem.W.mg_of X G z_MOST_LETTERS,
     a_is_line := f_is_line, d_is_line := _, F_is_line := fun_mk (st := s_is_line) l_is_line c_is_line k_is_line, g_is_line := PySem.W.mg_of X G a_is_line, b_is_line := (fun_mk (st := s_is_line) l_is_line c_is_line k_is_line).binds fun _ _ _ _ _ _ us hl => match us, hl with | [_], _ => rfl,
     a_is_name := f_is_name, d_is_name := _, F_is_name := fun_mk (st := s_is_name) l_is_name c_is_name k_is_name, g_is_name := PySem.W.mg_of X G a_is_name, b_is_name := (fun_mk (st := s_is_name) l_is_name c_is_name k_is_name).binds fun _ _ _ _ _ _ us hl => match us, hl with | [_], _ => rfl,
     a_is_path := f_is_path, d_is_path := _, F_is_path := fun_mk (st := s_is_path) l_is_path c_is_path k_is_path, g_is_path := PySem.W.mg_of X G a_is_path, b_is_path := (fun_mk (st := s_is_path) l_is_path c_is_path k_is_path).binds fun _ _ _ _ _ _ us hl => match us, hl with | [_], _ => rfl,
     a_law_box := f_law_box, d_law_box := _, F_law_box := fun_mk (st := s_law_box) l_law_box c_law_box k_law_box, g_law_box := PySem.W.mg_of X G a_law_box, b_law_box := (fun_mk (st := s_law_box) l_law_box c_law_box k_law_box).binds fun _ _ _ _ _ _ us hl => match us, hl with | [_, _], _ => rfl,
     a_law_take := f_law_take, d_law_take := _, F_law_take := fun_mk (st := s_law_take) l_law_take c_law_take k_law_take, g_law_take := PySem.W.mg_of X G a_law_take, b_law_take := (fun_mk (st := s_law_take) l_law_take c_law_take k_law_take).binds fun _ _ _ _ _ _ us hl => match us, hl with | [_, _], _ => rfl,
     a_law_of := f_law_of, d_law_of := _, F_law_of := fun_mk (st := s_law_of) l_law_of c_law_of k_law_of, g_law_of := PySem.W.mg_of X G a_law_of, b_law_of := (fun_mk (st := s_law_of) l_law_of c_law_of k_law_of).binds fun _ _ _ _ _ _ us hl => match us, hl with | [_, _], _ => rfl,
     a_law_text := f_law_text, d_law_text := _, F_law_text := fun_mk (st := s_law_text) l_law_text c_law_text k_law_text, g_law_text := PySem.W.mg_of X G a_law_text, b_law_text := (fun_mk (st := s_law_text) l_law_text c_law_text k_law_text).binds fun _ _ _ _ _ _ us hl => match us, hl with | [_], _ => rfl,
     a_law_odd := f_law_odd, d_law_odd := _, F_law_odd := fun_mk (st := s_law_odd) l_law_odd c_law_odd k_law_odd, g_law_odd := PySem.W.mg_of X G a_law_odd, b_law_odd := (fun_mk (st := s_law_odd) l_law_odd c_law_odd k_law_odd).binds fun _ _ _ _ _ _ us hl => match us, hl with | [_], _ => rfl,
     a_law_is_line := f_law_is_line, d_law_is_line := _, F_law_is_line := fun_mk (st := s_law_is_line) l_law_is_line c_law_is_line k_law_is_line, g_law_is_line := PySem.W.mg_of X G a_law_is_line, b_law_is_line := (fun_mk (st := s_law_is_line) l_law_is_line c_law_is_line k_law_is_line).binds fun _ _ _ _ _ _ us hl => match us, hl with | [_], _ => rfl,
     a_law_is_name := f_law_is_name, d_law_is_name := _, F_law_is_name := fun_mk (st := s_law_is_name) l_law_is_name c_law_is_name k_law_is_name, g_law_is_name := PySem.W.mg_of X G a_law_is_name, b_law_is_name := (fun_mk (st := s_law_is_name) l_law_is_name c_law_is_name k_law_is_name).binds fun _ _ _ _ _ _ us hl => match us, hl with | [_], _ => rfl,
     a_law_is_path := f_law_is_path, d_law_is_path := _, F_law_is_path := fun_mk (st := s_law_is_path) l_law_is_path c_law_is_path k_law_is_path, g_law_is_path := PySem.W.mg_of X G a_law_is_path, b_law_is_path := (fun_mk (st := s_law_is_path) l_law_is_path c_law_is_path k_law_is_path).binds fun _ _ _ _ _ _ us hl => match us, hl with | [_], _ => rfl,
     a_law_told := f_law_told, d_law_told := _, F_law_told := fun_mk (st := s_law_told) l_law_told c_law_told k_law_told, g_law_told := PySem.W.mg_of X G a_law_told, b_law_told := (fun_mk (st := s_law_told) l_law_told c_law_told k_law_told).binds fun _ _ _ _ _ _ us hl => match us, hl with | [_, _], _ => rfl,
     a_law_right := f_law_right, d_law_right := _, F_law_right := fun_mk (st := s_law_right) l_law_right c_law_right k_law_right, g_law_right := PySem.W.mg_of X G a_law_right, b_law_right := (fun_mk (st := s_law_right) l_law_right c_law_right k_law_right).binds fun _ _ _ _ _ _ us hl => match us, hl with | [_], _ => rfl,
     a_law := f_law, d_law := _, F_law := fun_mk (st := s_law) l_law c_law k_law, g_law := PySem.W.mg_of X G a_law, b_law := (fun_mk (st := s_law) l_law c_law k_law).binds fun _ _ _ _ _ _ us hl => match us, hl with | [_], _ => rfl }, rfl, rfl⟩
theorem all_mk {l : PySem.W.OpenLaw} {w : World} {K : PySem.W.Frag} {mg : Str → Option Value} {fa : Addr} (hfa : mg "law" = some (.ref fa)) (hT : ∃ (T : Tx K mg) (kV dc pm : Value) (an : Option Addr) (cd ct : Value), T.d_law = PySem.W.fnOf "law" "law" (defArgs s_law) (defBody s_law) (defScope s_law) .none kV dc pm an cd ct) :
    ∃ fd : FuncData, (∀ (s : Shared) (v : Value), BindsTo s fd ⟨[v], []⟩ [("_law_script", v)]) ∧ ∀ base : Heap, K.In base → base.Ns mainGlobals mg → FnG l.prog w K mg base CX0 5 fa fd ["_law_script"] (spLaw K) := by
  obtain ⟨T, kV, dc, pm, an, cd, ct, e⟩ := hT
  have e1 := hfa.symm.trans T.g_law
  cases e1
  exact ⟨T.d_law, fun s v => by rw [e]; exact .of_eq rfl, fun base _ _ => ok_law T⟩
theorem fin_mk {l : PySem.W.OpenLaw} {w : World} {K : PySem.W.Frag} {mg : Str → Option Value} {fa fl : Addr} {kV dc pm : Value} {an : Option Addr} {cd ct : Value} (hfa : mg "law" = some (.ref fa))
    (hT : ∃ T : Tx K mg, T.a_law = fl ∧ T.d_law = PySem.W.fnOf "law" "law" (defArgs s_law) (defBody s_law) (defScope s_law) .none kV dc pm an cd ct) :
    ∃ fd : FuncData, (∀ (s : Shared) (v : Value), BindsTo s fd ⟨[v], []⟩ [("_law_script", v)]) ∧ ∀ base : Heap, K.In base → base.Ns mainGlobals mg → FnG l.prog w K mg base CX0 5 fa fd ["_law_script"] (spLaw K) := by
  obtain ⟨T, _, e⟩ := hT
  exact all_mk hfa ⟨T, _, _, _, _, _, _, e⟩
end K01
open PySem PySem.W PyProof.Rows
set_option maxHeartbeats 0 in
theorem PySem.Challenge.cw_bothhistories_k01_lines_and_paths_of_any_holds : PySem.Challenge.rw_bothhistories_k01_lines_and_paths_of_any.Holds := by
  w_on; o_law; k_head; (case hw => w_witness2)
  k_fill
  refine B.walk_ofG (l := PySem.Challenge.rw_bothhistories_k01_lines_and_paths_of_any) (n := 63) (k := 5) (x := "_law_script") (CX := L2.CX0) (sp := B.spLaw) rfl (by decide) rfl ⟨rfl, by decide, by decide⟩ (fun w h Y => PySem.W.kIn_of Y) ?F (fun _ _ a ns hl _ hS => B.law_starts hl hS) (fun _ _ _ _ h => h)
  case F =>
    intro w mg fa h KX G hmg
    refine' K01.fin_mk hmg (K01.tx_mk KX G ?z_abs ?z_all ?z_bool ?z_int ?z_isinstance ?z_len ?z_max ?z_min ?z_range ?z_str ?z_LETTERS ?z_BLANK ?z_SLASH ?z_MOST_SIGNS ?z_MOST_LETTERS ?a_is_line ?l_is_line ?c_is_line ?k_is_line ?a_is_name ?l_is_name ?c_is_name ?k_is_name ?a_is_path ?l_is_path ?c_is_path ?k_is_path ?a_law_box ?l_law_box ?c_law_box ?k_law_box ?a_law_take ?l_law_take ?c_law_take ?k_law_take ?a_law_of ?l_law_of ?c_law_of ?k_law_of ?a_law_text ?l_law_text ?c_law_text ?k_law_text ?a_law_odd ?l_law_odd ?c_law_odd ?k_law_odd ?a_law_is_line ?l_law_is_line ?c_law_is_line ?k_law_is_line ?a_law_is_name ?l_law_is_name ?c_law_is_name ?k_law_is_name ?a_law_is_path ?l_law_is_path ?c_law_is_path ?k_law_is_path ?a_law_told ?l_law_told ?c_law_told ?k_law_told ?a_law_right ?l_law_right ?c_law_right ?k_law_right ?a_law ?l_law ?c_law ?k_law)
    (case z_abs => k_is); (case z_all => k_is); (case z_bool => k_is); (case z_int => k_is); (case z_isinstance => k_is); (case z_len => k_is); (case z_max => k_is); (case z_min => k_is); (case z_range => k_is); (case z_str => k_is); (case z_LETTERS => k_is); (case z_BLANK => k_is); (case z_SLASH => k_is); (case z_MOST_SIGNS => k_is); (case z_MOST_LETTERS => k_is); (case a_is_line => k_is); (case l_is_line => k_is); (case c_is_line => k_is); (case k_is_line => k_is); (case a_is_name => k_is); (case l_is_name => k_is); (case c_is_name => k_is); (case k_is_name => k_is); (case a_is_path => k_is); (case l_is_path => k_is); (case c_is_path => k_is); (case k_is_path => k_is); (case a_law_box => k_is); (case l_law_box => k_is); (case c_law_box => k_is); (case k_law_box => k_is); (case a_law_take => k_is); (case l_law_take => k_is); (case c_law_take => k_is); (case k_law_take => k_is); (case a_law_of => k_is); (case l_law_of => k_is); (case c_law_of => k_is); (case k_law_of => k_is); (case a_law_text => k_is); (case l_law_text => k_is); (case c_law_text => k_is); (case k_law_text => k_is); (case a_law_odd => k_is); (case l_law_odd => k_is); (case c_law_odd => k_is); (case k_law_odd => k_is); (case a_law_is_line => k_is); (case l_law_is_line => k_is); (case c_law_is_line => k_is); (case k_law_is_line => k_is); (case a_law_is_name => k_is); (case l_law_is_name => k_is); (case c_law_is_name => k_is); (case k_law_is_name => k_is); (case a_law_is_path => k_is); (case l_law_is_path => k_is); (case c_law_is_path => k_is); (case k_law_is_path => k_is); (case a_law_told => k_is); (case l_law_told => k_is); (case c_law_told => k_is); (case k_law_told => k_is); (case a_law_right => k_is); (case l_law_right => k_is); (case c_law_right => k_is); (case k_law_right => k_is); (case a_law => k_is); (case l_law => k_is); (case c_law => k_is); (case k_law => k_is)
    

