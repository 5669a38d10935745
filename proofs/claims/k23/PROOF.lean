import PyProof.Rows.All
import Wide.All
import OpenK.AllK
import Wide.FinOn
import HandS.SetFor
import HandS.SetKeys
import PyProof.Rows.SortShellAny
import HandS.ForMost
import HandS.TupAny
import HandS.Walk
import HandS.IsInst
import HandS.Wide
import HandS.Steps
import PyProof.StrLawsChain
import HandS.SortRule
import HandS.SortInts
import HandS.Style
import PyProof.ReprRoads
import PyProof.ReprLen
import PyProof.StrLawsRepr
import HandS.ListItems
import HandS.Iter
import PyProof.P3Eq
import KE.GoesMore
import KE.GoesEnum
import HandS.Flt
import HandS.TupMul
import HandS.Zip
import KE.DataMinMax
import KE.KDictZip
import PyProof.ListNew
import KE.SortData
import KE.KRevSl
import KE.KDictPairs
import PyProof.DictUpdate
import PyProof.DictDisplay
import HandS.Star
import HandS.ForExc
import HandS.ExcInit
import HandS.ExcIs
import HandS.ExcField
import KE.KExcSuper
import KE.KExcIs
import HandS.ExcOwn
import PySem.Challenge.RW_bothhistories_k23_whole_taken_and_laid
set_option Elab.async false
set_option linter.all false
set_option maxRecDepth 100000
set_option maxHeartbeats 4000000
/-! P0: tuples that are made are plain objects (no dict of their own): displays, tuple(..), +, slices, with that told. -/
namespace B
open PySem PySem.Spec PyProof.Rows L2
/-- an object as a display makes it: no dict, no slots -/
def PlO (o : Obj) : Prop := o.dict = none ∧ o.slots = #[]
/-- the tuple has an int or a text in its first or second place (no tuple of pairs has) -/
def kHead : List V → Prop
  | V.int _ :: _ => True
  | V.str _ :: _ => True
  | _ :: V.int _ :: _ => True
  | _ :: V.str _ :: _ => True
  | _ => False
/-- a tuple at a: a plain object, or one that begins with a key -/
def TpA (G : Hp) (a : Addr) (xs : List V) : Prop := (∃ o, G a = some (.frz o (.tup xs)) ∧ PlO o) ∨ (G a = some (.tup xs) ∧ kHead xs)
theorem TpA.mono {G G' : Hp} {a : Addr} {xs : List V} (h : TpA G a xs) (e : Same G G') : TpA G' a xs := by
  rcases h with ⟨o, h1, h2⟩ | ⟨h1, h2⟩
  · exact .inl ⟨o, e _ _ h1, h2⟩
  · exact .inr ⟨e _ _ h1, h2⟩
theorem TpA.rd {G : Hp} {a : Addr} {xs : List V} (h : TpA G a xs) : Rd G a (.tup xs) := by
  rcases h with ⟨o, h1, h2⟩ | ⟨h1, h2⟩
  · exact .inr ⟨o, h1⟩
  · exact .inl h1
theorem TpA.sq {G H : Hp} {a : Addr} {xs : List V} {K : PySem.W.Frag} (h : TpA G a xs) (s : Same G H) : SqT K H a xs := .inl (h.mono s).rd
theorem TpA.det {G : Hp} {a : Addr} {xs ys : List V} (h : TpA G a xs) (k : TpA G a ys) : xs = ys := by
  rcases h with ⟨o, h1, _⟩ | ⟨h1, _⟩ <;> rcases k with ⟨u, k1, _⟩ | ⟨k1, _⟩ <;> (rw [h1] at k1; cases k1; try rfl)
theorem TpA.new {H : Hp} {p : Addr} {o : Obj} {xs : List V} (h : PlO o) : TpA (upd H p (.frz o (.tup xs))) p xs := .inl ⟨o, upd_same, h⟩
theorem TpA.key {H : Hp} {p : Addr} {xs : List V} (h : kHead xs) : TpA (upd H p (.tup xs)) p xs := .inr ⟨upd_same, h⟩
/-- one that begins with no key is plain -/
theorem TpA.plain {G : Hp} {a : Addr} {xs : List V} (h : TpA G a xs) (hk : ¬ kHead xs) : ∃ o, G a = some (.frz o (.tup xs)) ∧ PlO o := by
  rcases h with h | ⟨_, h⟩
  · exact h
  · exact absurd h hk
theorem TpA.no_lst {G : Hp} {a : Addr} {xs ys : List V} (h : TpA G a xs) (k : G a = some (.lst ys)) : False := by
  rcases h with ⟨o, h1, _⟩ | ⟨h1, _⟩ <;> (rw [h1] at k; cases k)
theorem TpA.no_dct {G : Hp} {a : Addr} {xs : List V} {kvs : List (Key × V)} (h : TpA G a xs) (k : G a = some (.dK kvs)) : False := by
  rcases h with ⟨o, h1, _⟩ | ⟨h1, _⟩ <;> (rw [h1] at k; cases k)
theorem kHead_kV (k : Key) (xs : List V) : kHead (kV k :: xs) := by cases k <;> trivial
/-- a new tuple -/
abbrev newT (H : Hp) (xs : List V) (Q : VK) : Prop := ∀ (p : Addr) (o : Obj), PlO o → H p = none → Q (.ref p) (upd H p (.frz o (.tup xs)))
section
variable {X : Cx} {pins : List (Addr × Obj)} {σ : L2.St} {H : Hp} {s : Shared}
theorem laidT {xs : List V} {us : List Value} {Q : VK} (I : Inv X pins σ H s) (r : Vals xs us) (z : xs.length ≤ sizeLine) (q : newT H xs Q) :
    EP X pins σ Q (.ref s.heap.objs.size) { s with heap := s.heap.push { cls := .type "tuple", data := .seq us.toArray } } :=
  ⟨.ref s.heap.objs.size, upd H s.heap.objs.size (.frz { cls := .type "tuple", data := .seq us.toArray } (.tup xs)), I.laid (t' := s.toks) (fun b u e => Heap.get?_push_of_some _ e) (Nat.le_refl _) ⟨Heap.get?_push_size _ rfl, z, us, r, IsTup.new _ _⟩, rfl, q _ _ ⟨rfl, rfl⟩ (I.hok.fresh (Nat.le_refl _))⟩
def tTupP (t : TA) : TE := fun σ H Q => t σ H fun xs H1 => xs.length ≤ sizeLine ∧ newT H1 xs Q
theorem pe_tupP {es : List Expr} {t : TA} {pos : Pos} {x1} (h : PA X es t) : PE X (.Tuple es x1 pos) (tTupP t) := by
  refine ⟨fun pins s σ H Q I hq => ?_⟩
  refine wpAny_Tuple_spliced (thn (h.run pos pins s σ H _ I hq) fun us s1 ⟨xs, H1, I1, r, z, q⟩ => ⟨by rw [← r.length]; exact z, ?_⟩)
  exact laidT I1 r z q
abbrev rTupOfP (K : PySem.W.Frag) : List V → Hp → VK → Prop := fun xs H Q => ∃ p ys, xs = [.ref p] ∧ ((SqL K H p ys ∧ newT H ys Q) ∨ (SqT K H p ys ∧ Q (.ref p) H))
theorem call_tuple_ofP : CallR X (.type "tuple") (rTupOfP X.K) := by
  intro pins s σ H xs us Q I r h
  obtain ⟨p, ys, rfl, h⟩ := h
  obtain ⟨u, rfl, rx⟩ := vals1 r
  cases rx
  rcases h with ⟨hq, q⟩ | ⟨hq, q⟩
  · obtain ⟨its, r', pl, hz⟩ := I.list hq
    have hlen := r'.length
    refine call_tuple_list pl.isList (fun h' kp => ?_) (by simp only [List.size_toArray] <;> omega)
    have I1 : Inv X pins σ H { s with heap := h' } := I.kept (t' := s.toks) kp
    exact laidT I1 r' hz q
  · obtain ⟨its, r', pl, hz⟩ := I.tuple hq
    exact call_tuple_same pl ⟨.ref p, H, I, rfl, q⟩
def rCatAP (K : PySem.W.Frag) : R2 := fun x y H Q => ∃ a b xs ys, x = .ref a ∧ y = .ref b ∧ SqT K H a xs ∧ SqT K H b ys ∧ xs.length + ys.length ≤ sizeLine ∧
  (xs = [] → Q (.ref b) H) ∧ (xs ≠ [] → ys = [] → Q (.ref a) H) ∧ (xs ≠ [] → ys ≠ [] → newT H (xs ++ ys) Q)
theorem op_catAP : OpR X (binaryOp .Add) (rCatAP X.K) := by
  intro pins s σ H x y v u Q I rx ry h
  obtain ⟨a, b, xs, ys, rfl, rfl, ha, hb, hz, q0, q1, q2⟩ := h
  cases rx
  cases ry
  obtain ⟨its, r1, p1, _⟩ := I.tuple ha
  obtain ⟨its2, r2, p2, _⟩ := I.tuple hb
  by_cases hx : xs = []
  · subst hx
    cases r1
    exact cat_tup0 p1 p2 ⟨.ref b, H, I, rfl, q0 rfl⟩
  · refine HT.cat_tup p1 p2 (fun z => hx (r1.nil_iff.mp z)) (fun z => ⟨.ref a, H, I, rfl, q1 hx (r2.nil_iff.mp z)⟩) (fun z => ?_) (by rw [← r1.length, ← r2.length]; exact hz)
    exact laidT I (r1.append r2) (by rw [List.length_append]; exact hz) (q2 hx fun w => z (r2.nil_iff.mpr w))
def rSlAP (K : PySem.W.Frag) : V → Option Int → Option Int → Hp → VK → Prop := fun x lo hi H Q => ∃ a xs, x = .ref a ∧ SqT K H a xs ∧
  (HT.sIx xs.length 0 lo = 0 ∧ HT.sIx xs.length xs.length hi = xs.length → Q (.ref a) H) ∧ (¬ (HT.sIx xs.length 0 lo = 0 ∧ HT.sIx xs.length xs.length hi = xs.length) → newT H (cutV xs lo hi) Q)
theorem sl_tupAP : SlR X (rSlAP X.K) := by
  intro pins s σ H x v vl vu lo hi sl Q I rx hs pl pu h
  obtain ⟨a, xs, rfl, hx, q1, q2⟩ := h
  cases rx
  obtain ⟨its, r, ht, hz⟩ := I.tuple hx
  have hlen : its.toArray.size = xs.length := by rw [List.size_toArray]; exact r.length.symm
  refine ⟨"tuple", _, PyProof.Rows.slot_tuple_getitem.lookup, ht.typeIs, ?_⟩
  by_cases hw : HT.sIx xs.length 0 lo = 0 ∧ HT.sIx xs.length xs.length hi = xs.length
  · exact getItem_tuple_whole ht hs pl pu (by rw [hlen]; exact hw) ⟨.ref a, H, I, rfl, q1 hw⟩
  · refine HT.getItem_tuple_cut ht hs pl pu (by rw [hlen]; exact hw) ?_ (by rw [hlen]; exact hz)
    rw [hlen]
    exact laidT I ((r.drop (HT.sIx xs.length 0 lo)).take (HT.sIx xs.length xs.length hi - HT.sIx xs.length 0 lo)) (Nat.le_trans (cutV_length xs lo hi) hz) (q2 hw)
end
end B

/-! B0: the data level. A frozen heap G within the heap H; what a value is as data in G; slots that hold data, own lists, own dicts; readings of expressions and statements over these. -/
namespace B
open PySem PySem.Spec PyProof.Rows L2

def keyD : Key → PyData
  | .inl i => .int i
  | .inr x => .str x
mutual
inductive Dt (G : Hp) : V → PyData → Prop
  | non : Dt G .non .none
  | bl (b : Bool) : Dt G (.bl b) (.bool b)
  | int (i : Int) : Dt G (.int i) (.int i)
  | str (x : Str) : Dt G (.str x) (.str x)
  | lst {a : Addr} {xs : List V} {ds : List PyData} : G a = some (.lst xs) → DtA G xs ds → Dt G (.ref a) (.list ds)
  | tup {a : Addr} {xs : List V} {ds : List PyData} : TpA G a xs → DtA G xs ds → Dt G (.ref a) (.tuple ds)
  | dct {a : Addr} {kvs : List (Key × V)} {es : List (PyData × PyData)} : G a = some (.dK kvs) → DtK G kvs es → Dt G (.ref a) (.dict es)
inductive DtA (G : Hp) : List V → List PyData → Prop
  | nil : DtA G [] []
  | cons {v : V} {vs : List V} {d : PyData} {ds : List PyData} : Dt G v d → DtA G vs ds → DtA G (v :: vs) (d :: ds)
inductive DtK (G : Hp) : List (Key × V) → List (PyData × PyData) → Prop
  | nil : DtK G [] []
  | cons {k : Key} {v : V} {d : PyData} {kvs : List (Key × V)} {es : List (PyData × PyData)} : Dt G v d → DtK G kvs es → DtK G ((k, v) :: kvs) ((keyD k, d) :: es)
end
mutual
theorem Dt.mono {G G' : Hp} (e : Same G G') : ∀ {v : V} {d : PyData}, Dt G v d → Dt G' v d
  | _, _, .non => .non
  | _, _, .bl b => .bl b
  | _, _, .int i => .int i
  | _, _, .str x => .str x
  | _, _, .lst h r => .lst (e _ _ h) (DtA.mono e r)
  | _, _, .tup h r => .tup (h.mono e) (DtA.mono e r)
  | _, _, .dct h r => .dct (e _ _ h) (DtK.mono e r)
theorem DtA.mono {G G' : Hp} (e : Same G G') : ∀ {vs : List V} {ds : List PyData}, DtA G vs ds → DtA G' vs ds
  | _, _, .nil => .nil
  | _, _, .cons h r => .cons (Dt.mono e h) (DtA.mono e r)
theorem DtK.mono {G G' : Hp} (e : Same G G') : ∀ {vs : List (Key × V)} {ds : List (PyData × PyData)}, DtK G vs ds → DtK G' vs ds
  | _, _, .nil => .nil
  | _, _, .cons h r => .cons (Dt.mono e h) (DtK.mono e r)
end
theorem DtA.length {G : Hp} : ∀ {vs : List V} {ds : List PyData}, DtA G vs ds → vs.length = ds.length
  | _, _, .nil => rfl
  | _, _, .cons _ r => by rw [List.length_cons, List.length_cons, DtA.length r]
theorem DtA.get {G : Hp} : ∀ {vs : List V} {ds : List PyData} {i : Nat} {v : V}, DtA G vs ds → vs[i]? = some v → ∃ d, ds[i]? = some d ∧ Dt G v d
  | _, _, _, _, .nil, e => by simp at e
  | _, _, 0, _, .cons h _, e => by simp at e; subst e; exact ⟨_, rfl, h⟩
  | _, _, i + 1, v, .cons _ t, e => by
    obtain ⟨d, h1, h2⟩ := DtA.get (i := i) (v := v) t (by simpa using e)
    exact ⟨d, by simpa using h1, h2⟩
theorem DtA.getD {G : Hp} : ∀ {vs : List V} {ds : List PyData} {i : Nat} {d : PyData}, DtA G vs ds → ds[i]? = some d → ∃ v, vs[i]? = some v ∧ Dt G v d
  | _, _, _, _, .nil, e => by simp at e
  | _, _, 0, _, .cons h _, e => by simp at e; subst e; exact ⟨_, rfl, h⟩
  | _, _, i + 1, d, .cons _ t, e => by
    obtain ⟨v, h1, h2⟩ := DtA.getD (i := i) (d := d) t (by simpa using e)
    exact ⟨v, by simpa using h1, h2⟩
theorem DtA.append {G : Hp} : ∀ {vs ws : List V} {ds es : List PyData}, DtA G vs ds → DtA G ws es → DtA G (vs ++ ws) (ds ++ es)
  | _, _, _, _, .nil, s => s
  | _, _, _, _, .cons h t, s => .cons h (DtA.append t s)
theorem DtA.one {G : Hp} {v : V} {d : PyData} (h : Dt G v d) : DtA G [v] [d] := .cons h .nil
theorem DtA.take {G : Hp} : ∀ {vs : List V} {ds : List PyData} (n : Nat), DtA G vs ds → DtA G (vs.take n) (ds.take n)
  | _, _, 0, _ => .nil
  | _, _, _ + 1, .nil => .nil
  | _, _, n + 1, .cons h t => .cons h (DtA.take n t)
theorem DtA.drop {G : Hp} : ∀ {vs : List V} {ds : List PyData} (n : Nat), DtA G vs ds → DtA G (vs.drop n) (ds.drop n)
  | _, _, 0, r => r
  | _, _, _ + 1, .nil => .nil
  | _, _, n + 1, .cons _ t => DtA.drop n t
theorem DtA.strs {G : Hp} : ∀ zs : List Str, DtA G (zs.map V.str) (zs.map PyData.str)
  | [] => .nil
  | z :: r => .cons (.str z) (DtA.strs r)
theorem DtA.bls {G : Hp} : ∀ zs : List Bool, DtA G (zs.map V.bl) (zs.map PyData.bool)
  | [] => .nil
  | z :: r => .cons (.bl z) (DtA.bls r)
theorem DtA.of_bls {G : Hp} : ∀ {zs : List Bool} {vs : List V}, DtA G vs (zs.map PyData.bool) → vs = zs.map V.bl
  | [], _, .nil => rfl
  | z :: r, _, .cons h t => by cases h; rw [DtA.of_bls t]; rfl
theorem DtA.of_strs {G : Hp} : ∀ {zs : List Str} {vs : List V}, DtA G vs (zs.map PyData.str) → vs = zs.map V.str
  | [], _, .nil => rfl
  | z :: r, _, .cons h t => by cases h; rw [DtA.of_strs t]; rfl
theorem DtA.of_ints {G : Hp} : ∀ {zs : List Int} {vs : List V}, DtA G vs (zs.map PyData.int) → vs = zs.map V.int
  | [], _, .nil => rfl
  | z :: r, _, .cons h t => by cases h; rw [DtA.of_ints t]; rfl
theorem Same.new {H : Hp} {p : Addr} {o : HO} (h : H p = none) : Same H (upd H p o) := fun a u e => by
  rw [upd_ne (ne_of_none e h)]
  exact e

/-! ### what is new, what is kept -/
/-- G' has more than G, only where H had nothing -/
def Nw (G H G' : Hp) : Prop := Same G G' ∧ ∀ a, G' a ≠ none → G a ≠ none ∨ H a = none
def Fr (M : Addr → Prop) (H H' : Hp) : Prop := ∀ a o, ¬ M a → H a = some o → H' a = some o
theorem Nw.refl (G H : Hp) : Nw G H G := ⟨Same.refl G, fun _ h => .inl h⟩
theorem Fr.refl (M : Addr → Prop) (H : Hp) : Fr M H H := fun _ _ _ h => h
theorem Fr.of_same {M : Addr → Prop} {H H' : Hp} (h : Same H H') : Fr M H H' := fun a o _ e => h a o e
theorem Fr.trans {M : Addr → Prop} {H H1 H2 : Hp} (h : Fr M H H1) (k : Fr M H1 H2) : Fr M H H2 := fun a o m e => k a o m (h a o m e)
/-- from G in H to G' in H': new things, M changed alone -/
structure Ext (M : Addr → Prop) (G H G' H' : Hp) : Prop where
  nw : Nw G H G'
  fr : Fr M H H'
  dm : ∀ a, H' a = none → H a = none
theorem Ext.refl (M : Addr → Prop) (G H : Hp) : Ext M G H G H := ⟨Nw.refl G H, Fr.refl M H, fun _ h => h⟩
theorem Ext.trans {M : Addr → Prop} {G H G1 H1 G2 H2 : Hp} (a : Ext M G H G1 H1) (b : Ext M G1 H1 G2 H2) : Ext M G H G2 H2 :=
  ⟨⟨a.nw.1.trans b.nw.1, fun x h => (b.nw.2 x h).elim (fun z => a.nw.2 x z) fun z => .inr (a.dm x z)⟩, a.fr.trans b.fr, fun x h => a.dm x (b.dm x h)⟩
theorem Ext.same {M : Addr → Prop} {G H G' H' : Hp} (n : Nw G H G') (s : Same H H') : Ext M G H G' H' := ⟨n, Fr.of_same s, fun _ h => Same.free s h⟩
theorem Ext.gg {M : Addr → Prop} {G H G' H' : Hp} (a : Ext M G H G' H') : Same G G' := a.nw.1
theorem ne_none {H : Hp} {a : Addr} (h : H a ≠ none) : ∃ o, H a = some o := Option.ne_none_iff_exists'.mp h

/-- what may be changed: where, and what holds of it (by a count) -/
structure Mu where
  M : Addr → Prop
  I : Nat → Hp → Prop
  st : ∀ c H H', (∀ a o, M a → H a = some o → H' a = some o) → I c H → I c H'
  dom : ∀ c H a, I c H → M a → H a ≠ none
  up : ∀ c c' H, c ≤ c' → I c H → I c' H
def pureMu : Mu := ⟨fun _ => False, fun _ _ => True, fun _ _ _ _ _ => trivial, fun _ _ _ _ h => h.elim, fun _ _ _ _ _ => trivial⟩

/-- what a def has made and may change: a list, a dict, a dict that is locked -/
inductive Ow where
  | lst (ds : List PyData)
  | dct (es : List (Key × PyData))
  | lck (p : Addr) (od : Obj) (kvs : List (Key × V)) (es : List (Key × PyData))
  | grd (qs : List Addr) (rss : List (List PyData))
/-- the things within -/
def Ow.ins : Ow → List Addr
  | .grd qs _ => qs
  | _ => []
def Ow.rows : Ow → List (List PyData)
  | .grd _ rss => rss
  | _ => []
inductive Sl where
  | un
  | dat (d : PyData)
  | ow (k : Ow)
  | raw (v : V)
  | fz (φ : Hp → V → Prop)
@[reducible] def Sl.own (ds : List PyData) : Sl := .ow (.lst ds)
@[reducible] def Sl.map (es : List (Key × PyData)) : Sl := .ow (.dct es)
inductive DtM (G : Hp) : List (Key × V) → List (Key × PyData) → Prop
  | nil : DtM G [] []
  | cons {k : Key} {v : V} {d : PyData} {kvs : List (Key × V)} {es : List (Key × PyData)} : Dt G v d → DtM G kvs es → DtM G ((k, v) :: kvs) ((k, d) :: es)
theorem DtM.mono {G G' : Hp} (e : Same G G') : ∀ {vs : List (Key × V)} {ds : List (Key × PyData)}, DtM G vs ds → DtM G' vs ds
  | _, _, .nil => .nil
  | _, _, .cons h r => .cons (h.mono e) (DtM.mono e r)
def OwOk (G : Hp) : Ow → Addr → HO → Prop
  | .lst ds, _, u => ∃ vs, u = .lst vs ∧ DtA G vs ds
  | .dct es, _, u => ∃ kvs, u = .dK kvs ∧ DtM G kvs es
  | .lck q od kvs es, p, u => p = q ∧ u = .frz od (.dK kvs) ∧ DtM G kvs es
  | .grd qs rss, p, u => u = .lst (qs.map V.ref) ∧ p ∉ qs ∧ qs.Nodup ∧ qs.length = rss.length
/-- .. the lists within -/
def OwIn (G H0 H : Hp) (k : Ow) : Prop := ∀ (i : Nat) (q : Addr), k.ins[i]? = some q → ∃ r vs, k.rows[i]? = some r ∧ H0 q = none ∧ G q = none ∧ H q = some (.lst vs) ∧ DtA G vs r
theorem OwIn.none {G H0 H : Hp} {k : Ow} (h : k.ins = []) : OwIn G H0 H k := fun i q e => by rw [h] at e; simp at e
theorem OwOk.mono {G G' : Hp} (e : Same G G') {k : Ow} {p : Addr} {u : HO} (h : OwOk G k p u) : OwOk G' k p u := by
  cases k with
  | lst ds => obtain ⟨vs, a, b⟩ := h; exact ⟨vs, a, b.mono e⟩
  | dct ds => obtain ⟨vs, a, b⟩ := h; exact ⟨vs, a, b.mono e⟩
  | lck q od kvs es => exact ⟨h.1, h.2.1, h.2.2.mono e⟩
  | grd qs rss => exact h
def SlOk (G H0 H : Hp) : Sl → Option V → Prop
  | .un, _ => True
  | .dat d, o => ∃ v, o = some v ∧ Dt G v d
  | .ow k, o => ∃ p u, o = some (.ref p) ∧ H0 p = none ∧ G p = none ∧ H p = some u ∧ OwOk G k p u ∧ OwIn G H0 H k
  | .raw v, o => o = some v
  | .fz φ, o => ∃ v, o = some v ∧ ∀ G', Same G G' → φ G' v
def Owns (Γ : List Sl) (σ : L2.St) (i : Nat) (p : Addr) : Prop := ∃ k, Γ[i]? = some (.ow k) ∧ (σ[i]? = some (some (.ref p)) ∨ p ∈ k.ins)
/-- the state: H_0, G_0 the entry's; G what is frozen; c the count -/
structure Stt (μ : Mu) (G0 H0 G : Hp) (Γ : List Sl) (c : Nat) (σ : L2.St) (H : Hp) : Prop where
  len : σ.length = Γ.length
  new : Nw G0 H0 G
  sub : Same G H
  fr : Fr μ.M H0 H
  ent : ∀ a, μ.M a → H0 a ≠ none ∧ G0 a = none
  inv : μ.I c H
  sl : ∀ (i : Nat) (s : Sl), Γ[i]? = some s → ∃ o, σ[i]? = some o ∧ SlOk G H0 H s o
  dj : ∀ (i j : Nat) (p : Addr), Owns Γ σ i p → Owns Γ σ j p → i = j
section
variable {μ : Mu} {G0 H0 G G' : Hp} {Γ : List Sl} {c c' : Nat} {σ : L2.St} {H H' : Hp}
theorem Stt.h0 (S : Stt μ G0 H0 G Γ c σ H) {a : Addr} (h : H a = none) : H0 a = none := by
  cases e : H0 a with
  | none => rfl
  | some o =>
    by_cases m : μ.M a
    · exact absurd h (μ.dom c H a S.inv m)
    · rw [S.fr a o m e] at h; cases h
theorem Stt.gM (S : Stt μ G0 H0 G Γ c σ H) {a : Addr} (m : μ.M a) : G a = none := by
  cases e : G a with
  | none => rfl
  | some o =>
    rcases S.new.2 a (by rw [e]; simp) with h | h
    · exact absurd (S.ent a m).2 h
    · exact absurd h (S.ent a m).1
theorem Nw.trans (S : Stt μ G0 H0 G Γ c σ H) (n : Nw G H G') : Nw G0 H0 G' := by
  refine ⟨S.new.1.trans n.1, fun a h => ?_⟩
  rcases n.2 a h with h1 | h1
  · exact S.new.2 a h1
  · exact .inr (S.h0 h1)
theorem SlOk.ext {s : Sl} {o : Option V} (n : Nw G H G') (hf : ∀ p, H0 p = none → ∀ u, H p = some u → H' p = some u) (h : SlOk G H0 H s o) : SlOk G' H0 H' s o := by
  have free : ∀ p u, G p = none → H p = some u → G' p = none := fun p u g h => by
    cases e : G' p with
    | none => rfl
    | some w =>
      rcases n.2 p (by rw [e]; simp) with q | q
      · exact absurd g q
      · rw [h] at q; cases q
  cases s with
  | un => trivial
  | dat d => obtain ⟨v, e, h⟩ := h; exact ⟨v, e, h.mono n.1⟩
  | ow k =>
    obtain ⟨p, u, e, h0, g, h1, h2, h3⟩ := h
    refine ⟨p, u, e, h0, free p _ g h1, hf p h0 _ h1, h2.mono n.1, fun i q hq => ?_⟩
    obtain ⟨r, vs, a1, a2, a3, a4, a5⟩ := h3 i q hq
    exact ⟨r, vs, a1, a2, free q _ a3 a4, hf q a2 _ a4, a5.mono n.1⟩
  | raw v => exact h
  | fz φ => obtain ⟨v, e, h⟩ := h; exact ⟨v, e, fun G2 s => h G2 (n.1.trans s)⟩
/-- the state behind what made new things and changed M alone -/
theorem Stt.ext (S : Stt μ G0 H0 G Γ c σ H) (n : Nw G H G') (s : Same G' H') (f : Fr μ.M H H') (i : μ.I c' H') : Stt μ G0 H0 G' Γ c' σ H' where
  len := S.len
  new := n.trans S
  sub := s
  fr := S.fr.trans f
  ent := S.ent
  inv := i
  sl := fun j s e => by
    obtain ⟨o, h1, h2⟩ := S.sl j s e
    exact ⟨o, h1, h2.ext n fun p h0 u hu => f p u (fun m => (S.ent p m).1 h0) hu⟩
  dj := S.dj
theorem Stt.same (S : Stt μ G0 H0 G Γ c σ H) (n : Nw G H G') (s : Same G' H') (f : Same H H') : Stt μ G0 H0 G' Γ c σ H' :=
  S.ext n s (Fr.of_same f) (μ.st c H H' (fun a o _ e => f a o e) S.inv)
theorem Stt.up (S : Stt μ G0 H0 G Γ c σ H) (h : c ≤ c') : Stt μ G0 H0 G Γ c' σ H :=
  ⟨S.len, S.new, S.sub, S.fr, S.ent, μ.up c c' H h S.inv, S.sl, S.dj⟩
/-- a new frozen object -/
theorem Nw.upd {p : Addr} {o : HO} (h : H p = none) (s : Same G H) : Nw G H (upd G p o) := by
  have g : G p = none := Same.free s h
  refine ⟨Same.new g, fun a e => ?_⟩
  by_cases q : a = p
  · subst q; exact .inr h
  · rw [upd_ne q] at e; exact .inl e
theorem Same.upd2 {p : Addr} {o : HO} (s : Same G H) : Same (upd G p o) (upd H p o) := fun a u e => by
  by_cases q : a = p
  · subst q; rw [upd_same] at e ⊢; exact e
  · rw [upd_ne q] at e ⊢; exact s a u e
theorem Stt.laid (S : Stt μ G0 H0 G Γ c σ H) {p : Addr} {o : HO} (h : H p = none) : Stt μ G0 H0 (upd G p o) Γ c σ (upd H p o) :=
  S.same (Nw.upd h S.sub) (Same.upd2 S.sub) (Same.new h)
/-- a slot is set to data -/
theorem Stt.set (S : Stt μ G0 H0 G Γ c σ H) {i : Nat} {v : V} {s : Sl} (h : SlOk G H0 H s (some v)) (hn : ∀ p, Owns (Γ.set i s) (σ.set i (some v)) i p → ∀ j, j ≠ i → ¬ Owns Γ σ j p) : Stt μ G0 H0 G (Γ.set i s) c (σ.set i (some v)) H where
  len := by rw [List.length_set, List.length_set]; exact S.len
  new := S.new
  sub := S.sub
  fr := S.fr
  ent := S.ent
  inv := S.inv
  sl := fun j t e => by
    by_cases q : j = i
    · subst q
      have hl : j < Γ.length := by
        have := (List.getElem?_eq_some_iff.mp e).1
        rw [List.length_set] at this; exact this
      rw [List.getElem?_set_self hl] at e
      cases e
      exact ⟨some v, List.getElem?_set_self (by rw [S.len]; exact hl), h⟩
    · rw [List.getElem?_set_ne (Ne.symm q)] at e ⊢
      exact S.sl j t e
  dj := fun j k p a b => by
    have oth : ∀ m, m ≠ i → Owns (Γ.set i s) (σ.set i (some v)) m p → Owns Γ σ m p := fun m q o => by
      obtain ⟨k, e, h⟩ := o
      rw [List.getElem?_set_ne (Ne.symm q)] at e h
      exact ⟨k, e, h⟩
    by_cases q : j = i
    · subst q
      by_cases q2 : k = j
      · exact q2.symm
      · exact absurd (oth k q2 b) (hn p a k q2)
    · by_cases q2 : k = i
      · subst q2
        exact absurd (oth j q a) (hn p b j q)
      · exact S.dj j k p (oth j q a) (oth k q2 b)
theorem Stt.setD (S : Stt μ G0 H0 G Γ c σ H) {i : Nat} {v : V} {d : PyData} (h : Dt G v d) : Stt μ G0 H0 G (Γ.set i (.dat d)) c (σ.set i (some v)) H :=
  S.set ⟨v, rfl, h⟩ fun p o j _ _ => by
    obtain ⟨k, e, _⟩ := o
    have hi : i < Γ.length := by
      have := (List.getElem?_eq_some_iff.mp e).1
      rw [List.length_set] at this
      exact this
    rw [List.getElem?_set_self hi] at e
    cases e
/-- the slots forgotten -/
theorem Stt.nil (S : Stt μ G0 H0 G Γ c σ H) : Stt μ G0 H0 G [] c [] H :=
  ⟨rfl, S.new, S.sub, S.fr, S.ent, S.inv, fun i s e => by simp at e, fun i j p a _ => by obtain ⟨_, e, _⟩ := a; simp at e⟩
theorem Stt.var (S : Stt μ G0 H0 G Γ c σ H) {i : Nat} {d : PyData} (h : Γ[i]? = some (.dat d)) : ∃ v, σ[i]? = some (some v) ∧ Dt G v d := by
  obtain ⟨o, e, v, rfl, q⟩ := S.sl i _ h
  exact ⟨v, e, q⟩
theorem Stt.raw (S : Stt μ G0 H0 G Γ c σ H) {i : Nat} {v : V} (h : Γ[i]? = some (.raw v)) : σ[i]? = some (some v) := by
  obtain ⟨o, e, rfl⟩ := S.sl i _ h
  exact e
end

/-! ### readings over data -/
def CM : Nat := 1000000
def Ev (μ : Mu) (te : TE) (Γ : List Sl) (n : Nat) (P : PyData → Prop) : Prop :=
  ∀ (G0 H0 G : Hp) (c : Nat) (σ : L2.St) (H : Hp) (Q : VK), Stt μ G0 H0 G Γ c σ H → c + n ≤ CM →
    (∀ d v G' H', P d → Stt μ G0 H0 G' Γ (c + n) σ H' → Ext μ.M G H G' H' → Dt G' v d → Q v H') → te σ H Q
def EvT (μ : Mu) (tt : TT) (Γ : List Sl) (n : Nat) (P : Bool → Prop) : Prop :=
  ∀ (G0 H0 G : Hp) (c : Nat) (σ : L2.St) (H : Hp) (Q : Bool → Hp → Prop), Stt μ G0 H0 G Γ c σ H → c + n ≤ CM →
    (∀ b G' H', P b → Stt μ G0 H0 G' Γ (c + n) σ H' → Ext μ.M G H G' H' → Q b H') → tt σ H Q
def EvA (μ : Mu) (ta : TA) (Γ : List Sl) (n : Nat) (P : List PyData → Prop) : Prop :=
  ∀ (G0 H0 G : Hp) (c : Nat) (σ : L2.St) (H : Hp) (Q : List V → Hp → Prop), Stt μ G0 H0 G Γ c σ H → c + n ≤ CM →
    (∀ ds vs G' H', P ds → Stt μ G0 H0 G' Γ (c + n) σ H' → Ext μ.M G H G' H' → DtA G' vs ds → Q vs H') → ta σ H Q
/-- a two-place operation on data: from x, y (in G) it gives z -/
def RD (r : R2) (x y z : PyData) : Prop := ∀ (G H : Hp) (v w : V) (Q : VK), Same G H → Dt G v x → Dt G w y →
  (∀ u G' H', Nw G H G' → Same G' H' → Same H H' → Dt G' u z → Q u H') → r v w H Q
def RU (r : V → Hp → VK → Prop) (x z : PyData) : Prop := ∀ (G H : Hp) (v : V) (Q : VK), Same G H → Dt G v x →
  (∀ u G' H', Nw G H G' → Same G' H' → Same H H' → Dt G' u z → Q u H') → r v H Q
def RC (r : List V → Hp → VK → Prop) (xs : List PyData) (z : PyData) : Prop := ∀ (G H : Hp) (vs : List V) (Q : VK), Same G H → DtA G vs xs →
  (∀ u G' H', Nw G H G' → Same G' H' → Same H H' → Dt G' u z → Q u H') → r vs H Q
/-- a method of a built-in type -/
def RM (r : V → List V → Hp → VK → Prop) (x : PyData) (xs : List PyData) (z : PyData) : Prop := ∀ (G H : Hp) (v : V) (vs : List V) (Q : VK), Same G H → Dt G v x → DtA G vs xs →
  (∀ u G' H', Nw G H G' → Same G' H' → Same H H' → Dt G' u z → Q u H') → r v vs H Q
section
variable {μ : Mu} {Γ : List Sl} {n n1 n2 : Nat} {P P1 P2 : PyData → Prop} {ta tb te : TE} {t u : TT} {x y z d : PyData} {r : R2} {K : PySem.W.Frag}
theorem Ev.imp (h : Ev μ te Γ n P1) (k : ∀ d, P1 d → P d) : Ev μ te Γ n P := fun G0 H0 G c σ H Q S l q => h G0 H0 G c σ H Q S l fun d v G' H' p => q d v G' H' (k d p)
theorem Ev.is (h : Ev μ te Γ n (Eq x)) (e : x = y) : Ev μ te Γ n (Eq y) := by rw [← e]; exact h
theorem Ev.cnt (h : Ev μ te Γ n1 P) (e : n1 ≤ n) : Ev μ te Γ n P := fun G0 H0 G c σ H Q S l q =>
  h G0 H0 G c σ H Q S (by omega) fun d v G' H' p S' => q d v G' H' p (S'.up (by omega))
theorem EvT.imp {P1 P : Bool → Prop} (h : EvT μ t Γ n P1) (k : ∀ d, P1 d → P d) : EvT μ t Γ n P := fun G0 H0 G c σ H Q S l q => h G0 H0 G c σ H Q S l fun d G' H' p => q d G' H' (k d p)
theorem EvT.is {x y : Bool} (h : EvT μ t Γ n (Eq x)) (e : x = y) : EvT μ t Γ n (Eq y) := by rw [← e]; exact h
theorem ev_var {i : Nat} (h : Γ[i]? = some (.dat d)) : Ev μ (tVar i) Γ 0 (Eq d) := fun G0 H0 G c σ H Q S _ q => by
  obtain ⟨v, e, hd⟩ := S.var h
  exact ⟨v, e, q d v G H rfl S (Ext.refl _ G H) hd⟩
theorem ev_int {i : Int} : Ev μ (tC (.int i)) Γ 0 (Eq (.int i)) := fun _ _ G _ _ H _ S _ q => q _ _ G H rfl S (Ext.refl _ G H) (.int i)
theorem ev_str {i : Str} : Ev μ (tC (.str i)) Γ 0 (Eq (.str i)) := fun _ _ G _ _ H _ S _ q => q _ _ G H rfl S (Ext.refl _ G H) (.str i)
theorem ev_bl {i : Bool} : Ev μ (tC (.bl i)) Γ 0 (Eq (.bool i)) := fun _ _ G _ _ H _ S _ q => q _ _ G H rfl S (Ext.refl _ G H) (.bl i)
theorem ev_non : Ev μ (tC .non) Γ 0 (Eq .none) := fun _ _ G _ _ H _ S _ q => q _ _ G H rfl S (Ext.refl _ G H) .non
/-- a two-place operation, all at once -/
theorem ev_opP (ha : Ev μ ta Γ n1 P1) (hb : Ev μ tb Γ n2 P2) (hr : ∀ x y, P1 x → P2 y → ∃ z, RD r x y z ∧ P z) : Ev μ (tOp r ta tb) Γ (n1 + n2) P := fun G0 H0 G c σ H Q S l q =>
  ha G0 H0 G c σ H _ S (by omega) fun x v G1 H1 p1 S1 e1 d1 => hb G0 H0 G1 (c + n1) σ H1 _ S1 (by omega) fun y w G2 H2 p2 S2 e2 d2 => by
    obtain ⟨z, h, pz⟩ := hr x y p1 p2
    refine h G2 H2 v w Q S2.sub (d1.mono e2.gg) d2 fun u G' H' nw s s' du => ?_
    have S3 := S2.same nw s s'
    rw [Nat.add_assoc] at S3
    exact q z u G' H' pz S3 ((e1.trans e2).trans (.same nw s')) du
theorem ev_op (ha : Ev μ ta Γ n1 (Eq x)) (hb : Ev μ tb Γ n2 (Eq y)) (hr : RD r x y z) : Ev μ (tOp r ta tb) Γ (n1 + n2) (Eq z) :=
  ev_opP ha hb fun _ _ e1 e2 => ⟨z, e1 ▸ e2 ▸ hr, rfl⟩
theorem ev_unP {r : V → Hp → VK → Prop} (ha : Ev μ ta Γ n P1) (hr : ∀ x, P1 x → ∃ z, RU r x z ∧ P z) : Ev μ (tUn r ta) Γ n P := fun G0 H0 G c σ H Q S l q =>
  ha G0 H0 G c σ H _ S l fun x v G1 H1 p1 S1 e1 d1 => by
    obtain ⟨z, h, pz⟩ := hr x p1
    exact h G1 H1 v Q S1.sub d1 fun u G' H' nw s s' du => q z u G' H' pz (S1.same nw s s') (e1.trans (.same nw s')) du
theorem ev_un {r : V → Hp → VK → Prop} (ha : Ev μ ta Γ n (Eq x)) (hr : RU r x z) : Ev μ (tUn r ta) Γ n (Eq z) := ev_unP ha fun _ e => ⟨z, e ▸ hr, rfl⟩
theorem ea_nil : EvA μ tNil Γ 0 (Eq []) := fun _ _ G _ _ H _ S _ q => q _ _ G H rfl S (Ext.refl _ G H) .nil
theorem ea_consP {tr : TA} {P2 P : List PyData → Prop} (ha : Ev μ ta Γ n1 P1) (hb : EvA μ tr Γ n2 P2) (hr : ∀ x y, P1 x → P2 y → P (x :: y)) : EvA μ (tCons ta tr) Γ (n1 + n2) P := fun G0 H0 G c σ H Q S l q =>
  ha G0 H0 G c σ H _ S (by omega) fun x v G1 H1 p1 S1 e1 d1 => hb G0 H0 G1 (c + n1) σ H1 _ S1 (by omega) fun y w G2 H2 p2 S2 e2 d2 => by
    rw [Nat.add_assoc] at S2
    exact q _ _ G2 H2 (hr x y p1 p2) S2 (e1.trans e2) (.cons (d1.mono e2.gg) d2)
theorem ea_cons {tr : TA} {xs : List PyData} (ha : Ev μ ta Γ n1 (Eq x)) (hb : EvA μ tr Γ n2 (Eq xs)) : EvA μ (tCons ta tr) Γ (n1 + n2) (Eq (x :: xs)) :=
  ea_consP ha hb fun _ _ e1 e2 => e1 ▸ e2 ▸ rfl
theorem EvA.imp {ta : TA} {P1 P : List PyData → Prop} (h : EvA μ ta Γ n P1) (k : ∀ d, P1 d → P d) : EvA μ ta Γ n P := fun G0 H0 G c σ H Q S l q => h G0 H0 G c σ H Q S l fun d v G' H' p => q d v G' H' (k d p)
theorem ev_lst {ta : TA} {P1 : List PyData → Prop} (h : EvA μ ta Γ n P1) (hl : ∀ xs, P1 xs → xs.length ≤ 100000) : Ev μ (tLst ta) Γ n (fun d => ∃ xs, P1 xs ∧ d = .list xs) := fun G0 H0 G c σ H Q S l q =>
  h G0 H0 G c σ H _ S l fun ds vs G1 H1 p1 S1 e1 d1 => ⟨by rw [d1.length]; exact Nat.le_trans (hl ds p1) (by decide), fun p hp =>
    q _ _ _ _ ⟨ds, p1, rfl⟩ (S1.laid hp) (e1.trans (.same (Nw.upd hp S1.sub) (Same.new hp))) (.lst upd_same (d1.mono (Nw.upd hp S1.sub).1))⟩
theorem ev_tup {ta : TA} {P1 : List PyData → Prop} (h : EvA μ ta Γ n P1) (hl : ∀ xs, P1 xs → xs.length ≤ 100000) : Ev μ (tTupP ta) Γ n (fun d => ∃ xs, P1 xs ∧ d = .tuple xs) := fun G0 H0 G c σ H Q S l q =>
  h G0 H0 G c σ H _ S l fun ds vs G1 H1 p1 S1 e1 d1 => ⟨by rw [d1.length]; exact Nat.le_trans (hl ds p1) (by decide), fun p o ho hp =>
    q _ _ _ _ ⟨ds, p1, rfl⟩ (S1.laid hp) (e1.trans (.same (Nw.upd hp S1.sub) (Same.new hp))) (.tup (.new ho) (d1.mono (Nw.upd hp S1.sub).1))⟩
theorem ev_lstE {ta : TA} {xs : List PyData} (h : EvA μ ta Γ n (Eq xs)) (hl : xs.length ≤ 100000 := by decide) : Ev μ (tLst ta) Γ n (Eq (.list xs)) :=
  (ev_lst h fun _ e => e ▸ hl).imp fun d ⟨ys, e1, e2⟩ => by rw [e2, ← e1]
theorem ev_tupE {ta : TA} {xs : List PyData} (h : EvA μ ta Γ n (Eq xs)) (hl : xs.length ≤ 100000 := by decide) : Ev μ (tTupP ta) Γ n (Eq (.tuple xs)) :=
  (ev_tup h fun _ e => e ▸ hl).imp fun d ⟨ys, e1, e2⟩ => by rw [e2, ← e1]
/-- a built-in's call -/
theorem ev_cbP {r : List V → Hp → VK → Prop} {ta : TA} {P1 : List PyData → Prop} (ha : EvA μ ta Γ n P1) (hr : ∀ xs, P1 xs → ∃ z, RC r xs z ∧ P z) : Ev μ (tCB r ta) Γ n P := fun G0 H0 G c σ H Q S l q =>
  ha G0 H0 G c σ H _ S l fun x v G1 H1 p1 S1 e1 d1 => by
    obtain ⟨z, h, pz⟩ := hr x p1
    exact h G1 H1 v Q S1.sub d1 fun u G' H' nw s s' du => q z u G' H' pz (S1.same nw s s') (e1.trans (.same nw s')) du
theorem ev_cb {r : List V → Hp → VK → Prop} {ta : TA} {xs : List PyData} (ha : EvA μ ta Γ n (Eq xs)) (hr : RC r xs z) : Ev μ (tCB r ta) Γ n (Eq z) := ev_cbP ha fun _ e => ⟨z, e ▸ hr, rfl⟩
/-- a method of a text -/
theorem ev_m1P {r : V → List V → Hp → VK → Prop} (ha : Ev μ ta Γ n1 P1) (hb : Ev μ tb Γ n2 P2) (hx : ∀ x, P1 x → ∃ s, x = .str s) (hr : ∀ x y, P1 x → P2 y → ∃ z, RM r x [y] z ∧ P z) : Ev μ (tM1 r ta tb) Γ (n1 + n2) P := fun G0 H0 G c σ H Q S l q =>
  ha G0 H0 G c σ H _ S (by omega) fun x v G1 H1 p1 S1 e1 d1 => by
    obtain ⟨s, rfl⟩ := hx x p1
    refine ⟨by cases d1; exact ⟨s, rfl⟩, ?_⟩
    refine hb G0 H0 G1 (c + n1) σ H1 _ S1 (by omega) fun y w G2 H2 p2 S2 e2 d2 => ?_
    obtain ⟨z, h, pz⟩ := hr _ y p1 p2
    refine h G2 H2 v [w] Q S2.sub (d1.mono e2.gg) (.one d2) fun u G' H' nw s s' du => ?_
    have S3 := S2.same nw s s'
    rw [Nat.add_assoc] at S3
    exact q z u G' H' pz S3 ((e1.trans e2).trans (.same nw s')) du
theorem ev_m1 {r : V → List V → Hp → VK → Prop} {s : Str} (ha : Ev μ ta Γ n1 (Eq (.str s))) (hb : Ev μ tb Γ n2 (Eq y)) (hr : RM r (.str s) [y] z) : Ev μ (tM1 r ta tb) Γ (n1 + n2) (Eq z) :=
  ev_m1P ha hb (fun _ e => ⟨s, e.symm⟩) fun _ _ e1 e2 => ⟨z, e1 ▸ e2 ▸ hr, rfl⟩
/-! ### tests -/
theorem et_testP {P : Bool → Prop} (h : Ev μ te Γ n P1) (hb : ∀ d, P1 d → ∃ b, d = .bool b ∧ P b) : EvT μ (tTest te) Γ n P := fun G0 H0 G c σ H Q S l q =>
  h G0 H0 G c σ H _ S l fun d v G1 H1 p1 S1 e1 d1 => by
    obtain ⟨b, rfl, pb⟩ := hb d p1
    cases d1
    exact ⟨b, rfl, q b G1 H1 pb S1 e1⟩
theorem et_test {b : Bool} (h : Ev μ te Γ n (Eq (.bool b))) : EvT μ (tTest te) Γ n (Eq b) := et_testP h fun d e => ⟨b, e.symm, rfl⟩
theorem et_B {b : Bool} (h : Ev μ te Γ n (Eq (.bool b))) : EvT μ (tB te) Γ n (Eq b) := fun G0 H0 G c σ H Q S l q =>
  h G0 H0 G c σ H _ S l fun d v G1 H1 p1 S1 e1 d1 => by
    cases p1
    cases d1
    exact ⟨b, rfl, q b G1 H1 rfl S1 e1⟩
theorem et_not {b : Bool} (h : EvT μ t Γ n (Eq b)) : EvT μ (tNot t) Γ n (Eq (!b)) := fun G0 H0 G c σ H Q S l q =>
  h G0 H0 G c σ H _ S l fun d G1 H1 p1 => q (!d) G1 H1 (by rw [p1])
theorem et_and {a b : Bool} (h1 : EvT μ t Γ n1 (Eq a)) (h2 : a = true → EvT μ u Γ n2 (Eq b)) : EvT μ (tAnd t u) Γ (n1 + n2) (Eq (a && b)) := fun G0 H0 G c σ H Q S l q =>
  h1 G0 H0 G c σ H _ S (by omega) fun d G1 H1 p1 S1 e1 => by
    subst p1
    cases a with
    | true =>
      refine iteT (h2 rfl G0 H0 G1 (c + n1) σ H1 _ S1 (by omega) fun d2 G2 H2 p2 S2 e2 => ?_)
      rw [Nat.add_assoc] at S2
      exact q d2 G2 H2 (by rw [← p2]; rfl) S2 (e1.trans e2)
    | false => exact iteF (q false G1 H1 rfl (S1.up (by omega)) e1)
theorem et_or {a b : Bool} (h1 : EvT μ t Γ n1 (Eq a)) (h2 : a = false → EvT μ u Γ n2 (Eq b)) : EvT μ (tOr t u) Γ (n1 + n2) (Eq (a || b)) := fun G0 H0 G c σ H Q S l q =>
  h1 G0 H0 G c σ H _ S (by omega) fun d G1 H1 p1 S1 e1 => by
    subst p1
    cases a with
    | false =>
      refine iteF (h2 rfl G0 H0 G1 (c + n1) σ H1 _ S1 (by omega) fun d2 G2 H2 p2 S2 e2 => ?_)
      rw [Nat.add_assoc] at S2
      exact q d2 G2 H2 (by rw [← p2]; rfl) S2 (e1.trans e2)
    | true => exact iteT (q true G1 H1 rfl (S1.up (by omega)) e1)
theorem ev_andV {a : Bool} (h1 : Ev μ ta Γ n1 (Eq (.bool a))) (h2 : a = true → Ev μ tb Γ n2 (Eq y)) : Ev μ (tAndV ta tb) Γ (n1 + n2) (Eq (if a = true then y else .bool false)) := fun G0 H0 G c σ H Q S l q =>
  h1 G0 H0 G c σ H _ S (by omega) fun d v G1 H1 p1 S1 e1 d1 => by
    subst p1
    cases d1
    refine ⟨a, rfl, ?_⟩
    cases a with
    | true =>
      refine iteT (h2 rfl G0 H0 G1 (c + n1) σ H1 _ S1 (by omega) fun d2 v2 G2 H2 p2 S2 e2 d2' => ?_)
      rw [Nat.add_assoc] at S2
      exact q d2 v2 G2 H2 (by rw [← p2]; rfl) S2 (e1.trans e2) d2'
    | false => exact iteF (q _ _ G1 H1 rfl (S1.up (by omega)) e1 (.bl false))
theorem ev_orV {a : Bool} (h1 : Ev μ ta Γ n1 (Eq (.bool a))) (h2 : a = false → Ev μ tb Γ n2 (Eq y)) : Ev μ (tOrV ta tb) Γ (n1 + n2) (Eq (if a = true then .bool true else y)) := fun G0 H0 G c σ H Q S l q =>
  h1 G0 H0 G c σ H _ S (by omega) fun d v G1 H1 p1 S1 e1 d1 => by
    subst p1
    cases d1
    refine ⟨a, rfl, ?_⟩
    cases a with
    | false =>
      refine iteF (h2 rfl G0 H0 G1 (c + n1) σ H1 _ S1 (by omega) fun d2 v2 G2 H2 p2 S2 e2 d2' => ?_)
      rw [Nat.add_assoc] at S2
      exact q d2 v2 G2 H2 (by rw [← p2]; rfl) S2 (e1.trans e2) d2'
    | true => exact iteT (q _ _ G1 H1 rfl (S1.up (by omega)) e1 (.bl true))
theorem ev_notV {a : Bool} (h1 : Ev μ ta Γ n (Eq (.bool a))) : Ev μ (tNotV ta) Γ n (Eq (.bool (!a))) := fun G0 H0 G c σ H Q S l q =>
  h1 G0 H0 G c σ H _ S l fun d v G1 H1 p1 S1 e1 d1 => by
    subst p1
    cases d1
    exact ⟨a, rfl, q _ _ G1 H1 rfl S1 e1 (.bl _)⟩
theorem ev_if {b : Bool} (h : EvT μ t Γ n (Eq b)) (h1 : b = true → Ev μ ta Γ n1 P) (h2 : b = false → Ev μ tb Γ n2 P) : Ev μ (tIf t ta tb) Γ (n + max n1 n2) P := fun G0 H0 G c σ H Q S l q =>
  h G0 H0 G c σ H _ S (by omega) fun d G1 H1 p1 S1 e1 => by
    subst p1
    cases b with
    | true =>
      refine iteT (h1 rfl G0 H0 G1 (c + n) σ H1 _ S1 (by omega) fun d2 v2 G2 H2 p2 S2 e2 d2' => ?_)
      exact q d2 v2 G2 H2 p2 (S2.up (by omega)) (e1.trans e2) d2'
    | false =>
      refine iteF (h2 rfl G0 H0 G1 (c + n) σ H1 _ S1 (by omega) fun d2 v2 G2 H2 p2 S2 e2 d2' => ?_)
      exact q d2 v2 G2 H2 p2 (S2.up (by omega)) (e1.trans e2) d2'
end
end B

/-! B1: defs whose promise is kept where no repr is under way (guards = some []); statements over data. -/
namespace B
open PySem PySem.Spec PyProof.Rows L2

/-- as FnOk, where no repr is under way around the call -/
structure FnG (P : Program) (w : World) (K : PySem.W.Frag) (mg : Str → Option Value) (base : Heap) (CX : CXT) (k : Nat) (f : Addr) (fd : FuncData) (ps : List Str) (sp : Sp) : Prop where
  many : ∀ vs H Q E, sp vs H Q E → vs.length = ps.length
  runs : ∀ (A : Around) (fs : List Env) (s : Shared) (H : Hp) (given : Args) (us : List Value) (vs : List V) (Q : VK) (E : XK), A.guards = some [] → Room k A → Env0 P w K mg base A fs s H →
    BindsTo s fd given (ps.zip us) → Vals vs us → sp vs H Q E → codeAny (model P w) A (.call (.ref f) given) (CR CX fs P w H s Q E) s
section
variable {P : Program} {w : World} {K : PySem.W.Frag} {mg : Str → Option Value} {base : Heap} {CX : CXT}
theorem FnG.mono {j k : Nat} {f : Addr} {fd : FuncData} {ps : List Str} {sp : Sp} (F : FnG P w K mg base CX j f fd ps sp) (h : j ≤ k) : FnG P w K mg base CX k f fd ps sp :=
  ⟨F.many, fun A fs s H g us vs Q E hg hr => F.runs A fs s H g us vs Q E hg (hr.mono h)⟩
theorem FnG.of_ok {k : Nat} {f : Addr} {fd : FuncData} {ps : List Str} {sp : Sp} (F : FnOk P w K mg base CX k f fd ps sp) : FnG P w K mg base CX k f fd ps sp :=
  ⟨F.len, fun A fs s H g us vs Q E _ hr => F.run A fs s H g us vs Q E hr⟩
theorem FnG.imp {k : Nat} {f : Addr} {fd : FuncData} {ps : List Str} {sp sp' : Sp} (F : FnG P w K mg base CX k f fd ps sp) (h : ∀ vs H Q E, sp' vs H Q E → sp vs H Q E) : FnG P w K mg base CX k f fd ps sp' :=
  ⟨fun vs H Q E q => F.many vs H Q E (h vs H Q E q), fun A fs s H g us vs Q E hg hr he hb hv q => F.runs A fs s H g us vs Q E hg hr he hb hv (h vs H Q E q)⟩
/-- a def's body, the guards known: X is the body's context -/
theorem Fun.okG {x qual : Str} {st : Stmt} {f : Addr} {fd : FuncData} {N ps : List Str} {k : Nat} {sp : Sp} (F : Fun K x qual st f fd) (S : FnScope N ps (defScope st)) (hlen : ∀ vs H Q E, sp vs H Q E → vs.length = ps.length)
    (body : ∀ (cdv : Value) (A : Around) (fs : List Env) (s : Shared) (H : Hp) (vs : List V) (Q : VK) (E : XK), A.guards = some [] → Room k (A.deeper (envOfC qual (defScope st) s.heap.objs.size f cdv)) → sp vs H Q E →
      ∃ t, PSs (cxOf CX P w K mg base N qual (defScope st) f cdv A fs s H E) (defBody st) t ∧ t { nx := fun _ H' => Q .non H', rt := Q } (start N vs) H) :
    FnG P w K mg base CX (k + 1) f fd ps sp := by
  obtain ⟨oc, od, kV, doc, pm, an, cdv, ct, osl, rfl, lk, hcd⟩ := F.ex
  refine ⟨hlen, fun A fs s H g us vs Q E hg hr env hb rel want => ?_⟩
  have inK : K.In s.heap := env.mod.kin.keeps fun b o e => (env.bs b o e).1
  have nolim : s.heap.NoLimit := env.mod.nolimit.keeps fun b o e => (env.bs b o e).1
  have kinds : ∀ y ∈ ps.zip us, (defScope st).names.lookup y.1 = some .local ∨
      ((defScope st).names.lookup y.1 = some .cell ∧ ((cellsFrom (s.heap.objs.size + 1) (defScope st).names []).lookup y.1).isSome = true) := by
    rintro ⟨nm, u⟩ hy
    exact (S.par nm (List.of_mem_zip hy).1).imp id fun c => ⟨c, PySem.W.cellsFrom_some _ _ _ (.inl c)⟩
  apply codeAny_call_function hr.depth (inK _ _ lk) rfl S.co S.gen rfl (PySem.W.codeRec_of inK hcd)
  refine hb _ _ _ _ (wpAny_newFunctionEnv_cells S.kind kinds fun ev hev s1 inC => ?_)
  cases hev
  refine ⟨nolim.keeps inC.toInCall.keep, codeAny_func ?_⟩
  obtain ⟨t, ht, go⟩ := body cdv A fs s H vs Q E hg (hr.deeper _) want
  have I0 := inv_start (CX := CX) (E := E) S hr.hd env (hlen _ _ _ _ want) rel inC
  refine wpAny_mono (ht.run [] s1 (start N vs) H _ I0 go) ?_ fun e s' z => z
  intro fl s' z
  cases fl with
  | ret u =>
    obtain ⟨v, σ', H', J, rv, q⟩ := z
    exact ⟨v, H', J.os, J.bare, J.base, J.hok, rv, q⟩
  | next =>
    obtain ⟨σ', H', J, q⟩ := z
    exact ⟨.non, H', J.os, J.bare, J.base, J.hok, rfl, q⟩
  | brk => exact z.elim fun _ z => z.elim fun _ z => z.2.elim
  | cont => exact z.elim fun _ z => z.elim fun _ z => z.2.elim
/-- .. where nothing that is raised leaves the body -/
theorem Fun.okN {x qual : Str} {st : Stmt} {f : Addr} {fd : FuncData} {N ps : List Str} {k : Nat} {sp : Sp} (F : Fun K x qual st f fd) (S : FnScope N ps (defScope st)) (hlen : ∀ vs H Q E, sp vs H Q E → vs.length = ps.length)
    (body : ∀ (cdv : Value) (A : Around) (fs : List Env) (s : Shared) (H : Hp) (vs : List V) (Q : VK) (E : XK), A.guards = some [] → Room k (A.deeper (envOfC qual (defScope st) s.heap.objs.size f cdv)) → sp vs H Q E →
      ∃ t, PSs (cxOf CX0 P w K mg base N qual (defScope st) f cdv A fs s H E).nox (defBody st) t ∧ t { nx := fun _ H' => Q .non H', rt := Q } (start N vs) H) :
    FnG P w K mg base CX0 (k + 1) f fd ps sp :=
  Fun.okG F S hlen fun cdv A fs s H vs Q E hg hr q => let ⟨t, h, go⟩ := body cdv A fs s H vs Q E hg hr q; ⟨t, h.nox, go⟩
end
section
variable {X : Cx} {CX : CXT} {k : Nat} {f : Addr} {fd : FuncData} {ps ks : List Str} {sp : Sp} {dvs : List V} {ds : List Value} {E : XK} {x : Str} {p pos : Pos} {e : Expr} {es : List Expr} {kws : List Keyword} {t tk : TA}
theorem ends_call {pins : List (Addr × Obj)} {σ : L2.St} {H : Hp} {s : Shared} {Q : VK} (hx : Passes CX X E) (I : Inv X pins σ H s) {r : Result} {s' : Shared} (h : CR CX X.stack X.prog X.w H s Q E r s') :
    match r with
    | .ok (.ret u) => EP X pins σ Q u s'
    | .ok _ => False
    | .error e => X.xe e s' := by
  cases r with
  | error e => exact hx pins σ H s e s' I h
  | ok fl => cases fl <;> first | exact I.after h | exact h
theorem runG {pins : List (Addr × Obj)} {σ : L2.St} {H : Hp} {s : Shared} {Q : VK} {us : List Value} {vs : List V} (F : FnG X.prog X.w X.K X.mg X.base CX k f fd ps sp) (hg : X.A.guards = some []) (hr : Room k X.A) (hb : Binds X.K fd ps ds) (hd : Vals dvs ds) (hx : Passes CX X E)
    (I : Inv X pins σ H s) (r : Vals vs us) (h : sp (vs ++ dvs) H Q E) : wpAny (model X.prog X.w) X.A (call (.ref f) us) (EP X pins σ Q) X.xe s := by
  have rel := r.append hd
  have many := F.many _ _ _ _ h
  rw [rel.length] at many
  refine wpAny_call (codeAny_mono (F.runs X.A X.stack s H ⟨us, []⟩ (us ++ ds) (vs ++ dvs) Q E hg hr I.env0 (hb s us I.kIn many) rel h) fun res s' z => ?_)
  have z' := ends_call hx I z
  cases res with
  | error e => exact z'
  | ok fl => cases fl <;> first | exact z' | exact z'.elim
theorem runGK {pins : List (Addr × Obj)} {σ : L2.St} {H : Hp} {s : Shared} {Q : VK} {us ws : List Value} {vs zs : List V} {g : List Value → List Value → List Value} {gV : List V → List V → List V} (F : FnG X.prog X.w X.K X.mg X.base CX k f fd ps sp) (hg : X.A.guards = some [])
    (hr : Room k X.A) (hb : KBinds X.K fd ps ks g gV) (hx : Passes CX X E) (I : Inv X pins σ H s) (r : Vals vs us) (rz : Vals zs ws) (h : sp (gV vs zs) H Q E) : wpAny (model X.prog X.w) X.A (call (.ref f) us (ks.zip ws)) (EP X pins σ Q) X.xe s := by
  have rel := hb.rel r rz
  have many := F.many _ _ _ _ h
  rw [rel.length] at many
  refine wpAny_call (codeAny_mono (F.runs X.A X.stack s H ⟨us, ks.zip ws⟩ (g us ws) (gV vs zs) Q E hg hr I.env0 (hb.to s us ws I.kIn many) rel h) fun res s' z => ?_)
  have z' := ends_call hx I z
  cases res with
  | error e => exact z'
  | ok fl => cases fl <;> first | exact z' | exact z'.elim
/-- f(e, ..) -/
theorem pc_call (F : FnG X.prog X.w X.K X.mg X.base CX k f fd ps sp) (hG : X.A.guards = some []) (hr : Room k X.A) (hg : Gl X x) (hm : X.mg x = some (.ref f)) (hk : PySem.W.keepIn X.K (.ref f) = true) (hb : Binds X.K fd ps ds) (hd : Vals dvs ds) (hx : Passes CX X E)
    (ha : PA X (e :: es) t) (hdb : (x == ("__debug__" : Str)) = false := by decide) (he : starEach (e :: es) X.env = (false, eval e X.env) :: starEach es X.env := by rfl) (hpl : (backTo pos (starEach es X.env)).any (·.1) = false := by rfl) :
    PE X (.Call (.Name x p) (e :: es) [] pos) (tCall sp dvs E t) := ⟨fun pins s σ H Q I h =>
  wpAny_Call_Name_kw (ld_glob I hg hm (PySem.W.callWith_K (h₀ := X.base) I.mod.kin hk (thn (ha.run pos pins s σ H _ I h) fun us s1 ⟨vs, H1, I1, r, q⟩ => ⟨I1.kIn, runG F hG hr hb hd hx I1 r q⟩) he hpl) hdb)⟩
/-- f() -/
theorem pc_call0 (F : FnG X.prog X.w X.K X.mg X.base CX k f fd ps sp) (hG : X.A.guards = some []) (hr : Room k X.A) (hg : Gl X x) (hm : X.mg x = some (.ref f)) (hk : PySem.W.keepIn X.K (.ref f) = true) (hb : Binds X.K fd ps ds) (hd : Vals dvs ds) (hx : Passes CX X E)
    (hdb : (x == ("__debug__" : Str)) = false := by decide) : PE X (.Call (.Name x p) [] [] pos) (tCall sp dvs E tNil) := ⟨fun pins s σ H Q I h =>
  wpAny_Call_Name_kw (ld_glob I hg hm (PySem.W.callWith_K0 I.kIn hk (runG (us := []) F hG hr hb hd hx I .nil h)) hdb)⟩
/-- f(e, .., k = v, ..) -/
theorem pc_callK {g : List Value → List Value → List Value} {gV : List V → List V → List V} (F : FnG X.prog X.w X.K X.mg X.base CX k f fd ps sp) (hG : X.A.guards = some []) (hr : Room k X.A) (hg : Gl X x) (hm : X.mg x = some (.ref f)) (hk : PySem.W.keepIn X.K (.ref f) = true)
    (hb : KBinds X.K fd ps ks g gV) (hx : Passes CX X E) (ha : PA X (e :: es) t) (hkw : PK X kws tk) (hall : (backToKw pos (keywordEach kws X.env)).all (·.1.isSome) = true := by rfl) (hks : (backToKw pos (keywordEach kws X.env)).filterMap (·.1) = ks := by rfl)
    (hdb : (x == ("__debug__" : Str)) = false := by decide) (he : starEach (e :: es) X.env = (false, eval e X.env) :: starEach es X.env := by rfl)
    (hpl : ((backTo pos (starEach (e :: es) X.env)).any (·.1) || (backToKw pos (keywordEach kws X.env)).any (·.1.isNone)) = false := by rfl) :
    PE X (.Call (.Name x p) (e :: es) kws pos) (tCallK sp gV E t tk) := ⟨fun pins s σ H Q I h =>
  wpAny_Call_Name_kw (ld_glob I hg hm (PySem.W.callWith_KW (h₀ := X.base) I.mod.kin hk hall (thn (ha.run pos pins s σ H _ I h) fun us s1 ⟨vs, H1, I1, r, q⟩ =>
    thn (hkw.run pos pins s1 σ H1 _ I1 q) fun ws s2 ⟨zs, H2, I2, rz, q2⟩ => ⟨I2.kIn, by rw [hks]; exact runGK F hG hr hb hx I2 r rz q2⟩) hpl he) hdb)⟩
end
end B
namespace B
open PySem PySem.Spec PyProof.Rows L2
/-- f(k = v, ..) -/
theorem pc_callK0 {X : Cx} {CX : CXT} {k : Nat} {f : Addr} {fd : FuncData} {ps ks : List Str} {sp : Sp} {E : XK} {x : Str} {p pos : Pos} {kws : List Keyword} {tk : TA} {g : List Value → List Value → List Value} {gV : List V → List V → List V} (F : FnG X.prog X.w X.K X.mg X.base CX k f fd ps sp)
    (hG : X.A.guards = some []) (hr : Room k X.A) (hg : Gl X x) (hm : X.mg x = some (.ref f)) (hk : PySem.W.keepIn X.K (.ref f) = true) (hb : KBinds X.K fd ps ks g gV) (hx : Passes CX X E) (hkw : PK X kws tk)
    (hall : (backToKw pos (keywordEach kws X.env)).all (·.1.isSome) = true := by rfl) (hks : (backToKw pos (keywordEach kws X.env)).filterMap (·.1) = ks := by rfl) (hdb : (x == ("__debug__" : Str)) = false := by decide)
    (hpl : ((backTo pos (starEach [] X.env)).any (·.1) || (backToKw pos (keywordEach kws X.env)).any (·.1.isNone)) = false := by rfl) :
    PE X (.Call (.Name x p) [] kws pos) (tCallK sp gV E tNil tk) := ⟨fun pins s σ H Q I h =>
  wpAny_Call_Name_kw (ld_glob I hg hm (PySem.W.callWith_KW0 (h₀ := X.base) I.mod.kin hk hall (thn (hkw.run pos pins s σ H _ I h) fun ws s2 ⟨zs, H2, I2, rz, q2⟩ =>
    ⟨I2.kIn, by rw [hks]; exact runGK (us := []) F hG hr hb hx I2 .nil rz q2⟩) hpl) hdb)⟩
end B

/-! B2: targets, walks, comprehensions, statements, promises over data. -/
namespace B
open PySem PySem.Spec PyProof.Rows L2

/-! ### slots forgotten -/
def wipeG (Γ : List Sl) : List Nat → List Sl
  | [] => Γ
  | v :: vs => (wipeG Γ vs).set v .un
theorem set_none_comm (σ : L2.St) (i j : Nat) (v : Option V) : i ≠ j → (σ.set i v).set j none = (σ.set j none).set i v := fun h => List.set_comm _ _ h
theorem wipe_set_mem {j : Nat} {v : Option V} : ∀ {vs : List Nat} (σ : L2.St), j ∈ vs → wipe (σ.set j v) vs = wipe σ vs
  | [], _, h => by simp at h
  | w :: ws, σ, h => by
    by_cases hm : j ∈ ws
    · show (wipe (σ.set j v) ws).set w none = (wipe σ ws).set w none
      rw [wipe_set_mem σ hm]
    · have e : j = w := by
        rcases List.mem_cons.mp h with e | e
        · exact e
        · exact absurd e hm
      subst e
      show (wipe (σ.set j v) ws).set j none = (wipe σ ws).set j none
      have : ∀ (us : List Nat) (τ : L2.St), j ∉ us → wipe (τ.set j v) us = (wipe τ us).set j v := by
        intro us
        induction us with
        | nil => intro τ _; rfl
        | cons u us ih =>
          intro τ hu
          have h1 : j ≠ u := fun e => hu (by rw [e]; exact List.mem_cons_self)
          have h2 : j ∉ us := fun e => hu (List.mem_cons_of_mem _ e)
          show (wipe (τ.set j v) us).set u none = ((wipe τ us).set u none).set j v
          rw [ih τ h2, List.set_comm _ _ h1]
      rw [this ws σ hm, List.set_set]
theorem wipe_wipe : ∀ (vs : List Nat) (σ : L2.St) (us : List Nat), (∀ v ∈ vs, v ∈ us) → wipe (wipe σ vs) us = wipe σ us
  | [], _, _, _ => rfl
  | v :: vs, σ, us, h => by
    show wipe ((wipe σ vs).set v none) us = wipe σ us
    rw [wipe_set_mem _ (h v List.mem_cons_self), wipe_wipe vs σ us fun w hw => h w (List.mem_cons_of_mem _ hw)]
section
variable {μ : Mu} {G0 H0 G G' : Hp} {Γ : List Sl} {c c' : Nat} {σ : L2.St} {H H' : Hp}
theorem Stt.unset (S : Stt μ G0 H0 G Γ c σ H) {i : Nat} {o : Option V} : Stt μ G0 H0 G (Γ.set i .un) c (σ.set i o) H where
  len := by rw [List.length_set, List.length_set]; exact S.len
  new := S.new
  sub := S.sub
  fr := S.fr
  ent := S.ent
  inv := S.inv
  sl := fun j t e => by
    by_cases q : j = i
    · subst q
      have hl : j < Γ.length := by
        have := (List.getElem?_eq_some_iff.mp e).1
        rw [List.length_set] at this; exact this
      rw [List.getElem?_set_self hl] at e
      cases e
      exact ⟨o, List.getElem?_set_self (by rw [S.len]; exact hl), trivial⟩
    · rw [List.getElem?_set_ne (Ne.symm q)] at e ⊢
      exact S.sl j t e
  dj := fun j k p a b => by
    have key : ∀ m, Owns (Γ.set i .un) (σ.set i o) m p → m ≠ i := fun m z q => by
      subst q
      obtain ⟨k, e, _⟩ := z
      have hl : m < Γ.length := by
        have := (List.getElem?_eq_some_iff.mp e).1
        rw [List.length_set] at this; exact this
      rw [List.getElem?_set_self hl] at e
      cases e
    have oth : ∀ m, Owns (Γ.set i .un) (σ.set i o) m p → Owns Γ σ m p := fun m z => by
      have q := key m z
      obtain ⟨k, e, h⟩ := z
      rw [List.getElem?_set_ne (Ne.symm q)] at e h
      exact ⟨k, e, h⟩
    exact S.dj j k p (oth j a) (oth k b)
theorem Stt.wipe (S : Stt μ G0 H0 G Γ c σ H) : ∀ vs : List Nat, Stt μ G0 H0 G (wipeG Γ vs) c (L2.wipe σ vs) H
  | [] => S
  | v :: vs => (Stt.wipe S vs).unset
end

/-! ### targets -/
def EvG (g : TG) (d : PyData) (is : List Nat) (Γ Γ' : List Sl) : Prop :=
  ∀ (μ : Mu) (G0 H0 G : Hp) (c : Nat) (σ : L2.St) (H : Hp) (v : V) (Q : L2.St → Hp → Prop), Stt μ G0 H0 G Γ c σ H → Dt G v d →
    (∀ σ', Stt μ G0 H0 G Γ' c σ' H → (∀ vs, (∀ i ∈ is, i ∈ vs) → wipe σ' vs = wipe σ vs) → Q σ' H) → g v σ H Q
def EvGs (g : TGs) (ds : List PyData) (is : List Nat) (Γ Γ' : List Sl) : Prop :=
  ∀ (μ : Mu) (G0 H0 G : Hp) (c : Nat) (σ : L2.St) (H : Hp) (vs : List V) (Q : L2.St → Hp → Prop), Stt μ G0 H0 G Γ c σ H → DtA G vs ds →
    (∀ σ', Stt μ G0 H0 G Γ' c σ' H → (∀ vs, (∀ i ∈ is, i ∈ vs) → wipe σ' vs = wipe σ vs) → Q σ' H) → g vs σ H Q
theorem eg_name {i : Nat} {d : PyData} {Γ : List Sl} : EvG (gName i) d [i] Γ (Γ.set i (.dat d)) := fun μ G0 H0 G c σ H v Q S h q =>
  q _ (S.setD h) fun vs hv => wipe_set_mem σ (hv i List.mem_cons_self)
theorem egs_nil {Γ : List Sl} : EvGs gNil [] [] Γ Γ := fun μ G0 H0 G c σ H v Q S h q => by
  cases h
  exact ⟨rfl, q σ S fun _ _ => rfl⟩
theorem egs_cons {g : TG} {gs : TGs} {d : PyData} {ds : List PyData} {is js : List Nat} {Γ Γ1 Γ2 : List Sl} (h1 : EvG g d is Γ Γ1) (h2 : EvGs gs ds js Γ1 Γ2) : EvGs (gCons g gs) (d :: ds) (is ++ js) Γ Γ2 := fun μ G0 H0 G c σ H vs Q S h q => by
  cases h with
  | cons a b =>
    refine ⟨_, _, rfl, h1 μ G0 H0 G c σ H _ _ S a fun σ1 S1 w1 => h2 μ G0 H0 G c σ1 H _ _ S1 b fun σ2 S2 w2 => q σ2 S2 fun us hu => ?_⟩
    rw [w2 us fun i hi => hu i (List.mem_append_right _ hi), w1 us fun i hi => hu i (List.mem_append_left _ hi)]
theorem eg_tup {K : PySem.W.Frag} {n : Nat} {gs : TGs} {ds : List PyData} {is : List Nat} {Γ Γ' : List Sl} (h : EvGs gs ds is Γ Γ') (hn : ds.length = n) : EvG (gTup K n gs) (.tuple ds) is Γ Γ' := fun μ G0 H0 G c σ H v Q S hd q => by
  cases hd with
  | tup e r => exact ⟨_, _, rfl, (e.sq S.sub), by rw [r.length]; exact hn, h μ G0 H0 G c σ H _ _ S r q⟩

/-! ### walks -/
/-- J gives ds, one by one, while G stands and the pins hold -/
structure DWalk (J : It) (G : Hp) (pins : List (Addr × HO)) (ds : List PyData) : Prop where
  go : ∀ i H, i < ds.length → Same G H → (∀ p ∈ pins, H p.1 = some p.2) → J.go i H
  stop : ∀ H, Same G H → (∀ p ∈ pins, H p.1 = some p.2) → J.stop ds.length H
  yld : ∀ i H G1 x H', i < ds.length → Same G G1 → Same G1 H → (∀ p ∈ pins, H p.1 = some p.2) → J.yld i H x H' → ∃ G2 d, ds[i]? = some d ∧ Nw G1 H G2 ∧ Same G2 H' ∧ Same H H' ∧ Dt G2 x d
theorem DWalk.mono {J : It} {G G' : Hp} {pins : List (Addr × HO)} {ds : List PyData} (w : DWalk J G pins ds) (e : Same G G') : DWalk J G' pins ds :=
  ⟨fun i H hi s p => w.go i H hi (e.trans s) p, fun H s p => w.stop H (e.trans s) p, fun i H G1 x H' hi s s1 p y => w.yld i H G1 x H' hi (e.trans s) s1 p y⟩
def EvI (μ : Mu) (wi : TI) (Γ : List Sl) (n : Nat) (P : List PyData → Prop) : Prop :=
  ∀ (G0 H0 G : Hp) (c : Nat) (σ : L2.St) (H : Hp) (R : It → Hp → Prop), Stt μ G0 H0 G Γ c σ H → c + n ≤ CM →
    (∀ ds J pins G' H', P ds → Stt μ G0 H0 G' Γ (c + n) σ H' → Ext μ.M G H G' H' → DWalk J G' pins ds → (∀ p ∈ pins, ¬ μ.M p.1 ∧ H' p.1 = some p.2) → R J H') → wi σ H R
/-- .. without pins -/
def EvW (μ : Mu) (wi : TI) (Γ : List Sl) (n : Nat) (P : List PyData → Prop) : Prop :=
  ∀ (G0 H0 G : Hp) (c : Nat) (σ : L2.St) (H : Hp) (R : It → Hp → Prop), Stt μ G0 H0 G Γ c σ H → c + n ≤ CM →
    (∀ ds J G' H', P ds → Stt μ G0 H0 G' Γ (c + n) σ H' → Ext μ.M G H G' H' → DWalk J G' [] ds → R J H') → wi σ H R
theorem EvW.i {μ : Mu} {wi : TI} {Γ : List Sl} {n : Nat} {P : List PyData → Prop} (h : EvW μ wi Γ n P) : EvI μ wi Γ n P := fun G0 H0 G c σ H R S l q =>
  h G0 H0 G c σ H R S l fun ds J G' H' p S' e w => q ds J [] G' H' p S' e w fun p hp => by simp at hp
theorem EvI.imp {μ : Mu} {wi : TI} {Γ : List Sl} {n : Nat} {P P' : List PyData → Prop} (h : EvI μ wi Γ n P) (k : ∀ d, P d → P' d) : EvI μ wi Γ n P' := fun G0 H0 G c σ H Q S l q => h G0 H0 G c σ H Q S l fun ds J pins G' H' p => q ds J pins G' H' (k ds p)
theorem EvW.imp {μ : Mu} {wi : TI} {Γ : List Sl} {n : Nat} {P P' : List PyData → Prop} (h : EvW μ wi Γ n P) (k : ∀ d, P d → P' d) : EvW μ wi Γ n P' := fun G0 H0 G c σ H Q S l q => h G0 H0 G c σ H Q S l fun ds J G' H' p => q ds J G' H' (k ds p)
section
variable {μ : Mu} {Γ : List Sl} {n : Nat} {K : PySem.W.Frag} {te : TE} {ta : TA}
theorem dwalk_at {J : It} {xs : List V} {G : Hp} {C : Hp → Prop} {pins : List (Addr × HO)} {ds : List PyData} (w : Walk J xs.length C (YAt xs)) (hC : ∀ H, Same G H → (∀ p ∈ pins, H p.1 = some p.2) → C H) (hd : DtA G xs ds) : DWalk J G pins ds := by
  have hl := hd.length
  refine ⟨fun i H hi s p => w.goes i H (by omega) (hC H s p), fun H s p => by rw [← hl]; exact w.stops H (hC H s p), fun i H G1 x H' hi s s1 p y => ?_⟩
  obtain ⟨e1, e2⟩ := w.yields i H x H' (by omega) (hC H (s.trans s1) p) y
  subst e1
  obtain ⟨d, h1, h2⟩ := hd.get e2
  exact ⟨G1, d, h1, Nw.refl _ _, s1, Same.refl _, h2.mono s⟩
theorem dwalk_fn {J : It} {f : Nat → V} {G : Hp} {C : Hp → Prop} {pins : List (Addr × HO)} {ds : List PyData} (w : Walk J ds.length C (YFn f)) (hC : ∀ H, C H) (hd : ∀ i d, ds[i]? = some d → Dt G (f i) d) : DWalk J G pins ds := by
  refine ⟨fun i H hi s p => w.goes i H hi (hC H), fun H s p => w.stops H (hC H), fun i H G1 x H' hi s s1 p y => ?_⟩
  obtain ⟨e1, e2⟩ := w.yields i H x H' hi (hC H) y
  subst e1 e2
  exact ⟨G1, ds[i], List.getElem?_eq_getElem hi, Nw.refl _ _, s1, Same.refl _, (hd i _ (List.getElem?_eq_getElem hi)).mono s⟩
theorem ew_list {P : PyData → Prop} (h : Ev μ te Γ n P) (hl : ∀ d, P d → ∃ ds, d = .list ds) : EvW μ (iList K te) Γ n (fun ds => P (.list ds)) := fun G0 H0 G c σ H R S l q =>
  h G0 H0 G c σ H _ S l fun d v G1 H1 p S1 e hd => by
    obtain ⟨ds, rfl⟩ := hl d p
    cases hd with
    | lst a r => exact ⟨_, rfl, ⟨_, SqL.of (S1.sub _ _ a)⟩, q ds _ G1 H1 p S1 e (dwalk_at walk_list (fun H s _ => SqL.of (s _ _ a)) r)⟩
theorem ew_tup {P : PyData → Prop} (h : Ev μ te Γ n P) (hl : ∀ d, P d → ∃ ds, d = .tuple ds) : EvW μ (iTup K te) Γ n (fun ds => P (.tuple ds)) := fun G0 H0 G c σ H R S l q =>
  h G0 H0 G c σ H _ S l fun d v G1 H1 p S1 e hd => by
    obtain ⟨ds, rfl⟩ := hl d p
    cases hd with
    | tup a r => exact ⟨_, rfl, ⟨_, (a.sq S1.sub)⟩, q ds _ G1 H1 p S1 e (dwalk_at walk_tup (fun H s _ => (a.sq s)) r)⟩
theorem ew_listE {ds : List PyData} (h : Ev μ te Γ n (Eq (.list ds))) : EvW μ (iList K te) Γ n (Eq ds) := (ew_list h fun d e => ⟨ds, e.symm⟩).imp fun d e => by cases e; rfl
theorem ew_tupE {ds : List PyData} (h : Ev μ te Γ n (Eq (.tuple ds))) : EvW μ (iTup K te) Γ n (Eq ds) := (ew_tup h fun d e => ⟨ds, e.symm⟩).imp fun d e => by cases e; rfl
def rngD (lo : Int) (n : Nat) : List PyData := (List.range n).map fun i => .int (lo + (i : Nat))
theorem rngD_len (lo : Int) (n : Nat) : (rngD lo n).length = n := by unfold rngD; rw [List.length_map, List.length_range]
theorem rngD_get {lo : Int} {n i : Nat} {d : PyData} (h : (rngD lo n)[i]? = some d) : d = .int (lo + (i : Nat)) := by
  unfold rngD at h
  have hi := (List.getElem?_eq_some_iff.mp h).1
  rw [List.length_map, List.length_range] at hi
  rw [List.getElem?_map, List.getElem?_range hi] at h
  cases h; rfl
theorem ew_rng1 {P : List PyData → Prop} (h : EvA μ ta Γ n P) (hl : ∀ d, P d → ∃ i : Int, d = [.int i] ∧ i ≤ 1000000 ∧ -1000000 ≤ i) : EvW μ (iRng1 ta) Γ n (fun ds => ∃ i : Int, P [.int i] ∧ ds = rngD 0 i.toNat) := fun G0 H0 G c σ H R S l q =>
  h G0 H0 G c σ H _ S l fun d v G1 H1 p S1 e hd => by
    obtain ⟨i, rfl, b1, b2⟩ := hl d p
    cases hd with
    | cons a r =>
      cases a
      cases r
      refine ⟨i, rfl, by omega, by omega, q _ _ G1 H1 ⟨i, p, rfl⟩ S1 e (dwalk_fn (C := fun _ => True) (by rw [rngD_len]; exact walk_range) (fun _ => trivial) fun j d h => ?_)⟩
      rw [rngD_get h]
      exact .int _
theorem ew_rng1E {i : Int} (h : EvA μ ta Γ n (Eq [.int i])) (h1 : i ≤ 1000000) (h2 : -1000000 ≤ i) : EvW μ (iRng1 ta) Γ n (Eq (rngD 0 i.toNat)) :=
  (ew_rng1 h fun d e => ⟨i, e.symm, h1, h2⟩).imp fun d ⟨j, e1, e2⟩ => by cases e1; exact e2.symm
theorem ew_rng2E {i j : Int} (h : EvA μ ta Γ n (Eq [.int i, .int j])) (h1 : i ≤ 1000000) (h2 : -1000000 ≤ i) (h3 : j ≤ 1000000) (h4 : -1000000 ≤ j) : EvW μ (iRng2 ta) Γ n (Eq (rngD i (j - i).toNat)) := fun G0 H0 G c σ H R S l q =>
  h G0 H0 G c σ H _ S l fun d v G1 H1 p S1 e hd => by
    cases p
    cases hd with
    | cons a r =>
      cases a
      cases r with
      | cons a r =>
        cases a
        cases r
        refine ⟨i, j, rfl, by omega, q _ _ G1 H1 rfl S1 e (dwalk_fn (C := fun _ => True) (by rw [rngD_len]; exact walk_range) (fun _ => trivial) fun j d h => ?_)⟩
        rw [rngD_get h]
        exact .int _
def chD (z : Str) : List PyData := z.cps.toList.map fun c => .str ⟨#[c]⟩
theorem ew_str {z : Str} (h : Ev μ te Γ n (Eq (.str z))) : EvW μ (iStr te) Γ n (Eq (chD z)) := fun G0 H0 G c σ H R S l q =>
  h G0 H0 G c σ H _ S l fun d v G1 H1 p S1 e hd => by
    cases p
    cases hd
    refine ⟨z, rfl, q _ _ G1 H1 rfl S1 e ?_⟩
    have hl : (chD z).length = z.cps.size := by unfold chD; simp
    refine ⟨fun i H hi s p => (walk_str (z := z)).goes i H (by omega) trivial, fun H s p => by rw [hl]; exact (walk_str (z := z)).stops H trivial, fun i H G2 x H' hi s s1 p y => ?_⟩
    obtain ⟨e1, ch, hc, e2⟩ := (walk_str (z := z)).yields i H x H' (by omega) trivial y
    subst e1 e2
    refine ⟨G2, .str ⟨#[ch]⟩, ?_, Nw.refl _ _, s1, Same.refl _, .str _⟩
    unfold chD
    rw [List.getElem?_map, Array.getElem?_toList, hc]; rfl
end

/-! ### comprehensions -/
theorem Stt.of {μ : Mu} {G0 H0 G G' : Hp} {Γ Γ' : List Sl} {c c' : Nat} {σ σ' : L2.St} {H H' : Hp} (S : Stt μ G0 H0 G Γ c σ H) (e : Ext μ.M G H G' H') (S' : Stt μ G0 H0 G' Γ' c' σ' H') : Stt μ G0 H0 G' Γ c' σ H' := S.ext e.nw S'.sub e.fr S'.inv
theorem Ext.out {M : Addr → Prop} {G H G' H' : Hp} {p : Addr} {o : HO} (e : Ext M G H G' H') (g : G p = none) (h : H p = some o) : G' p = none := by
  cases z : G' p with
  | none => rfl
  | some u =>
    rcases e.nw.2 p (by rw [z]; simp) with q | q
    · exact absurd g q
    · rw [h] at q; cases q
section
variable {μ : Mu} {Γ : List Sl} {n k m : Nat} {te : TE} {tt : TT} {wi : TI} {g : TG} {vs is : List Nat}
/-- what stands between two turns of a comprehension: D holds what was made -/
structure LcW (μ : Mu) (G0 H0 G1 H1 : Hp) (Γ : List Sl) (c : Nat) (σ : L2.St) (D : Addr) (R : List PyData → Prop) (H' : Hp) : Prop where
  ex : ∃ G' es us, Stt μ G0 H0 G' Γ c σ H' ∧ Ext μ.M G1 H1 G' H' ∧ G' D = none ∧ H' D = some (.lst us) ∧ DtA G' us es ∧ R es
/-- the general rule: R i tells what was made in the first i turns, w how much was drawn -/
theorem ev_lcR {Pd : List PyData → Prop} {P : PyData → Prop} {w : Nat → Nat} (hi : EvI μ wi Γ n Pd) (hm : ∀ ds, Pd ds → ds.length ≤ 50000) (hv : ∀ i ∈ is, i ∈ vs) (R : List PyData → Nat → List PyData → Prop) (h0 : ∀ ds, Pd ds → R ds 0 []) (hw : ∀ i, w i ≤ w (i + 1)) (hwm : ∀ ds, Pd ds → w ds.length ≤ m)
    (hlen : ∀ ds i es, Pd ds → R ds i es → es.length ≤ i) (hend : ∀ ds es, Pd ds → R ds ds.length es → P (.list es))
    (ht : ∀ ds (i : Nat) d es, Pd ds → ds[i]? = some d → R ds i es → ∃ Γ' f k1 k2 Pe, EvG g d is (wipeG Γ vs) Γ' ∧ EvT μ tt Γ' k1 (Eq f) ∧ (f = true → Ev μ te Γ' k2 Pe ∧ (∀ e, Pe e → R ds (i + 1) (es ++ [e]))) ∧ (f = false → R ds (i + 1) es) ∧ w i + k1 + k2 ≤ w (i + 1)) :
    Ev μ (tLc wi g tt te vs) Γ (n + m) P := fun G0 H0 G c σ H Q S l q => by
  refine hi G0 H0 G c σ H _ S (by omega) fun ds J pins G1 H1 p S1 e1 wk hp => fun D hD => ?_
  have hml := hm ds p
  have hwm' := hwm ds p
  have hwmono : ∀ i j, i ≤ j → w i ≤ w j := fun i j hij => by
    induction hij with
    | refl => exact Nat.le_refl _
    | step _ ih => exact Nat.le_trans ih (hw _)
  have hMD : ¬ μ.M D := fun hm' => (S1.ent D hm').1 (S1.h0 hD)
  refine ⟨fun i left H' => left = ds.length - i ∧ i ≤ ds.length ∧ LcW μ G0 H0 G1 H1 Γ (c + n + w i) σ D (R ds i) H',
    ⟨ds.length, by omega, Nat.zero_le _, ⟨G1, [], [], ?_, .same (Nw.refl _ _) (Same.new hD), Same.free S1.sub hD, upd_same, .nil, h0 ds p⟩⟩, fun i left H' hW => ?_⟩
  · exact (S1.same (G' := G1) (H' := upd H1 D (.lst [])) (Nw.refl _ _) (S1.sub.trans (Same.new hD)) (Same.new hD)).up (by omega)
  · obtain ⟨rfl, hil, G2, es, us, S2, e2, gD, hH, hd, hR⟩ := hW
    have pin2 : ∀ p ∈ pins, H' p.1 = some p.2 := fun p' hp' => e2.fr _ _ (hp p' hp').1 (hp p' hp').2
    by_cases hi : i < ds.length
    · refine .inr ⟨wk.go i H' hi (e2.gg.trans S2.sub) pin2, LcW μ G0 H0 G1 H1 Γ (c + n + w (i + 1)) σ D (R ds (i + 1)), fun H'' z => ⟨ds.length - (i + 1), by omega, rfl, by omega, z⟩, fun x H3 y => ?_⟩
      obtain ⟨G3, d, hdd, nw, s3, s3', hx⟩ := wk.yld i H' G2 x H3 hi e2.gg S2.sub pin2 y
      obtain ⟨Γ', f, k1, k2, Pe, hg, htt, he, hf, hk⟩ := ht ds i d es p hdd hR
      have S3 := S2.same nw s3 s3'
      have e3 : Ext μ.M G2 H' G3 H3 := .same nw s3'
      have hwi := hwmono (i + 1) ds.length (by omega)
      refine hg μ G0 H0 G3 _ _ H3 x _ (S3.wipe vs) hx fun σ' S4 hwp => ⟨?_, ?_⟩
      · rw [hwp vs hv, wipe_wipe vs σ vs fun _ h => h]
      refine htt G0 H0 G3 _ σ' H3 _ S4 (by omega) fun b G5 H5 pb S5 e5 => ?_
      subst pb
      have e35 := e3.trans e5
      have hD5 : H5 D = some (.lst us) := e35.fr _ _ hMD hH
      have gD5 : G5 D = none := e35.out gD hH
      cases f with
      | true =>
        obtain ⟨hev, hRe⟩ := he rfl
        show te σ' H5 _
        refine hev G0 H0 G5 _ σ' H5 _ S5 (by omega) fun d6 v6 G6 H6 p6 S6 e6 hd6 => ?_
        have e36 := e35.trans e6
        have hD6 : H6 D = some (.lst us) := e6.fr _ _ hMD hD5
        have gD6 : G6 D = none := e6.out gD5 hD5
        have hlen' := hlen ds i es p hR
        have fresh : ∀ a o, G6 a = some o → a ≠ D := fun a o ha z => by rw [z, gD6] at ha; cases ha
        refine ⟨us, hD6, ?_, ⟨G6, es ++ [d6], us ++ [v6], ?_, ?_, gD6, upd_same, (hd.mono e36.gg).append (.one hd6), hRe d6 p6⟩⟩
        · rw [hd.length]
          exact Nat.lt_of_le_of_lt hlen' (Nat.lt_of_lt_of_le (show i < 50000 by omega) (by decide))
        · have Sx := (S2.of e36 S6).up (c' := c + n + w (i + 1)) (by omega)
          refine ⟨Sx.len, Sx.new, fun a o ha => by rw [upd_ne (fresh a o ha)]; exact Sx.sub a o ha, fun a o ha hh => ?_, Sx.ent, ?_, fun j s hs => ?_, Sx.dj⟩
          · have : a ≠ D := fun z => by
              subst z
              rw [S1.h0 hD] at hh; cases hh
            rw [upd_ne this]; exact Sx.fr a o ha hh
          · exact μ.st _ H6 _ (fun a o ha hh => by
              have na : a ≠ D := fun z => by rw [z] at ha; exact hMD ha
              rw [upd_ne na]; exact hh) Sx.inv
          · obtain ⟨o, ho, hok⟩ := Sx.sl j s hs
            refine ⟨o, ho, ?_⟩
            have hnD : ∀ q u, H1 q ≠ none → H6 q = some u → (upd H6 D (.lst (us ++ [v6]))) q = some u := fun q u ow hu => by
              have : q ≠ D := fun z => by
                subst z
                exact ow hD
              rw [upd_ne this]; exact hu
            cases s with
            | un => trivial
            | dat d => exact hok
            | raw v => exact hok
            | fz φ => exact hok
            | ow xs =>
              obtain ⟨o1, ho1, q1, u1, y1, y2, y3, y4, y5, y6⟩ := S1.sl j _ hs
              obtain ⟨q2, vs', z1, z2, z3, z4, z5, z6⟩ := hok
              subst z1
              rw [ho] at ho1
              cases ho1
              cases y1
              refine ⟨_, vs', rfl, z2, z3, hnD _ _ (by rw [y4]; simp) z4, z5, fun m a hm => ?_⟩
              obtain ⟨r, ws, b1, b2, b3, b4, b5⟩ := z6 m a hm
              obtain ⟨r', ws', _, _, _, c4, _⟩ := y6 m a hm
              exact ⟨r, ws, b1, b2, b3, hnD a _ (by rw [c4]; simp) b4, b5⟩
        · have ee := e2.trans e36
          refine ⟨ee.nw, fun a o ha hh => ?_, fun a ha => ?_⟩
          · rw [upd_ne (fun z => by subst z; rw [hD] at hh; cases hh)]; exact ee.fr a o ha hh
          · by_cases z : a = D
            · subst z; exact hD
            · rw [upd_ne z] at ha; exact ee.dm a ha
      | false =>
        show LcW _ _ _ _ _ _ _ _ _ _ _
        exact ⟨G5, es, us, (S2.of e35 S5).up (by omega), e2.trans e35, gD5, hD5, hd.mono e35.gg, hf rfl⟩
    · have ei : i = ds.length := by omega
      subst ei
      refine .inl ⟨wk.stop H' (e2.gg.trans S2.sub) pin2, ?_⟩
      -- the new list is frozen
      have hnew : Nw G1 H1 (upd G2 D (.lst us)) := ⟨e2.gg.trans (Same.new gD), fun a ha => by
        by_cases z : a = D
        · subst z; exact .inr hD
        · rw [upd_ne z] at ha; exact e2.nw.2 a ha⟩
      have hsub : Same (upd G2 D (.lst us)) H' := fun a o ha => by
        by_cases z : a = D
        · subst z; rw [upd_same] at ha; rw [hH]; exact ha
        · rw [upd_ne z] at ha; exact S2.sub a o ha
      have e4 : Ext μ.M G1 H1 (upd G2 D (.lst us)) H' := ⟨hnew, e2.fr, e2.dm⟩
      refine q _ _ _ H' (hend ds es p hR) ?_ (e1.trans e4) (.lst upd_same (hd.mono (Same.new gD)))
      exact S1.ext hnew hsub e2.fr (μ.up _ _ _ (by omega) S2.inv)
/-- each turn draws k at most and gives something of P -/
theorem ev_lcP {Pd : List PyData → Prop} {P : PyData → Prop} (hi : EvI μ wi Γ n Pd) (hm : ∀ ds, Pd ds → ds.length ≤ m) (hm2 : m ≤ 50000) (hv : ∀ i ∈ is, i ∈ vs)
    (ht : ∀ ds d, Pd ds → d ∈ ds → ∃ Γ', EvG g d is (wipeG Γ vs) Γ' ∧ Ev μ te Γ' k P) :
    Ev μ (tLc wi g tYes te vs) Γ (n + m * k) (fun d => ∃ es ds, d = .list es ∧ Pd ds ∧ es.length = ds.length ∧ ∀ e ∈ es, P e) :=
  ev_lcR (w := fun i => i * k) hi (fun ds p => Nat.le_trans (hm ds p) hm2) hv (fun ds i es => es.length = i ∧ ∀ e ∈ es, P e) (fun _ _ => ⟨rfl, by simp⟩) (fun i => Nat.mul_le_mul_right _ (Nat.le_succ _)) (fun ds p => Nat.mul_le_mul_right _ (hm ds p))
    (fun ds i es _ h => Nat.le_of_eq h.1) (fun ds es p h => ⟨es, ds, rfl, p, h⟩) fun ds i d es p hd hR => by
      obtain ⟨Γ', hg, he⟩ := ht ds d p (List.mem_of_getElem? hd)
      refine ⟨Γ', true, 0, k, P, hg, fun _ _ G c σ H Q S l q => q true G H rfl S (Ext.refl _ G H), fun _ => ⟨he, fun e pe => ⟨by rw [List.length_append, hR.1]; rfl, fun e' he' => ?_⟩⟩, (fun z => by cases z), by rw [Nat.add_mul]; omega⟩
      rcases List.mem_append.mp he' with z | z
      · exact hR.2 e' z
      · rw [List.mem_singleton.mp z]; exact pe
/-- no drawing: what is kept, what is made of it -/
theorem ev_lcE {ds : List PyData} (hi : EvI μ wi Γ n (Eq ds)) (hm : ds.length ≤ 50000) (hv : ∀ i ∈ is, i ∈ vs) (f : PyData → Bool) (h : PyData → PyData)
    (ht : ∀ d, d ∈ ds → ∃ Γ', EvG g d is (wipeG Γ vs) Γ' ∧ EvT μ tt Γ' 0 (Eq (f d)) ∧ (f d = true → Ev μ te Γ' 0 (Eq (h d)))) :
    Ev μ (tLc wi g tt te vs) Γ n (Eq (.list ((ds.filter f).map h))) := by
  have key := ev_lcR (w := fun _ => 0) (m := 0) (P := Eq (.list ((ds.filter f).map h))) hi (fun ds p => by cases p; exact hm) hv (fun ds' i es => es = ((ds'.take i).filter f).map h) (fun _ _ => rfl) (fun _ => Nat.le_refl _) (fun _ _ => Nat.le_refl _)
    (fun ds' i es _ e => by
      rw [e, List.length_map]
      exact Nat.le_trans (List.length_filter_le _ _) (by rw [List.length_take]; omega)) (fun ds' es p e => by cases p; rw [e, List.take_length]) fun ds' i d es p hd hR => by
      cases p
      obtain ⟨Γ', hg, h1, h2⟩ := ht d (List.mem_of_getElem? hd)
      have ht' : ds.take (i + 1) = ds.take i ++ [d] := by rw [List.take_add_one, hd]; rfl
      refine ⟨Γ', f d, 0, 0, Eq (h d), hg, h1, fun z => ⟨h2 z, fun e pe => ?_⟩, fun z => ?_, Nat.le_refl _⟩
      · rw [ht', List.filter_append, List.map_append, ← hR, ← pe]
        simp [z]
      · rw [ht', List.filter_append, List.map_append, ← hR]
        simp [z]
  exact key
theorem et_yes {Γ : List Sl} : EvT μ tYes Γ 0 (Eq true) := fun _ _ G c σ H Q S l q => q true G H rfl S (Ext.refl _ G H)
/-- .. everything is kept -/
theorem ev_lcM {ds : List PyData} (hi : EvI μ wi Γ n (Eq ds)) (hm : ds.length ≤ 50000) (hv : ∀ i ∈ is, i ∈ vs) (h : PyData → PyData)
    (ht : ∀ d, d ∈ ds → ∃ Γ', EvG g d is (wipeG Γ vs) Γ' ∧ Ev μ te Γ' 0 (Eq (h d))) : Ev μ (tLc wi g tYes te vs) Γ n (Eq (.list (ds.map h))) := by
  have := ev_lcE (tt := tYes) hi hm hv (fun _ => true) h fun d hd => let ⟨Γ', a, b⟩ := ht d hd; ⟨Γ', a, et_yes, fun _ => b⟩
  rw [List.filter_eq_self.mpr fun _ _ => rfl] at this
  exact this
end
end B

/-! B3: statements over data; promises; defs. -/
namespace B
open PySem PySem.Spec PyProof.Rows L2

structure Po where
  nx : List Sl → Nat → Prop
  rt : PyData → Nat → Prop
  bk : List Sl → Nat → Prop := fun _ _ => False
  ct : List Sl → Nat → Prop := fun _ _ => False
  /-- what must hold of the slots where it returns -/
  rg : List Sl → Prop := fun _ => True
  /-- what is known of the entry (of what may be raised) -/
  en : Hp → Hp → Prop := fun _ _ => True
/-- Gs: what was frozen ahead, and stays -/
structure Leads (μ : Mu) (G0 H0 Gs : Hp) (R : Po) (D : Ends) : Prop where
  nx : ∀ Γ c G σ H, R.nx Γ c → Stt μ G0 H0 G Γ c σ H → Same Gs G → D.nx σ H
  rt : ∀ Γ σ d c v G H, R.rt d c → R.rg Γ → Stt μ G0 H0 G Γ c σ H → Dt G v d → D.rt v H
  bk : ∀ Γ c G σ H, R.bk Γ c → Stt μ G0 H0 G Γ c σ H → Same Gs G → D.bk σ H
  ct : ∀ Γ c G σ H, R.ct Γ c → Stt μ G0 H0 G Γ c σ H → Same Gs G → D.ct σ H
  en : R.en G0 H0
def Go (μ : Mu) (ts : TS) (Γ : List Sl) (c : Nat) (R : Po) : Prop :=
  ∀ (G0 H0 Gs G : Hp) (σ : L2.St) (H : Hp) (D : Ends), Stt μ G0 H0 G Γ c σ H → Same Gs G → Leads μ G0 H0 Gs R D → ts D σ H
section
variable {μ : Mu} {Γ : List Sl} {c n : Nat} {R : Po} {t u ts : TS} {te : TE} {tt : TT} {wi : TI} {g : TG} {P : PyData → Prop} {i j : Nat} {is : List Nat}
theorem go_seq (h : Go μ t Γ c { R with nx := fun Γ' c' => Go μ u Γ' c' R }) : Go μ (tSeq t u) Γ c R := fun G0 H0 Gs G σ H D S gs L =>
  h G0 H0 Gs G σ H { D with nx := u D } S gs ⟨fun Γ' c' G' σ' H' q S' gs' => q G0 H0 Gs G' σ' H' D S' gs' L, L.rt, L.bk, L.ct, L.en⟩
theorem go_next (h : R.nx Γ c) : Go μ tNext Γ c R := fun G0 H0 Gs G σ H D S gs L => L.nx Γ c G σ H h S gs
theorem go_brk (h : R.bk Γ c) : Go μ tBreak Γ c R := fun G0 H0 Gs G σ H D S gs L => L.bk Γ c G σ H h S gs
theorem go_cont (h : R.ct Γ c) : Go μ tCont Γ c R := fun G0 H0 Gs G σ H D S gs L => L.ct Γ c G σ H h S gs
theorem go_asg (h : Ev μ te Γ n P) (hc : c + n ≤ CM) (k : ∀ d, P d → ∃ is Γ', EvG g d is Γ Γ' ∧ R.nx Γ' (c + n)) : Go μ (tAsg te g) Γ c R := fun G0 H0 Gs G σ H D S gs L =>
  h G0 H0 G c σ H _ S hc fun d v G1 H1 p S1 e1 d1 => by
    obtain ⟨is, Γ', hg, q⟩ := k d p
    exact hg μ G0 H0 G1 _ σ H1 v _ S1 d1 fun σ' S' _ => L.nx Γ' _ G1 σ' H1 q S' (gs.trans e1.gg)
theorem go_set (h : Ev μ te Γ n P) (hc : c + n ≤ CM) (k : ∀ d, P d → R.nx (Γ.set i (.dat d)) (c + n)) : Go μ (tAsg te (gName i)) Γ c R :=
  go_asg h hc fun d p => ⟨_, _, eg_name, k d p⟩
/-- x = e; the rest -/
theorem gs_set (h : Ev μ te Γ n P) (hc : c + n ≤ CM) (k : ∀ d, P d → Go μ u (Γ.set i (.dat d)) (c + n) R) : Go μ (tSeq (tAsg te (gName i)) u) Γ c R := go_seq (go_set h hc k)
theorem gs_setE {d : PyData} (h : Ev μ te Γ 0 (Eq d)) (hc : c ≤ CM) (k : Go μ u (Γ.set i (.dat d)) c R) : Go μ (tSeq (tAsg te (gName i)) u) Γ c R := gs_set h hc fun d' e => e ▸ k
theorem gs_asgE {d : PyData} {Γ' : List Sl} (h : Ev μ te Γ 0 (Eq d)) (hc : c ≤ CM) (hg : EvG g d is Γ Γ') (k : Go μ u Γ' c R) : Go μ (tSeq (tAsg te g) u) Γ c R := go_seq (go_asg h hc fun d' e => ⟨is, Γ', e ▸ hg, k⟩)
theorem go_drop (h : Ev μ te Γ n P) (hc : c + n ≤ CM) (k : R.nx Γ (c + n)) : Go μ (tDrop te) Γ c R := fun G0 H0 Gs G σ H D S gs L =>
  h G0 H0 G c σ H _ S hc fun d v G1 H1 p S1 e1 d1 => L.nx Γ _ G1 σ H1 k S1 (gs.trans e1.gg)
theorem go_ret (h : Ev μ te Γ n P) (hc : c + n ≤ CM) (k : ∀ d, P d → R.rt d (c + n)) (hg : R.rg Γ := by trivial) : Go μ (tRet te) Γ c R := fun G0 H0 Gs G σ H D S gs L =>
  h G0 H0 G c σ H _ S hc fun d v G1 H1 p S1 e1 d1 => L.rt Γ σ d _ v G1 H1 (k d p) hg S1 d1
theorem go_retE {d : PyData} (h : Ev μ te Γ 0 (Eq d)) (hc : c ≤ CM) (k : R.rt d c) (hg : R.rg Γ := by trivial) : Go μ (tRet te) Γ c R := go_ret h hc (fun d' e => e ▸ k) hg
theorem go_retN (k : R.rt .none c) (hg : R.rg Γ := by trivial) : Go μ tRetN Γ c R := fun G0 H0 Gs G σ H D S gs L => L.rt Γ σ .none c .non G H k hg S .non
theorem go_if {PB : Bool → Prop} (h : EvT μ tt Γ n PB) (hc : c + n ≤ CM) (h1 : PB true → Go μ t Γ (c + n) R) (h2 : PB false → Go μ u Γ (c + n) R) : Go μ (tIfS tt t u) Γ c R := fun G0 H0 Gs G σ H D S gs L =>
  h G0 H0 G c σ H _ S hc fun b G1 H1 p S1 e1 => by
    cases b with
    | true => exact iteT (h1 p G0 H0 Gs G1 σ H1 D S1 (gs.trans e1.gg) L)
    | false => exact iteF (h2 p G0 H0 Gs G1 σ H1 D S1 (gs.trans e1.gg) L)
theorem gs_if {PB : Bool → Prop} {v : TS} (h : EvT μ tt Γ n PB) (hc : c + n ≤ CM) (h1 : PB true → Go μ (tSeq t v) Γ (c + n) R) (h2 : PB false → Go μ (tSeq u v) Γ (c + n) R) : Go μ (tSeq (tIfS tt t u) v) Γ c R := fun G0 H0 Gs G σ H D S gs L =>
  h G0 H0 G c σ H _ S hc fun b G1 H1 p S1 e1 => by
    cases b with
    | true => exact iteT (h1 p G0 H0 Gs G1 σ H1 D S1 (gs.trans e1.gg) L)
    | false => exact iteF (h2 p G0 H0 Gs G1 σ H1 D S1 (gs.trans e1.gg) L)
/-- if t: suite; rest -/
theorem gs_when {PB : Bool → Prop} {v : TS} (h : EvT μ tt Γ n PB) (hc : c + n ≤ CM) (h1 : PB true → Go μ (tSeq t v) Γ (c + n) R) (h2 : PB false → Go μ v Γ (c + n) R) : Go μ (tSeq (tIfS tt t tNext) v) Γ c R :=
  gs_if h hc h1 fun p => go_seq (go_next (h2 p))
theorem gs_ret {v : TS} (h : Go μ (tRet te) Γ c R) : Go μ (tSeq (tRet te) v) Γ c R := go_seq (fun G0 H0 Gs G σ H D S gs L => h G0 H0 Gs G σ H { D with nx := fun _ _ => True } S gs ⟨fun _ _ _ _ _ _ _ _ => trivial, L.rt, L.bk, L.ct, L.en⟩)
theorem Go.up {c' : Nat} (h : Go μ ts Γ c' R) (hc : c ≤ c') : Go μ ts Γ c R := fun G0 H0 Gs G σ H D S gs L => h G0 H0 Gs G σ H D (S.up hc) gs L
theorem Go.imp {R' : Po} (h : Go μ ts Γ c R') (hn : ∀ Γ c, R'.nx Γ c → R.nx Γ c) (hr : ∀ d c, R'.rt d c → R.rt d c) (hb : ∀ Γ c, R'.bk Γ c → R.bk Γ c) (ht : ∀ Γ c, R'.ct Γ c → R.ct Γ c) (hrg : ∀ Γ, R'.rg Γ → R.rg Γ := by exact fun _ z => z) (hen : ∀ G0 H0, R.en G0 H0 → R'.en G0 H0 := by exact fun _ _ z => z) : Go μ ts Γ c R := fun G0 H0 Gs G σ H D S gs L =>
  h G0 H0 Gs G σ H D S gs ⟨fun Γ c G σ H q => L.nx Γ c G σ H (hn Γ c q), fun Γ σ d c v G H q g => L.rt Γ σ d c v G H (hr d c q) (hrg Γ g), fun Γ c G σ H q => L.bk Γ c G σ H (hb Γ c q), fun Γ c G σ H q => L.ct Γ c G σ H (ht Γ c q), hen _ _ L.en⟩

/-! ### own lists -/
/-- an own list is given up to the data -/
theorem Stt.freezeO {G0 H0 G : Hp} {σ : L2.St} {H : Hp} {k : Ow} {p : Addr} {u : HO} {d : PyData} (S : Stt μ G0 H0 G Γ c σ H) (h : Γ[i]? = some (.ow k)) (ho : σ[i]? = some (some (.ref p))) (h0 : H0 p = none) (g : G p = none) (hp : H p = some u) (hd : Dt (upd G p u) (.ref p) d) :
    Stt μ G0 H0 (upd G p u) (Γ.set i (.dat d)) c σ H := by
  have hl : i < Γ.length := (List.getElem?_eq_some_iff.mp h).1
  have hsub : Same (upd G p u) H := fun a o ha => by
    by_cases z : a = p
    · subst z; rw [upd_same] at ha; rw [hp]; exact ha
    · rw [upd_ne z] at ha; exact S.sub a o ha
  have oth : ∀ m q, Owns (Γ.set i (.dat d)) σ m q → Owns Γ σ m q := fun m q o => by
    obtain ⟨k', e, h'⟩ := o
    by_cases z : m = i
    · subst z
      rw [List.getElem?_set_self hl] at e
      cases e
    · rw [List.getElem?_set_ne (Ne.symm z)] at e
      exact ⟨k', e, h'⟩
  refine ⟨by rw [List.length_set]; exact S.len, ⟨S.new.1.trans (Same.new g), fun a ha => ?_⟩, hsub, S.fr, S.ent, S.inv, fun j s hj => ?_, fun j k q a b => ?_⟩
  · by_cases z : a = p
    · subst z; exact .inr h0
    · rw [upd_ne z] at ha; exact S.new.2 a ha
  · by_cases z : j = i
    · subst z
      rw [List.getElem?_set_self hl] at hj
      cases hj
      exact ⟨_, ho, .ref p, rfl, hd⟩
    · rw [List.getElem?_set_ne (Ne.symm z)] at hj
      obtain ⟨o, ho', hk⟩ := S.sl j s hj
      refine ⟨o, ho', ?_⟩
      have ne : ∀ q, Owns Γ σ j q → q ≠ p := fun q hq e => by
        subst e
        exact z (S.dj j i q hq ⟨k, h, .inl ho⟩)
      cases s with
      | un => trivial
      | dat d => obtain ⟨v, e, hv⟩ := hk; exact ⟨v, e, hv.mono (Same.new g)⟩
      | raw v => exact hk
      | fz φ => obtain ⟨v, e, hv⟩ := hk; exact ⟨v, e, fun G2 s2 => hv G2 ((Same.new g).trans s2)⟩
      | ow xs =>
        obtain ⟨q, us, e, a1, a2, a3, a4, a5⟩ := hk
        subst e
        refine ⟨q, us, rfl, a1, by rw [upd_ne (ne q ⟨_, hj, .inl ho'⟩)]; exact a2, a3, a4.mono (Same.new g), fun m b hb => ?_⟩
        obtain ⟨r, ws, b1, b2, b3, b4, b5⟩ := a5 m b hb
        exact ⟨r, ws, b1, b2, by rw [upd_ne (ne b ⟨_, hj, .inr (List.mem_of_getElem? hb)⟩)]; exact b3, b4, b5.mono (Same.new g)⟩
  · exact S.dj j k q (oth j q a) (oth k q b)
theorem Stt.freeze {G0 H0 G : Hp} {σ : L2.St} {H : Hp} {ds : List PyData} (S : Stt μ G0 H0 G Γ c σ H) (h : Γ[i]? = some (.own ds)) :
    ∃ p vs, σ[i]? = some (some (.ref p)) ∧ H0 p = none ∧ G p = none ∧ H p = some (.lst vs) ∧ DtA G vs ds ∧ Stt μ G0 H0 (upd G p (.lst vs)) (Γ.set i (.dat (.list ds))) c σ H := by
  obtain ⟨o, ho, p, u, rfl, h0, g, hp, ⟨vs, rfl, hd⟩, _⟩ := S.sl i _ h
  exact ⟨p, vs, ho, h0, g, hp, hd, S.freezeO h ho h0 g hp (.lst upd_same (hd.mono (Same.new g)))⟩
theorem go_freeze {ds : List PyData} (h : Γ[i]? = some (.own ds)) (k : Go μ ts (Γ.set i (.dat (.list ds))) c R) : Go μ ts Γ c R := fun G0 H0 Gs G σ H D S gs L => by
  obtain ⟨p, vs, _, _, g, _, _, S'⟩ := S.freeze h
  exact k G0 H0 Gs _ σ H D S' (gs.trans (Same.new g)) L
theorem DtM.toK {G : Hp} : ∀ {kvs : List (Key × V)} {es : List (Key × PyData)}, DtM G kvs es → DtK G kvs (es.map fun e => (keyD e.1, e.2))
  | _, _, .nil => .nil
  | _, _, .cons h r => .cons h (DtM.toK r)
/-- an own dict is given up to the data -/
theorem go_freezeD {es : List (Key × PyData)} (h : Γ[i]? = some (.map es)) (k : Go μ ts (Γ.set i (.dat (.dict (es.map fun e => (keyD e.1, e.2))))) c R) : Go μ ts Γ c R := fun G0 H0 Gs G σ H D S gs L => by
  obtain ⟨o, ho, p, u, rfl, h0, g, hp, ⟨kvs, rfl, hd⟩, _⟩ := S.sl i _ h
  exact k G0 H0 Gs _ σ H D (S.freezeO h ho h0 g hp (.dct upd_same (hd.mono (Same.new g)).toK)) (gs.trans (Same.new g)) L
/-- a new own thing at a slot -/
theorem Stt.newOw {G0 H0 G : Hp} {σ : L2.St} {H : Hp} {p : Addr} {u : HO} {k : Ow} (S : Stt μ G0 H0 G Γ c σ H) (hp : H p = none) (hd : OwOk G k p u) (hk : k.ins = [] := by rfl) : Stt μ G0 H0 G (Γ.set i (.ow k)) c (σ.set i (some (.ref p))) (upd H p u) := by
  have S1 := S.same (G' := G) (H' := upd H p u) (Nw.refl _ _) (S.sub.trans (Same.new hp)) (Same.new hp)
  refine S1.set ⟨p, u, rfl, S.h0 hp, Same.free S.sub hp, upd_same, hd, OwIn.none hk⟩ fun q o j hj ow => ?_
  have eq : q = p := by
    obtain ⟨k', e, h'⟩ := o
    have hi : i < Γ.length := by
      have := (List.getElem?_eq_some_iff.mp e).1
      rw [List.length_set] at this; exact this
    rw [List.getElem?_set_self hi] at e
    cases e
    rcases h' with h' | h'
    · rw [List.getElem?_set_self (by rw [S.len]; exact hi)] at h'
      cases h'; rfl
    · rw [hk] at h'; cases h'
  subst eq
  obtain ⟨xs, hx, h'⟩ := ow
  obtain ⟨o', ho', q', us, e, _, _, h1, _, h6⟩ := S.sl j _ hx
  subst e
  rcases h' with h' | h'
  · rw [h'] at ho'; cases ho'
    rw [hp] at h1; cases h1
  · obtain ⟨m, hm⟩ := List.getElem?_of_mem h'
    obtain ⟨r, vs, _, _, _, b4, _⟩ := h6 m q hm
    rw [hp] at b4; cases b4
theorem Stt.newOwn {G0 H0 G : Hp} {σ : L2.St} {H : Hp} {p : Addr} {vs : List V} {ds : List PyData} (S : Stt μ G0 H0 G Γ c σ H) (hp : H p = none) (hd : DtA G vs ds) : Stt μ G0 H0 G (Γ.set i (.own ds)) c (σ.set i (some (.ref p))) (upd H p (.lst vs)) :=
  S.newOw hp ⟨vs, rfl, hd⟩
theorem go_own0 (k : R.nx (Γ.set i (.own [])) c) : Go μ (tAsg (tLst tNil) (gName i)) Γ c R := fun G0 H0 Gs G σ H D S gs L =>
  ⟨Nat.zero_le _, fun p hp => L.nx _ _ G _ _ k (S.newOwn hp .nil) gs⟩
theorem go_map0 (k : R.nx (Γ.set i (.map [])) c) : Go μ (tAsg tDNewK (gName i)) Γ c R := fun G0 H0 Gs G σ H D S gs L =>
  fun p hp => L.nx _ _ G _ _ k (S.newOw hp ⟨[], rfl, .nil⟩) gs
/-- an own thing is changed -/
theorem Stt.putOw {G0 H0 G : Hp} {σ : L2.St} {H : Hp} {p : Addr} {u : HO} {k k' : Ow} (S : Stt μ G0 H0 G Γ c σ H) (h : Γ[i]? = some (.ow k)) (hs : σ[i]? = some (some (.ref p))) (hd : OwOk G k' p u) (hk : k'.ins = [] := by rfl) : Stt μ G0 H0 G (Γ.set i (.ow k')) c σ (upd H p u) := by
  obtain ⟨o, ho, p', us, rfl, h0, g, hp, _, _⟩ := S.sl i _ h
  rw [hs] at ho; cases ho
  have hl : i < Γ.length := (List.getElem?_eq_some_iff.mp h).1
  have hM : ¬ μ.M p := fun m => (S.ent p m).1 h0
  have oth : ∀ m q, Owns (Γ.set i (.ow k')) σ m q → Owns Γ σ m q := fun m q z => by
    obtain ⟨k1, e1, h1⟩ := z
    by_cases e : m = i
    · subst e
      rw [List.getElem?_set_self hl] at e1
      cases e1
      rcases h1 with h1 | h1
      · exact ⟨k, h, .inl h1⟩
      · rw [hk] at h1; cases h1
    · rw [List.getElem?_set_ne (Ne.symm e)] at e1
      exact ⟨k1, e1, h1⟩
  refine ⟨by rw [List.length_set]; exact S.len, S.new, fun a o ha => ?_, fun a o ha hh => ?_, S.ent, ?_, fun j s hj => ?_, fun j k q a b => S.dj j k q (oth j q a) (oth k q b)⟩
  · rw [upd_ne (fun z => by subst z; rw [g] at ha; cases ha)]; exact S.sub a o ha
  · rw [upd_ne (fun z => by subst z; rw [h0] at hh; cases hh)]; exact S.fr a o ha hh
  · exact μ.st _ H _ (fun a o ha hh => by
      have na : a ≠ p := fun z => by rw [z] at ha; exact hM ha
      rw [upd_ne na]; exact hh) S.inv
  · by_cases z : j = i
    · subst z
      rw [List.getElem?_set_self hl] at hj
      cases hj
      exact ⟨_, hs, p, u, rfl, h0, g, upd_same, hd, OwIn.none hk⟩
    · rw [List.getElem?_set_ne (Ne.symm z)] at hj
      obtain ⟨o, ho', hk1⟩ := S.sl j s hj
      refine ⟨o, ho', ?_⟩
      have ne : ∀ q, Owns Γ σ j q → q ≠ p := fun q hq e => by
        subst e
        exact z (S.dj j i q hq ⟨k, h, .inl hs⟩)
      cases s with
      | un => trivial
      | dat d => exact hk1
      | raw v => exact hk1
      | fz φ => exact hk1
      | ow xs =>
        obtain ⟨q, us, e, a1, a2, a3, a4, a5⟩ := hk1
        subst e
        refine ⟨q, us, rfl, a1, a2, by rw [upd_ne (ne q ⟨_, hj, .inl ho'⟩)]; exact a3, a4, fun m b hb => ?_⟩
        obtain ⟨r, ws, b1, b2, b3, b4, b5⟩ := a5 m b hb
        exact ⟨r, ws, b1, b2, b3, by rw [upd_ne (ne b ⟨_, hj, .inr (List.mem_of_getElem? hb)⟩)]; exact b4, b5⟩
/-- x.append(e) -/
theorem Stt.putOwn {G0 H0 G : Hp} {σ : L2.St} {H : Hp} {p : Addr} {vs : List V} {ds es : List PyData} (S : Stt μ G0 H0 G Γ c σ H) (h : Γ[i]? = some (.own es)) (hs : σ[i]? = some (some (.ref p))) (hd : DtA G vs ds) : Stt μ G0 H0 G (Γ.set i (.own ds)) c σ (upd H p (.lst vs)) :=
  S.putOw h hs ⟨vs, rfl, hd⟩
theorem Stt.owO {G0 H0 G : Hp} {σ : L2.St} {H : Hp} {k : Ow} (S : Stt μ G0 H0 G Γ c σ H) (h : Γ[i]? = some (.ow k)) : ∃ p u, σ[i]? = some (some (.ref p)) ∧ ¬ μ.M p ∧ H0 p = none ∧ G p = none ∧ H p = some u ∧ OwOk G k p u := by
  obtain ⟨o, ho, p, u, rfl, h0, g, hp, hd, _⟩ := S.sl i _ h
  exact ⟨p, u, ho, fun m => (S.ent p m).1 h0, h0, g, hp, hd⟩
theorem Stt.own {G0 H0 G : Hp} {σ : L2.St} {H : Hp} {ds : List PyData} (S : Stt μ G0 H0 G Γ c σ H) (h : Γ[i]? = some (.own ds)) : ∃ p vs, σ[i]? = some (some (.ref p)) ∧ ¬ μ.M p ∧ H p = some (.lst vs) ∧ DtA G vs ds := by
  obtain ⟨p, u, ho, hM, h0, g, hp, vs, rfl, hd⟩ := S.owO h
  exact ⟨p, vs, ho, hM, hp, hd⟩
theorem Stt.dct {G0 H0 G : Hp} {σ : L2.St} {H : Hp} {es : List (Key × PyData)} (S : Stt μ G0 H0 G Γ c σ H) (h : Γ[i]? = some (.map es)) : ∃ p kvs, σ[i]? = some (some (.ref p)) ∧ ¬ μ.M p ∧ H p = some (.dK kvs) ∧ DtM G kvs es := by
  obtain ⟨p, u, ho, hM, h0, g, hp, vs, rfl, hd⟩ := S.owO h
  exact ⟨p, vs, ho, hM, hp, hd⟩
theorem go_app {K : PySem.W.Frag} {ds : List PyData} (h : Γ[i]? = some (.own ds)) (he : Ev μ te Γ n P) (hl : ds.length ≤ 50000) (hc : c + n ≤ CM) (k : ∀ d, P d → R.nx (Γ.set i (.own (ds ++ [d]))) (c + n)) :
    Go μ (tDrop (tBM K "list" rAppend (tVar i) (tCons te tNil))) Γ c R := fun G0 H0 Gs G σ H D S gs L => by
  obtain ⟨p, vs, hs, hM, hp, hd⟩ := S.own h
  refine ⟨.ref p, hs, .inl ⟨rfl, _, SqL.of hp⟩, he G0 H0 G c σ H _ S hc fun d v G1 H1 pd S1 e1 d1 => ?_⟩
  have hp1 := e1.fr _ _ hM hp
  exact ⟨p, vs, v, rfl, rfl, hp1, by rw [hd.length]; exact Nat.lt_of_le_of_lt hl (by decide), L.nx _ _ G1 σ _ (k d pd) (S1.putOwn h hs ((hd.mono e1.gg).append (.one d1))) (gs.trans e1.gg)⟩
/-- x.extend(e), e a list of data -/
theorem go_ext {K : PySem.W.Frag} {ds : List PyData} (h : Γ[i]? = some (.own ds)) (he : Ev μ te Γ n P) (hl : ds.length ≤ 50000) (hP : ∀ d, P d → ∃ es, d = .list es ∧ es.length ≤ 50000) (hc : c + n ≤ CM) (k : ∀ es, P (.list es) → R.nx (Γ.set i (.own (ds ++ es))) (c + n)) :
    Go μ (tDrop (tBM K "list" (fun x vs H Q => ∃ l b xs zs, x = .ref l ∧ vs = [.ref b] ∧ H l = some (.lst xs) ∧ H b = some (.lst zs) ∧ xs.length + zs.length ≤ sizeLine ∧ Q .non (upd H l (.lst (xs ++ zs)))) (tVar i) (tCons te tNil))) Γ c R := fun G0 H0 Gs G σ H D S gs L => by
  obtain ⟨p, vs, hs, hM, hp, hd⟩ := S.own h
  refine ⟨.ref p, hs, .inl ⟨rfl, _, SqL.of hp⟩, he G0 H0 G c σ H _ S hc fun d v G1 H1 pd S1 e1 d1 => ?_⟩
  have hp1 := e1.fr _ _ hM hp
  obtain ⟨es, rfl, hle⟩ := hP d pd
  cases d1 with
  | lst a r =>
    refine ⟨p, _, vs, _, rfl, rfl, hp1, S1.sub _ _ a, ?_, L.nx _ _ G1 σ _ (k es pd) (S1.putOwn h hs ((hd.mono e1.gg).append r)) (gs.trans e1.gg)⟩
    rw [hd.length, r.length]
    exact Nat.le_trans (Nat.add_le_add hl hle) (by decide)

/-! ### loops -/
theorem go_for {Pd : List PyData → Prop} (hi : EvW μ wi Γ n Pd) (hc : c + n ≤ CM) (hk : ∀ ds, Pd ds → ∃ J : Nat → List Sl → Nat → Prop, J 0 Γ (c + n) ∧
      (∀ (i : Nat) d Γ' c', ds[i]? = some d → J i Γ' c' → ∃ is Γ'', EvG g d is Γ' Γ'' ∧ Go μ ts Γ'' c' { R with nx := J (i + 1), ct := J (i + 1), bk := R.nx }) ∧ ∀ Γ' c', J ds.length Γ' c' → R.nx Γ' c') :
    Go μ (tFor wi g ts) Γ c R := fun G0 H0 Gs G σ H D S gs L =>
  hi G0 H0 G c σ H _ S hc fun ds J G1 H1 p S1 e1 w => by
    obtain ⟨Jv, h0, hs, hd⟩ := hk ds p
    refine ⟨fun i left σ' H' => left = ds.length - i ∧ i ≤ ds.length ∧ ∃ Γ' c' G', Jv i Γ' c' ∧ Stt μ G0 H0 G' Γ' c' σ' H' ∧ Same G1 G', ⟨ds.length, by omega, Nat.zero_le _, Γ, _, G1, h0, S1, Same.refl _⟩, fun i left σ' H' hW => ?_⟩
    obtain ⟨rfl, hil, Γ', c', G2, hJ, S2, e2⟩ := hW
    by_cases hi : i < ds.length
    · refine .inr ⟨w.go i H' hi (e2.trans S2.sub) (by simp), fun σ'' H'' => ∃ Γ' c' G', Jv (i + 1) Γ' c' ∧ Stt μ G0 H0 G' Γ' c' σ'' H'' ∧ Same G1 G', fun σ'' H'' z => ⟨ds.length - (i + 1), by omega, rfl, by omega, z⟩, fun x H3 y => ?_⟩
      obtain ⟨G3, d, hdd, nw, s3, s3', hx⟩ := w.yld i H' G2 x H3 hi e2 S2.sub (by simp) y
      obtain ⟨is, Γ'', hg, hgo⟩ := hs i d Γ' c' hdd hJ
      have S3 := S2.same nw s3 s3'
      refine hg μ G0 H0 G3 c' σ' H3 x _ S3 hx fun σ4 S4 _ => ?_
      refine hgo G0 H0 G1 G3 σ4 H3 _ S4 (e2.trans nw.1) ⟨fun Γ5 c5 G5 σ5 H5 q S5 g5 => ⟨Γ5, c5, G5, q, S5, g5⟩, L.rt, fun Γ5 c5 G5 σ5 H5 q S5 g5 => L.nx Γ5 c5 G5 σ5 H5 q S5 ((gs.trans e1.gg).trans g5), fun Γ5 c5 G5 σ5 H5 q S5 g5 => ⟨Γ5, c5, G5, q, S5, g5⟩, L.en⟩
    · have ei : i = ds.length := by omega
      subst ei
      exact .inl ⟨w.stop H' (e2.trans S2.sub) (by simp), L.nx Γ' c' G2 σ' H' (hd Γ' c' hJ) S2 ((gs.trans e1.gg).trans e2)⟩
/-- while: W with its measure -/
theorem go_while (W : Nat → List Sl → Nat → Prop) (m0 : Nat) (h0 : W m0 Γ c) (hs : ∀ m Γ' c', W m Γ' c' → ∃ n b, EvT μ tt Γ' n (Eq b) ∧ c' + n ≤ CM ∧
      (b = true → Go μ ts Γ' (c' + n) { R with nx := fun Γ2 c2 => ∃ m', m' < m ∧ W m' Γ2 c2, ct := fun Γ2 c2 => ∃ m', m' < m ∧ W m' Γ2 c2, bk := R.nx }) ∧ (b = false → R.nx Γ' (c' + n))) :
    Go μ (tWhile tt ts) Γ c R := fun G0 H0 Gs G σ H D S gs L => by
  refine ⟨fun m σ' H' => ∃ Γ' c' G', W m Γ' c' ∧ Stt μ G0 H0 G' Γ' c' σ' H' ∧ Same Gs G', ⟨m0, Γ, c, G, h0, S, gs⟩, fun m σ' H' hW => ?_⟩
  obtain ⟨Γ', c', G2, hw, S2, e2⟩ := hW
  obtain ⟨n, b, ht, hc, h1, h2⟩ := hs m Γ' c' hw
  refine ht G0 H0 G2 c' σ' H' _ S2 hc fun b' G3 H3 pb S3 e3 => ?_
  subst pb
  cases b with
  | true =>
    refine iteT ⟨fun σ5 H5 => ∃ m', m' < m ∧ ∃ Γ' c' G', W m' Γ' c' ∧ Stt μ G0 H0 G' Γ' c' σ5 H5 ∧ Same Gs G', fun σ5 H5 ⟨m', hm, z⟩ => ⟨m', hm, z⟩, ?_⟩
    refine h1 rfl G0 H0 Gs G3 σ' H3 _ S3 (e2.trans e3.gg) ⟨fun Γ5 c5 G5 σ5 H5 q S5 g5 => ?_, L.rt, L.nx, fun Γ5 c5 G5 σ5 H5 q S5 g5 => ?_, L.en⟩
    · obtain ⟨m', hm, z⟩ := q; exact ⟨m', hm, Γ5, c5, G5, z, S5, g5⟩
    · obtain ⟨m', hm, z⟩ := q; exact ⟨m', hm, Γ5, c5, G5, z, S5, g5⟩
  | false => exact iteF (L.nx Γ' _ G3 σ' H3 (h2 rfl) S3 (e2.trans e3.gg))
end

/-! ### promises -/
/-- a def that changes nothing: data in, data out -/
def spP (pre : List PyData → Prop) (post : List PyData → PyData → Prop) : Sp := fun vs H Q _ => ∃ G ds, Same G H ∧ DtA G vs ds ∧ pre ds ∧ ∀ d v G' H', post ds d → Nw G H G' → Same G' H' → Same H H' → Dt G' v d → Q v H'
/-- the box: three ints, the third counts -/
def BoxAt (b : Addr) (c : Nat) (H : Hp) : Prop := ∃ f s n : Int, H b = some (.lst [.int f, .int s, .int n]) ∧ 0 ≤ f ∧ f < 10 ^ 300 ∧ 0 ≤ s ∧ s < 2 ^ 61 ∧ 0 ≤ n ∧ n ≤ c
def boxMu (b : Addr) : Mu := ⟨fun a => a = b, BoxAt b, fun c H H' h ⟨f, s, n, e, r⟩ => ⟨f, s, n, h b _ rfl e, r⟩, fun c H a ⟨f, s, n, e, _⟩ m => by
  have m' : a = b := m
  subst m'
  rw [e]; simp, fun c c' H h ⟨f, s, n, e, r1, r2, r3, r4, r5, r6⟩ => ⟨f, s, n, e, r1, r2, r3, r4, r5, by omega⟩⟩
/-- a def that draws k numbers at most from the box, its first argument -/
def spB (k : Nat) (pre : List PyData → Prop) (post : List PyData → PyData → Prop) : Sp := fun vs H Q _ => ∃ b ws c G ds, vs = .ref b :: ws ∧ Same G H ∧ G b = none ∧ BoxAt b c H ∧ c + k ≤ CM ∧ DtA G ws ds ∧ pre ds ∧
  ∀ d v G' H', post ds d → Ext (fun a => a = b) G H G' H' → Same G' H' → BoxAt b (c + k) H' → Dt G' v d → Q v H'
section
variable {μ : Mu} {Γ : List Sl} {n k : Nat} {ta tk : TA} {E : XK} {P : List PyData → Prop} {pre : List PyData → Prop} {post : List PyData → PyData → Prop} {b : Addr} {i : Nat}
theorem ev_call (ha : EvA μ ta Γ n P) (hp : ∀ xs, P xs → pre xs) : Ev μ (tCall (spP pre post) [] E ta) Γ n (fun d => ∃ xs, P xs ∧ post xs d) := fun G0 H0 G c σ H Q S l q =>
  ha G0 H0 G c σ H _ S l fun xs vs G1 H1 p S1 e1 d1 => ⟨G1, xs, S1.sub, by rw [List.append_nil]; exact d1, hp xs p, fun d v G' H' po nw s s' hd => q d v G' H' ⟨xs, p, po⟩ (S1.same nw s s') (e1.trans (.same nw s')) hd⟩
theorem ev_callE {xs : List PyData} {d : PyData} (ha : EvA μ ta Γ n (Eq xs)) (hp : pre xs) (hd : ∀ e, post xs e → d = e) : Ev μ (tCall (spP pre post) [] E ta) Γ n (Eq d) := (ev_call ha fun _ e => e ▸ hp).imp fun d ⟨ys, e, po⟩ => hd d (e ▸ po)
theorem ev_callK {gV : List V → List V → List V} {xs ys zs : List PyData} {n' : Nat} (ha : EvA μ ta Γ n (Eq xs)) (hk : EvA μ tk Γ n' (Eq ys)) (hg : ∀ G vs ws, DtA G vs xs → DtA G ws ys → DtA G (gV vs ws) zs) (hp : pre zs) : Ev μ (tCallK (spP pre post) gV E ta tk) Γ (n + n') (fun d => post zs d) := fun G0 H0 G c σ H Q S l q =>
  ha G0 H0 G c σ H _ S (by omega) fun xs' vs G1 H1 p S1 e1 d1 => hk G0 H0 G1 _ σ H1 _ S1 (by omega) fun ys' ws G2 H2 p2 S2 e2 d2 => by
    cases p; cases p2
    rw [Nat.add_assoc] at S2
    exact ⟨G2, zs, S2.sub, hg G2 vs ws (d1.mono e2.gg) d2, hp, fun d v G' H' po nw s s' hd => q d v G' H' po (S2.same nw s s') ((e1.trans e2).trans (.same nw s')) hd⟩
theorem ev_callB (hi : Γ[i]? = some (.raw (.ref b))) (ha : EvA (boxMu b) ta Γ n P) (hp : ∀ xs, P xs → pre xs) : Ev (boxMu b) (tCall (spB k pre post) [] E (tCons (tVar i) ta)) Γ (n + k) (fun d => ∃ xs, P xs ∧ post xs d) := fun G0 H0 G c σ H Q S l q =>
  ⟨.ref b, S.raw hi, ha G0 H0 G c σ H _ S (by omega) fun xs vs G1 H1 p S1 e1 d1 => by
    refine ⟨b, vs, c + n, G1, xs, by rw [List.append_nil], S1.sub, S1.gM (rfl : b = b), S1.inv, by omega, d1, hp xs p, fun d v G' H' po e s bx hd => ?_⟩
    rw [Nat.add_assoc] at bx
    exact q d v G' H' ⟨xs, p, po⟩ (S1.ext e.nw s e.fr bx) (e1.trans e) hd⟩
theorem ev_callB1 (hi : Γ[i]? = some (.raw (.ref b))) (hp : pre []) : Ev (boxMu b) (tCall (spB k pre post) [] E (tCons (tVar i) tNil)) Γ k (fun d => post [] d) := by
  have := ev_callB (post := post) (k := k) (E := E) hi ea_nil (pre := pre) fun _ e => e ▸ hp
  rw [Nat.zero_add] at this
  exact this.imp fun d ⟨xs, e, po⟩ => e ▸ po
end

/-! ### defs -/
def datΓ (N : List Str) (ds : List PyData) : List Sl := ds.map .dat ++ List.replicate (N.length - ds.length) .un
theorem start_ok {μ : Mu} {N : List Str} {G H : Hp} {vs : List V} {ds : List PyData} (pre : List V) (pres : List Sl) (hpl : pre.length = pres.length) (hraw : ∀ (i : Nat) s, pres[i]? = some s → ∃ v, pre[i]? = some v ∧ s = .raw v)
    (s : Same G H) (hM : ∀ a, μ.M a → H a ≠ none ∧ G a = none) {c : Nat} (hI : μ.I c H) (hd : DtA G vs ds) :
    Stt μ G H G (pres ++ ds.map .dat ++ List.replicate (N.length - (pre ++ vs).length) .un) c (start N (pre ++ vs)) H := by
  have hl := hd.length
  have get : ∀ (i : Nat) s, (pres ++ ds.map Sl.dat ++ List.replicate (N.length - (pre ++ vs).length) Sl.un)[i]? = some s → ∃ o, (start N (pre ++ vs))[i]? = some o ∧ SlOk G H H s o ∧ ((∃ d, s = .dat d) ∨ s = .un ∨ ∃ v, s = .raw v) := by
    intro i s hs
    unfold L2.start
    by_cases h1 : i < pres.length
    · rw [List.append_assoc, List.getElem?_append_left h1] at hs
      obtain ⟨v, hv, rfl⟩ := hraw i s hs
      refine ⟨some v, ?_, rfl, .inr (.inr ⟨v, rfl⟩)⟩
      rw [List.getElem?_append_left (by simp; omega), List.getElem?_map, List.getElem?_append_left (by omega), hv]; rfl
    · by_cases h2 : i < pres.length + ds.length
      · rw [List.getElem?_append_left (by simpa using h2), List.getElem?_append_right (by omega), List.getElem?_map] at hs
        cases hq : ds[i - pres.length]? with
        | none => rw [hq] at hs; cases hs
        | some d =>
          rw [hq] at hs; cases hs
          obtain ⟨v, hv, hdv⟩ := hd.getD hq
          refine ⟨some v, ?_, ⟨v, rfl, hdv⟩, .inl ⟨d, rfl⟩⟩
          rw [List.getElem?_append_left (by simp; omega), List.getElem?_map, List.getElem?_append_right (by omega), hpl, hv]; rfl
      · rw [List.getElem?_append_right (by simp; omega)] at hs
        rw [List.getElem?_replicate] at hs
        split at hs
        · rename_i hr
          cases hs
          refine ⟨none, ?_, trivial, .inr (.inl rfl)⟩
          rw [List.getElem?_append_right (by simp; omega), List.getElem?_replicate, if_pos]
          simp at hr ⊢
          omega
        · cases hs
  refine ⟨?_, Nw.refl _ _, s, Fr.refl _ _, hM, hI, fun i s hs => let ⟨o, a, b, _⟩ := get i s hs; ⟨o, a, b⟩, fun i j p a b => ?_⟩
  · unfold L2.start
    simp
    omega
  · obtain ⟨xs, hx, _⟩ := a
    obtain ⟨o, _, _, h⟩ := get i _ hx
    rcases h with ⟨d, e⟩ | e | ⟨v, e⟩ <;> cases e
section
variable {P : Program} {w : World} {K : PySem.W.Frag} {mg : Str → Option Value} {base : Heap}
/-- a pure def: its body over data -/
theorem ok_pure {x qual : Str} {st : Stmt} {f : Addr} {fd : FuncData} {N ps : List Str} {k : Nat} {pre : List PyData → Prop} {post : List PyData → PyData → Prop} (F : Fun K x qual st f fd) (S : FnScope N ps (defScope st)) (hlen : ∀ ds, pre ds → ds.length = ps.length)
    (body : ∀ (cdv : Value) (A : Around) (fs : List Env) (s : Shared) (H : Hp) (E : XK), A.guards = some [] → Room k (A.deeper (envOfC qual (defScope st) s.heap.objs.size f cdv)) →
      ∃ t, PSs (cxOf CX0 P w K mg base N qual (defScope st) f cdv A fs s H E).nox (defBody st) t ∧ ∀ ds, pre ds → Go pureMu t (ds.map .dat ++ List.replicate (N.length - ps.length) .un) 0 { nx := fun _ _ => post ds .none, rt := fun d _ => post ds d }) :
    FnG P w K mg base CX0 (k + 1) f fd ps (spP pre post) := by
  refine Fun.okN F S (fun vs H Q E ⟨G, ds, _, hd, hp, _⟩ => hd.length.trans (hlen ds hp)) fun cdv A fs s H vs Q E hg hr ⟨G, ds, sG, hd, hp, q⟩ => ?_
  obtain ⟨t, ht, go⟩ := body cdv A fs s H E hg hr
  refine ⟨t, ht, ?_⟩
  have S0 := start_ok (μ := pureMu) (N := N) (c := 0) [] [] rfl (by simp) sG (fun a m => m.elim) trivial hd
  simp only [List.nil_append] at S0
  rw [hd.length, hlen ds hp] at S0
  refine go ds hp G H G G _ H _ S0 (Same.refl _) ⟨fun Γ c G' σ H' po S' _ => ?_, fun Γ σ d c v G' H' po _ S' hd' => ?_, fun _ _ _ _ _ z => z.elim, fun _ _ _ _ _ z => z.elim, trivial⟩
  · exact q .none .non G' H' po S'.new S'.sub (fun a o e => S'.fr a o (fun z => z) e) .non
  · exact q d v G' H' po S'.new S'.sub (fun a o e => S'.fr a o (fun z => z) e) hd'
/-- a def that draws -/
theorem ok_draw {x qual : Str} {st : Stmt} {f : Addr} {fd : FuncData} {N ps : List Str} {k n : Nat} {p0 : Str} {pre : List PyData → Prop} {post : List PyData → PyData → Prop} (F : Fun K x qual st f fd) (S : FnScope N (p0 :: ps) (defScope st)) (hlen : ∀ ds, pre ds → ds.length = ps.length)
    (body : ∀ (cdv : Value) (A : Around) (fs : List Env) (s : Shared) (H : Hp) (E : XK), A.guards = some [] → Room k (A.deeper (envOfC qual (defScope st) s.heap.objs.size f cdv)) →
      ∃ t, PSs (cxOf CX0 P w K mg base N qual (defScope st) f cdv A fs s H E).nox (defBody st) t ∧ ∀ b c ds, c + n ≤ CM → pre ds → Go (boxMu b) t (.raw (.ref b) :: ds.map .dat ++ List.replicate (N.length - (ps.length + 1)) .un) c { nx := fun _ c' => c' ≤ c + n ∧ post ds .none, rt := fun d c' => c' ≤ c + n ∧ post ds d }) :
    FnG P w K mg base CX0 (k + 1) f fd (p0 :: ps) (spB n pre post) := by
  refine Fun.okN F S (fun vs H Q E ⟨b, ws, c, G, ds, e, _, _, _, _, hd, hp, _⟩ => by rw [e, List.length_cons, List.length_cons, hd.length, hlen ds hp]) fun cdv A fs s H vs Q E hg hr ⟨b, ws, c, G, ds, e, sG, gb, bx, hc, hd, hp, q⟩ => ?_
  subst e
  obtain ⟨t, ht, go⟩ := body cdv A fs s H E hg hr
  refine ⟨t, ht, ?_⟩
  have S0 := start_ok (μ := boxMu b) (N := N) (c := c) [.ref b] [.raw (.ref b)] rfl (fun i s hs => by
    cases i with
    | zero => cases hs; exact ⟨_, rfl, rfl⟩
    | succ i => simp at hs) sG (fun a m => by
      have m' : a = b := m
      subst m'
      exact ⟨(boxMu a).dom c H a bx rfl, gb⟩) bx hd
  simp only [List.singleton_append] at S0
  rw [List.length_cons, hd.length, hlen ds hp] at S0
  have fin : ∀ {d c' v G' H'}, c' ≤ c + n → post ds d → Stt (boxMu b) G H G' [] c' [] H' → Dt G' v d → Q v H' := fun {d c' v G' H'} hle po S' hd' =>
    q d v G' H' po ⟨S'.new, S'.fr, fun a h => S'.h0 h⟩ S'.sub ((boxMu b).up _ _ _ hle S'.inv) hd'
  exact go b c ds hc hp G H G G _ H _ S0 (Same.refl _) ⟨fun Γ c G' σ H' po S' _ => fin po.1 po.2 S'.nil .non, fun Γ σ d c v G' H' po _ S' hd' => fin po.1 po.2 S'.nil hd', fun _ _ _ _ _ z => z.elim, fun _ _ _ _ _ z => z.elim, trivial⟩
end
end B

/-! B4: operations over data. -/
namespace B
open PySem PySem.Spec PyProof.Rows L2

section
variable {μ : Mu} {Γ : List Sl} {n n1 n2 n3 : Nat} {P P1 P2 : PyData → Prop} {ta tb te : TE} {t u : TT} {x y z d : PyData} {r : R2} {K : PySem.W.Frag}
/-! ### ints -/
theorem rd_I0 {g : Int → Int → Int} {i j : Int} : RD (rI0 fun i j => .int (g i j)) (.int i) (.int j) (.int (g i j)) := fun G H v w Q s hv hw q => by
  cases hv; cases hw
  exact ⟨i, j, rfl, rfl, q _ G H (Nw.refl _ _) s (Same.refl _) (.int _)⟩
theorem rd_B0 {g : Int → Int → Bool} {i j : Int} : RD (rI0 fun i j => .bl (g i j)) (.int i) (.int j) (.bool (g i j)) := fun G H v w Q s hv hw q => by
  cases hv; cases hw
  exact ⟨i, j, rfl, rfl, q _ G H (Nw.refl _ _) s (Same.refl _) (.bl _)⟩
theorem rd_I {C : Int → Int → Prop} {g : Int → Int → Int} {i j : Int} (h : C i j) : RD (rI C fun i j => .int (g i j)) (.int i) (.int j) (.int (g i j)) := fun G H v w Q s hv hw q => by
  cases hv; cases hw
  exact ⟨i, j, rfl, rfl, h, q _ G H (Nw.refl _ _) s (Same.refl _) (.int _)⟩
theorem ru_U {g : Int → Int} {i : Int} : RU (rU fun i => .int (g i)) (.int i) (.int (g i)) := fun G H v Q s hv q => by
  cases hv
  exact ⟨i, rfl, q _ G H (Nw.refl _ _) s (Same.refl _) (.int _)⟩
theorem ev_add {i j : Int} (ha : Ev μ ta Γ n1 (Eq (.int i))) (hb : Ev μ tb Γ n2 (Eq (.int j))) : Ev μ (tOp (rI0 fun i j => .int (i + j)) ta tb) Γ (n1 + n2) (Eq (.int (i + j))) := ev_op ha hb rd_I0
theorem ev_sub {i j : Int} (ha : Ev μ ta Γ n1 (Eq (.int i))) (hb : Ev μ tb Γ n2 (Eq (.int j))) : Ev μ (tOp (rI0 fun i j => .int (i - j)) ta tb) Γ (n1 + n2) (Eq (.int (i - j))) := ev_op ha hb rd_I0
theorem ev_neg {i : Int} (ha : Ev μ ta Γ n (Eq (.int i))) : Ev μ (tUn (rU fun i => .int (-i)) ta) Γ n (Eq (.int (-i))) := ev_un ha ru_U
theorem ev_pow {i j : Int} (ha : Ev μ ta Γ n1 (Eq (.int i))) (hb : Ev μ tb Γ n2 (Eq (.int j))) (h : CPow i j) : Ev μ (tOp (rI CPow fun i j => .int (i ^ j.toNat)) ta tb) Γ (n1 + n2) (Eq (.int (i ^ j.toNat))) := ev_op ha hb (rd_I h)
theorem ev_mul {i j : Int} (ha : Ev μ ta Γ n1 (Eq (.int i))) (hb : Ev μ tb Γ n2 (Eq (.int j))) (h : CMul i j) : Ev μ (tOp (rI CMul fun i j => .int (i * j)) ta tb) Γ (n1 + n2) (Eq (.int (i * j))) := ev_op ha hb (rd_I h)
/-! ### equality -/
theorem rd_eqS {a b : Str} : RD rEq (.str a) (.str b) (.bool (a == b)) := fun G H v w Q s hv hw q => by
  cases hv; cases hw
  exact ⟨rfl, by rw [dec_str]; exact q _ G H (Nw.refl _ _) s (Same.refl _) (.bl _)⟩
theorem rd_eqI {a b : Int} : RD rEq (.int a) (.int b) (.bool (a == b)) := fun G H v w Q s hv hw q => by
  cases hv; cases hw
  exact ⟨rfl, by rw [dec_int]; exact q _ G H (Nw.refl _ _) s (Same.refl _) (.bl _)⟩
theorem rd_eqB {a b : Bool} : RD rEq (.bool a) (.bool b) (.bool (a == b)) := fun G H v w Q s hv hw q => by
  cases hv; cases hw
  exact ⟨rfl, by rw [dec_bl]; exact q _ G H (Nw.refl _ _) s (Same.refl _) (.bl _)⟩
mutual
theorem Dt.dp {G H : Hp} (s : Same G H) : ∀ {v : V} {d : PyData}, Dt G v d → d.canLay0 = true → Dp K H v d
  | _, _, .non, _ => .non
  | _, _, .bl b, _ => .bl b
  | _, _, .int i, _ => .int i
  | _, _, .str x, _ => .str x
  | _, _, .lst h r, c => .lst (SqL.of (s _ _ h)) (DtA.dp s r (by simpa [PyData.canLay0] using c))
  | _, _, .tup h r, c => .tup (h.sq s) (DtA.dp s r (by simpa [PyData.canLay0] using c))
  | _, _, .dct h r, c => by simp [PyData.canLay0] at c
theorem DtA.dp {G H : Hp} (s : Same G H) : ∀ {vs : List V} {ds : List PyData}, DtA G vs ds → PyData.canLayAll0 ds = true → DpAll K H vs ds
  | _, _, .nil, _ => .nil
  | _, d :: ds, .cons h r, c => by
    have c' : d.canLay0 = true ∧ PyData.canLayAll0 ds = true := by simpa [PyData.canLayAll0] using c
    exact .cons (Dt.dp s h c'.1) (DtA.dp s r c'.2)
end
theorem rd_eqD (hx : SeqAt.shaped x = true) (hy : SeqAt.shaped y = true) : RD (rEqD K) x y (.bool (PyData.eqv x y)) := fun G H v w Q s hv hw q =>
  ⟨x, y, hv.dp s (SeqAt.canLay_of_shaped hx), hw.dp s (SeqAt.canLay_of_shaped hy), hx, hy, q _ G H (Nw.refl _ _) s (Same.refl _) (.bl _)⟩
theorem rd_neD (hx : SeqAt.shaped x = true) (hy : SeqAt.shaped y = true) : RD (rNeD K) x y (.bool (!PyData.eqv x y)) := fun G H v w Q s hv hw q =>
  ⟨x, y, hv.dp s (SeqAt.canLay_of_shaped hx), hw.dp s (SeqAt.canLay_of_shaped hy), hx, hy, q _ G H (Nw.refl _ _) s (Same.refl _) (.bl _)⟩
theorem ev_eqD (ha : Ev μ ta Γ n1 (Eq x)) (hb : Ev μ tb Γ n2 (Eq y)) (hx : SeqAt.shaped x = true) (hy : SeqAt.shaped y = true) : Ev μ (tOp (rEqD K) ta tb) Γ (n1 + n2) (Eq (.bool (PyData.eqv x y))) := ev_op ha hb (rd_eqD hx hy)
theorem ev_neD (ha : Ev μ ta Γ n1 (Eq x)) (hb : Ev μ tb Γ n2 (Eq y)) (hx : SeqAt.shaped x = true) (hy : SeqAt.shaped y = true) : Ev μ (tOp (rNeD K) ta tb) Γ (n1 + n2) (Eq (.bool (!PyData.eqv x y))) := ev_op ha hb (rd_neD hx hy)
/-! ### what a thing is -/
def tyD : PyData → String
  | .none => "NoneType" | .bool _ => "bool" | .int _ => "int" | .str _ => "str" | .list _ => "list" | .tuple _ => "tuple" | .dict _ => "dict"
def isT (T a : String) : Bool := a == T || (T == "int" && a == "bool")
def isD (T : String) (d : PyData) : Bool := isT T (tyD d)
def tyNames : List String := ["NoneType", "bool", "int", "str", "list", "tuple", "dict"]
theorem tyD_mem (d : PyData) : tyD d ∈ tyNames := by cases d <;> simp [tyD, tyNames]
theorem tyX_of {G H : Hp} {v : V} (s : Same G H) (h : Dt G v d) : TyX K H v (.type (tyD d)) := by
  cases h with
  | non => exact .base .non
  | bl b => exact .base (.bl b)
  | int i => exact .base (.int i)
  | str x => exact .base (.str x)
  | lst h r => exact .base (.lst (s _ _ h))
  | tup h r =>
    rcases h with ⟨o, h, _⟩ | ⟨h, _⟩
    · exact .fTuple (s _ _ h)
    · exact .base (.tup (s _ _ h))
  | dct h r => exact .base (.dK (s _ _ h))
theorem ev_isiP {T : String} (hT : ∀ d, kitB (tyD d) T = some (isD T d)) (h : Ev μ te Γ n P1) : Ev μ (tCB (rIsi K) (tCons te (tCons (tC (.ty T)) tNil))) Γ n (fun e => ∃ d, P1 d ∧ e = .bool (isD T d)) := fun G0 H0 G c σ H Q S l q =>
  h G0 H0 G c σ H _ S l fun d v G1 H1 p S1 e1 d1 => ⟨v, .ty T, _, _, isD T d, rfl, .ty T, tyX_of S1.sub d1, kit_ty (hT d), q _ _ G1 H1 ⟨d, p, rfl⟩ S1 e1 (.bl _)⟩
theorem ev_isi {T : String} (hT : ∀ d, kitB (tyD d) T = some (isD T d)) (h : Ev μ te Γ n (Eq x)) : Ev μ (tCB (rIsi K) (tCons te (tCons (tC (.ty T)) tNil))) Γ n (Eq (.bool (isD T x))) :=
  (ev_isiP hT h).imp fun e ⟨d, p, q⟩ => by rw [q, p]
theorem isi_str (d : PyData) : kitB (tyD d) "str" = some (isD "str" d) := (show ∀ a ∈ tyNames, kitB a "str" = some (isT "str" a) by decide +kernel) _ (tyD_mem d)
theorem isi_tuple (d : PyData) : kitB (tyD d) "tuple" = some (isD "tuple" d) := (show ∀ a ∈ tyNames, kitB a "tuple" = some (isT "tuple" a) by decide +kernel) _ (tyD_mem d)
theorem isi_list (d : PyData) : kitB (tyD d) "list" = some (isD "list" d) := (show ∀ a ∈ tyNames, kitB a "list" = some (isT "list" a) by decide +kernel) _ (tyD_mem d)
theorem isi_int (d : PyData) : kitB (tyD d) "int" = some (isD "int" d) := (show ∀ a ∈ tyNames, kitB a "int" = some (isT "int" a) by decide +kernel) _ (tyD_mem d)
theorem isi_bool (d : PyData) : kitB (tyD d) "bool" = some (isD "bool" d) := (show ∀ a ∈ tyNames, kitB a "bool" = some (isT "bool" a) by decide +kernel) _ (tyD_mem d)
/-! ### lengths -/
abbrev rLen (K : PySem.W.Frag) : List V → Hp → VK → Prop := fun xs H Q => ∃ x n, xs = [x] ∧ LenV K x H n ∧ Q (.int n) H
theorem rc_lenS {a : Str} (h : a.length ≤ 10000000) : RC (rLen K) [.str a] (.int (a.length : Int)) := fun G H vs Q s hv q => by
  cases hv with
  | cons h1 h2 =>
    cases h1; cases h2
    exact ⟨_, a.length, rfl, ⟨Nat.le_trans h (by decide), rfl⟩, q _ G H (Nw.refl _ _) s (Same.refl _) (.int _)⟩
theorem rc_lenL {ds : List PyData} : RC (rLen K) [.list ds] (.int (ds.length : Int)) := fun G H vs Q s hv q => by
  cases hv with
  | cons h1 h2 =>
    cases h2
    cases h1 with
    | lst a r => exact ⟨_, _, rfl, .inl ⟨_, SqL.of (s _ _ a), rfl⟩, by rw [r.length]; exact q _ G H (Nw.refl _ _) s (Same.refl _) (.int _)⟩
theorem rc_lenT {ds : List PyData} : RC (rLen K) [.tuple ds] (.int (ds.length : Int)) := fun G H vs Q s hv q => by
  cases hv with
  | cons h1 h2 =>
    cases h2
    cases h1 with
    | tup a r => exact ⟨_, _, rfl, .inr ⟨_, (a.sq s), rfl⟩, by rw [r.length]; exact q _ G H (Nw.refl _ _) s (Same.refl _) (.int _)⟩
theorem ev_lenS {a : Str} (h : Ev μ te Γ n (Eq (.str a))) (hl : a.length ≤ 10000000) : Ev μ (tCB (rLen K) (tCons te tNil)) Γ n (Eq (.int (a.length : Int))) := ev_cb (ea_cons h ea_nil) (rc_lenS hl)
theorem ev_lenL {ds : List PyData} (h : Ev μ te Γ n (Eq (.list ds))) : Ev μ (tCB (rLen K) (tCons te tNil)) Γ n (Eq (.int (ds.length : Int))) := ev_cb (ea_cons h ea_nil) rc_lenL
theorem ev_lenT {ds : List PyData} (h : Ev μ te Γ n (Eq (.tuple ds))) : Ev μ (tCB (rLen K) (tCons te tNil)) Γ n (Eq (.int (ds.length : Int))) := ev_cb (ea_cons h ea_nil) rc_lenT
/-! ### texts -/
abbrev rInSg : R2 := fun x y H Q => ∃ (c : Nat) (z : Str), x = .str ⟨#[c]⟩ ∧ y = .str z ∧ Q (.bl (decide (c ∈ z.cps.toList))) H
theorem rd_inSg {c : Nat} {z : Str} : RD rInSg (.str ⟨#[c]⟩) (.str z) (.bool (decide (c ∈ z.cps.toList))) := fun G H v w Q s hv hw q => by
  cases hv; cases hw
  exact ⟨c, z, rfl, rfl, q _ G H (Nw.refl _ _) s (Same.refl _) (.bl _)⟩
abbrev rAddSt : R2 := fun x y H Q => ∃ i j, x = .str i ∧ y = .str j ∧ i.length + j.length ≤ sizeLine ∧ Q (.str (i ++ j)) H
theorem rd_addS {a b : Str} (h : a.length + b.length ≤ 10000000) : RD rAddSt (.str a) (.str b) (.str (a ++ b)) := fun G H v w Q s hv hw q => by
  cases hv; cases hw
  exact ⟨a, b, rfl, rfl, Nat.le_trans h (by decide), q _ G H (Nw.refl _ _) s (Same.refl _) (.str _)⟩
abbrev rSplit : V → List V → Hp → VK → Prop := fun x xs H Q => ∃ a b, x = .str a ∧ xs = [.str b] ∧ (b.length == 0) = false ∧ a.length + 2 ≤ sizeLine ∧ rNewStrs (Txt.split a b) H Q
theorem rm_split {a b : Str} (hb : (b.length == 0) = false) (h : a.length ≤ 10000000) : RM rSplit (.str a) [.str b] (.list ((Txt.split a b).map .str)) := fun G H v vs Q s hv hvs q => by
  cases hv
  cases hvs with
  | cons h1 h2 =>
    cases h1; cases h2
    exact ⟨a, b, rfl, rfl, hb, Nat.le_trans (Nat.add_le_add_right h 2) (by decide), fun p hp => q _ _ _ (Nw.upd hp s) (Same.upd2 s) (Same.new hp) (.lst upd_same (DtA.strs _))⟩
abbrev rJoin (K : PySem.W.Frag) : V → List V → Hp → VK → Prop := fun x xs H Q => ∃ a p, ∃ ys : List Str, x = .str a ∧ xs = [.ref p] ∧ (SqL K H p (ys.map V.str) ∨ SqT K H p (ys.map V.str)) ∧ (ys.map (·.length)).sum + ys.length * a.length ≤ 16777216 ∧ Q (.str (Txt.join a ys)) H
theorem rm_join {a : Str} {ys : List Str} (h : (ys.map (·.length)).sum + ys.length * a.length ≤ 16777216) : RM (rJoin K) (.str a) [.list (ys.map .str)] (.str (Txt.join a ys)) := fun G H v vs Q s hv hvs q => by
  cases hv
  cases hvs with
  | cons h1 h2 =>
    cases h2
    cases h1 with
    | lst e r =>
      have := r.of_strs
      subst this
      exact ⟨a, _, ys, rfl, rfl, .inl (SqL.of (s _ _ e)), h, q _ G H (Nw.refl _ _) s (Same.refl _) (.str _)⟩
/-! ### lists and tuples -/
theorem rc_all {bs : List Bool} : RC (rAll K) [.list (bs.map .bool)] (.bool (bs.all id)) := fun G H vs Q s hv q => by
  cases hv with
  | cons h1 h2 =>
    cases h2
    cases h1 with
    | lst e r =>
      have := r.of_bls
      subst this
      exact ⟨_, bs, rfl, SqL.of (s _ _ e), q _ G H (Nw.refl _ _) s (Same.refl _) (.bl _)⟩
theorem rc_any {bs : List Bool} : RC (rAny K) [.list (bs.map .bool)] (.bool (bs.any id)) := fun G H vs Q s hv q => by
  cases hv with
  | cons h1 h2 =>
    cases h2
    cases h1 with
    | lst e r =>
      have := r.of_bls
      subst this
      exact ⟨_, bs, rfl, SqL.of (s _ _ e), q _ G H (Nw.refl _ _) s (Same.refl _) (.bl _)⟩
theorem ev_all {bs : List Bool} (h : Ev μ te Γ n (Eq (.list (bs.map .bool)))) : Ev μ (tCB (rAll K) (tCons te tNil)) Γ n (Eq (.bool (bs.all id))) := ev_cb (ea_cons h ea_nil) rc_all
theorem ev_any {bs : List Bool} (h : Ev μ te Γ n (Eq (.list (bs.map .bool)))) : Ev μ (tCB (rAny K) (tCons te tNil)) Γ n (Eq (.bool (bs.any id))) := ev_cb (ea_cons h ea_nil) rc_any
theorem rd_cat {xs ys : List PyData} (h : xs.length + ys.length ≤ 10000000) : RD rCat (.list xs) (.list ys) (.list (xs ++ ys)) := fun G H v w Q s hv hw q => by
  cases hv with
  | lst a r =>
    cases hw with
    | lst a2 r2 =>
      refine ⟨_, _, _, _, rfl, rfl, s _ _ a, s _ _ a2, by rw [r.length, r2.length]; exact Nat.le_trans h (by decide), fun p hp => q _ _ _ (Nw.upd hp s) (Same.upd2 s) (Same.new hp) (.lst upd_same ((r.append r2).mono (Nw.upd hp s).1))⟩
theorem atI_of {α β : Type} {xs : List α} {ys : List β} {i : Int} {v : α} (hl : xs.length = ys.length) (h : atI xs i = some v) : ∃ j : Nat, xs[j]? = some v ∧ atI ys i = ys[j]? := by
  unfold atI at h ⊢
  rw [← hl]
  cases e : ixN xs.length i with
  | none => rw [e] at h; cases h
  | some j => rw [e] at h; exact ⟨j, h, rfl⟩
theorem rd_ixL {ds : List PyData} {i : Int} (h : atI ds i = some d) : RD (rIxL K) (.list ds) (.int i) d := fun G H v w Q s hv hw q => by
  cases hw
  cases hv with
  | lst a r =>
    obtain ⟨j, h1, h2⟩ := atI_of r.length.symm h
    obtain ⟨u, hu, hd⟩ := r.getD h1
    exact ⟨_, _, i, u, rfl, rfl, SqL.of (s _ _ a), h2.trans hu, q _ G H (Nw.refl _ _) s (Same.refl _) hd⟩
theorem rd_ixT {ds : List PyData} {i : Int} (h : atI ds i = some d) : RD (rIxT K) (.tuple ds) (.int i) d := fun G H v w Q s hv hw q => by
  cases hw
  cases hv with
  | tup a r =>
    obtain ⟨j, h1, h2⟩ := atI_of r.length.symm h
    obtain ⟨u, hu, hd⟩ := r.getD h1
    exact ⟨_, _, i, u, rfl, rfl, (a.sq s), h2.trans hu, q _ G H (Nw.refl _ _) s (Same.refl _) hd⟩
theorem rd_ixS {a : Str} {i : Int} {ch : Nat} (hl : a.length ≤ 10000000) (h : atI a.cps.toList i = some ch) : RD rIxS (.str a) (.int i) (.str ⟨#[ch]⟩) := fun G H v w Q s hv hw q => by
  cases hw; cases hv
  exact ⟨a, i, ch, rfl, rfl, Nat.le_trans hl (by decide), h, q _ G H (Nw.refl _ _) s (Same.refl _) (.str _)⟩
theorem rd_ixsL {ds : List PyData} {i : Int} (h : atI ds i = some d) : RD (rIx K) (.list ds) (.int i) d := fun G H v w Q s hv hw q => .inl (rd_ixL h G H v w Q s hv hw q)
theorem rd_ixsT {ds : List PyData} {i : Int} (h : atI ds i = some d) : RD (rIx K) (.tuple ds) (.int i) d := fun G H v w Q s hv hw q => .inr (.inl (rd_ixT h G H v w Q s hv hw q))
theorem rd_ixsS {a : Str} {i : Int} {ch : Nat} (hl : a.length ≤ 10000000) (h : atI a.cps.toList i = some ch) : RD (rIx K) (.str a) (.int i) (.str ⟨#[ch]⟩) := fun G H v w Q s hv hw q => .inr (.inr (rd_ixS hl h G H v w Q s hv hw q))
theorem atI_mem {α : Type} {xs : List α} {i : Int} (h0 : 0 ≤ i) (h1 : i < xs.length) : ∃ v, v ∈ xs ∧ atI xs i = some v := by
  obtain ⟨k, rfl⟩ : ∃ k : Nat, i = (k : Int) := ⟨i.toNat, by omega⟩
  have hk : k < xs.length := by omega
  exact ⟨xs[k], List.getElem_mem _, atI_nat (List.getElem?_eq_getElem hk)⟩
/-! ### chains, truths, None -/
theorem ev_chain {r' : R2} {tc : TE} {a : Bool} {w : PyData} (h1 : Ev μ ta Γ n1 (Eq x)) (h2 : Ev μ tb Γ n2 (Eq y)) (h3 : Ev μ tc Γ n3 (Eq w)) (hr : RD r x y (.bool a)) (hr' : a = true → RD r' y w z) : Ev μ (tChain r r' ta tb tc) Γ (n1 + n2 + n3) (Eq (if a = true then z else .bool false)) := fun G0 H0 G c σ H Q S l q =>
  h1 G0 H0 G c σ H _ S (by omega) fun d1 v1 G1 H1 p1 S1 e1 hd1 => h2 G0 H0 G1 _ σ H1 _ S1 (by omega) fun d2 v2 G2 H2 p2 S2 e2 hd2 => by
    cases p1; cases p2
    refine hr G2 H2 v1 v2 _ S2.sub (hd1.mono e2.gg) hd2 fun u G3 H3 nw s s' du => ?_
    cases du
    refine ⟨a, rfl, ?_⟩
    have S3 := S2.same nw s s'
    have e3 : Ext μ.M G2 H2 G3 H3 := .same nw s'
    cases a with
    | false => exact iteF (q _ _ G3 H3 rfl (S3.up (by omega)) ((e1.trans e2).trans e3) (.bl false))
    | true =>
      refine iteT (h3 G0 H0 G3 _ σ H3 _ S3 (by omega) fun d4 v4 G4 H4 p4 S4 e4 hd4 => ?_)
      cases p4
      refine hr' rfl G4 H4 v2 v4 _ S4.sub (hd2.mono (e3.trans e4).gg) hd4 fun u G5 H5 nw5 s5 s5' du5 => ?_
      exact q _ _ G5 H5 rfl ((S4.same nw5 s5 s5').up (by omega)) (((e1.trans e2).trans (e3.trans e4)).trans (.same nw5 s5')) du5
def isN : PyData → Bool
  | .none => true
  | _ => false
theorem ev_isN (h : Ev μ te Γ n (Eq x)) : Ev μ (tIsN te) Γ n (Eq (.bool (isN x))) := fun G0 H0 G c σ H Q S l q =>
  h G0 H0 G c σ H _ S l fun d v G1 H1 p S1 e1 d1 => by
    cases p
    have e : decide (v = .non) = isN x := by cases d1 <;> rfl
    show Q (.bl (decide (v = .non))) H1
    rw [e]
    exact q _ _ G1 H1 rfl S1 e1 (.bl _)
theorem ev_notN (h : Ev μ te Γ n (Eq x)) : Ev μ (tNotN te) Γ n (Eq (.bool (!isN x))) := fun G0 H0 G c σ H Q S l q =>
  h G0 H0 G c σ H _ S l fun d v G1 H1 p S1 e1 d1 => by
    cases p
    have e : decide (v = .non) = isN x := by cases d1 <;> rfl
    show Q (.bl (!decide (v = .non))) H1
    rw [e]
    exact q _ _ G1 H1 rfl S1 e1 (.bl _)
/-- a, b = x, y: two plain names -/
theorem go_par {ta : TA} {R : Po} {c i j : Nat} {P : List PyData → Prop} (h : EvA μ ta Γ n P) (hc : c + n ≤ CM) (hl : ∀ xs, P xs → xs.length = 2) (k : ∀ a b, P [a, b] → R.nx ((Γ.set i (.dat a)).set j (.dat b)) (c + n)) : Go μ (tPar i j ta) Γ c R := fun G0 H0 Gs G σ H D S gs L =>
  h G0 H0 G c σ H _ S hc fun ds vs G1 H1 p S1 e1 d1 => by
    have hl' := hl ds p
    cases d1 with
    | nil => cases hl'
    | cons h1 r1 =>
      cases r1 with
      | nil => cases hl'
      | cons h2 r2 =>
        cases r2 with
        | cons _ _ => simp at hl'
        | nil => exact ⟨_, _, rfl, L.nx _ _ G1 _ H1 (k _ _ p) ((S1.setD h1).setD h2) (gs.trans e1.gg)⟩
end
end B

/-! B5: a law's end, the guards known. -/
namespace B
open PySem PySem.Spec PyProof.Rows L2
section
variable {P : Program} {w : World} {K : PySem.W.Frag} {mg mb : Str → Option Value} {CX : CXT} {k : Nat} {fa a : Addr} {fd : FuncData} {x : Str} {sp : Sp} {s1 : Shared} {us : List Value} {ns : List Int}
/-- what the script's list is as an abstract heap -/
structure Lone (P : Program) (w : World) (K : PySem.W.Frag) (s1 : Shared) (a : Addr) (us : List Value) (ns : List Int) (H : Hp) : Prop where
  only : Only H
  list : SqL K H a (ns.map V.int)
  ok : HOk P w H s1.heap
  here : ∀ b u, H b = some u → b = a ∧ K.lookup a = none
theorem lone_mk (hK : K.In s1.heap) (ha : s1.heap.get? a = some { cls := .type "list", data := .seq us.toArray }) (hi : IntsAre us ns) (hl : ns.length ≤ sizeLine) : ∃ H, Lone P w K s1 a us ns H := by
  have rel := vals_ints hi
  by_cases hk : K.lookup a = none
  · refine ⟨upd (fun _ => none) a (.frz { cls := .type "list", data := .seq us.toArray } (.lst (ns.map V.int))), fun b => ?_, .inl (.inr ⟨_, upd_same⟩), fun b u e => ?_, fun b u e => ?_⟩
    · by_cases hb : b = a
      · subst hb; exact .inr ⟨_, _, upd_same⟩
      · exact .inl (upd_ne hb)
    · by_cases hb : b = a
      · subst hb
        rw [upd_same] at e
        cases e
        exact ⟨ha, by simpa using hl, us, _, rel, ha⟩
      · rw [upd_ne hb] at e; cases e
    · by_cases hb : b = a
      · exact ⟨hb, hk⟩
      · rw [upd_ne hb] at e; cases e
  · obtain ⟨o, ho⟩ := Option.ne_none_iff_exists'.mp hk
    have e := hK a o ho
    rw [ha] at e
    cases e
    refine ⟨fun _ => none, fun _ => .inl rfl, .inr ⟨_, us.toArray, _, ho, rfl, rfl, rfl, ?_, by simpa using rel⟩, (fun b u e => by cases e), (fun b u e => by cases e)⟩
    rw [List.size_toArray, hi.length]; exact hl
theorem lawG (hK : K.In s1.heap) (hns : s1.heap.Ns mainGlobals mg) (hb : s1.heap.Ns builtinsNs mb) (hbb : ∀ x : Str, x ≠ "__name__" → mb x = bootBuiltins x) (hlim : s1.heap.NoLimit) (hg : s1.gens = #[])
    (ha : s1.heap.get? a = some { cls := .type "list", data := .seq us.toArray }) (hi : IntsAre us ns) (hl : ns.length ≤ sizeLine) (hr : Room k callerA)
    (F : ∀ base : Heap, K.In base → base.Ns mainGlobals mg → FnG P w K mg base CX k fa fd [x] sp) (hbd : ∀ (s : Shared) (u : Value), BindsTo s fd ⟨[u], []⟩ [(x, u)])
    (hsp : ∀ H : Hp, Only H → SqL K H a (ns.map V.int) → sp [.ref a] H (fun v _ => v = .bl true) fun _ _ _ => False) (hCX : ∀ H e s', CX [] H s1 (fun _ _ _ => False) e s' → False) :
    codeAny (model P w) callerA (.call (.ref fa) ⟨[.ref a], []⟩) (fun r s' => r = .ok (.ret (.bool true)) ∧ OldK s1.heap s'.heap ∧ s'.os = s1.os ∧ AllBare s'.gens) s1 := by
  obtain ⟨H, L⟩ := lone_mk (P := P) (w := w) hK ha hi hl
  -- the heap without the script is the base
  have free : ∀ b o, s1.heap.get? b = some o → (∀ v n, o.data ≠ .seq v n) → H b = none := fun b o e d => by
    cases q : H b with
    | none => rfl
    | some u =>
      obtain ⟨z, _⟩ := L.here b u q
      subst z
      rw [ha] at e
      cases e
      exact (d _ _ rfl).elim
  have nsB : ∀ b m, s1.heap.Ns b m → (hidT s1.heap H).Ns b m := fun b m ⟨o, es, ep, e, d, r⟩ => ⟨o, es, ep, hidT_get e (free b o e fun v n z => by rw [d] at z; cases z), d, r⟩
  have kB : K.In (hidT s1.heap H) := fun b o e => hidT_get (hK b o e) (by
    cases q : H b with
    | none => rfl
    | some u =>
      obtain ⟨z1, z2⟩ := L.here b u q
      subst z1
      rw [z2] at e; cases e)
  have md : Mod K mg (hidT s1.heap H) := ⟨kB, nsB _ _ hns, ⟨mb, nsB _ _ hb, hbb⟩, let ⟨mc, h1, h2⟩ := hlim; ⟨mc, nsB _ _ h1, h2⟩⟩
  have nof : ∀ b, b ∉ frs ([] : List Env) := fun b z => by simp [frs] at z
  have env : Env0 P w K mg (hidT s1.heap H) callerA [] s1 H := ⟨rfl, md, fun b o e => of_hidT e, Nat.le_of_eq (hidT_size _ _), trivial, fun b z => (nof b z).elim, L.ok, .of_eq hg⟩
  refine codeAny_mono ((F _ kB (nsB _ _ hns)).runs callerA [] s1 H ⟨[.ref a], []⟩ [.ref a] [.ref a] _ _ rfl hr env (hbd s1 (.ref a)) (.cons rfl .nil) (hsp H L.only L.list)) fun r s' z => ?_
  cases r with
  | error e => exact (hCX H e s' z).elim
  | ok fl =>
    cases fl with
    | ret u =>
      obtain ⟨v, H', os, bare, un, ok', rv, (q : v = .bl true)⟩ := z
      subst q
      cases (show u = Value.bool true from rv)
      refine ⟨rfl, OldK.of_keep fun b o e => ?_, os, bare⟩
      rcases L.only b with q | ⟨ob, xs, q⟩
      · exact un.keep b o e q (nof b) (by simp)
      · have e1 := (L.ok b _ q).1
        rw [e] at e1
        cases e1
        exact (ok' b _ (un.frzs b _ _ q)).1
    | next => exact z.elim
    | brk => exact z.elim
    | cont => exact z.elim
end
theorem walk_ofG {l : PySem.W.OpenLaw} {n k : Nat} {q : Program} {loose : List Str} {XP : (Str → Option Value) → Heap → Prop} {YP : World → Heap → Prop} {d : DefRec} {K : Params → PySem.W.Frag} {CX : CXT} {sp : PySem.W.Frag → Sp} {x : Str}
    (hn : l.most = some n) (hn2 : n ≤ sizeLine) (hdf : d.params.defaults = []) (hr : Room k callerA) (hY : ∀ (w : World) (h : Heap), YP w h → (K w.params).In h)
    (F : ∀ (w : World) (mg : Str → Option Value) (fa : Addr) (h : Heap), (K w.params).In h → h.Ns mainGlobals mg → mg d.name = some (.ref fa) →
      ∃ fd : FuncData, (∀ (s : Shared) (u : Value), BindsTo s fd ⟨[u], []⟩ [(x, u)]) ∧ ∀ base : Heap, (K w.params).In base → base.Ns mainGlobals mg → FnG l.prog w (K w.params) mg base CX k fa fd [x] (sp (K w.params)))
    (hsp : ∀ (K : PySem.W.Frag) (H : Hp) (a : Addr) (ns : List Int), ns.length ≤ n → Only H → SqL K H a (ns.map V.int) → sp K [.ref a] H (fun v _ => v = .bl true) fun _ _ _ => False)
    (hCX : ∀ (H : Hp) (s : Shared) (e : Value) (s' : Shared), CX [] H s (fun _ _ _ => False) e s' → False) :
    PySem.W.WalkO q loose XP YP l.row.toRowW d [] (fun f vs => PySem.call f vs) :=
  Att.attach_call hn hdf fun w s0 s1 mg mb fa o pm cd doc a us ns G Y ho hd hcd hmg hobj hints hlen hg => by
    obtain ⟨fd, hb, hF⟩ := F w mg fa _ (hY w _ Y) G.T.g hmg
    exact lawG (hY w _ Y) G.T.g G.T.b G.T.builtins G.T.nolimit hg hobj hints (Nat.le_trans hlen hn2) hr hF hb (fun H hO hS => hsp _ H a ns hlen hO hS) fun H e s' => hCX H s1 e s'
theorem bt_len : bootBuiltins "len" = some (.builtin "len") := by decide +kernel
theorem bt_all : bootBuiltins "all" = some (.builtin "all") := by decide +kernel
theorem bt_any : bootBuiltins "any" = some (.builtin "any") := by decide +kernel
theorem bt_isinstance : bootBuiltins "isinstance" = some (.builtin "isinstance") := by decide +kernel
theorem bt_max : bootBuiltins "max" = some (.builtin "max") := by decide +kernel
theorem bt_min : bootBuiltins "min" = some (.builtin "min") := by decide +kernel
theorem bt_abs : bootBuiltins "abs" = some (.builtin "abs") := by decide +kernel
theorem bt_int : bootBuiltins "int" = some (.type "int") := by decide +kernel
theorem bt_str : bootBuiltins "str" = some (.type "str") := by decide +kernel
theorem bt_bool : bootBuiltins "bool" = some (.type "bool") := by decide +kernel
theorem bt_tuple : bootBuiltins "tuple" = some (.type "tuple") := by decide +kernel
theorem bt_list : bootBuiltins "list" = some (.type "list") := by decide +kernel
theorem bt_dict : bootBuiltins "dict" = some (.type "dict") := by decide +kernel
theorem bt_set : bootBuiltins "set" = some (.type "set") := by decide +kernel
theorem bt_sorted : bootBuiltins "sorted" = some (.builtin "sorted") := by decide +kernel
theorem bt_repr : bootBuiltins "repr" = some (.builtin "repr") := by decide +kernel
theorem bt_zip : bootBuiltins "zip" = some (.type "zip") := by decide +kernel
theorem bt_sum : bootBuiltins "sum" = some (.builtin "sum") := by decide +kernel
end B

/-! B6: values that are known to the letter (for the box). -/
namespace B
open PySem PySem.Spec PyProof.Rows L2
section
variable {σ : L2.St} {H : Hp} {v x y z : V} {ta tb te : TE} {b : Bool} {K : PySem.W.Frag} {a : Addr} {i j : Int}
theorem vI0 {g : Int → Int → V} (ha : Val ta σ H (.int i)) (hb : Val tb σ H (.int j)) : Val (tOp (rI0 g) ta tb) σ H (g i j) := val_op ha hb fun Q q => ⟨i, j, rfl, rfl, q⟩
theorem vI {C : Int → Int → Prop} {g : Int → Int → V} (ha : Val ta σ H (.int i)) (hb : Val tb σ H (.int j)) (h : C i j) : Val (tOp (rI C g) ta tb) σ H (g i j) := val_op ha hb fun Q q => ⟨i, j, rfl, rfl, h, q⟩
theorem vix {xs : List V} (ha : Val ta σ H (.ref a)) (hb : Val tb σ H (.int i)) (h : SqL K H a xs) (e : atI xs i = some v) : Val (tOp (rIxL K) ta tb) σ H v := val_op ha hb fun Q q => ⟨a, xs, i, v, rfl, rfl, h, e, q⟩
abbrev rInt1 : List V → Hp → VK → Prop := fun xs H Q => (∃ i, xs = [.int i] ∧ Q (.int i) H) ∨ ∃ k, xs = [.bl k] ∧ Q (.int (if k then 1 else 0)) H
theorem vint (ha : Val ta σ H (.int i)) : Val (tCB rInt1 (tCons ta tNil)) σ H (.int i) := fun Q q => ha _ (.inl ⟨i, rfl, q⟩)
theorem vintB (ha : Val ta σ H (.bl b)) : Val (tCB rInt1 (tCons ta tNil)) σ H (.int (if b then 1 else 0)) := fun Q q => ha _ (.inr ⟨b, rfl, q⟩)
theorem vabs (ha : Val ta σ H (.int i)) : Val (tCB (fun xs H Q => ∃ i, xs = [.int i] ∧ Q (.int (if i < 0 then -i else i)) H) (tCons ta tNil)) σ H (.int (if i < 0 then -i else i)) := fun Q q => ha _ ⟨i, rfl, q⟩
theorem vlenL {xs : List V} (ha : Val ta σ H (.ref a)) (h : SqL K H a xs) : Val (tCB (rLen K) (tCons ta tNil)) σ H (.int (xs.length : Int)) := fun Q q => ha _ ⟨_, _, rfl, .inl ⟨xs, h, rfl⟩, q⟩
theorem aB {g : Int → Int → Bool} (ha : Val ta σ H (.int i)) (hb : Val tb σ H (.int j)) (e : g i j = b) : Ans (tTest (tOp (rI0 fun i j => .bl (g i j)) ta tb)) σ H b := ans_cmp ha hb fun Q q => ⟨i, j, rfl, rfl, by show Q (.bl (g i j)) H; rw [e]; exact q⟩
theorem v_ret3 {t1 t2 t3 : TE} {v1 v2 v3 : V} {D : Ends} (h1 : Val t1 σ H v1) (h2 : Val t2 σ H v2) (h3 : Val t3 σ H v3) (q : ∀ p, H p = none → D.rt (.ref p) (upd H p (.lst [v1, v2, v3]))) : tRet (tLst (tCons t1 (tCons t2 (tCons t3 tNil)))) D σ H :=
  h1 _ (h2 _ (h3 _ ⟨by show 3 ≤ sizeLine; decide, q⟩))
theorem v_ret {D : Ends} (h : Val te σ H v) (q : D.rt v H) : tRet te D σ H := h _ q
def CPowW (i j : Int) : Prop := 0 ≤ j ∧ (Builtin.Int.intBits i : Int) * j ≤ 2 ^ 27
theorem op_powW {X : Cx} : OpR X (binaryOp .Pow) (rI CPowW fun i j => .int (i ^ j.toNat)) := opI fun _ _ _ _ _ _ _ hc q => pow_int hc.1 hc.2 q
end
theorem emod_lt' {a m : Int} (h : 0 < m) : 0 ≤ a % m ∧ a % m < m := ⟨Int.emod_nonneg _ (by omega), Int.emod_lt_of_pos _ h⟩
end B

/-! B7: nothing drawn; short forms. -/
namespace B
open PySem PySem.Spec PyProof.Rows L2
section
variable {μ : Mu} {Γ : List Sl} {n : Nat} {P P1 P2 : PyData → Prop} {ta tb tc te : TE} {t u : TT} {x y z w d : PyData} {r r' : R2} {K : PySem.W.Frag} {a b : Bool} {i j : Int}
theorem ea_cons0 {tr : TA} {xs : List PyData} (ha : Ev μ ta Γ 0 (Eq x)) (hb : EvA μ tr Γ 0 (Eq xs)) : EvA μ (tCons ta tr) Γ 0 (Eq (x :: xs)) := ea_cons ha hb
theorem ev_op0 (ha : Ev μ ta Γ 0 (Eq x)) (hb : Ev μ tb Γ 0 (Eq y)) (hr : RD r x y z) : Ev μ (tOp r ta tb) Γ 0 (Eq z) := ev_op ha hb hr
theorem ev_add0 (ha : Ev μ ta Γ 0 (Eq (.int i))) (hb : Ev μ tb Γ 0 (Eq (.int j))) : Ev μ (tOp (rI0 fun i j => .int (i + j)) ta tb) Γ 0 (Eq (.int (i + j))) := ev_add ha hb
theorem ev_sub0 (ha : Ev μ ta Γ 0 (Eq (.int i))) (hb : Ev μ tb Γ 0 (Eq (.int j))) : Ev μ (tOp (rI0 fun i j => .int (i - j)) ta tb) Γ 0 (Eq (.int (i - j))) := ev_sub ha hb
theorem ev_cmp0 {g : Int → Int → Bool} (ha : Ev μ ta Γ 0 (Eq (.int i))) (hb : Ev μ tb Γ 0 (Eq (.int j))) : Ev μ (tOp (rI0 fun i j => .bl (g i j)) ta tb) Γ 0 (Eq (.bool (g i j))) := ev_op ha hb rd_B0
theorem ev_pow0 (ha : Ev μ ta Γ 0 (Eq (.int i))) (hb : Ev μ tb Γ 0 (Eq (.int j))) (h : CPow i j) : Ev μ (tOp (rI CPow fun i j => .int (i ^ j.toNat)) ta tb) Γ 0 (Eq (.int (i ^ j.toNat))) := ev_pow ha hb h
theorem ev_eqD0 (ha : Ev μ ta Γ 0 (Eq x)) (hb : Ev μ tb Γ 0 (Eq y)) (hx : SeqAt.shaped x = true) (hy : SeqAt.shaped y = true) : Ev μ (tOp (rEqD K) ta tb) Γ 0 (Eq (.bool (PyData.eqv x y))) := ev_eqD ha hb hx hy
theorem ev_neD0 (ha : Ev μ ta Γ 0 (Eq x)) (hb : Ev μ tb Γ 0 (Eq y)) (hx : SeqAt.shaped x = true) (hy : SeqAt.shaped y = true) : Ev μ (tOp (rNeD K) ta tb) Γ 0 (Eq (.bool (!PyData.eqv x y))) := ev_neD ha hb hx hy
theorem et_and0 (h1 : EvT μ t Γ 0 (Eq a)) (h2 : a = true → EvT μ u Γ 0 (Eq b)) : EvT μ (tAnd t u) Γ 0 (Eq (a && b)) := et_and h1 h2
theorem et_or0 (h1 : EvT μ t Γ 0 (Eq a)) (h2 : a = false → EvT μ u Γ 0 (Eq b)) : EvT μ (tOr t u) Γ 0 (Eq (a || b)) := et_or h1 h2
theorem ev_andV0 (h1 : Ev μ ta Γ 0 (Eq (.bool a))) (h2 : a = true → Ev μ tb Γ 0 (Eq (.bool b))) : Ev μ (tAndV ta tb) Γ 0 (Eq (.bool (a && b))) := (ev_andV h1 h2).imp fun d e => by rw [← e]; cases a <;> rfl
theorem ev_orV0 (h1 : Ev μ ta Γ 0 (Eq (.bool a))) (h2 : a = false → Ev μ tb Γ 0 (Eq (.bool b))) : Ev μ (tOrV ta tb) Γ 0 (Eq (.bool (a || b))) := (ev_orV h1 h2).imp fun d e => by rw [← e]; cases a <;> rfl
theorem ev_if0 (h : EvT μ t Γ 0 (Eq b)) (h1 : b = true → Ev μ ta Γ 0 (Eq x)) (h2 : b = false → Ev μ tb Γ 0 (Eq y)) : Ev μ (tIf t ta tb) Γ 0 (Eq (if b = true then x else y)) :=
  ev_if (P := Eq (if b = true then x else y)) (n1 := 0) (n2 := 0) h (fun e => by subst e; exact h1 rfl) (fun e => by subst e; exact h2 rfl)
theorem ev_chain0 (h1 : Ev μ ta Γ 0 (Eq x)) (h2 : Ev μ tb Γ 0 (Eq y)) (h3 : Ev μ tc Γ 0 (Eq w)) (hr : RD r x y (.bool a)) (hr' : a = true → RD r' y w (.bool b)) : Ev μ (tChain r r' ta tb tc) Γ 0 (Eq (.bool (a && b))) := (ev_chain h1 h2 h3 hr hr').imp fun d e => by rw [← e]; cases a <;> rfl
theorem ev_split {s sep : Str} (ha : Ev μ ta Γ 0 (Eq (.str s))) (hb : Ev μ tb Γ 0 (Eq (.str sep))) (h1 : (sep.length == 0) = false) (h2 : s.length ≤ 10000000) : Ev μ (tM1 rSplit ta tb) Γ 0 (Eq (.list ((Txt.split s sep).map .str))) := ev_m1 ha hb (rm_split h1 h2)
theorem ev_isi0 {T : String} (hT : ∀ d, kitB (tyD d) T = some (isD T d)) (h : Ev μ te Γ 0 (Eq x)) : Ev μ (tCB (rIsi K) (tCons te (tCons (tC (.ty T)) tNil))) Γ 0 (Eq (.bool (isD T x))) := ev_isi hT h
theorem ev_inSg {c : Nat} {z : Str} (ha : Ev μ ta Γ 0 (Eq (.str ⟨#[c]⟩))) (hb : Ev μ tb Γ 0 (Eq (.str z))) : Ev μ (tOp rInSg ta tb) Γ 0 (Eq (.bool (decide (c ∈ z.cps.toList)))) := ev_op ha hb rd_inSg
theorem ev_callP {ta : TA} {E : XK} {pre : List PyData → Prop} {post : List PyData → PyData → Prop} {xs : List PyData} (ha : EvA μ ta Γ 0 (Eq xs)) (hp : pre xs) : Ev μ (tCall (spP pre post) [] E ta) Γ 0 (post xs) := (ev_call ha fun _ e => e ▸ hp).imp fun d ⟨ys, e, po⟩ => e ▸ po
end
theorem split_len {s sep p : Str} (h : p ∈ Txt.split s sep) : p.length ≤ s.length := by
  have := join_mem_le sep (Txt.split s sep) p h
  rw [PySem.StrLaws.join_split] at this
  exact this
theorem len_app (a b : Str) : (a ++ b).length = a.length + b.length := by
  show (Array.append a.cps b.cps).size = a.cps.size + b.cps.size
  simp
theorem join_many (sep : Str) : ∀ ts : List Str, ts.length * sep.length ≤ (Str.join sep ts).length + sep.length
  | [] => by simp
  | [x] => by simp
  | x :: y :: r => by
    have ih := join_many sep (y :: r)
    show _ ≤ (x ++ sep ++ Str.join sep (y :: r)).length + sep.length
    rw [len_app, len_app]
    rw [List.length_cons, Nat.add_mul, Nat.one_mul]
    omega
theorem join_len_le (sep : Str) : ∀ ts : List Str, (Str.join sep ts).length ≤ (ts.map (·.length)).sum + ts.length * sep.length
  | [] => by simp [Str.join]; rfl
  | [x] => by simp [Str.join]
  | x :: y :: r => by
    have ih := join_len_le sep (y :: r)
    show (x ++ sep ++ Str.join sep (y :: r)).length ≤ _
    rw [len_app, len_app, List.map_cons, List.sum_cons]
    rw [List.length_cons, Nat.add_mul, Nat.one_mul]
    omega
theorem sum_le_mul {α : Type} (f : α → Nat) (B : Nat) : ∀ xs : List α, (∀ x ∈ xs, f x ≤ B) → (xs.map f).sum ≤ xs.length * B
  | [], _ => by simp
  | x :: r, h => by
    have ih := sum_le_mul f B r fun y hy => h y (List.mem_cons_of_mem _ hy)
    have hx := h x List.mem_cons_self
    rw [List.map_cons, List.sum_cons, List.length_cons, Nat.add_mul, Nat.one_mul]
    omega
theorem split_many {s : Str} : (Txt.split s "/").length ≤ s.length + 1 := by
  have h := join_many "/" (Txt.split s "/")
  rw [PySem.StrLaws.join_split] at h
  have e : (("/" : Str)).length = 1 := by decide +kernel
  rw [e] at h
  omega
theorem mem_strs {xs : List Str} {d : PyData} (h : d ∈ xs.map PyData.str) : ∃ z, z ∈ xs ∧ d = .str z := let ⟨z, a, b⟩ := List.mem_map.mp h; ⟨z, a, b.symm⟩
theorem mem_ints {xs : List Int} {d : PyData} (h : d ∈ xs.map PyData.int) : ∃ z, z ∈ xs ∧ d = .int z := let ⟨z, a, b⟩ := List.mem_map.mp h; ⟨z, a, b.symm⟩
theorem mem_chD {z : Str} {d : PyData} (h : d ∈ chD z) : ∃ c, c ∈ z.cps.toList ∧ d = .str ⟨#[c]⟩ := let ⟨c, a, b⟩ := List.mem_map.mp h; ⟨c, a, b.symm⟩
end B

/-! B8: written dicts; one of some things; how many draws. -/
namespace B
open PySem PySem.Spec PyProof.Rows L2
section
variable {μ : Mu} {Γ : List Sl} {n k : Nat} {P P1 P2 : PyData → Prop} {ta tb tc te : TE} {x y z w d : PyData} {K : PySem.W.Frag} {b : Addr} {i : Nat} {E : XK}
theorem ev_dnew : Ev μ tDNewK Γ 0 (Eq (.dict [])) := fun G0 H0 G c σ H Q S l q => fun p hp =>
  q _ _ _ _ rfl (S.laid hp) (.same (Nw.upd hp S.sub) (Same.new hp)) (.dct upd_same .nil)
/-- {'k': e} -/
theorem ev_disp1 {s : Str} (h : Ev μ te Γ n P) : Ev μ (tDisp [(tC (.str s), te)]) Γ n (fun d => ∃ x, P x ∧ d = .dict [(.str s, x)]) := fun G0 H0 G c σ H Q S l q => fun p hp => by
  have S1 := S.same (G' := G) (H' := upd H p (.dK [])) (Nw.refl _ _) (S.sub.trans (Same.new hp)) (Same.new hp)
  have e1 : Ext μ.M G H G (upd H p (.dK [])) := .same (Nw.refl _ _) (Same.new hp)
  have hM : ¬ μ.M p := fun hm' => (S.ent p hm').1 (S.h0 hp)
  refine h G0 H0 G c σ _ _ S1 l fun x v G2 H2 px S2 e2 d2 => ?_
  have hp2 : H2 p = some (.dK []) := e2.fr _ _ hM upd_same
  have gp2 : G2 p = none := e2.out (Same.free S.sub hp) upd_same
  refine ⟨hp2, [(.inr s, v)], rfl, by show 1 ≤ 15; decide, ?_⟩
  have hnew : Nw G H (upd G2 p (.dK [(.inr s, v)])) := ⟨(e1.trans e2).gg.trans (Same.new gp2), fun a ha => by
    by_cases z : a = p
    · subst z; exact .inr hp
    · rw [upd_ne z] at ha; exact (e1.trans e2).nw.2 a ha⟩
  have ee := e1.trans e2
  have hsub : Same (upd G2 p (.dK [(.inr s, v)])) (upd H2 p (.dK [(.inr s, v)])) := Same.upd2 S2.sub
  have hfr : Fr μ.M H (upd H2 p (.dK [(.inr s, v)])) := fun a o ha hh => by
    rw [upd_ne (fun z => by subst z; rw [hp] at hh; cases hh)]; exact ee.fr a o ha hh
  have e3 : Ext μ.M G H (upd G2 p (.dK [(.inr s, v)])) (upd H2 p (.dK [(.inr s, v)])) := ⟨hnew, hfr, fun a ha => by
    by_cases z : a = p
    · subst z; exact hp
    · rw [upd_ne z] at ha; exact ee.dm a ha⟩
  refine q _ _ _ _ ⟨x, px, rfl⟩ (S.ext hnew hsub hfr ?_) e3 (.dct upd_same (.cons (d2.mono (Same.new gp2)) .nil))
  exact μ.st _ H2 _ (fun a o ha hh => by
    have na : a ≠ p := fun z => by rw [z] at ha; exact hM ha
    rw [upd_ne na]; exact hh) S2.inv
theorem ev_disp1E {s : Str} (h : Ev μ te Γ 0 (Eq x)) : Ev μ (tDisp [(tC (.str s), te)]) Γ 0 (Eq (.dict [(.str s, x)])) := (ev_disp1 h).imp fun d ⟨y, e1, e2⟩ => by rw [e2, e1]
/-! ### one of some things -/
def ofPre (ds : List PyData) : Prop := ∃ x, ds = [x] ∧ ((∃ xs, x = .list xs ∧ 1 ≤ xs.length ∧ xs.length ≤ 1000000) ∨ ∃ z : Str, x = .str z ∧ 1 ≤ z.length ∧ z.length ≤ 1000000)
def ofPost (ds : List PyData) (d : PyData) : Prop := ∃ x, ds = [x] ∧ ((∃ xs, x = .list xs ∧ d ∈ xs) ∨ ∃ z : Str, x = .str z ∧ d ∈ chD z)
abbrev takePre : List PyData → Prop := fun ds => ∃ m : Int, ds = [.int m] ∧ 1 ≤ m ∧ m ≤ 1000000
abbrev takePost : List PyData → PyData → Prop := fun ds d => ∃ m i : Int, ds = [.int m] ∧ d = .int i ∧ 0 ≤ i ∧ i < m
theorem ev_ofP (hi : Γ[i]? = some (.raw (.ref b))) (h : Ev (boxMu b) te Γ n P) (hP : ∀ d, P d → ∃ xs, d = .list xs ∧ 1 ≤ xs.length ∧ xs.length ≤ 1000000) : Ev (boxMu b) (tCall (spB 1 ofPre ofPost) [] E (tCons (tVar i) (tCons te tNil))) Γ (n + 1) (fun d => ∃ xs, P (.list xs) ∧ d ∈ xs) :=
  (ev_callB (n := n + 0) hi (ea_consP (P := fun xs => ∃ x, P x ∧ xs = [x]) h ea_nil fun x y p e => ⟨x, p, by rw [← e]⟩) fun ys ⟨x, p, e⟩ => ⟨x, e, .inl (hP x p)⟩).imp fun d ⟨ys, ⟨x, p, e⟩, x', e', h'⟩ => by
    subst e
    cases e'
    obtain ⟨xs, rfl, _⟩ := hP x p
    rcases h' with ⟨xs', e2, hd⟩ | ⟨z, e2, _⟩
    · cases e2; exact ⟨xs, p, hd⟩
    · cases e2
theorem ev_ofL {xs : List PyData} (hi : Γ[i]? = some (.raw (.ref b))) (h : Ev (boxMu b) te Γ 0 (Eq (.list xs))) (h1 : 1 ≤ xs.length := by decide) (h2 : xs.length ≤ 1000000 := by decide) : Ev (boxMu b) (tCall (spB 1 ofPre ofPost) [] E (tCons (tVar i) (tCons te tNil))) Γ 1 (fun d => d ∈ xs) :=
  (ev_ofP hi h fun d e => ⟨xs, e.symm, h1, h2⟩).imp fun d ⟨ys, e, hd⟩ => by cases e; exact hd
theorem ev_ofS {s : Str} (hi : Γ[i]? = some (.raw (.ref b))) (h : Ev (boxMu b) te Γ 0 (Eq (.str s))) (h1 : 1 ≤ s.length) (h2 : s.length ≤ 1000000) : Ev (boxMu b) (tCall (spB 1 ofPre ofPost) [] E (tCons (tVar i) (tCons te tNil))) Γ 1 (fun d => d ∈ chD s) :=
  (ev_callB (n := 0) hi (ea_cons0 h ea_nil) fun ys e => ⟨_, e.symm, .inr ⟨s, rfl, h1, h2⟩⟩).imp fun d ⟨ys, e, x, e', h'⟩ => by
    subst e
    cases e'
    rcases h' with ⟨xs', e2, hd⟩ | ⟨z, e2, hd⟩
    · cases e2
    · cases e2; exact hd
theorem ev_take {m : Int} (hi : Γ[i]? = some (.raw (.ref b))) (h : Ev (boxMu b) te Γ 0 (Eq (.int m))) (h1 : 1 ≤ m := by decide) (h2 : m ≤ 1000000 := by decide) : Ev (boxMu b) (tCall (spB 1 takePre takePost) [] E (tCons (tVar i) (tCons te tNil))) Γ 1 (fun d => ∃ i : Int, d = .int i ∧ 0 ≤ i ∧ i < m) :=
  (ev_callB (n := 0) hi (ea_cons0 h ea_nil) fun ys e => ⟨m, e.symm, h1, h2⟩).imp fun d ⟨ys, e, m', i', e', h', h3, h4⟩ => by
    subst e
    cases e'
    exact ⟨i', h', h3, h4⟩
theorem ev_join {sep : Str} (ha : Ev μ ta Γ 0 (Eq (.str sep))) (hb : Ev μ tb Γ n P1) (hP : ∀ d, P1 d → ∃ ys : List Str, d = .list (ys.map .str) ∧ (ys.map (·.length)).sum + ys.length * sep.length ≤ 16777216 ∧ P (.str (Txt.join sep ys))) : Ev μ (tM1 (rJoin K) ta tb) Γ n P := by
  have := ev_m1P (r := rJoin K) (P := P) ha hb (fun _ e => ⟨sep, e.symm⟩) fun x y e p => by
    obtain ⟨ys, rfl, h1, h2⟩ := hP y p
    exact ⟨_, e ▸ rm_join h1, h2⟩
  rw [Nat.zero_add] at this
  exact this
end
/-! ### a law's own def -/
def spBox (K : PySem.W.Frag) : Sp := fun vs H Q _ => ∃ (a : Addr) (ns : List Int) (j : Nat), vs = [.ref a, .int (j : Int)] ∧ SqL K H a (ns.map V.int) ∧ ns.length ≤ 63 ∧ j ≤ 10 ∧ ∀ b H', H b = none → Same H H' → BoxAt b 0 H' → Q (.ref b) H'
def spLaw (K : PySem.W.Frag) : Sp := fun vs H Q _ => ∃ (a : Addr) (ns : List Int), vs = [.ref a] ∧ SqL K H a (ns.map V.int) ∧ ns.length ≤ 63 ∧ ∀ H', Q (.bl true) H'
theorem law_starts {K : PySem.W.Frag} {H : Hp} {a : Addr} {ns : List Int} (hl : ns.length ≤ 63) (hS : SqL K H a (ns.map V.int)) : spLaw K [.ref a] H (fun v _ => v = .bl true) fun _ _ _ => False := ⟨a, ns, rfl, hS, hl, fun _ => rfl⟩
section
variable {K : PySem.W.Frag} {σ : L2.St} {H : Hp} {a : Addr} {ns : List Int} {E E' : XK} {ta tb : TE} {i j : Int} {D : Ends} {tu : TS}
theorem vmax (ha : Val ta σ H (.int i)) (hb : Val tb σ H (.int j)) : Val (tCB (fun xs H Q => ∃ i j, xs = [.int i, .int j] ∧ Q (.int (if j > i then j else i)) H) (tCons ta (tCons tb tNil))) σ H (.int (if j > i then j else i)) := fun Q q => ha _ (hb _ ⟨i, j, rfl, q⟩)
theorem vmin (ha : Val ta σ H (.int i)) (hb : Val tb σ H (.int j)) : Val (tCB (fun xs H Q => ∃ i j, xs = [.int i, .int j] ∧ Q (.int (if j < i then j else i)) H) (tCons ta (tCons tb tNil))) σ H (.int (if j < i then j else i)) := fun Q q => ha _ (hb _ ⟨i, j, rfl, q⟩)
theorem v_rng {te : TE} {J : Int} {R : It → Hp → Prop} (h : Val te σ H (.int J)) (h1 : -(2 ^ 62) ≤ J) (h2 : J < 2 ^ 62) (q : R (Itr 0 J.toNat) H) : iRng1 (tCons te tNil) σ H R := h _ ⟨J, rfl, h1, h2, q⟩
/-- for k in range(max(1, min(m, len(script)))): what stands between two turns is the heap alone -/
theorem law_for {m : Int} {s0 : L2.St} (hm : 1 ≤ m) (hm2 : m ≤ 10) (hS : SqL K H a (ns.map V.int)) (N : L2.St → Prop) (h0 : N (some (.ref a) :: s0))
    (hs : ∀ (k : Nat) s' H', k < 10 → N (some (.ref a) :: s') → Same H H' → tu { D with nx := fun σ' H'' => (∃ s2, σ' = some (.ref a) :: s2 ∧ N (some (.ref a) :: s2)) ∧ Same H H'', ct := fun σ' H'' => (∃ s2, σ' = some (.ref a) :: s2 ∧ N (some (.ref a) :: s2)) ∧ Same H H'', bk := D.nx } ((some (.ref a) :: s').set 1 (some (.int (k : Int)))) H')
    (hd : ∀ s' H', N (some (.ref a) :: s') → Same H H' → D.nx (some (.ref a) :: s') H') :
    tFor (iRng1 (tCons (tCB (fun xs H Q => ∃ i j, xs = [.int i, .int j] ∧ Q (.int (if j > i then j else i)) H) (tCons (tC (.int 1)) (tCons (tCB (fun xs H Q => ∃ i j, xs = [.int i, .int j] ∧ Q (.int (if j < i then j else i)) H) (tCons (tC (.int m)) (tCons (tCB (rLen K) (tCons (tVar 0) tNil)) tNil))) tNil))) tNil)) (gName 1) tu D (some (.ref a) :: s0) H := by
  have hv := vmax (σ := some (.ref a) :: s0) (val_c (v := .int 1) (H := H)) (vmin (val_c (v := .int m)) (vlenL (val_var (i := 0) rfl) hS))
  rw [List.length_map] at hv
  generalize hJ : (if (if ((ns.length : Nat) : Int) < m then ((ns.length : Nat) : Int) else m) > 1 then (if ((ns.length : Nat) : Int) < m then ((ns.length : Nat) : Int) else m) else 1) = J at hv
  have hJ2 : 1 ≤ J ∧ J ≤ 10 := by rw [← hJ]; repeat (split) <;> omega
  refine v_rng hv (by omega) (by omega) (for_range (lo := 0) (n := J.toNat) (fun i σ' H' => (∃ s2, σ' = some (.ref a) :: s2 ∧ N (some (.ref a) :: s2)) ∧ Same H H') ⟨⟨s0, rfl, h0⟩, Same.refl H⟩ ?_ ?_)
  · rintro i σ' H' hi ⟨⟨s2, rfl, n2⟩, sm⟩
    rw [Int.zero_add]
    exact hs i s2 H' (by omega) n2 sm
  · rintro σ' H' ⟨⟨s2, rfl, n2⟩, sm⟩
    exact hd s2 H' n2 sm
/-- right(box(script, k)) -/
theorem v_right {n k : Nat} (h0 : σ[0]? = some (some (.ref a))) (h1 : σ[1]? = some (some (.int (k : Int)))) (hk : k ≤ 10) (hS : SqL K H a (ns.map V.int)) (hl : ns.length ≤ 63) (hn : n ≤ CM) {Q : VK} (q : ∀ H', Same H H' → Q (.bl true) H') :
    tCall (spB n (fun ds => ds = []) (fun _ d => d = .bool true)) [] E (tCons (tCall (spBox K) [] E' (tCons (tVar 0) (tCons (tVar 1) tNil))) tNil) σ H Q := by
  refine ⟨_, h0, _, h1, a, ns, k, rfl, hS, hl, hk, fun b H1 hb sm bx => ⟨b, [], 0, fun _ => none, [], rfl, (fun _ _ e => by cases e), rfl, bx, by omega, .nil, rfl, fun d v G' H' hd ex s' bx' dt => ?_⟩⟩
  subst hd
  cases dt
  exact q H' fun x o e => ex.fr x o (fun z => by subst z; rw [hb] at e; cases e) (sm x o e)
/-- box = box(script, k) -/
theorem v_box {k : Nat} (h0 : σ[0]? = some (some (.ref a))) (h1 : σ[1]? = some (some (.int (k : Int)))) (hk : k ≤ 10) (hS : SqL K H a (ns.map V.int)) (hl : ns.length ≤ 63) {Q : VK} (q : ∀ b H', H b = none → Same H H' → BoxAt b 0 H' → Q (.ref b) H') :
    tCall (spBox K) [] E' (tCons (tVar 0) (tCons (tVar 1) tNil)) σ H Q := ⟨_, h0, _, h1, a, ns, k, rfl, hS, hl, hk, q⟩
end
end B

/-! B9: sorted of tuples that their first parts tell apart, of texts. -/
namespace B
open PySem PySem.Spec PyProof.Rows L2
abbrev Kk := Int × List Nat
def ltK (p q : Kk) : Bool := decide (p.1 < q.1) || (decide (p.1 = q.1) && decide (p.2 < q.2))
theorem ltK_iff {p q : Kk} : ltK p q = true ↔ p.1 < q.1 ∨ (p.1 = q.1 ∧ p.2 < q.2) := by unfold ltK; simp
theorem ltK_no {p q : Kk} : ltK p q = false ↔ ¬ (p.1 < q.1 ∨ (p.1 = q.1 ∧ p.2 < q.2)) := by
  rw [← ltK_iff]; cases ltK p q <;> simp
theorem ltK_total {p q : Kk} (h1 : ltK p q = false) (h2 : ltK q p = false) : p = q := by
  have a := ltK_no.mp h1
  have b := ltK_no.mp h2
  have e : p.1 = q.1 := by omega
  have c1 : ¬ p.2 < q.2 := fun h => a (.inr ⟨e, h⟩)
  have c2 : ¬ q.2 < p.2 := fun h => b (.inr ⟨e.symm, h⟩)
  exact Prod.ext e (List.le_antisymm (List.not_lt.mp c2) (List.not_lt.mp c1))
theorem ltK_trans {p q r : Kk} (h1 : ltK p q = true) (h2 : ltK q r = true) : ltK p r = true := by
  have a := ltK_iff.mp h1
  have b := ltK_iff.mp h2
  refine ltK_iff.mpr ?_
  rcases a with a | ⟨a, a'⟩
  · rcases b with b | ⟨b, b'⟩
    · exact .inl (by omega)
    · exact .inl (by omega)
  · rcases b with b | ⟨b, b'⟩
    · exact .inl (by omega)
    · exact .inr ⟨by omega, List.lt_trans a' b'⟩
theorem ltK_asym {p q : Kk} (h : ltK p q = true) : ltK q p = false := by
  cases e : ltK q p with
  | false => rfl
  | true =>
    have := ltK_iff.mp (ltK_trans h e)
    rcases this with a | ⟨_, a⟩
    · omega
    · exact absurd a (List.lt_irrefl _)
theorem ltK_swo {α : Type} (k : α → Kk) : SrtO.Swo fun x y => ltK (k x) (k y) := by
  refine ⟨fun x y h => ltK_asym h, fun x y z h1 h2 => ?_⟩
  cases e : ltK (k z) (k x) with
  | false => rfl
  | true =>
    -- y ≤ x, z ≤ y turned: not (y < x), not (z < y), yet z < x
    cases e2 : ltK (k x) (k y) with
    | true => rw [ltK_trans e e2] at h2; cases h2
    | false =>
      have := ltK_total h1 e2
      rw [← this] at e
      rw [e] at h2; cases h2
mutual
theorem Dt.det {H : Hp} : ∀ {v : V} {d d' : PyData}, Dt H v d → Dt H v d' → d = d'
  | _, _, _, .non, h => by cases h; rfl
  | _, _, _, .bl b, h => by cases h; rfl
  | _, _, _, .int i, h => by cases h; rfl
  | _, _, _, .str x, h => by cases h; rfl
  | _, _, _, .lst a r, h => by
    cases h with
    | lst a' r' => rw [a] at a'; cases a'; rw [DtA.det r r']
    | tup a' r' => exact (a'.no_lst a).elim
    | dct a' r' => rw [a] at a'; cases a'
  | _, _, _, .tup a r, h => by
    cases h with
    | lst a' r' => exact (a.no_lst a').elim
    | tup a' r' => have := a.det a'; subst this; rw [DtA.det r r']
    | dct a' r' => exact (a.no_dct a').elim
  | _, _, _, .dct a r, h => by
    cases h with
    | lst a' r' => rw [a] at a'; cases a'
    | tup a' r' => exact (a'.no_dct a).elim
    | dct a' r' => rw [a] at a'; cases a'; rw [DtK.det r r']
theorem DtA.det {H : Hp} : ∀ {v : List V} {d d' : List PyData}, DtA H v d → DtA H v d' → d = d'
  | _, _, _, .nil, h => by cases h; rfl
  | _, _, _, .cons a r, h => by
    cases h with
    | cons a' r' => rw [Dt.det a a', DtA.det r r']
theorem DtK.det {H : Hp} : ∀ {v : List (Key × V)} {d d' : List (PyData × PyData)}, DtK H v d → DtK H v d' → d = d'
  | _, _, _, .nil, h => by cases h; rfl
  | _, _, _, .cons a r, h => by
    cases h with
    | cons a' r' => rw [Dt.det a a', DtK.det r r']
end
theorem canLayAll_mem : ∀ {xs : List PyData} {d : PyData}, PyData.canLayAll0 xs = true → d ∈ xs → d.canLay0 = true
  | [], _, _, h => by simp at h
  | x :: r, d, c, h => by
    have c' : x.canLay0 = true ∧ PyData.canLayAll0 r = true := by simpa [PyData.canLayAll0] using c
    rcases List.mem_cons.mp h with e | e
    · rw [e]; exact c'.1
    · exact canLayAll_mem c'.2 e
theorem canLayAll_of : ∀ {xs : List PyData}, (∀ d ∈ xs, d.canLay0 = true) → PyData.canLayAll0 xs = true
  | [], _ => by simp [PyData.canLayAll0]
  | x :: r, h => by
    simp only [PyData.canLayAll0, h x List.mem_cons_self, canLayAll_of fun d hd => h d (List.mem_cons_of_mem _ hd), Bool.and_self]
theorem depthAll_mem : ∀ {xs : List PyData} {d : PyData}, d ∈ xs → d.depth ≤ PyData.depthAll xs
  | [], _, h => by simp at h
  | x :: r, d, h => by
    simp only [PyData.depthAll]
    rcases List.mem_cons.mp h with e | e
    · rw [e]; omega
    · have := depthAll_mem e; omega
theorem depthAll_le : ∀ {xs : List PyData} {n : Nat}, (∀ d ∈ xs, d.depth ≤ n) → PyData.depthAll xs ≤ n
  | [], _, _ => by simp [PyData.depthAll]
  | x :: r, n, h => by
    simp only [PyData.depthAll]
    have h1 := h x List.mem_cons_self
    have h2 := depthAll_le fun d hd => h d (List.mem_cons_of_mem _ hd)
    omega
/-- data without dicts, of this depth at most -/
def Shp (n : Nat) (d : PyData) : Prop := d.canLay0 = true ∧ d.depth ≤ n
theorem Shp.shaped {n : Nat} {d : PyData} (h : Shp n d) (hn : n ≤ 64 := by decide) : SeqAt.shaped d = true := by
  unfold SeqAt.shaped
  rw [h.1, Bool.true_and]
  exact decide_eq_true (Nat.le_trans h.2 hn)
theorem Shp.mono {n m : Nat} {d : PyData} (h : Shp n d) (hn : n ≤ m) : Shp m d := ⟨h.1, Nat.le_trans h.2 hn⟩
theorem shp_none : Shp 0 .none := ⟨rfl, by simp [PyData.depth]⟩
theorem shp_bool {b : Bool} : Shp 0 (.bool b) := ⟨by simp [PyData.canLay0], by simp [PyData.depth]⟩
theorem shp_int {i : Int} : Shp 0 (.int i) := ⟨by simp [PyData.canLay0], by simp [PyData.depth]⟩
theorem shp_str {z : Str} (h : PyData.strOk z = true) : Shp 0 (.str z) := ⟨by simp [PyData.canLay0, h], by simp [PyData.depth]⟩
theorem shp_tup {n : Nat} {xs : List PyData} (h : ∀ d ∈ xs, Shp n d) : Shp (n + 1) (.tuple xs) := ⟨by simp only [PyData.canLay0]; exact canLayAll_of fun d hd => (h d hd).1, by
  have := depthAll_le fun d hd => (h d hd).2
  simp only [PyData.depth]; omega⟩
theorem shp_lst {n : Nat} {xs : List PyData} (h : ∀ d ∈ xs, Shp n d) : Shp (n + 1) (.list xs) := ⟨by simp only [PyData.canLay0]; exact canLayAll_of fun d hd => (h d hd).1, by
  have := depthAll_le fun d hd => (h d hd).2
  simp only [PyData.depth]; omega⟩
theorem shaped_tup {xs : List PyData} {d : PyData} (h : SeqAt.shaped (.tuple xs) = true) (hd : d ∈ xs) : SeqAt.shaped d = true := by
  have c := SeqAt.canLay_of_shaped h
  have e := SeqAt.depth_of_shaped h
  simp only [PyData.canLay0] at c
  simp only [PyData.depth] at e
  have e2 := depthAll_mem hd
  exact Shp.shaped (n := 64) ⟨canLayAll_mem c hd, by omega⟩
/-- two rows of the same length, by the first place where they are unlike -/
inductive LtA : List PyData → List PyData → Bool → Prop
  | nil : LtA [] [] false
  | eq {x y : PyData} {xs ys : List PyData} {b : Bool} : PyData.eqv x y = true → LtA xs ys b → LtA (x :: xs) (y :: ys) b
  | int {i j : Int} {xs ys : List PyData} : i ≠ j → LtA (.int i :: xs) (.int j :: ys) (decide (i < j))
  | str {a b : Str} {xs ys : List PyData} : a ≠ b → LtA (.str a :: xs) (.str b :: ys) (decide (a.cps.toList < b.cps.toList))
def TupOk (ds : List PyData) : Prop := (∀ d ∈ ds, ∃ i cs, d = .tuple (.int i :: cs)) ∨ (∀ d ∈ ds, ∃ z cs, d = .tuple (.str z :: cs))
/-- sorted(xs), tuples: k tells where each stands -/
def rSortedT (K : PySem.W.Frag) : List V → Hp → VK → Prop := fun vs H Q => ∃ (a : Addr) (xs : List V) (ds : List PyData) (k : PyData → Kk), vs = [V.ref a] ∧ SqL K H a xs ∧ DtA H xs ds ∧ (∀ d ∈ ds, SeqAt.shaped d = true) ∧ TupOk ds ∧
  (∀ xs ys, .tuple xs ∈ ds → .tuple ys ∈ ds → xs.length = ys.length ∧ LtA xs ys (ltK (k (.tuple xs)) (k (.tuple ys)))) ∧
  ∀ ys es p, ys.Perm xs → DtA H ys es → es.Perm ds → es.Pairwise (fun x y => ltK (k y) (k x) = false) → H p = none → Q (.ref p) (upd H p (.lst ys))
section
variable {X : Cx} {pins : List (Addr × Obj)} {σ : L2.St} {H : Hp} {s : Shared}
theorem Dt.reads (I : Inv X pins σ H s) {v : V} {u : Value} {d : PyData} (h : Dt H v d) (r : RelV v u) (hs : SeqAt.shaped d = true) : ∃ as, Reads s.heap u d as :=
  Dp.reads I d v u (h.dp (Same.refl H) (SeqAt.canLay_of_shaped hs)) r
end
section
variable {prog : Program} {w : World} {A : Around} {s : Shared}
theorem kat_data {b : Bool} {Q : Bool → Shared → Prop} : ∀ {xs ys : List PyData} {r : Bool} {us ws : List Value} {as bs : List Addr} {i : Nat}, LtA xs ys r → ReadsAll s.heap us xs as → ReadsAll s.heap ws ys bs → (∀ d ∈ xs, SeqAt.shaped d = true) → (∀ d ∈ ys, SeqAt.shaped d = true) →
    A.units + 64 < cLine → xs.length = ys.length → Q r s → PySem.W.KatLex prog w A b false Q (us.zip ws) i s
  | _, _, _, _, _, _, _, _, .nil, .nil, .nil, _, _, _, _, q => PySem.W.kat_nil q
  | _, _, _, _, _, _, _, i, .eq he hl, .cons r1 r2, .cons q1 q2, hx, hy, hu, hn, q => by
    refine PySem.W.kat_cons (SeqAt.eqBoolOverData prog w A _ s _ _ _ _ _ _ _ r1 q1 (SeqAt.canLay_of_shaped (hx _ List.mem_cons_self)) (SeqAt.canLay_of_shaped (hy _ List.mem_cons_self)) (SeqAt.room_of_shaped (hx _ List.mem_cons_self) hu) ?_)
    rw [he]
    exact PySem.W.kat_yes (kat_data hl r2 q2 (fun d h => hx d (List.mem_cons_of_mem _ h)) (fun d h => hy d (List.mem_cons_of_mem _ h)) hu (by simpa using hn) q)
  | _, _, _, _, _, _, _, i, .int (i := k) (j := j) he, .cons r1 r2, .cons q1 q2, hx, hy, hu, hn, q => by
    cases r1 with
    | int _ t =>
      cases q1 with
      | int _ t' =>
        refine PySem.W.kat_cons (SeqAt.EqAt.int_int k t j t' prog w _ _ ?_)
        rw [beq_eq_false_iff_ne.mpr he]
        exact PySem.W.kat_no (TS.oneLt_ints _ q)
  | _, _, _, _, _, _, _, i, .str (a := k) (b := j) he, .cons r1 r2, .cons q1 q2, hx, hy, hu, hn, q => by
    cases r1 with
    | str _ t =>
      cases q1 with
      | str _ t' =>
        refine PySem.W.kat_cons (SeqAt.EqAt.str_str k t j t' prog w _ _ ?_)
        rw [beq_eq_false_iff_ne.mpr he]
        refine PySem.W.kat_no ?_
        cases hb : (b && i == 0) with
        | true => exact oneLt_str q
        | false => exact PySem.W.kat_one _ _ (PySem.P.lt_str q)
theorem LtA.self : ∀ {xs : List PyData} {b : Bool}, LtA xs xs b → True := fun _ => trivial
theorem tup_cmp {vs : List Value} {T : Value → List PyData} {k : PyData → Kk} (hu : A.units + 64 < cLine) (hr : ∀ v ∈ vs, ∃ as, Reads s.heap v (.tuple (T v)) as) (hs : ∀ v ∈ vs, ∀ d ∈ T v, SeqAt.shaped d = true)
    (hl : ∀ v ∈ vs, ∀ u ∈ vs, (T v).length = (T u).length ∧ LtA (T v) (T u) (ltK (k (.tuple (T v))) (k (.tuple (T u))))) : SrtO.Cmp prog w A s (tuples' true) (fun p => p.1 ∈ vs) (SrtO.lt2 fun v u => ltK (k (.tuple (T v))) (k (.tuple (T u)))) := by
  intro p q hm hm'
  obtain ⟨as, r1⟩ := hr _ hm
  obtain ⟨bs, r2⟩ := hr _ hm'
  obtain ⟨e1, e2⟩ := hl _ hm _ hm'
  have h1 := hs _ hm
  have h2 := hs _ hm'
  show wpAny (model prog w) A (keyLt' (tuples' true) p.1 q.1) (fun r s' => s' = s ∧ r = ltK (k (.tuple (T p.1))) (k (.tuple (T q.1)))) (fun _ _ => False) s
  generalize T p.1 = xs at *
  generalize T q.1 = ys at *
  generalize p.1 = u at *
  generalize q.1 = u' at *
  cases r1 with
  | tuple ho hc hd ra =>
    cases r2 with
    | tuple ho' hc' hd' rb =>
      refine PySem.W.kat_lt ho hd ho' hd' ?_
      have ea : ∀ {vs : List Value} {ds : List PyData} {as : List Addr}, ReadsAll s.heap vs ds as → vs.length = ds.length := by
        intro vs
        induction vs with
        | nil => intro ds as h; cases h; rfl
        | cons v vs ih => intro ds as h; cases h with | cons _ b => rw [List.length_cons, List.length_cons, ih b]
      have n1 := ea ra
      have n2 := ea rb
      rw [Array.length_toList] at n1 n2
      rw [decide_eq_false (by omega)]
      exact kat_data e2 ra rb h1 h2 hu e1 ⟨rfl, rfl⟩
end
/-- first parts of one type -/
theorem kat_tups {h : Heap} : ∀ {vs : List Value} {T : Value → List PyData} {T0 : String} (F : PyData → Prop), (∀ v ∈ vs, ∃ as, Reads h v (.tuple (T v)) as) → (∀ v ∈ vs, ∃ x r, T v = x :: r ∧ F x) → (∀ u x as, Reads h u x as → F x → ∀ M : Model, PySem.W.Looks M h (typeOf u) (.type T0)) →
    ∃ fs, PySem.W.KatTups h vs fs ∧ fs.length = vs.length ∧ ∀ f ∈ fs, ∀ M : Model, PySem.W.Looks M h (typeOf f) (.type T0)
  | [], _, _, _, _, _, _ => ⟨[], PySem.W.KatTups.nil, rfl, by simp⟩
  | v :: vs, T, T0, F, hr, hT, hL => by
    obtain ⟨fs, k1, k2, k3⟩ := kat_tups (vs := vs) (T := T) F (fun u hu => hr u (List.mem_cons_of_mem _ hu)) (fun u hu => hT u (List.mem_cons_of_mem _ hu)) hL
    obtain ⟨as, r⟩ := hr v List.mem_cons_self
    obtain ⟨x, rr, e, hx⟩ := hT v List.mem_cons_self
    rw [e] at r
    cases r with
    | tuple ho hc hd ra =>
      rename_i us n
      have : ∃ f us', us.toList = f :: us' ∧ ∃ as, Reads h f x as := by
        cases hq : us.toList with
        | nil => rw [hq] at ra; cases ra
        | cons f us' => rw [hq] at ra; cases ra with | cons a b => exact ⟨f, us', rfl, _, a⟩
      obtain ⟨f, us', e1, bs, rf⟩ := this
      refine ⟨f :: fs, PySem.W.KatTups.cons ho hc hd (by rw [← Array.getElem?_toList, e1]; rfl) k1, by rw [List.length_cons, List.length_cons, k2], fun g hg M => ?_⟩
      rcases List.mem_cons.mp hg with z | z
      · rw [z]; exact hL f x bs rf hx M
      · exact k3 g z M
section
variable {prog : Program} {w : World} {A : Around} {s : Shared}
theorem tups_sortable {a : Addr} {vs : List Value} {T : Value → List PyData} {k : PyData → Kk} (hu : A.units + 64 < cLine) (h0 : 0 < vs.length) (hr : ∀ v ∈ vs, ∃ as, Reads s.heap v (.tuple (T v)) as) (hs : ∀ v ∈ vs, ∀ d ∈ T v, SeqAt.shaped d = true)
    (hf : (∀ v ∈ vs, ∃ i r, T v = .int i :: r) ∨ (∀ v ∈ vs, ∃ i r, T v = .str i :: r)) (h1 : Heap) (hk : ∀ b o, s.heap.get? b = some o → b ≠ a ∧ h1.get? b = some o)
    (hl : ∀ v ∈ vs, ∀ u ∈ vs, (T v).length = (T u).length ∧ LtA (T v) (T u) (ltK (k (.tuple (T v))) (k (.tuple (T u))))) : SrtO.SortableO prog w A { s with heap := h1 } a vs fun v u => ltK (k (.tuple (T v))) (k (.tuple (T u))) := by
  intro h' keep
  have hr' : ∀ v ∈ vs, ∃ as, Reads h' v (.tuple (T v)) as := fun v hm => let ⟨as, r⟩ := hr v hm; ⟨as, Reads.keeps (fun b o e => keep b o (hk b o e).1 (hk b o e).2) r⟩
  refine ⟨tuples' true, fun Q E hq => ?_, tup_cmp hu hr' hs hl⟩
  rcases hf with hf | hf
  · obtain ⟨fs, k1, k2, k3⟩ := kat_tups (T0 := "int") (fun x => ∃ i, x = .int i) hr' (fun v hv => let ⟨i, r, e⟩ := hf v hv; ⟨_, r, e, i, rfl⟩) (fun u x as r hx M => by obtain ⟨i, e⟩ := hx; subst e; cases r; exact PySem.W.Looks.now)
    refine PySem.W.kat_kind (T := .type "int") k1 (by omega) (fun f hm => k3 f hm _) (by rfl) ?_
    have e : (Value.type "int" != Value.type "tuple") = true := by first | decide +kernel | rfl
    rw [e]; exact hq
  · obtain ⟨fs, k1, k2, k3⟩ := kat_tups (T0 := "str") (fun x => ∃ i, x = .str i) hr' (fun v hv => let ⟨i, r, e⟩ := hf v hv; ⟨_, r, e, i, rfl⟩) (fun u x as r hx M => by obtain ⟨i, e⟩ := hx; subst e; cases r; exact PySem.W.Looks.now)
    refine PySem.W.kat_kind (T := .type "str") k1 (by omega) (fun f hm => k3 f hm _) (by rfl) ?_
    have e : (Value.type "str" != Value.type "tuple") = true := by first | decide +kernel | rfl
    rw [e]; exact hq
end
theorem DtA.of_map {H : Hp} {f : V → PyData} : ∀ {xs : List V}, (∀ x ∈ xs, Dt H x (f x)) → DtA H xs (xs.map f)
  | [], _ => .nil
  | x :: r, h => .cons (h x List.mem_cons_self) (DtA.of_map fun y hy => h y (List.mem_cons_of_mem _ hy))
theorem DtA.map_of {H : Hp} {f : V → PyData} (hf : ∀ x d, Dt H x d → f x = d) : ∀ {xs : List V} {ds : List PyData}, DtA H xs ds → xs.map f = ds
  | _, _, .nil => rfl
  | _, _, .cons a r => by rw [List.map_cons, hf _ _ a, DtA.map_of hf r]
theorem DtA.mem {H : Hp} : ∀ {xs : List V} {ds : List PyData} {x : V}, DtA H xs ds → x ∈ xs → ∃ d ∈ ds, Dt H x d
  | _, _, _, .nil, h => by simp at h
  | _, _, x, .cons a r, h => by
    rcases List.mem_cons.mp h with e | e
    · rw [e]; exact ⟨_, List.mem_cons_self, a⟩
    · obtain ⟨d, h1, h2⟩ := DtA.mem r e
      exact ⟨d, List.mem_cons_of_mem _ h1, h2⟩
open Classical in
/-- the data of a value -/
noncomputable def datOf (H : Hp) (x : V) : PyData := if h : ∃ d, Dt H x d then h.choose else .none
theorem datOf_eq {H : Hp} {x : V} {d : PyData} (h : Dt H x d) : datOf H x = d := by
  unfold datOf
  have e : ∃ d, Dt H x d := ⟨d, h⟩
  rw [dif_pos e]
  exact Dt.det e.choose_spec h
def partsOf : PyData → List PyData
  | .tuple xs => xs
  | _ => []
section
variable {X : Cx}
theorem cr_sortedT (hu : X.A.units + 70 < cLine) : CallR X (.builtin "sorted") (rSortedT X.K) := by
  intro pins s σ H vs us Q I r h
  obtain ⟨a, xs, ds, k, rfl, hs, hx, hsh, hfo, hlt, q⟩ := h
  obtain ⟨its, rv, hl, hz⟩ := I.list hs
  obtain ⟨u, rfl, ru⟩ := vals1 r
  obtain rfl : u = Value.ref a := ru
  have tup : ∀ x ∈ xs, ∃ cs, .tuple cs ∈ ds ∧ Dt H x (.tuple cs) := fun x hm => by
    obtain ⟨d, hd, hxd⟩ := hx.mem hm
    rcases hfo with hfo | hfo
    · obtain ⟨i, cs, rfl⟩ := hfo d hd; exact ⟨_, hd, hxd⟩
    · obtain ⟨i, cs, rfl⟩ := hfo d hd; exact ⟨_, hd, hxd⟩
  obtain ⟨e1, e2⟩ := refs_back rv fun x m => by
    obtain ⟨cs, _, h⟩ := tup x m
    cases h with | tup h _ => exact ⟨_, rfl⟩
  have dat : ∀ v ∈ its, ∃ cs, .tuple cs ∈ ds ∧ partsOf (datOf H (backV v)) = cs ∧ Dt H (backV v) (.tuple cs) ∧ RelV (backV v) v := fun v hv => by
    obtain ⟨t, rfl⟩ := e2 v hv
    have hm : V.ref t ∈ xs := by rw [e1]; exact List.mem_map.mpr ⟨_, hv, rfl⟩
    obtain ⟨cs, h1, h2⟩ := tup _ hm
    exact ⟨cs, h1, by show partsOf (datOf H (.ref t)) = cs; rw [datOf_eq h2]; rfl, h2, rfl⟩
  refine SrtO.sorted_ord (ltv := fun v u => ltK (k (.tuple (partsOf (datOf H (backV v))))) (k (.tuple (partsOf (datOf H (backV u)))))) (ltK_swo fun v => k (.tuple (partsOf (datOf H (backV v))))) hl.isList (by rw [← rv.length]; exact hz) (fun h2 h₁ b hb kk => ?_) fun out hsrt hstb => ?_
  · refine tups_sortable (T := fun v => partsOf (datOf H (backV v))) (by show X.A.units + 1 + 1 + 64 < cLine; omega) (by omega) (fun v hv => ?_) (fun v hv d hd => ?_) ?_ h₁ kk fun v hv u hu' => ?_
    · obtain ⟨cs, h1, e, h2, h3⟩ := dat v hv
      rw [e]
      exact Dt.reads I h2 h3 (hsh _ h1)
    · obtain ⟨cs, h1, e, h2, h3⟩ := dat v hv
      rw [e] at hd
      exact shaped_tup (hsh _ h1) hd
    · rcases hfo with hfo | hfo
      · refine .inl fun v hv => ?_
        obtain ⟨cs, h1, e, _⟩ := dat v hv
        obtain ⟨i, r, e'⟩ := hfo _ h1
        cases e'
        exact ⟨i, r, e⟩
      · refine .inr fun v hv => ?_
        obtain ⟨cs, h1, e, _⟩ := dat v hv
        obtain ⟨i, r, e'⟩ := hfo _ h1
        cases e'
        exact ⟨i, r, e⟩
    · obtain ⟨cs, h1, e, _⟩ := dat v hv
      obtain ⟨cs', h1', e', _⟩ := dat u hu'
      rw [e, e']
      exact hlt cs cs' h1 h1'
  · obtain ⟨n, hn⟩ := sortedAll_at s.heap its out.toArray
    have h3 : ∀ u ∈ out, ∃ a, u = Value.ref a := fun u hu => e2 u (hstb.perm.mem_iff.mp hu)
    have hout : ∀ u ∈ out, ∃ cs, .tuple cs ∈ ds ∧ partsOf (datOf H (backV u)) = cs ∧ Dt H (backV u) (.tuple cs) ∧ RelV (backV u) u := fun u hu => dat u (hstb.perm.mem_iff.mp hu)
    have hmap : xs.map (datOf H) = ds := hx.map_of fun x d h => datOf_eq h
    have hy : DtA H (out.map backV) ((out.map backV).map (datOf H)) := DtA.of_map fun x hm => by
      obtain ⟨u, hu, rfl⟩ := List.mem_map.mp hm
      obtain ⟨cs, _, _, h2, _⟩ := hout u hu
      rw [datOf_eq h2]; exact h2
    have hperm : ((out.map backV).map (datOf H)).Perm ds := by
      rw [← hmap, e1]
      exact ((hstb.perm.map backV).map (datOf H))
    have hpw : ((out.map backV).map (datOf H)).Pairwise (fun x y => ltK (k y) (k x) = false) := by
      rw [List.map_map, List.pairwise_map]
      refine List.Pairwise.imp_of_mem (fun {u v} hu hv h => ?_) hsrt
      obtain ⟨cs, _, e, h2, _⟩ := hout u hu
      obtain ⟨cs', _, e', h2', _⟩ := hout v hv
      have h' : ltK (k (.tuple (partsOf (datOf H (backV v))))) (k (.tuple (partsOf (datOf H (backV u))))) = false := h
      rw [e, e'] at h'
      show ltK (k (datOf H (backV v))) (k (datOf H (backV u))) = false
      rw [datOf_eq h2, datOf_eq h2']
      exact h'
    have hle : s.heap.objs.size ≤ s.heap.objs.size + 1 := Nat.le_succ _
    refine ⟨.ref (s.heap.objs.size + 1), upd H (s.heap.objs.size + 1) (.lst (out.map backV)), I.laid (t' := s.toks) (fun b o e => sortedAll_old e) hle ⟨?_, out, n, vals_back h3, hn⟩, rfl, q _ _ _ (by rw [e1]; exact hstb.perm.map backV) hy hperm hpw (I.hok.fresh hle)⟩
    rw [List.length_map, hstb.perm.length_eq, ← rv.length]
    exact hz
end
end B

/-! B10: lists that are read (own or data), slices, sorted, repr. -/
namespace B
open PySem PySem.Spec PyProof.Rows L2
/-- a list to be read: at p, its items data -/
def EvL (μ : Mu) (te : TE) (Γ : List Sl) (n : Nat) (P : List PyData → Prop) : Prop :=
  ∀ (G0 H0 G : Hp) (c : Nat) (σ : L2.St) (H : Hp) (Q : VK), Stt μ G0 H0 G Γ c σ H → c + n ≤ CM →
    (∀ ds p vs G' H', P ds → Stt μ G0 H0 G' Γ (c + n) σ H' → Ext μ.M G H G' H' → ¬ μ.M p → H' p = some (.lst vs) → DtA G' vs ds → Q (.ref p) H') → te σ H Q
section
variable {μ : Mu} {Γ : List Sl} {n n1 n2 k : Nat} {P P1 P2 : PyData → Prop} {ta tb tc te : TE} {x y z w d : PyData} {K : PySem.W.Frag} {i : Nat} {ds xs ys : List PyData} {PL : List PyData → Prop}
theorem el_dat (h : Ev μ te Γ n P) (hP : ∀ d, P d → ∃ ds, d = .list ds) : EvL μ te Γ n (fun ds => P (.list ds)) := fun G0 H0 G c σ H Q S l q =>
  h G0 H0 G c σ H _ S l fun d v G1 H1 p S1 e1 d1 => by
    obtain ⟨ds, rfl⟩ := hP d p
    cases d1 with
    | lst a r => exact q ds _ _ G1 H1 p S1 e1 (fun m => by rw [S1.gM m] at a; cases a) (S1.sub _ _ a) r
theorem el_datE (h : Ev μ te Γ n (Eq (.list ds))) : EvL μ te Γ n (Eq ds) := fun G0 H0 G c σ H Q S l q =>
  el_dat h (fun d e => ⟨ds, e.symm⟩) G0 H0 G c σ H Q S l fun ds' p vs G' H' e => by cases e; exact q ds p vs G' H' rfl
theorem el_own (h : Γ[i]? = some (.own ds)) : EvL μ (tVar i) Γ 0 (Eq ds) := fun G0 H0 G c σ H Q S l q => by
  obtain ⟨p, vs, hs, hM, hp, hd⟩ := S.own h
  exact ⟨.ref p, hs, q ds p vs G H rfl S (Ext.refl _ G H) hM hp hd⟩
theorem ev_lenO (h : EvL μ te Γ n (Eq ds)) : Ev μ (tCB (rLen K) (tCons te tNil)) Γ n (Eq (.int (ds.length : Int))) := fun G0 H0 G c σ H Q S l q =>
  h G0 H0 G c σ H _ S l fun ds' p vs G1 H1 e S1 e1 hM hp hd => by
    cases e
    exact ⟨_, _, rfl, .inl ⟨_, SqL.of hp, rfl⟩, by rw [hd.length]; exact q _ _ G1 H1 rfl S1 e1 (.int _)⟩
theorem ev_tupleO (h : EvL μ te Γ n PL) (hl : ∀ ds, PL ds → ds.length ≤ 10000000) : Ev μ (tCB (rTupOfP K) (tCons te tNil)) Γ n (fun d => ∃ ds, PL ds ∧ d = .tuple ds) := fun G0 H0 G c σ H Q S l q =>
  h G0 H0 G c σ H _ S l fun ds' p vs G1 H1 e S1 e1 hM hp hd => ⟨p, vs, rfl, .inl ⟨SqL.of hp, fun a o ho ha => q _ _ _ _ ⟨ds', e, rfl⟩ (S1.laid ha) (e1.trans (.same (Nw.upd ha S1.sub) (Same.new ha))) (.tup (.new ho) (hd.mono (Nw.upd ha S1.sub).1))⟩⟩
theorem ev_tupleE (h : EvL μ te Γ n (Eq ds)) : Ev μ (tCB (rTupOfP K) (tCons te tNil)) Γ n (Eq (.tuple ds)) := fun G0 H0 G c σ H Q S l q =>
  h G0 H0 G c σ H _ S l fun ds' p vs G1 H1 e S1 e1 hM hp hd => ⟨p, vs, rfl, .inl ⟨SqL.of hp, fun a o ho ha => by cases e; exact q _ _ _ _ rfl (S1.laid ha) (e1.trans (.same (Nw.upd ha S1.sub) (Same.new ha))) (.tup (.new ho) (hd.mono (Nw.upd ha S1.sub).1))⟩⟩
theorem ev_ixO {j : Int} (h : EvL μ ta Γ n1 (Eq ds)) (hb : Ev μ tb Γ n2 (Eq (.int j))) (hat : atI ds j = some d) : Ev μ (tOp (rIxL K) ta tb) Γ (n1 + n2) (Eq d) := fun G0 H0 G c σ H Q S l q =>
  h G0 H0 G c σ H _ S (by omega) fun ds' p vs G1 H1 e S1 e1 hM hp hd => hb G0 H0 G1 _ σ H1 _ S1 (by omega) fun d2 v2 G2 H2 p2 S2 e2 d2' => by
    cases e; cases p2; cases d2'
    obtain ⟨m, h1, h2⟩ := atI_of hd.length.symm hat
    obtain ⟨u, hu, hdu⟩ := hd.getD h1
    rw [Nat.add_assoc] at S2
    exact ⟨p, vs, j, u, rfl, rfl, SqL.of (e2.fr _ _ hM hp), h2.trans hu, q _ _ G2 H2 rfl S2 (e1.trans e2) (hdu.mono e2.gg)⟩
/-- a list that is not changed meanwhile, walked -/
theorem ei_list (h : EvL μ te Γ n PL) : EvI μ (iList K te) Γ n PL := fun G0 H0 G c σ H R S l q =>
  h G0 H0 G c σ H _ S l fun ds p vs G1 H1 e S1 e1 hM hp hd => ⟨p, rfl, ⟨_, SqL.of hp⟩, q ds _ [(p, .lst vs)] G1 H1 e S1 e1 (dwalk_at walk_list (fun H' _ pin => SqL.of (pin _ List.mem_cons_self)) hd) fun x hx => by
    rw [List.mem_singleton.mp hx]; exact ⟨hM, hp⟩⟩
theorem DtA.of_mem {G H : Hp} (s : Same G H) : ∀ {ys : List V} {es : List PyData}, DtA H ys es → (∀ y ∈ ys, ∃ d, Dt G y d) → DtA G ys es
  | _, _, .nil, _ => .nil
  | _, _, .cons a r, h => by
    obtain ⟨d, hd⟩ := h _ List.mem_cons_self
    rw [← Dt.det (hd.mono s) a]
    exact .cons hd (DtA.of_mem s r fun y hy => h y (List.mem_cons_of_mem _ hy))
theorem ev_sortT (key : PyData → Kk) (h : EvL μ te Γ n PL) (h1 : ∀ ds, PL ds → (∀ d ∈ ds, SeqAt.shaped d = true) ∧ TupOk ds ∧ ∀ xs ys, .tuple xs ∈ ds → .tuple ys ∈ ds → xs.length = ys.length ∧ LtA xs ys (ltK (key (.tuple xs)) (key (.tuple ys)))) :
    EvL μ (tCB (rSortedT K) (tCons te tNil)) Γ n (fun es => ∃ ds, PL ds ∧ es.Perm ds ∧ es.Pairwise (fun x y => ltK (key y) (key x) = false)) := fun G0 H0 G c σ H Q S l q =>
  h G0 H0 G c σ H _ S l fun ds p vs G1 H1 e S1 e1 hM hp hd => by
    obtain ⟨a1, a2, a3⟩ := h1 ds e
    refine ⟨p, vs, ds, key, rfl, SqL.of hp, hd.mono S1.sub, a1, a2, a3, fun ys es a pv hy pe pw ha => ?_⟩
    have hy' : DtA G1 ys es := DtA.of_mem S1.sub hy fun y hm => by
      obtain ⟨d, _, h⟩ := hd.mem (pv.mem_iff.mp hm)
      exact ⟨d, h⟩
    have S2 := S1.laid (o := .lst ys) ha
    exact q es a ys _ _ ⟨ds, e, pe, pw⟩ S2 (e1.trans (.same (Nw.upd ha S1.sub) (Same.new ha))) (fun m => (S1.ent a m).1 (S1.h0 ha)) upd_same (hy'.mono (Nw.upd ha S1.sub).1)
theorem EvL.imp {P' : List PyData → Prop} (h : EvL μ te Γ n PL) (k : ∀ ds, PL ds → P' ds) : EvL μ te Γ n P' := fun G0 H0 G c σ H Q S l q => h G0 H0 G c σ H Q S l fun ds p vs G' H' e => q ds p vs G' H' (k ds e)
/-- the list that sorted made, as data -/
theorem ev_sortTE (key : PyData → Kk) (h : EvL μ te Γ n (Eq ds)) (h1 : (∀ d ∈ ds, SeqAt.shaped d = true) ∧ TupOk ds ∧ ∀ xs ys, .tuple xs ∈ ds → .tuple ys ∈ ds → xs.length = ys.length ∧ LtA xs ys (ltK (key (.tuple xs)) (key (.tuple ys)))) :
    Ev μ (tCB (rSortedT K) (tCons te tNil)) Γ n (fun d => ∃ es, d = .list es ∧ es.Perm ds ∧ es.Pairwise (fun x y => ltK (key y) (key x) = false)) := fun G0 H0 G c σ H Q S l q =>
  h G0 H0 G c σ H _ S l fun ds' p vs G1 H1 e S1 e1 hM hp hd => by
    cases e
    obtain ⟨a1, a2, a3⟩ := h1
    refine ⟨p, vs, ds, key, rfl, SqL.of hp, hd.mono S1.sub, a1, a2, a3, fun ys es a pv hy pe pw ha => ?_⟩
    have hy' : DtA G1 ys es := DtA.of_mem S1.sub hy fun y hm => by
      obtain ⟨d, _, h⟩ := hd.mem (pv.mem_iff.mp hm)
      exact ⟨d, h⟩
    exact q _ _ _ _ ⟨es, rfl, pe, pw⟩ (S1.laid ha) (e1.trans (.same (Nw.upd ha S1.sub) (Same.new ha))) (.lst upd_same (hy'.mono (Nw.upd ha S1.sub).1))
/-! ### slices -/
def EvO (μ : Mu) (to : TO) (Γ : List Sl) (o : Option Int) : Prop :=
  ∀ (G0 H0 G : Hp) (c : Nat) (σ : L2.St) (H : Hp) (Q : Option Int → Hp → Prop), Stt μ G0 H0 G Γ c σ H → c ≤ CM → (∀ G' H', Stt μ G0 H0 G' Γ c σ H' → Ext μ.M G H G' H' → Q o H') → to σ H Q
theorem eo_none : EvO μ tNoPart Γ none := fun _ _ G c σ H Q S l q => q G H S (Ext.refl _ G H)
theorem eo_some {j : Int} (h : Ev μ te Γ 0 (Eq (.int j))) : EvO μ (tPart te) Γ (some j) := fun G0 H0 G c σ H Q S l q =>
  h G0 H0 G c σ H _ S l fun d v G1 H1 p S1 e1 d1 => by
    cases p; cases d1
    exact ⟨j, rfl, q G1 H1 S1 e1⟩
def cutD (xs : List PyData) (lo hi : Option Int) : List PyData := (xs.drop (HT.sIx xs.length 0 lo)).take (HT.sIx xs.length xs.length hi - HT.sIx xs.length 0 lo)
theorem DtA.cut {G : Hp} {vs : List V} {ds : List PyData} (h : DtA G vs ds) (lo hi : Option Int) : DtA G (cutV vs lo hi) (cutD ds lo hi) := by
  unfold cutV cutD
  rw [h.length]
  exact (h.drop _).take _
theorem ev_slS {s : Str} {tl th : TO} {lo hi : Option Int} (h : Ev μ te Γ 0 (Eq (.str s))) (h1 : EvO μ tl Γ lo) (h2 : EvO μ th Γ hi) (hl : s.length ≤ 10000000) : Ev μ (tSl rSlS te tl th) Γ 0 (Eq (.str (cutS s lo hi))) := fun G0 H0 G c σ H Q S l q =>
  h G0 H0 G c σ H _ S l fun d v G1 H1 p S1 e1 d1 => h1 G0 H0 G1 _ σ H1 _ S1 l fun G2 H2 S2 e2 => h2 G0 H0 G2 _ σ H2 _ S2 l fun G3 H3 S3 e3 => by
    cases p; cases d1
    exact ⟨s, rfl, Nat.le_trans hl (by decide), q _ _ G3 H3 rfl S3 ((e1.trans e2).trans e3) (.str _)⟩
theorem ev_slL {tl th : TO} {lo hi : Option Int} (h : EvL μ te Γ 0 (Eq ds)) (h1 : EvO μ tl Γ lo) (h2 : EvO μ th Γ hi) : Ev μ (tSl (rSlL K) te tl th) Γ 0 (Eq (.list (cutD ds lo hi))) := fun G0 H0 G c σ H Q S l q =>
  h G0 H0 G c σ H _ S l fun ds' p vs G1 H1 e S1 e1 hM hp hd => h1 G0 H0 G1 _ σ H1 _ S1 l fun G2 H2 S2 e2 => h2 G0 H0 G2 _ σ H2 _ S2 l fun G3 H3 S3 e3 => by
    cases e
    have ee := e2.trans e3
    refine ⟨p, vs, rfl, SqL.of (ee.fr _ _ hM hp), fun a ha => q _ _ _ _ rfl (S3.laid ha) ((e1.trans ee).trans (.same (Nw.upd ha S3.sub) (Same.new ha))) (.lst upd_same (((hd.cut lo hi).mono ee.gg).mono (Nw.upd ha S3.sub).1))⟩
theorem ev_slT {tl th : TO} {lo hi : Option Int} (h : Ev μ te Γ 0 (Eq (.tuple ds))) (h1 : EvO μ tl Γ lo) (h2 : EvO μ th Γ hi) : Ev μ (tSl (rSlAP K) te tl th) Γ 0 (Eq (.tuple (cutD ds lo hi))) := fun G0 H0 G c σ H Q S l q =>
  h G0 H0 G c σ H _ S l fun d v G1 H1 p S1 e1 d1 => h1 G0 H0 G1 _ σ H1 _ S1 l fun G2 H2 S2 e2 => h2 G0 H0 G2 _ σ H2 _ S2 l fun G3 H3 S3 e3 => by
    cases p
    have ee := e2.trans e3
    cases d1 with
    | tup a r =>
      refine ⟨_, _, rfl, (a.mono ee.gg).sq S3.sub, fun hw => ?_, fun _ b o ho hb => q _ _ _ _ rfl (S3.laid hb) ((e1.trans ee).trans (.same (Nw.upd hb S3.sub) (Same.new hb))) (.tup (.new ho) (((r.cut lo hi).mono ee.gg).mono (Nw.upd hb S3.sub).1))⟩
      refine q _ _ G3 H3 rfl S3 (e1.trans ee) ?_
      have e : cutD ds lo hi = ds := by
        unfold cutD
        rw [r.length] at hw
        rw [hw.1, hw.2, List.drop_zero, Nat.sub_zero, List.take_length]
      rw [e]
      exact .tup (a.mono ee.gg) (r.mono ee.gg)
theorem rd_catA (h : xs.length + ys.length ≤ 10000000) : RD (rCatAP K) (.tuple xs) (.tuple ys) (.tuple (xs ++ ys)) := fun G H v w Q s hv hw q => by
  cases hv with
  | tup a r =>
    cases hw with
    | tup a2 r2 =>
      refine ⟨_, _, _, _, rfl, rfl, a.sq s, a2.sq s, by rw [r.length, r2.length]; exact Nat.le_trans h (by decide), fun e => ?_, fun _ e => ?_, fun _ _ p o ho hp => q _ _ _ (Nw.upd hp s) (Same.upd2 s) (Same.new hp) (.tup (.new ho) ((r.append r2).mono (Nw.upd hp s).1))⟩
      · subst e; cases r; exact q _ G H (Nw.refl _ _) s (Same.refl _) (.tup a2 r2)
      · subst e; cases r2; rw [List.append_nil] at q; exact q _ G H (Nw.refl _ _) s (Same.refl _) (.tup a r)
theorem rd_rep {j : Int} (h : xs.length * j.toNat ≤ 10000000) (h1 : -1000000 ≤ j) (h2 : j ≤ 1000000) : RD rRep (.list xs) (.int j) (.list (List.replicate j.toNat xs).flatten) := fun G H v w Q s hv hw q => by
  cases hw
  cases hv with
  | lst a r =>
    refine ⟨_, _, _, rfl, rfl, s _ _ a, by omega, by omega, by rw [r.length]; exact Nat.le_trans h (by decide), fun p hp => q _ _ _ (Nw.upd hp s) (Same.upd2 s) (Same.new hp) (.lst upd_same ?_)⟩
    have : ∀ n : Nat, DtA G (List.replicate n _).flatten (List.replicate n xs).flatten := fun n => by
      induction n with
      | zero => exact .nil
      | succ n ih => rw [List.replicate_succ, List.replicate_succ, List.flatten_cons, List.flatten_cons]; exact r.append ih
    exact (this _).mono (Nw.upd hp s).1
/-! ### in -/
theorem inV_strs (a : Str) : ∀ zs : List Str, inV (.str a) (zs.map V.str) = zs.any (· == a)
  | [] => rfl
  | z :: r => by
    show (eqV (.str z) (.str a) || inV (.str a) (r.map V.str)) = _
    rw [inV_strs a r]; rfl
theorem flat_strs : ∀ zs : List Str, (zs.map V.str).all flatV = true
  | [] => rfl
  | z :: r => by rw [List.map_cons, List.all_cons, flat_strs r]; rfl
theorem rd_inL {a : Str} {zs : List Str} {neg : Bool} : RD (rIn K neg) (.str a) (.list (zs.map .str)) (.bool (if neg then !zs.any (· == a) else zs.any (· == a))) := fun G H v w Q s hv hw q => by
  cases hv
  cases hw with
  | lst e r =>
    have := r.of_strs; subst this
    exact ⟨_, _, rfl, .inl (SqL.of (s _ _ e)), rfl, flat_strs zs, by rw [inV_strs]; exact q _ G H (Nw.refl _ _) s (Same.refl _) (.bl _)⟩
theorem rd_inT {a : Str} {zs : List Str} {neg : Bool} : RD (rIn K neg) (.str a) (.tuple (zs.map .str)) (.bool (if neg then !zs.any (· == a) else zs.any (· == a))) := fun G H v w Q s hv hw q => by
  cases hv
  cases hw with
  | tup e r =>
    have := r.of_strs; subst this
    exact ⟨_, _, rfl, .inr (e.sq s), rfl, flat_strs zs, by rw [inV_strs]; exact q _ G H (Nw.refl _ _) s (Same.refl _) (.bl _)⟩
/-! ### texts -/
abbrev rStart : V → List V → Hp → VK → Prop := fun x xs H Q => ∃ a b, x = .str a ∧ xs = [.str b] ∧ Q (.bl (Txt.startswith a b)) H
theorem ev_starts {a b : Str} (ha : Ev μ ta Γ 0 (Eq (.str a))) (hb : Ev μ tb Γ 0 (Eq (.str b))) : Ev μ (tM1 rStart ta tb) Γ 0 (Eq (.bool (Txt.startswith a b))) := ev_m1 ha hb fun G H v vs Q s hv hvs q => by
  cases hv
  cases hvs with
  | cons h1 h2 => cases h1; cases h2; exact ⟨a, b, rfl, rfl, q _ G H (Nw.refl _ _) s (Same.refl _) (.bl _)⟩
theorem ev_addS {a b : Str} (ha : Ev μ ta Γ 0 (Eq (.str a))) (hb : Ev μ tb Γ 0 (Eq (.str b))) (h : a.length + b.length ≤ 10000000) : Ev μ (tOp rAddSt ta tb) Γ 0 (Eq (.str (a ++ b))) := ev_op ha hb (rd_addS h)
theorem ev_intB {b : Bool} (h : Ev μ te Γ n (Eq (.bool b))) : Ev μ (tCB rInt1 (tCons te tNil)) Γ n (Eq (.int (if b then 1 else 0))) := ev_cb (ea_cons h ea_nil) fun G H vs Q s hv q => by
  cases hv with
  | cons h1 h2 => cases h1; cases h2; exact .inr ⟨b, rfl, q _ G H (Nw.refl _ _) s (Same.refl _) (.int _)⟩
theorem ev_intI {j : Int} (h : Ev μ te Γ n (Eq (.int j))) : Ev μ (tCB rInt1 (tCons te tNil)) Γ n (Eq (.int j)) := ev_cb (ea_cons h ea_nil) fun G H vs Q s hv q => by
  cases hv with
  | cons h1 h2 => cases h1; cases h2; exact .inl ⟨j, rfl, q _ G H (Nw.refl _ _) s (Same.refl _) (.int _)⟩
/-! ### repr -/
def rRepr : List V → Hp → VK → Prop := fun xs H Q => ∃ v d, xs = [v] ∧ Dt H v d ∧ SeqAt.shaped d = true ∧ d.showable = true ∧ d.shown.length ≤ sizeLine ∧ Q (.str d.shown) H
theorem call_reprD {X : Cx} (hG : X.A.guards = some []) (hu : X.A.units + 70 < cLine) : CallR X (.builtin "repr") rRepr := by
  intro pins s σ H xs us Q I r h
  obtain ⟨v, d, rfl, hd, hs, hsh, hz, q⟩ := h
  obtain ⟨u, rfl, ru⟩ := vals1 r
  have hr := Dt.reads I hd ru hs
  have hdp := SeqAt.depth_of_shaped hs
  obtain ⟨as, hr⟩ := hr
  cases hd with
  | non =>
    cases ru
    exact PySem.P.repr_of_none ⟨.str _, H, I.tok _, ⟨_, rfl⟩, by rw [PyData.shown_none] at q; exact q⟩
  | bl b =>
    cases ru
    exact PySem.P.repr_of_bool ⟨.str _, H, I.tok _, ⟨_, rfl⟩, by rw [PyData.shown_bool] at q; cases b <;> exact q⟩
  | int i =>
    obtain ⟨t, rfl⟩ := ru
    exact PySem.P.repr_of_int (by simpa [PyData.showable] using hsh) ⟨.str _, H, I.tok _, ⟨_, rfl⟩, by rw [PyData.shown_int] at q; exact q⟩
  | str x =>
    obtain ⟨t, rfl⟩ := ru
    exact PySem.P.repr_of_str ⟨.str _, H, I.tok _, ⟨_, rfl⟩, by rw [PyData.shown_str] at q; exact q⟩ (by rw [PyData.shown_str] at hz; exact hz)
  | lst a r =>
    cases ru
    refine repr_of_reads' hr hsh (PyData.noDict_hsm (PyData.hasDict_of_canLay _ (SeqAt.canLay_of_shaped hs))) hG (by omega) (fun _ _ e => e) (fun h' u' tk hk => ⟨.str _, H, I.kept (t' := tk) hk, ⟨_, rfl⟩, q⟩) hz
  | tup a r =>
    cases ru
    refine repr_of_reads' hr hsh (PyData.noDict_hsm (PyData.hasDict_of_canLay _ (SeqAt.canLay_of_shaped hs))) hG (by omega) (fun _ _ e => e) (fun h' u' tk hk => ⟨.str _, H, I.kept (t' := tk) hk, ⟨_, rfl⟩, q⟩) hz
  | dct a r =>
    have := SeqAt.canLay_of_shaped hs
    simp [PyData.canLay0] at this
theorem ev_repr (h : Ev μ te Γ n (Eq d)) (hs : SeqAt.shaped d = true) (hsh : d.showable = true) (hz : d.shown.length ≤ 16777216) : Ev μ (tCB rRepr (tCons te tNil)) Γ n (Eq (.str d.shown)) := ev_cb (ea_cons h ea_nil) fun G H vs Q s hv q => by
  cases hv with
  | cons h1 h2 => cases h2; exact ⟨_, d, rfl, h1.mono s, hs, hsh, Nat.le_trans hz (by decide), q _ G H (Nw.refl _ _) s (Same.refl _) (.str _)⟩
end
end B

/-! B11: texts as lists of codes; how long a repr is. -/
namespace B
open PySem PySem.Spec PyProof.Rows L2 TL
theorem starts_iff {x y : Str} : Txt.startswith x y = true ↔ tl y <+: tl x := by
  have hx := len_tl x
  have hy := len_tl y
  unfold Txt.startswith
  rw [Bool.and_eq_true, decide_eq_true_eq, StrLaws.subAt_eq, List.drop_zero, hx, hy, beq_iff_eq]
  constructor
  · rintro ⟨_, h⟩
    show y.cps.toList <+: x.cps.toList
    rw [← h]; exact List.take_prefix _ _
  · intro h
    exact ⟨by have := h.length_le; omega, (List.prefix_iff_eq_take.mp h).symm⟩
theorem starts_false {x y : Str} : Txt.startswith x y = false ↔ ¬ tl y <+: tl x := by
  rw [← starts_iff]; cases Txt.startswith x y <;> simp
theorem tl_inj {x y : Str} : tl x = tl y ↔ x = y := ⟨ext_tl, fun e => by rw [e]⟩
theorem beq_tl {x y : Str} : (x == y) = decide (tl x = tl y) := by
  rw [Bool.eq_iff_iff, beq_iff_eq, decide_eq_true_eq, tl_inj]
theorem tl_cut {z : Str} {k : Nat} : tl (cutS z (some (k : Int)) none) = (tl z).drop k := by
  have hz := len_tl z
  show ((z.cps.toList.drop (HT.sIx z.length 0 (some (k : Int)))).take (HT.sIx z.length z.length none - HT.sIx z.length 0 (some (k : Int)))).toArray.toList = _
  rw [HT.sIx_nat, HT.sIx_none]
  show (((tl z).drop (min k z.length)).take (z.length - min k z.length)) = _
  rw [List.take_of_length_le (by rw [List.length_drop]; omega)]
  by_cases h : k ≤ z.length
  · rw [Nat.min_eq_left h]
  · rw [Nat.min_eq_right (by omega), List.drop_of_length_le (by omega), List.drop_of_length_le (by omega)]
theorem tl_slash : tl (Str.ofString "/") = [47] := by decide +kernel
theorem tl_empty : tl (Str.ofString "") = [] := by decide +kernel
/-- codes that are codes -/
theorem strOk_tl {z : Str} : PyData.strOk z = true ↔ ∀ c ∈ tl z, c < 0x110000 := by
  unfold PyData.strOk
  rw [← Array.all_toList, List.all_eq_true]
  simp [tl]
theorem strOk_app {a b : Str} (ha : PyData.strOk a = true) (hb : PyData.strOk b = true) : PyData.strOk (a ++ b) = true := by
  rw [strOk_tl] at *
  intro c hc
  rw [tl_append] at hc
  rcases List.mem_append.mp hc with h | h
  · exact ha c h
  · exact hb c h
theorem strOk_cut {a : Str} (ha : PyData.strOk a = true) (lo hi : Option Int) : PyData.strOk (cutS a lo hi) = true := by
  rw [strOk_tl] at *
  intro c hc
  have hc' : c ∈ (((a.cps.toList.drop (HT.sIx a.length 0 lo)).take (HT.sIx a.length a.length hi - HT.sIx a.length 0 lo))) := hc
  exact ha c (List.mem_of_mem_drop (List.mem_of_mem_take hc'))
theorem cut_len {a : Str} {lo hi : Option Int} : (cutS a lo hi).length ≤ a.length := by
  rw [len_tl, len_tl a]
  show (((a.cps.toList.drop (HT.sIx a.length 0 lo)).take (HT.sIx a.length a.length hi - HT.sIx a.length 0 lo))).length ≤ _
  rw [List.length_take, List.length_drop]
  show _ ≤ a.cps.toList.length
  omega
/-! ### reprs -/
/-- data of this depth at most, whose repr has n signs at most -/
structure Rp (m n : Nat) (d : PyData) : Prop where
  shp : Shp m d
  sho : d.showable = true
  len : d.shown.length ≤ n
theorem Rp.mono {m m' n n' : Nat} {d : PyData} (h : Rp m n d) (hm : m ≤ m') (hn : n ≤ n') : Rp m' n' d := ⟨h.shp.mono hm, h.sho, Nat.le_trans h.len hn⟩
theorem rp_none : Rp 0 4 .none := ⟨shp_none, rfl, by rw [PyData.shown_none]; decide +kernel⟩
theorem rp_bool {b : Bool} : Rp 0 5 (.bool b) := ⟨shp_bool, by simp [PyData.showable], by rw [PyData.shown_bool]; cases b <;> decide +kernel⟩
theorem rp_int {i : Int} (h : i.natAbs < 10 ^ 12) : Rp 0 13 (.int i) := by
  refine ⟨shp_int, ?_, PyData.shown_int_le h⟩
  simp only [PyData.showable]
  refine decide_eq_true ?_
  have h2 : i.natAbs < 2 ^ 1920 := Nat.lt_of_lt_of_le h (by decide +kernel)
  by_cases h0 : i.natAbs = 0
  · rw [h0]; decide
  · exact (Nat.log2_lt h0).mpr h2
theorem rp_str {z : Str} {L : Nat} (h : PyData.strOk z = true) (hl : z.length ≤ L) : Rp 0 (10 * L + 2) (.str z) := by
  refine ⟨shp_str h, by simp [PyData.showable], ?_⟩
  rw [PyData.shown_str]
  have := StrLaws.reprText_len z (fun c hc => Nat.lt_of_lt_of_le (strOk_tl.mp h c hc) (by decide))
  omega
theorem shownAll_map : ∀ xs : List PyData, PyData.shownAll xs = xs.map PyData.shown
  | [] => by simp [PyData.shownAll]
  | x :: r => by simp [PyData.shownAll, shownAll_map r]
theorem shown_sum {n : Nat} {xs : List PyData} (h : ∀ d ∈ xs, d.shown.length ≤ n) : ((PyData.shownAll xs).map (·.length)).sum ≤ xs.length * n := by
  rw [shownAll_map, List.map_map]
  exact sum_le_mul _ n xs h
theorem rp_tup {m n k : Nat} {xs : List PyData} (h : ∀ d ∈ xs, Rp m n d) (hk : xs.length ≤ k) : Rp (m + 1) (k * (n + 2) + 3) (.tuple xs) := by
  refine ⟨shp_tup fun d hd => (h d hd).shp, ?_, ?_⟩
  · simp only [PyData.showable]; exact Spec.showableAll_of fun d hd => (h d hd).sho
  · have h1 := tupleText_len_le (PyData.shownAll xs)
    have h2 := shown_sum (n := n) fun d hd => (h d hd).len
    rw [PyData.shownAll_length] at h1
    simp only [PyData.shown]
    have h3 : xs.length * (n + 2) ≤ k * (n + 2) := Nat.mul_le_mul_right _ hk
    rw [Nat.mul_add] at h3
    omega
theorem rp_lst {m n k : Nat} {xs : List PyData} (h : ∀ d ∈ xs, Rp m n d) (hk : xs.length ≤ k) : Rp (m + 1) (k * (n + 2) + 3) (.list xs) := by
  refine ⟨shp_lst fun d hd => (h d hd).shp, ?_, ?_⟩
  · simp only [PyData.showable]; exact Spec.showableAll_of fun d hd => (h d hd).sho
  · have h1 := listText_len_le (PyData.shownAll xs)
    have h2 := shown_sum (n := n) fun d hd => (h d hd).len
    rw [PyData.shownAll_length] at h1
    simp only [PyData.shown]
    have h3 : xs.length * (n + 2) ≤ k * (n + 2) := Nat.mul_le_mul_right _ hk
    rw [Nat.mul_add] at h3
    omega
theorem ev_reprR {μ : Mu} {te : TE} {Γ : List Sl} {k m n : Nat} {d : PyData} (h : Ev μ te Γ k (Eq d)) (hr : Rp m n d) (hm : m ≤ 64 := by decide) (hn : n ≤ 16777216 := by decide) : Ev μ (tCB rRepr (tCons te tNil)) Γ k (Eq (.str d.shown)) :=
  ev_repr h (hr.shp.shaped hm) hr.sho (Nat.le_trans hr.len hn)
end B

/-! B12: rooms; several names at once. -/
namespace B
open PySem PySem.Spec PyProof.Rows L2 TL
theorem u70 {k : Nat} {A : Around} (hr : Room k A) : A.units + 70 < cLine := by have := hr.un; omega
section
variable {μ : Mu} {Γ : List Sl} {n n1 n2 c : Nat} {R : Po} {ta tb tc te : TE} {i j l : Nat} {P P1 P2 : PyData → Prop}
/-- a, b, c = x, y, [] -/
theorem go_par3o (ha : Ev μ ta Γ n1 P1) (hb : Ev μ tb Γ n2 P2) (hc : c + (n1 + n2) ≤ CM) (k : ∀ a b, P1 a → P2 b → R.nx (((Γ.set i (.dat a)).set j (.dat b)).set l (.own [])) (c + (n1 + n2))) : Go μ (tPar3 i j l (tCons ta (tCons tb (tCons (tLst tNil) tNil)))) Γ c R := fun G0 H0 Gs G σ H D S gs L =>
  ha G0 H0 G c σ H _ S (by omega) fun a v G1 H1 p1 S1 e1 d1 => hb G0 H0 G1 (c + n1) σ H1 _ S1 (by omega) fun b w G2 H2 p2 S2 e2 d2 => by
    refine ⟨Nat.zero_le _, fun p hp => ⟨_, _, _, rfl, ?_⟩⟩
    rw [Nat.add_assoc] at S2
    exact L.nx _ _ G2 _ _ (k a b p1 p2) (((S2.setD (d1.mono e2.gg)).setD d2).newOwn hp .nil) (gs.trans (e1.trans e2).gg)
/-- a, b = x, [] -/
theorem go_paro (ha : Ev μ ta Γ n1 P1) (hc : c + n1 ≤ CM) (k : ∀ a, P1 a → R.nx ((Γ.set i (.dat a)).set j (.own [])) (c + n1)) : Go μ (tPar i j (tCons ta (tCons (tLst tNil) tNil))) Γ c R := fun G0 H0 Gs G σ H D S gs L =>
  ha G0 H0 G c σ H _ S (by omega) fun a v G1 H1 p1 S1 e1 d1 => by
    refine ⟨Nat.zero_le _, fun p hp => ⟨_, _, rfl, ?_⟩⟩
    exact L.nx _ _ G1 _ _ (k a p1) ((S1.setD d1).newOwn hp .nil) (gs.trans e1.gg)
/-- a, b = [], [] -/
theorem go_paroo (k : i ≠ j → R.nx ((Γ.set i (.own [])).set j (.own [])) c) (hij : i ≠ j) : Go μ (tPar i j (tCons (tLst tNil) (tCons (tLst tNil) tNil))) Γ c R := fun G0 H0 Gs G σ H D S gs L => by
  refine ⟨Nat.zero_le _, fun p hp => ⟨Nat.zero_le _, fun q hq => ⟨_, _, rfl, ?_⟩⟩⟩
  exact L.nx _ _ G _ _ (k hij) ((S.newOwn (i := i) hp .nil).newOwn hq .nil) gs
/-- a loop over things of a kind, by what was passed -/
theorem go_forP {α : Type} {enc : α → PyData} {wi : TI} {g : TG} {ts : TS} (as : List α) (Φ : List α → List Sl → Nat → Prop) (hi : EvW μ wi Γ n (Eq (as.map enc))) (hc : c + n ≤ CM) (h0 : Φ [] Γ (c + n))
    (hs : ∀ pre a post Γ' c', as = pre ++ a :: post → Φ pre Γ' c' → ∃ is Γ'', EvG g (enc a) is Γ' Γ'' ∧ Go μ ts Γ'' c' { R with nx := Φ (pre ++ [a]), ct := Φ (pre ++ [a]), bk := R.nx })
    (hd : ∀ Γ' c', Φ as Γ' c' → R.nx Γ' c') : Go μ (tFor wi g ts) Γ c R := by
  refine go_for hi hc fun ds e => ?_
  subst e
  refine ⟨fun i Γ' c' => Φ (as.take i) Γ' c', h0, fun i d Γ' c' hx hj => ?_, fun Γ' c' hj => ?_⟩
  · rw [List.getElem?_map] at hx
    cases ha : as[i]? with
    | none => rw [ha] at hx; cases hx
    | some a =>
      rw [ha] at hx
      cases hx
      have hl : i < as.length := (List.getElem?_eq_some_iff.mp ha).1
      have e1 : as = as.take i ++ a :: as.drop (i + 1) := by
        have h1 : as.drop i = a :: as.drop (i + 1) := by
          rw [List.drop_eq_getElem_cons hl]
          congr 1
          have := (List.getElem?_eq_some_iff.mp ha).2
          exact this
        rw [← h1, List.take_append_drop]
      have e2 : as.take (i + 1) = as.take i ++ [a] := by rw [List.take_add_one, ha]; rfl
      obtain ⟨is, Γ'', hg, hgo⟩ := hs (as.take i) a _ Γ' c' e1 hj
      dsimp only
      rw [e2]
      exact ⟨is, Γ'', hg, hgo⟩
  · dsimp only at hj
    rw [List.length_map, List.take_length] at hj
    exact hd Γ' c' hj
/-- comprehensions over things of a kind -/
theorem ev_lcT {α : Type} {enc : α → PyData} {as : List α} {wi : TI} {g : TG} {tt : TT} {is vs : List Nat} (hi : EvI μ wi Γ n (Eq (as.map enc))) (hm : as.length ≤ 50000) (hv : ∀ i ∈ is, i ∈ vs) (f : α → Bool) (h : α → PyData)
    (ht : ∀ a, a ∈ as → ∃ Γ', EvG g (enc a) is (wipeG Γ vs) Γ' ∧ EvT μ tt Γ' 0 (Eq (f a)) ∧ (f a = true → Ev μ te Γ' 0 (Eq (h a)))) :
    Ev μ (tLc wi g tt te vs) Γ n (Eq (.list ((as.filter f).map h))) := by
  have key := ev_lcR (w := fun _ => 0) (m := 0) (P := Eq (.list ((as.filter f).map h))) hi (fun ds p => by cases p; rw [List.length_map]; exact hm) hv (fun ds' i es => es = ((as.take i).filter f).map h) (fun _ _ => rfl) (fun _ => Nat.le_refl _) (fun _ _ => Nat.le_refl _)
    (fun ds' i es _ e => by
      rw [e, List.length_map]
      exact Nat.le_trans (List.length_filter_le _ _) (by rw [List.length_take]; omega)) (fun ds' es p e => by cases p; rw [e, List.length_map, List.take_length]) fun ds' i d es p hd hR => by
      cases p
      rw [List.getElem?_map] at hd
      cases ha : as[i]? with
      | none => rw [ha] at hd; cases hd
      | some a =>
        rw [ha] at hd
        cases hd
        obtain ⟨Γ', hg, h1, h2⟩ := ht a (List.mem_of_getElem? ha)
        have ht' : as.take (i + 1) = as.take i ++ [a] := by rw [List.take_add_one, ha]; rfl
        refine ⟨Γ', f a, 0, 0, Eq (h a), hg, h1, fun z => ⟨h2 z, fun e pe => ?_⟩, fun z => ?_, Nat.le_refl _⟩
        · rw [ht', List.filter_append, List.map_append, ← hR, ← pe]
          simp [z]
        · rw [ht', List.filter_append, List.map_append, ← hR]
          simp [z]
  exact key
theorem ev_lcTM {α : Type} {enc : α → PyData} {as : List α} {wi : TI} {g : TG} {is vs : List Nat} (hi : EvI μ wi Γ n (Eq (as.map enc))) (hm : as.length ≤ 50000) (hv : ∀ i ∈ is, i ∈ vs) (h : α → PyData)
    (ht : ∀ a, a ∈ as → ∃ Γ', EvG g (enc a) is (wipeG Γ vs) Γ' ∧ Ev μ te Γ' 0 (Eq (h a))) : Ev μ (tLc wi g tYes te vs) Γ n (Eq (.list (as.map h))) := by
  have := ev_lcT (tt := tYes) hi hm hv (fun _ => true) h fun d hd => let ⟨Γ', a, b⟩ := ht d hd; ⟨Γ', a, et_yes, fun _ => b⟩
  rw [List.filter_eq_self.mpr fun _ _ => rfl] at this
  exact this
theorem eqv_str {a b : Str} : PyData.eqv (.str a) (.str b) = (a == b) := by simp [PyData.eqv]
theorem eqv_none : PyData.eqv .none .none = true := by simp [PyData.eqv]
theorem eqv_ns {b : Str} : PyData.eqv .none (.str b) = false := by simp [PyData.eqv]
theorem eqv_sn {b : Str} : PyData.eqv (.str b) .none = false := by simp [PyData.eqv]
end
/-! ### the law's own loops -/
theorem law_go {a b : Addr} {t : TS} {D : Ends} {H : Hp} {Γ : List Sl} {σ : L2.St} (hl : σ.length = Γ.length) (hs : ∀ (i : Nat) s, Γ[i]? = some s → ∃ o, σ[i]? = some o ∧ (s = .un ∨ ∃ v, s = .raw v ∧ o = some v)) (bx : BoxAt b 0 H)
    (h : Go (boxMu b) t Γ 0 { nx := fun Γ' _ => Γ'[0]? = some (.raw (.ref a)) ∧ Γ'.length = Γ.length, rt := fun _ _ => False })
    (k : ∀ σ' H', σ'.length = σ.length → σ'[0]? = some (some (.ref a)) → (∀ x o, x ≠ b → H x = some o → H' x = some o) → D.nx σ' H') : t D σ H := by
  refine h (fun _ => none) H (fun _ => none) (fun _ => none) σ H D ⟨hl, Nw.refl _ _, (fun _ _ e => by cases e), Fr.refl _ _, fun x m => ?_, bx, fun i s e => ?_, fun i j p o _ => ?_⟩ (Same.refl _) ⟨fun Γ' c' G' σ' H' ⟨q1, q2⟩ S' _ => ?_, fun _ _ _ _ _ _ _ z => z.elim, fun _ _ _ _ _ z => z.elim, fun _ _ _ _ _ z => z.elim, trivial⟩
  · have m' : x = b := m
    subst m'
    exact ⟨(boxMu x).dom 0 H x bx rfl, rfl⟩
  · obtain ⟨o, h1, h2⟩ := hs i s e
    refine ⟨o, h1, ?_⟩
    rcases h2 with rfl | ⟨v, rfl, rfl⟩
    · trivial
    · rfl
  · obtain ⟨ds, e, _⟩ := o
    obtain ⟨o', _, h2⟩ := hs i _ e
    rcases h2 with h2 | ⟨v, h2, _⟩ <;> cases h2
  · exact k σ' H' (by rw [S'.len, q2, hl]) (S'.raw q1) fun x o hx e => S'.fr x o hx e
section
variable {K : PySem.W.Frag} {H : Hp} {a : Addr} {ns : List Int} {E E' : XK} {D : Ends} {k n m : Nat} {x2 x3 : Option V}
theorem slots4 {b : Addr} : ∀ (i : Nat) s, [Sl.raw (.ref a), .raw (.int (k : Int)), .raw (.ref b), .un][i]? = some s → ∃ o, [some (V.ref a), some (.int (k : Int)), some (.ref b), x3][i]? = some o ∧ (s = .un ∨ ∃ v, s = .raw v ∧ o = some v)
  | 0, _, e => by cases e; exact ⟨_, rfl, .inr ⟨_, rfl, rfl⟩⟩
  | 1, _, e => by cases e; exact ⟨_, rfl, .inr ⟨_, rfl, rfl⟩⟩
  | 2, _, e => by cases e; exact ⟨_, rfl, .inr ⟨_, rfl, rfl⟩⟩
  | 3, _, e => by cases e; exact ⟨_, rfl, .inl rfl⟩
  | _ + 4, _, e => by simp at e
theorem law_end {σ' : L2.St} (hl : σ'.length = 4) (h0 : σ'[0]? = some (some (.ref a))) : ∃ y1 y2 y3, σ' = [some (.ref a), y1, y2, y3] := by
  match σ', hl, h0 with
  | [_, y1, y2, y3], _, h0 => cases h0; exact ⟨y1, y2, y3, rfl⟩
theorem law_bodyC (hk : k ≤ 10) (hS : SqL K H a (ns.map V.int)) (hl : ns.length ≤ 63) (hm : m ≤ 1000) (hn : m * n ≤ CM) (hq : ∀ y1 y2 y3 H', Same H H' → D.nx [some (.ref a), y1, y2, y3] H') :
    tSeq (tAsg (tCall (spBox K) [] E' (tCons (tVar 0) (tCons (tVar 1) tNil))) (gName 2)) (tFor (iRng1 (tCons (tC (.int (m : Int))) tNil)) (gName 3) (tIfS (tNot (tB (tCall (spB n (fun ds => ds = []) (fun _ d => d = .bool true)) [] E (tCons (tVar 2) tNil)))) (tRet (tC (.bl false))) tNext)) D [some (.ref a), some (.int (k : Int)), x2, x3] H := by
  refine v_box rfl rfl hk hS hl fun b H1 hb sm bx => ?_
  dsimp only [gName, List.set]
  show (tFor _ _ _) D [some (.ref a), some (.int (k : Int)), some (.ref b), x3] H1
  refine law_go (a := a) (b := b) (Γ := [.raw (.ref a), .raw (.int (k : Int)), .raw (.ref b), .un]) rfl slots4 bx ?_ fun σ' H' h1 h2 h3 => ?_
  · refine go_for (n := 0) (ew_rng1E (ea_cons0 ev_int ea_nil) (by omega) (by omega)) (by decide) fun ds e => ?_
    subst e
    refine ⟨fun i Γ' c' => ∃ s3, Γ' = [.raw (.ref a), .raw (.int (k : Int)), .raw (.ref b), s3] ∧ c' ≤ i * n, ⟨_, rfl, by omega⟩, ?_, ?_⟩
    · rintro i d Γ' c' hd ⟨s3, rfl, hc⟩
      have hi : i < m := by
        have := (List.getElem?_eq_some_iff.mp hd).1
        rw [rngD_len] at this; omega
      have hin : i * n + n ≤ m * n := by
        have := Nat.mul_le_mul_right n (show i + 1 ≤ m by omega)
        rw [Nat.add_mul] at this; omega
      refine ⟨_, _, eg_name, ?_⟩
      refine go_if (PB := Eq false) (n := n) (EvT.imp (et_not (b := true) (et_B (Ev.imp (P1 := fun d => d = .bool true) (ev_callB1 (b := b) (pre := fun ds => ds = []) (post := fun _ d => d = .bool true) rfl rfl) fun d e => ?_))) fun d e => ?_) (by omega) (fun h => by cases h) fun _ => ?_
      · have e' : d = .bool true := e
        exact e'.symm
      · exact e
      · refine go_next ⟨_, rfl, ?_⟩
        rw [Nat.add_mul]; omega
    · rintro Γ' c' ⟨s3, rfl, hc⟩
      exact ⟨rfl, rfl⟩
  · obtain ⟨y1, y2, y3, rfl⟩ := law_end h1 h2
    exact hq y1 y2 y3 H' fun x o e => h3 x o (fun z => by subst z; rw [hb] at e; cases e) (sm x o e)
theorem law_bodyB (hk : k ≤ 10) (hS : SqL K H a (ns.map V.int)) (hl : ns.length ≤ 63) (hm : m ≤ 1000) (hn : m * n ≤ CM) (hq : ∀ y1 y2 y3 H', Same H H' → D.nx [some (.ref a), y1, y2, y3] H') :
    tSeq (tAsg (tCall (spBox K) [] E' (tCons (tVar 0) (tCons (tVar 1) tNil))) (gName 2)) (tIfS (tNot (tB (tCB (rAll K) (tCons (tLc (iRng1 (tCons (tC (.int (m : Int))) tNil)) (gName 3) tYes (tCall (spB n (fun ds => ds = []) (fun _ d => d = .bool true)) [] E (tCons (tVar 2) tNil)) [3]) tNil)))) (tRet (tC (.bl false))) tNext) D [some (.ref a), some (.int (k : Int)), x2, x3] H := by
  refine v_box rfl rfl hk hS hl fun b H1 hb sm bx => ?_
  dsimp only [gName, List.set]
  show (tIfS _ _ _) D [some (.ref a), some (.int (k : Int)), some (.ref b), x3] H1
  refine law_go (a := a) (b := b) (Γ := [.raw (.ref a), .raw (.int (k : Int)), .raw (.ref b), .un]) rfl slots4 bx ?_ fun σ' H' h1 h2 h3 => ?_
  · refine go_if (PB := Eq false) (n := 0 + m * n) (EvT.imp (et_not (b := true) (et_B (ev_cbP (P := Eq (.bool true)) (P1 := fun xs => ∃ j : Nat, xs = [.list ((List.replicate j true).map .bool)]) (ea_consP (n2 := 0) (ev_lcP (P := fun d => d = .bool true) (m := m) (k := n) (is := [3]) (ew_rng1E (ea_cons0 ev_int ea_nil) (by omega) (by omega)).i (fun ds e => by rw [← e, rngD_len]; omega) (by omega) (by simp) fun ds d p hd => ⟨_, eg_name, by exact ev_callB1 (b := b) rfl rfl⟩) ea_nil ?_) ?_))) ?_) (by omega) (fun h => by cases h) fun _ => ?_
    · rintro x y ⟨es, ds, rfl, _, _, hall⟩ rfl
      refine ⟨es.length, ?_⟩
      congr 2
      apply List.ext_getElem?
      intro i
      rw [List.getElem?_map, List.getElem?_replicate]
      by_cases hi : i < es.length
      · rw [if_pos hi, List.getElem?_eq_getElem hi, hall _ (List.getElem_mem hi)]; rfl
      · rw [if_neg hi, List.getElem?_eq_none (by omega)]; rfl
    · rintro xs ⟨j, rfl⟩
      exact ⟨_, rc_all, by rw [List.all_replicate]; simp⟩
    · exact fun d e => e
    · exact go_next ⟨rfl, rfl⟩
  · obtain ⟨y1, y2, y3, rfl⟩ := law_end h1 h2
    exact hq y1 y2 y3 H' fun x o e => h3 x o (fun z => by subst z; rw [hb] at e; cases e) (sm x o e)
end
/-! ### permutations -/
theorem perm_map {α β : Type} {f : α → β} : ∀ {rs : List α} {es : List β}, es.Perm (rs.map f) → ∃ qs : List α, qs.Perm rs ∧ es = qs.map f
  | [], es, h => ⟨[], .nil, by simpa using h.eq_nil⟩
  | r :: rs, es, h => by
    have hm : f r ∈ es := h.mem_iff.mpr (by simp)
    obtain ⟨a, b, rfl⟩ := List.append_of_mem hm
    have h2 : (a ++ b).Perm (rs.map f) := (List.perm_cons (f r)).mp (List.perm_middle.symm.trans h)
    obtain ⟨qs, hq, e⟩ := perm_map h2
    obtain ⟨qa, qb, rfl, rfl, rfl⟩ := List.append_eq_map_iff.mp e
    refine ⟨qa ++ r :: qb, List.perm_middle.trans (hq.cons r), by simp⟩
end B

/-! B13: readings with K told. -/
namespace B
open PySem PySem.Spec PyProof.Rows L2 TL
section
variable {X : Cx} {K : PySem.W.Frag} {tg : Expr}
theorem ixK_list (h : X.K = K) : IxR X (rIxL K) := h ▸ ix_list
theorem ixK_tup (h : X.K = K) : IxR X (rIxT K) := h ▸ ix_tup
theorem ixK_seq (h : X.K = K) : IxR X (rIx K) := h ▸ ix_seq
theorem slK_list (h : X.K = K) : SlR X (rSlL K) := h ▸ sl_list
theorem slK_tupA (h : X.K = K) : SlR X (rSlAP K) := h ▸ sl_tupAP
theorem opK_eqD (h : X.K = K) (hu : X.A.units + 64 < cLine) : OpR X (compareOp .Eq) (rEqD K) := h ▸ op_eqD hu
theorem opK_neD (h : X.K = K) (hu : X.A.units + 64 < cLine) : OpR X (compareOp .NotEq) (rNeD K) := h ▸ op_neD hu
theorem opK_in (h : X.K = K) : OpR X (compareOp .In) (rIn K false) := h ▸ op_in_seq
theorem opK_notIn (h : X.K = K) : OpR X (compareOp .NotIn) (rIn K true) := h ▸ op_notIn_seq
theorem callK_len (h : X.K = K) : CallR X (.builtin "len") (rLen K) := h ▸ call_len
theorem crK_all (h : X.K = K) (hc : X.calm = true) : CallR X (.builtin "all") (rAll K) := h ▸ cr_all hc
theorem crK_any (h : X.K = K) (hc : X.calm = true) : CallR X (.builtin "any") (rAny K) := h ▸ cr_any hc
theorem callK_isi (h : X.K = K) : CallR X (.builtin "isinstance") (rIsi K) := h ▸ call_isi
theorem crK_sortedT (h : X.K = K) (hu : X.A.units + 70 < cLine) : CallR X (.builtin "sorted") (rSortedT K) := h ▸ cr_sortedT hu
theorem callK_tuple (h : X.K = K) : CallR X (.type "tuple") (rTupOfP K) := h ▸ call_tuple_ofP
abbrev rLstOf (K : PySem.W.Frag) : List V → Hp → VK → Prop := fun xs H Q => ∃ p ys, xs = [.ref p] ∧ (SqL K H p ys ∨ SqT K H p ys) ∧ ∀ l, H l = none → Q (.ref l) (upd H l (.lst ys))
theorem callK_list (h : X.K = K) : CallR X (.type "list") (rLstOf K) := h ▸ call_list_of
theorem opK_catA (h : X.K = K) : OpR X (binaryOp .Add) (rCatAP K) := h ▸ op_catAP
theorem piK_list {l : Expr} {tl : TE} (h : X.K = K) (hl : PE X l tl) : PI X tg l (iList K tl) := h ▸ pi_list hl
theorem piK_tup {l : Expr} {tl : TE} (h : X.K = K) (hl : PE X l tl) : PI X tg l (iTup K tl) := h ▸ pi_tup hl
end
theorem go_mid {μ : Mu} {Γ : List Sl} {c : Nat} {R : Po} {t u : TS} (Mid : List Sl → Nat → Prop) (h : Go μ t Γ c { R with nx := Mid }) (k : ∀ Γ' c', Mid Γ' c' → Go μ u Γ' c' R) : Go μ (tSeq t u) Γ c R :=
  go_seq (h.imp k (fun _ _ z => z) (fun _ _ z => z) (fun _ _ z => z))
theorem rd_neS {a b : Str} : RD rNe (.str a) (.str b) (.bool (!(a == b))) := fun G H v w Q s hv hw q => by
  cases hv; cases hw
  exact ⟨rfl, by rw [dec_str]; exact q _ G H (Nw.refl _ _) s (Same.refl _) (.bl _)⟩
theorem rd_neI {a b : Int} : RD rNe (.int a) (.int b) (.bool (!(a == b))) := fun G H v w Q s hv hw q => by
  cases hv; cases hw
  exact ⟨rfl, by rw [dec_int]; exact q _ G H (Nw.refl _ _) s (Same.refl _) (.bl _)⟩
theorem ev_callKE {μ : Mu} {Γ : List Sl} {tk : TA} {E : XK} {pre : List PyData → Prop} {post : List PyData → PyData → Prop} {gV : List V → List V → List V} {ys zs : List PyData} (hk : EvA μ tk Γ 0 (Eq ys)) (hg : ∀ G ws, DtA G ws ys → DtA G (gV [] ws) zs) (hp : pre zs) : Ev μ (tCallK (spP pre post) gV E tNil tk) Γ 0 (post zs) :=
  ev_callK ea_nil hk (fun G vs ws h1 h2 => by cases h1; exact hg G ws h2) hp
theorem dt2 {gV : List V → List V → List V} {x y : PyData} (hg : ∀ v w, gV [] [v, w] = [w, v]) : ∀ G ws, DtA G ws [x, y] → DtA G (gV [] ws) [y, x] := fun G ws h => by
  cases h with
  | cons a r =>
    cases r with
    | cons b r => cases r; rw [hg]; exact .cons b (.one a)
theorem dt2' {gV : List V → List V → List V} {x y : PyData} (hg : ∀ v w, gV [] [v, w] = [v, w]) : ∀ G ws, DtA G ws [x, y] → DtA G (gV [] ws) [x, y] := fun G ws h => by
  cases h with
  | cons a r =>
    cases r with
    | cons b r => cases r; rw [hg]; exact .cons a (.one b)
end B

/-! B14: dicts that a def has made; sorted as a function. -/
namespace B
open PySem PySem.Spec PyProof.Rows L2 TL
/-! ### sorted -/
def sortK (key : PyData → Kk) (ds : List PyData) : List PyData := ds.mergeSort fun x y => !ltK (key y) (key x)
theorem ltK_le_trans {p q r : Kk} (h1 : ltK q p = false) (h2 : ltK r q = false) : ltK r p = false := by
  cases h : ltK r p with
  | false => rfl
  | true =>
    cases h3 : ltK q r with
    | true => rw [ltK_trans h3 h] at h1; cases h1
    | false =>
      have e := ltK_total h2 h3
      rw [e] at h
      rw [h] at h1
      cases h1
theorem sortK_perm (key : PyData → Kk) (ds : List PyData) : (sortK key ds).Perm ds := List.mergeSort_perm _ _
theorem sortK_pw (key : PyData → Kk) (ds : List PyData) : (sortK key ds).Pairwise (fun x y => ltK (key y) (key x) = false) := by
  have h := List.pairwise_mergeSort (le := fun x y => !ltK (key y) (key x)) (fun a b c h1 h2 => by
    simp only [Bool.not_eq_true'] at h1 h2 ⊢
    exact ltK_le_trans h1 h2) (fun a b => by
    cases h1 : ltK (key b) (key a) with
    | false => rfl
    | true => rw [ltK_asym h1]; rfl) ds
  exact h.imp fun {a b} h => by simpa using h
theorem sortK_eq {key : PyData → Kk} {ds es : List PyData} (hk : ∀ x ∈ ds, ∀ y ∈ ds, key x = key y → x = y) (pe : es.Perm ds) (pw : es.Pairwise (fun x y => ltK (key y) (key x) = false)) : es = sortK key ds :=
  List.Perm.eq_of_pairwise (fun a b ha hb h1 h2 => hk a (pe.mem_iff.mp ha) b ((sortK_perm key ds).mem_iff.mp hb) (ltK_total h2 h1)) pw (sortK_pw key ds) (pe.trans (sortK_perm key ds).symm)
theorem sortK_congr {key : PyData → Kk} {ds es : List PyData} (hk : ∀ x ∈ ds, ∀ y ∈ ds, key x = key y → x = y) (pe : es.Perm ds) : sortK key es = sortK key ds := sortK_eq hk ((sortK_perm key es).trans pe) (sortK_pw key es)
theorem sortK_mem {key : PyData → Kk} {ds : List PyData} {d : PyData} : d ∈ sortK key ds ↔ d ∈ ds := (sortK_perm key ds).mem_iff
theorem sortK_len {key : PyData → Kk} {ds : List PyData} : (sortK key ds).length = ds.length := (sortK_perm key ds).length_eq
/-- what sorted asks of tuples -/
structure Sortable (key : PyData → Kk) (ds : List PyData) : Prop where
  sh : ∀ d ∈ ds, SeqAt.shaped d = true
  tp : TupOk ds
  lt : ∀ xs ys, .tuple xs ∈ ds → .tuple ys ∈ ds → xs.length = ys.length ∧ LtA xs ys (ltK (key (.tuple xs)) (key (.tuple ys)))
  inj : ∀ x ∈ ds, ∀ y ∈ ds, key x = key y → x = y
section
variable {μ : Mu} {Γ : List Sl} {n n1 n2 c : Nat} {R : Po} {ta tb tc te td ty tv : TE} {ts : TS} {i j l : Nat} {P P1 P2 : PyData → Prop} {K : PySem.W.Frag} {ds : List PyData} {d x : PyData}
theorem ev_sortK {key : PyData → Kk} (h : EvL μ te Γ n (Eq ds)) (hs : Sortable key ds) : Ev μ (tCB (rSortedT K) (tCons te tNil)) Γ n (Eq (.list (sortK key ds))) :=
  (ev_sortTE key h ⟨hs.sh, hs.tp, hs.lt⟩).imp fun d ⟨es, e, pe, pw⟩ => by rw [e, sortK_eq hs.inj pe pw]
/-! ### dicts -/
def valM (es : List (Key × PyData)) (k : Key) : Option PyData := (es.find? fun e => decide (e.1 = k)).map (·.2)
def putM (es : List (Key × PyData)) (k : Key) (d : PyData) : List (Key × PyData) :=
  if (es.any fun e => decide (e.1 = k)) = true then es.map (fun e => if e.1 = k then (e.1, d) else e) else es ++ [(k, d)]
theorem DtM.length {G : Hp} : ∀ {kvs : List (Key × V)} {es : List (Key × PyData)}, DtM G kvs es → kvs.length = es.length
  | _, _, .nil => rfl
  | _, _, .cons _ r => by rw [List.length_cons, List.length_cons, DtM.length r]
theorem DtM.any {G : Hp} {k : Key} : ∀ {kvs : List (Key × V)} {es : List (Key × PyData)}, DtM G kvs es → (kvs.any fun e => decide (e.1 = k)) = (es.any fun e => decide (e.1 = k))
  | _, _, .nil => rfl
  | _, _, .cons _ r => by rw [List.any_cons, List.any_cons, DtM.any r]
theorem DtM.snoc {G : Hp} {k : Key} {v : V} {d : PyData} (h : Dt G v d) : ∀ {kvs : List (Key × V)} {es : List (Key × PyData)}, DtM G kvs es → DtM G (kvs ++ [(k, v)]) (es ++ [(k, d)])
  | _, _, .nil => .cons h .nil
  | _, _, .cons a r => .cons a (DtM.snoc h r)
theorem DtM.repl {G : Hp} {k : Key} {v : V} {d : PyData} (h : Dt G v d) : ∀ {kvs : List (Key × V)} {es : List (Key × PyData)}, DtM G kvs es → DtM G (kvs.map fun kv => if kv.1 = k then (kv.1, v) else kv) (es.map fun e => if e.1 = k then (e.1, d) else e)
  | _, _, .nil => .nil
  | (k', v') :: kvs, (_, d') :: es, .cons a r => by
    rw [List.map_cons, List.map_cons]
    by_cases e : k' = k
    · simp only [if_pos e]; exact .cons h (DtM.repl h r)
    · simp only [if_neg e]; exact .cons a (DtM.repl h r)
theorem DtM.put {G : Hp} {k : Key} {v : V} {d : PyData} {kvs : List (Key × V)} {es : List (Key × PyData)} (m : DtM G kvs es) (h : Dt G v d) : DtM G (putK kvs k v) (putM es k d) := by
  unfold putK putM
  rw [m.any]
  split
  · exact m.repl h
  · exact m.snoc h
theorem DtM.val {G : Hp} {k : Key} : ∀ {kvs : List (Key × V)} {es : List (Key × PyData)}, DtM G kvs es → (valV kvs k = none ∧ valM es k = none) ∨ ∃ v d, valV kvs k = some v ∧ valM es k = some d ∧ Dt G v d
  | _, _, .nil => .inl ⟨rfl, rfl⟩
  | (k', v') :: kvs, (_, d') :: es, .cons a r => by
    by_cases e : k' = k
    · exact .inr ⟨v', d', by simp [valV, List.find?_cons, e], by simp [valM, List.find?_cons, e], a⟩
    · have h1 : valV ((k', v') :: kvs) k = valV kvs k := valV_neg e
      have h2 : valM ((k', d') :: es) k = valM es k := by simp [valM, List.find?_cons, e]
      rw [h1, h2]
      exact DtM.val r
theorem DtM.of_K {G : Hp} : ∀ {kvs : List (Key × V)} {es : List (PyData × PyData)}, DtK G kvs es → ∃ ms : List (Key × PyData), es = ms.map (fun e => (keyD e.1, e.2)) ∧ DtM G kvs ms
  | _, _, .nil => ⟨[], rfl, .nil⟩
  | _, _, .cons (k := k) (d := d) a r => by
    obtain ⟨ms, e, h⟩ := DtM.of_K r
    exact ⟨(k, d) :: ms, by rw [e]; rfl, .cons a h⟩
theorem keyD_inj {a b : Key} (h : keyD a = keyD b) : a = b := by
  cases a <;> cases b <;> first | (cases h; rfl) | cases h
theorem keysD_inj : ∀ {a b : List (Key × PyData)}, a.map (fun e => (keyD e.1, e.2)) = b.map (fun e => (keyD e.1, e.2)) → a = b
  | [], [], _ => rfl
  | [], _ :: _, h => by simp at h
  | _ :: _, [], h => by simp at h
  | (k, d) :: a, (k', d') :: b, h => by
    simp only [List.map_cons, List.cons.injEq, Prod.mk.injEq] at h
    rw [keyD_inj h.1.1, h.1.2, keysD_inj h.2]
theorem Dt.key {G : Hp} (k : Key) : Dt G (kV k) (keyD k) := by
  cases k with
  | inl i => exact .int i
  | inr s => exact .str s
theorem Dt.ofKey {G : Hp} {v : V} {k : Key} (h : Dt G v (keyD k)) : v = kV k := by
  cases k <;> (cases h; rfl)
/-- a dict to be read -/
def EvD (μ : Mu) (te : TE) (Γ : List Sl) (n : Nat) (es : List (Key × PyData)) : Prop :=
  ∀ (G0 H0 G : Hp) (c : Nat) (σ : L2.St) (H : Hp) (Q : VK), Stt μ G0 H0 G Γ c σ H → c + n ≤ CM →
    (∀ p kvs u G' H', Stt μ G0 H0 G' Γ (c + n) σ H' → Ext μ.M G H G' H' → ¬ μ.M p → H' p = some u → (u = .dK kvs ∨ ∃ od, u = .frz od (.dK kvs)) → DtM G' kvs es → Q (.ref p) H') → te σ H Q
/-- .. that is not locked -/
def EvDu (μ : Mu) (te : TE) (Γ : List Sl) (n : Nat) (es : List (Key × PyData)) : Prop :=
  ∀ (G0 H0 G : Hp) (c : Nat) (σ : L2.St) (H : Hp) (Q : VK), Stt μ G0 H0 G Γ c σ H → c + n ≤ CM →
    (∀ p kvs G' H', Stt μ G0 H0 G' Γ (c + n) σ H' → Ext μ.M G H G' H' → ¬ μ.M p → H' p = some (.dK kvs) → DtM G' kvs es → Q (.ref p) H') → te σ H Q
variable {es : List (Key × PyData)} {k : Key}
theorem EvDu.rd (h : EvDu μ te Γ n es) : EvD μ te Γ n es := fun G0 H0 G c σ H Q S l q =>
  h G0 H0 G c σ H Q S l fun p kvs G' H' S' e hM hp hd => q p kvs _ G' H' S' e hM hp (.inl rfl) hd
theorem ed_map (h : Γ[i]? = some (.map es)) : EvDu μ (tVar i) Γ 0 es := fun G0 H0 G c σ H Q S l q => by
  obtain ⟨p, kvs, hs, hM, hp, hd⟩ := S.dct h
  exact ⟨_, hs, q p kvs G H S (Ext.refl _ G H) hM hp hd⟩
theorem ed_lck {p : Addr} {od : Obj} {kvs : List (Key × V)} (h : Γ[i]? = some (.ow (.lck p od kvs es))) : EvD μ (tVar i) Γ 0 es := fun G0 H0 G c σ H Q S l q => by
  obtain ⟨p', u, hs, hM, h0, g, hp, rfl, rfl, hd⟩ := S.owO h
  exact ⟨_, hs, q p' kvs _ G H S (Ext.refl _ G H) hM hp (.inr ⟨od, rfl⟩) hd⟩
theorem ed_dat (h : Ev μ te Γ n (Eq (.dict (es.map fun e => (keyD e.1, e.2))))) : EvDu μ te Γ n es := fun G0 H0 G c σ H Q S l q =>
  h G0 H0 G c σ H _ S l fun d v G1 H1 p S1 e1 d1 => by
    cases p
    generalize hE : PyData.dict (es.map fun e => (keyD e.1, e.2)) = E at d1
    cases d1 with
    | dct a r =>
      cases hE
      obtain ⟨ms, e, hm⟩ := DtM.of_K r
      rw [keysD_inj e] at q
      exact q _ _ G1 H1 S1 e1 (fun m => by rw [S1.gM m] at a; cases a) (S1.sub _ _ a) hm
    | _ => cases hE
theorem rd_of {H : Hp} {p : Addr} {u : HO} {kvs : List (Key × V)} (h : H p = some u) (hu : u = .dK kvs ∨ ∃ od, u = .frz od (.dK kvs)) : Rd H p (.dK kvs) := by
  rcases hu with rfl | ⟨od, rfl⟩
  · exact .inl h
  · exact .inr ⟨od, h⟩
theorem ev_dget (hd : EvD μ td Γ n1 es) (hk : Ev μ ty Γ n2 (Eq (keyD k))) (hv : valM es k = some d) : Ev μ (tDGet td ty) Γ (n1 + n2) (Eq d) := fun G0 H0 G c σ H Q S l q =>
  hd G0 H0 G c σ H _ S (by omega) fun p kvs u G1 H1 S1 e1 hM hp hu hm => hk G0 H0 G1 _ σ H1 _ S1 (by omega) fun d2 v2 G2 H2 p2 S2 e2 d2' => by
    cases p2
    have e := d2'.ofKey
    subst e
    rcases (hm.mono e2.gg).val (k := k) with ⟨_, h2⟩ | ⟨v, d', h1, h2, h3⟩
    · rw [hv] at h2; cases h2
    · rw [hv] at h2; cases h2
      rw [Nat.add_assoc] at S2
      exact ⟨p, v, rfl, .inl ⟨kvs, k, rd_of (e2.fr _ _ hM hp) hu, rfl, h1.symm⟩, q _ _ G2 H2 rfl S2 (e1.trans e2) h3⟩
theorem ev_din (hk : Ev μ ty Γ n1 (Eq (keyD k))) (hd : EvD μ td Γ n2 es) : Ev μ (tDIn ty td) Γ (n1 + n2) (Eq (.bool (valM es k).isSome)) := fun G0 H0 G c σ H Q S l q =>
  hk G0 H0 G c σ H _ S (by omega) fun d2 v2 G1 H1 p2 S1 e1 d1 => hd G0 H0 G1 _ σ H1 _ S1 (by omega) fun p kvs u G2 H2 S2 e2 hM hp hu hm => by
    cases p2
    have e := d1.ofKey
    subst e
    rw [Nat.add_assoc] at S2
    refine ⟨p, valV kvs k, rfl, .inl ⟨kvs, k, rd_of hp hu, rfl, rfl⟩, ?_⟩
    rcases hm.val (k := k) with ⟨h1, h2⟩ | ⟨v, d', h1, h2, h3⟩
    · rw [h1]; rw [h2] at q; exact q _ _ G2 H2 rfl S2 (e1.trans e2) (.bl _)
    · rw [h1]; rw [h2] at q; exact q _ _ G2 H2 rfl S2 (e1.trans e2) (.bl _)
theorem ev_dnotIn (hk : Ev μ ty Γ n1 (Eq (keyD k))) (hd : EvD μ td Γ n2 es) : Ev μ (tDNotIn ty td) Γ (n1 + n2) (Eq (.bool (!(valM es k).isSome))) := fun G0 H0 G c σ H Q S l q =>
  hk G0 H0 G c σ H _ S (by omega) fun d2 v2 G1 H1 p2 S1 e1 d1 => hd G0 H0 G1 _ σ H1 _ S1 (by omega) fun p kvs u G2 H2 S2 e2 hM hp hu hm => by
    cases p2
    have e := d1.ofKey
    subst e
    rw [Nat.add_assoc] at S2
    refine ⟨p, valV kvs k, rfl, .inl ⟨kvs, k, rd_of hp hu, rfl, rfl⟩, ?_⟩
    rcases hm.val (k := k) with ⟨h1, h2⟩ | ⟨v, d', h1, h2, h3⟩
    · rw [h1]; rw [h2] at q; exact q _ _ G2 H2 rfl S2 (e1.trans e2) (.bl _)
    · rw [h1]; rw [h2] at q; exact q _ _ G2 H2 rfl S2 (e1.trans e2) (.bl _)
theorem ev_dget1 (hd : EvD μ td Γ n1 es) (hk : Ev μ ty Γ n2 (Eq (keyD k))) : Ev μ (tDGet1 td ty) Γ (n1 + n2) (Eq ((valM es k).getD .none)) := fun G0 H0 G c σ H Q S l q =>
  hd G0 H0 G c σ H _ S (by omega) fun p kvs u G1 H1 S1 e1 hM hp hu hm => ⟨p, rfl, .inl ⟨kvs, rd_of hp hu⟩, hk G0 H0 G1 _ σ H1 _ S1 (by omega) fun d2 v2 G2 H2 p2 S2 e2 d2' => by
    cases p2
    have e := d2'.ofKey
    subst e
    rw [Nat.add_assoc] at S2
    refine ⟨valV kvs k, .inl ⟨kvs, k, rd_of (e2.fr _ _ hM hp) hu, rfl, rfl⟩, ?_⟩
    rcases (hm.mono e2.gg).val (k := k) with ⟨h1, h2⟩ | ⟨v, d', h1, h2, h3⟩
    · rw [h1]; rw [h2] at q; exact q _ _ G2 H2 rfl S2 (e1.trans e2) .non
    · rw [h1]; rw [h2] at q; exact q _ _ G2 H2 rfl S2 (e1.trans e2) h3⟩
/-- d[k] = v -/
theorem go_dput {P : PyData → Prop} (h : Γ[i]? = some (.map es)) (hv : Ev μ tv Γ n1 P) (hk : Ev μ ty Γ n2 (Eq (keyD k))) (hl : es.length ≤ 50000) (hc : c + (n1 + n2) ≤ CM) (kk : ∀ d, P d → R.nx (Γ.set i (.map (putM es k d))) (c + (n1 + n2))) : Go μ (sDPut (tVar i) ty tv) Γ c R := fun G0 H0 Gs G σ H D S gs L =>
  hv G0 H0 G c σ H _ S (by omega) fun d v G1 H1 pd S1 e1 d1 => by
    obtain ⟨p, kvs, hs, hM, hp, hm⟩ := S1.dct h
    refine ⟨_, hs, hk G0 H0 G1 _ σ H1 _ S1 (by omega) fun d2 v2 G2 H2 p2 S2 e2 d2' => ?_⟩
    cases p2
    have e := d2'.ofKey
    subst e
    rw [Nat.add_assoc] at S2
    refine ⟨p, _, rfl, .inl ⟨kvs, k, e2.fr _ _ hM hp, rfl, by rw [hm.length]; exact Nat.lt_of_le_of_lt hl (by decide), rfl⟩, ?_⟩
    exact L.nx _ _ G2 σ _ (kk d pd) (S2.putOw h hs ⟨_, rfl, (hm.mono e2.gg).put (d1.mono e2.gg)⟩) (gs.trans (e1.trans e2).gg)
/-! ### locks -/
theorem set_self {α : Type} {xs : List α} {i : Nat} {x : α} (h : xs[i]? = some x) : xs.set i x = xs := by
  apply List.ext_getElem?
  intro j
  by_cases q : j = i
  · subst q
    rw [List.getElem?_set_self (List.getElem?_eq_some_iff.mp h).1, h]
  · rw [List.getElem?_set_ne (Ne.symm q)]
theorem get_set {α : Type} {xs : List α} {i : Nat} {x y : α} (h : xs[i]? = some x) : (xs.set i y)[i]? = some y := List.getElem?_set_self (List.getElem?_eq_some_iff.mp h).1
theorem Ext.unlock {M : Addr → Prop} {G H G' H' : Hp} {p : Addr} {u w : HO} (hp : H p = some u) (e : Ext M G (upd H p w) G' H') : Ext M G H G' (upd H' p u) := by
  refine ⟨⟨e.nw.1, fun a ha => ?_⟩, fun a o ha hh => ?_, fun a ha => ?_⟩
  · rcases e.nw.2 a ha with h | h
    · exact .inl h
    · by_cases z : a = p
      · subst z; rw [upd_same] at h; cases h
      · rw [upd_ne z] at h; exact .inr h
  · by_cases z : a = p
    · subst z; rw [upd_same]; rw [hp] at hh; exact hh
    · rw [upd_ne z]; exact e.fr a o ha (by rw [upd_ne z]; exact hh)
  · by_cases z : a = p
    · subst z; rw [upd_same] at ha; cases ha
    · rw [upd_ne z] at ha
      have := e.dm a ha
      rw [upd_ne z] at this
      exact this
theorem ev_lock {t : TE} (h : Γ[i]? = some (.map es)) (hk : ∀ p od kvs, Ev μ t (Γ.set i (.ow (.lck p od kvs es))) n P) : Ev μ (tLockE t) Γ n P := fun G0 H0 G c σ H Q S l q => by
  obtain ⟨p, kvs, hs, hM, hp, hd⟩ := S.dct h
  refine ⟨p, .dK kvs, hp, trivial, fun od => ?_⟩
  have S1 := S.putOw (k' := .lck p od kvs es) h hs ⟨rfl, rfl, hd⟩
  refine hk p od kvs G0 H0 G c σ _ _ S1 l fun d v G2 H2 pd S2 e2 d2 => ?_
  obtain ⟨p', u, hs', _, _, _, hp', e, rfl, hd'⟩ := S2.owO (get_set h)
  subst e
  refine ⟨hp', q d v G2 _ pd ?_ (e2.unlock hp) d2⟩
  have S3 := S2.putOw (i := i) (k' := .dct es) (u := .dK kvs) (get_set h) hs ⟨kvs, rfl, hd'⟩
  rw [List.set_set, set_self h] at S3
  exact S3
theorem go_lock {t : TS} (h : Γ[i]? = some (.map es)) (hk : ∀ p od kvs, Go μ t (Γ.set i (.ow (.lck p od kvs es))) c
      { nx := fun Γ' c' => Γ'[i]? = some (.ow (.lck p od kvs es)) ∧ R.nx (Γ'.set i (.map es)) c', rt := R.rt, bk := fun Γ' c' => Γ'[i]? = some (.ow (.lck p od kvs es)) ∧ R.bk (Γ'.set i (.map es)) c', ct := fun Γ' c' => Γ'[i]? = some (.ow (.lck p od kvs es)) ∧ R.ct (Γ'.set i (.map es)) c', rg := fun Γ' => Γ'[i]? = some (.ow (.lck p od kvs es)) ∧ R.rg (Γ'.set i (.map es)), en := R.en }) : Go μ (tLock t) Γ c R := fun G0 H0 Gs G σ H D S gs L => by
  obtain ⟨p, kvs, hs, hM, hp, hd⟩ := S.dct h
  refine ⟨p, .dK kvs, hp, trivial, fun od => ?_⟩
  have S1 := S.putOw (k' := .lck p od kvs es) h hs ⟨rfl, rfl, hd⟩
  have back : ∀ {Γ' c' G' σ' H'}, Γ'[i]? = some (.ow (.lck p od kvs es)) → Stt μ G0 H0 G' Γ' c' σ' H' → H' p = some (.frz od (.dK kvs)) ∧ Stt μ G0 H0 G' (Γ'.set i (.map es)) c' σ' (upd H' p (.dK kvs)) := fun {Γ' c' G' σ' H'} hg S' => by
    obtain ⟨p', u, hs', _, _, _, hp', e, rfl, hd'⟩ := S'.owO hg
    subst e
    exact ⟨hp', S'.putOw (i := i) (k' := .dct es) (u := .dK kvs) hg hs' ⟨kvs, rfl, hd'⟩⟩
  refine hk p od kvs G0 H0 Gs G σ _ _ S1 gs ⟨fun Γ' c' G' σ' H' ⟨q1, q2⟩ S' g' => ?_, fun Γ' σ' d c' v G' H' q ⟨q1, q2⟩ S' dt => ?_, fun Γ' c' G' σ' H' ⟨q1, q2⟩ S' g' => ?_, fun Γ' c' G' σ' H' ⟨q1, q2⟩ S' g' => ?_, L.en⟩
  · obtain ⟨a, b⟩ := back q1 S'
    exact ⟨a, L.nx _ _ _ _ _ q2 b g'⟩
  · obtain ⟨a, b⟩ := back q1 S'
    exact ⟨a, L.rt _ _ _ _ _ _ _ q q2 b dt⟩
  · obtain ⟨a, b⟩ := back q1 S'
    exact ⟨a, L.bk _ _ _ _ _ q2 b g'⟩
  · obtain ⟨a, b⟩ := back q1 S'
    exact ⟨a, L.ct _ _ _ _ _ q2 b g'⟩
/-! ### walks of a locked dict -/
theorem DtM.get {G : Hp} : ∀ {kvs : List (Key × V)} {es : List (Key × PyData)} {i : Nat} {k : Key} {v : V}, DtM G kvs es → kvs[i]? = some (k, v) → ∃ d, es[i]? = some (k, d) ∧ Dt G v d
  | _, _, _, _, _, .nil, e => by simp at e
  | _, _, 0, _, _, .cons h _, e => by simp at e; obtain ⟨rfl, rfl⟩ := e; exact ⟨_, rfl, h⟩
  | _, _, i + 1, k, v, .cons _ t, e => by
    obtain ⟨d, h1, h2⟩ := DtM.get (i := i) (k := k) (v := v) t (by simpa using e)
    exact ⟨d, by simpa using h1, h2⟩
theorem dwalk_keys {G : Hp} {p : Addr} {od : Obj} {kvs : List (Key × V)} (hd : DtM G kvs es) : DWalk (Itk p od kvs) G [(p, .frz od (.dK kvs))] (es.map fun e => keyD e.1) := by
  have hl := hd.length
  refine ⟨fun i H hi s pin => ⟨pin _ List.mem_cons_self, by rw [List.length_map] at hi; omega⟩, fun H s pin => ⟨pin _ List.mem_cons_self, by rw [List.length_map]; omega⟩, fun i H G1 x H' hi s s1 pin y => ?_⟩
  obtain ⟨rfl, k, v, e, rfl⟩ := y
  obtain ⟨d, h1, h2⟩ := hd.get e
  exact ⟨G1, keyD k, by rw [List.getElem?_map, h1]; rfl, Nw.refl _ _, s1, Same.refl _, Dt.key k⟩
theorem dwalk_vals {G : Hp} {p : Addr} {od : Obj} {kvs : List (Key × V)} (hd : DtM G kvs es) : DWalk (Itd p od kvs) G [(p, .frz od (.dK kvs))] (es.map fun e => e.2) := by
  have hl := hd.length
  refine ⟨fun i H hi s pin => ⟨pin _ List.mem_cons_self, by rw [List.length_map] at hi; omega⟩, fun H s pin => ⟨pin _ List.mem_cons_self, by rw [List.length_map]; omega⟩, fun i H G1 x H' hi s s1 pin y => ?_⟩
  obtain ⟨rfl, k, e⟩ := y
  obtain ⟨d, h1, h2⟩ := hd.get e
  exact ⟨G1, d, by rw [List.getElem?_map, h1]; rfl, Nw.refl _ _, s1, Same.refl _, h2.mono s⟩
theorem dwalk_items {G : Hp} {p : Addr} {od : Obj} {kvs : List (Key × V)} (hd : DtM G kvs es) : DWalk (Iti p od kvs) G [(p, .frz od (.dK kvs))] (es.map fun e => .tuple [keyD e.1, e.2]) := by
  have hl := hd.length
  refine ⟨fun i H hi s pin => ⟨pin _ List.mem_cons_self, by rw [List.length_map] at hi; omega⟩, fun H s pin => ⟨pin _ List.mem_cons_self, by rw [List.length_map]; omega⟩, fun i H G1 x H' hi s s1 pin y => ?_⟩
  obtain ⟨T, k, v, e, rfl, hT, rfl⟩ := y
  obtain ⟨d, h1, h2⟩ := hd.get e
  refine ⟨upd G1 T (.tup [kV k, v]), .tuple [keyD k, d], by rw [List.getElem?_map, h1]; rfl, Nw.upd hT s1, Same.upd2 s1, Same.new hT, .tup (.key (kHead_kV k _)) ?_⟩
  exact .cons (Dt.key k) (.one ((h2.mono s).mono (Nw.upd hT s1).1))
/-- a walk of the locked dict at slot i -/
def EvWL (μ : Mu) (wi : TI) (Γ : List Sl) (p : Addr) (od : Obj) (kvs : List (Key × V)) (ds : List PyData) : Prop :=
  ∀ (G0 H0 G : Hp) (c : Nat) (σ : L2.St) (H : Hp) (R : It → Hp → Prop), Stt μ G0 H0 G Γ c σ H → (∀ J, DWalk J G [(p, .frz od (.dK kvs))] ds → ¬ μ.M p → H p = some (.frz od (.dK kvs)) → R J H) → wi σ H R
section
variable {p : Addr} {od : Obj} {kvs : List (Key × V)}
theorem wl_keys (h : Γ[i]? = some (.ow (.lck p od kvs es))) : EvWL μ (iKeys (tVar i)) Γ p od kvs (es.map fun e => keyD e.1) := fun G0 H0 G c σ H R S q => by
  obtain ⟨p', u, hs, hM, h0, g, hp, rfl, rfl, hd⟩ := S.owO h
  exact ⟨_, hs, p', od, rfl, .inl ⟨kvs, hp, q _ (dwalk_keys hd) hM hp⟩⟩
theorem wl_keysM (h : Γ[i]? = some (.ow (.lck p od kvs es))) : EvWL μ (iKeysM (tVar i)) Γ p od kvs (es.map fun e => keyD e.1) := fun G0 H0 G c σ H R S q => by
  obtain ⟨p', u, hs, hM, h0, g, hp, rfl, rfl, hd⟩ := S.owO h
  exact ⟨_, hs, p', od, kvs, rfl, hp, q _ (dwalk_keys hd) hM hp⟩
theorem wl_vals (h : Γ[i]? = some (.ow (.lck p od kvs es))) : EvWL μ (iVals (tVar i)) Γ p od kvs (es.map fun e => e.2) := fun G0 H0 G c σ H R S q => by
  obtain ⟨p', u, hs, hM, h0, g, hp, rfl, rfl, hd⟩ := S.owO h
  exact ⟨_, hs, p', od, kvs, rfl, hp, q _ (dwalk_vals hd) hM hp⟩
theorem wl_items (h : Γ[i]? = some (.ow (.lck p od kvs es))) : EvWL μ (iItems (tVar i)) Γ p od kvs (es.map fun e => .tuple [keyD e.1, e.2]) := fun G0 H0 G c σ H R S q => by
  obtain ⟨p', u, hs, hM, h0, g, hp, rfl, rfl, hd⟩ := S.owO h
  exact ⟨_, hs, p', od, kvs, rfl, hp, q _ (dwalk_items hd) hM hp⟩
theorem EvWL.ei {wi : TI} (h : EvWL μ wi Γ p od kvs ds) : EvI μ wi Γ 0 (Eq ds) := fun G0 H0 G c σ H R S l q =>
  h G0 H0 G c σ H R S fun J w hM hp => q ds J _ G H rfl S (Ext.refl _ G H) w fun x hx => by rw [List.mem_singleton.mp hx]; exact ⟨hM, hp⟩
theorem go_forL {wi : TI} {g : TG} (hi : EvWL μ wi Γ p od kvs ds) (J : Nat → List Sl → Nat → Prop) (h0 : J 0 Γ c) (hJ : ∀ j Γ' c', J j Γ' c' → Γ'[i]? = some (.ow (.lck p od kvs es)))
      (hs : ∀ (j : Nat) d Γ' c', ds[j]? = some d → J j Γ' c' → ∃ is Γ'', EvG g d is Γ' Γ'' ∧ Go μ ts Γ'' c' { R with nx := J (j + 1), ct := J (j + 1), bk := R.nx }) (hd : ∀ Γ' c', J ds.length Γ' c' → R.nx Γ' c') :
    Go μ (tFor wi g ts) Γ c R := fun G0 H0 Gs G σ H D S gs L =>
  hi G0 H0 G c σ H _ S fun It w hM hp => by
    refine ⟨fun j left σ' H' => left = ds.length - j ∧ j ≤ ds.length ∧ ∃ Γ' c' G', J j Γ' c' ∧ Stt μ G0 H0 G' Γ' c' σ' H' ∧ Same G G', ⟨ds.length, by omega, Nat.zero_le _, Γ, c, G, h0, S, Same.refl _⟩, fun j left σ' H' hW => ?_⟩
    obtain ⟨rfl, hil, Γ', c', G2, hJj, S2, e2⟩ := hW
    have pin : ∀ x ∈ [(p, HO.frz od (.dK kvs))], H' x.1 = some x.2 := fun x hx => by
      rw [List.mem_singleton.mp hx]
      obtain ⟨p', u, _, _, _, _, hp', e, rfl, _⟩ := S2.owO (hJ j Γ' c' hJj)
      rw [← e]; exact hp'
    by_cases hi : j < ds.length
    · refine .inr ⟨w.go j H' hi (e2.trans S2.sub) pin, fun σ'' H'' => ∃ Γ' c' G', J (j + 1) Γ' c' ∧ Stt μ G0 H0 G' Γ' c' σ'' H'' ∧ Same G G', fun σ'' H'' z => ⟨ds.length - (j + 1), by omega, rfl, by omega, z⟩, fun x H3 y => ?_⟩
      obtain ⟨G3, d, hdd, nw, s3, s3', hx⟩ := w.yld j H' G2 x H3 hi e2 S2.sub pin y
      obtain ⟨is, Γ'', hg, hgo⟩ := hs j d Γ' c' hdd hJj
      have S3 := S2.same nw s3 s3'
      refine hg μ G0 H0 G3 c' σ' H3 x _ S3 hx fun σ4 S4 _ => ?_
      refine hgo G0 H0 G G3 σ4 H3 _ S4 (e2.trans nw.1) ⟨fun Γ5 c5 G5 σ5 H5 q S5 g5 => ⟨Γ5, c5, G5, q, S5, g5⟩, L.rt, fun Γ5 c5 G5 σ5 H5 q S5 g5 => L.nx Γ5 c5 G5 σ5 H5 q S5 (gs.trans g5), fun Γ5 c5 G5 σ5 H5 q S5 g5 => ⟨Γ5, c5, G5, q, S5, g5⟩, L.en⟩
    · have ei : j = ds.length := by omega
      subst ei
      exact .inl ⟨w.stop H' (e2.trans S2.sub) pin, L.nx Γ' c' G2 σ' H' (hd Γ' c' hJj) S2 (gs.trans e2)⟩
end
/-! ### list(d.items()) -/
def itemsD (es : List (Key × PyData)) : List PyData := es.map fun e => .tuple [keyD e.1, e.2]
theorem items_data {G H H' : Hp} {p : Addr} (s : Same G H) (hH : ∀ b o, H b = some o → H' b = some o) (hp : H p = none) : ∀ {ts : List Addr} {kvs : List (Key × V)} {es : List (Key × PyData)}, DtM G kvs es → Paired (fun (t : Addr) (q : Key × V) => H' t = some (.tup [kV q.1, q.2])) ts kvs → (∀ t ∈ ts, H t = none) → (∀ t ∈ ts, t ≠ p) →
    ∃ G', Nw G H G' ∧ Same G' H' ∧ DtA G' (ts.map V.ref) (itemsD es) ∧ G' p = none
  | [], _, _, .nil, .nil, _, _ => ⟨G, Nw.refl _ _, fun a o e => hH a o (s a o e), .nil, Same.free s hp⟩
  | t :: ts, (k, v) :: kvs, (_, d) :: es, .cons hd r, .cons ht rt, hn, hne => by
    obtain ⟨G', n1, s1, d1, gp⟩ := items_data s hH hp r rt (fun a ha => hn a (List.mem_cons_of_mem _ ha)) (fun a ha => hne a (List.mem_cons_of_mem _ ha))
    have htn := hn t List.mem_cons_self
    cases hg : G' t with
    | some o =>
      have e2 := s1 t o hg
      rw [ht] at e2
      cases e2
      exact ⟨G', n1, s1, .cons (.tup (.inr ⟨hg, kHead_kV k _⟩) (.cons (Dt.key k) (.one (hd.mono n1.1)))) d1, gp⟩
    | none =>
      have sn := Same.new (o := HO.tup [kV k, v]) hg
      refine ⟨upd G' t (.tup [kV k, v]), ⟨n1.1.trans sn, fun a ha => ?_⟩, fun a o ha => ?_, .cons (.tup (.key (kHead_kV k _)) (.cons (Dt.key k) (.one ((hd.mono n1.1).mono sn)))) (d1.mono sn), ?_⟩
      · by_cases z : a = t
        · subst z; exact .inr htn
        · rw [upd_ne z] at ha; exact n1.2 a ha
      · by_cases z : a = t
        · subst z; rw [upd_same] at ha; rw [ht]; exact ha
        · rw [upd_ne z] at ha; exact s1 a o ha
      · rw [upd_ne (Ne.symm (hne t List.mem_cons_self))]; exact gp
theorem ev_items (h : EvDu μ td Γ n es) : Ev μ (LiI.tListItems td) Γ n (Eq (.list (itemsD es))) := fun G0 H0 G c σ H Q S l q =>
  h G0 H0 G c σ H _ S l fun p kvs G1 H1 S1 e1 hM hp hm => ⟨p, kvs, rfl, hp, fun H' a ts hH ha hts hat hl hpr => by
    obtain ⟨G', n1, s1, d1, gp⟩ := items_data S1.sub hH ha hm hpr hts (fun t ht z => hat (z ▸ ht))
    have sn := Same.new (o := HO.lst (ts.map V.ref)) gp
    have nw : Nw G1 H1 (upd G' a (.lst (ts.map V.ref))) := ⟨n1.1.trans sn, fun b hb => by
      by_cases z : b = a
      · subst z; exact .inr ha
      · rw [upd_ne z] at hb; exact n1.2 b hb⟩
    have sm : Same (upd G' a (.lst (ts.map V.ref))) H' := fun b o hb => by
      by_cases z : b = a
      · subst z; rw [upd_same] at hb; rw [hl]; exact hb
      · rw [upd_ne z] at hb; exact s1 b o hb
    exact q _ _ _ _ rfl (S1.same nw sm hH) (e1.trans (.same nw hH)) (.lst upd_same (d1.mono sn))⟩
end
end B
namespace B
open PySem PySem.Spec PyProof.Rows L2 TL
theorem u1 {k : Nat} {A : Around} (hr : Room k A) : A.units + 1 < cLine := by have := hr.un; omega
theorem u64 {k : Nat} {A : Around} (hr : Room k A) : A.units + 64 < cLine := by have := hr.un; omega
theorem Rp.eqv {m n : Nat} {d : PyData} (h : Rp m n d) : PyData.eqv d d = true := PySem.SeqAt.eqv_refl d h.shp.1
theorem Shp.eqv {m : Nat} {d : PyData} (h : Shp m d) : PyData.eqv d d = true := PySem.SeqAt.eqv_refl d h.1
end B

/-! B15: repr of data with dicts in it. -/
namespace B
open PySem PySem.Spec PyProof.Rows L2 TL
mutual
/-- v is the data d in the heap; no dict of it is sys.modules -/
inductive RS (h : Heap) : Value → PyData → Prop
  | none : RS h .none .none
  | bool (b) : RS h (.bool b) (.bool b)
  | int (i t) : RS h (.int i t) (.int i)
  | str (x t) : RS h (.str x t) (.str x)
  | list {a o vs n xs} : h.get? a = some o → o.cls = .type "list" → o.data = .seq vs n → RSA h vs.toList xs → RS h (.ref a) (.list xs)
  | tuple {a o vs n xs} : h.get? a = some o → o.cls = .type "tuple" → o.data = .seq vs n → RSA h vs.toList xs → RS h (.ref a) (.tuple xs)
  | dict {a o es n kvs} : h.get? a = some o → o.cls = .type "dict" → o.data = .dict es n → (a == sysModules) = false → RSA h (es.toList.map (·.key)) (kvs.map (·.1)) → RSA h (es.toList.map (·.val)) (kvs.map (·.2)) → RS h (.ref a) (.dict kvs)
inductive RSA (h : Heap) : List Value → List PyData → Prop
  | nil : RSA h [] []
  | cons {v vs d ds} : RS h v d → RSA h vs ds → RSA h (v :: vs) (d :: ds)
end
mutual
theorem RS.reads {h : Heap} : ∀ {v : Value} {d : PyData}, RS h v d → ∃ as, Reads h v d as
  | _, _, .none => ⟨_, .none⟩
  | _, _, .bool b => ⟨_, .bool b⟩
  | _, _, .int i t => ⟨_, .int i t⟩
  | _, _, .str x t => ⟨_, .str x t⟩
  | _, _, .list h1 h2 h3 h4 => let ⟨_, r⟩ := RSA.reads h4; ⟨_, .list h1 h2 h3 r⟩
  | _, _, .tuple h1 h2 h3 h4 => let ⟨_, r⟩ := RSA.reads h4; ⟨_, .tuple h1 h2 h3 r⟩
  | _, _, .dict h1 h2 h3 _ h4 h5 => let ⟨_, r⟩ := RSA.reads h4; let ⟨_, r2⟩ := RSA.reads h5; ⟨_, .dict h1 h2 h3 r r2⟩
theorem RSA.reads {h : Heap} : ∀ {v : List Value} {d : List PyData}, RSA h v d → ∃ as, ReadsAll h v d as
  | _, _, .nil => ⟨_, .nil⟩
  | _, _, .cons a r => let ⟨_, x⟩ := RS.reads a; let ⟨_, y⟩ := RSA.reads r; ⟨_, .cons x y⟩
end
section
variable {prog : Program} {w : World} {h : Heap}
mutual
theorem RS.reprK : ∀ {v : Value} {d : PyData}, RS h v d → d.showable = true → d.shown.length ≤ sizeLine → ∃ bs, ReadAtMost h d.depth bs ∧ ReprK prog w bs h d.depth v d.shown
  | _, _, .none, _, _ => ⟨[], (fun _ h => nomatch h), by simp only [PyData.shown]; exact .of_is ReprIs.none _ _ _⟩
  | _, _, .bool b, _, _ => ⟨[], (fun _ h => nomatch h), by simp only [PyData.shown]; exact .of_is (ReprIs.bool b) _ _ _⟩
  | _, _, .int i t, hs, _ => ⟨[], (fun _ h => nomatch h), by simp only [PyData.shown]; exact .of_is (ReprIs.int t (by simpa [PyData.showable] using hs)) _ _ _⟩
  | _, _, .str x t, _, hz => ⟨[], (fun _ h => nomatch h), by simp only [PyData.shown]; exact .of_is (ReprIs.str x t (by simpa only [PyData.shown] using hz)) _ _ _⟩
  | _, _, .list (a := a) (vs := vs) (xs := xs) h1 h2 h3 h4, hs, hz => by
    have hz' : (listText (PyData.shownAll xs)).length ≤ sizeLine := by simpa only [PyData.shown] using hz
    obtain ⟨bs, hb, hk⟩ := RSA.reprK h4 (by simpa [PyData.showable] using hs) (fun t ht => Nat.le_trans (listText_mem_le ht) hz')
    obtain ⟨as, r⟩ := RS.reads (.list (a := a) h1 h2 h3 h4)
    have hna : a ∉ bs := not_mem_of_deeper r (by simp only [PyData.depth]; omega) hb
    refine ⟨a :: bs, ReadAtMost.cons r (by simp only [PyData.depth]; omega) hb, ?_⟩
    simp only [PyData.depth, PyData.shown]
    obtain ⟨l⟩ := vs
    cases l with
    | nil =>
      have h4' : RSA h [] xs := h4
      cases h4'
      simp only [PyData.shownAll, listText_nil]
      exact ReprK.listEmpty h1 h2 h3
    | cons x l => exact ReprK.list h1 h2 h3 hna (by simpa using hk.length_eq) (fun i y e => hk.item i y (by simpa using e))
  | _, _, .tuple (a := a) (xs := xs) h1 h2 h3 h4, hs, hz => by
    have hz' : (tupleText (PyData.shownAll xs)).length ≤ sizeLine := by simpa only [PyData.shown] using hz
    obtain ⟨bs, hb, hk⟩ := RSA.reprK h4 (by simpa [PyData.showable] using hs) (fun t ht => Nat.le_trans (tupleText_mem_le ht) hz')
    obtain ⟨as, r⟩ := RS.reads (.tuple (a := a) h1 h2 h3 h4)
    have hna : a ∉ bs := not_mem_of_deeper r (by simp only [PyData.depth]; omega) hb
    refine ⟨a :: bs, ReadAtMost.cons r (by simp only [PyData.depth]; omega) hb, ?_⟩
    simp only [PyData.depth, PyData.shown]
    exact ReprK.tuple h1 h2 h3 hna hk
  | _, _, .dict (a := a) (es := es) (kvs := kvs) h1 h2 h3 hsys h4 h5, hs, hz => by
    have hz' : (dictText (PyData.shownKv kvs)).length ≤ sizeLine := by simpa only [PyData.shown] using hz
    obtain ⟨hs1, hs2⟩ := PyData.showableKv_split kvs (by simpa [PyData.showable] using hs)
    obtain ⟨b1, hb1, k1⟩ := RSA.reprK h4 hs1 (fun t ht => let ⟨p, hp, hl⟩ := PyData.shownKv_key_le kvs t ht; Nat.le_trans hl (Nat.le_trans (dictText_mem_le hp) hz'))
    obtain ⟨b2, hb2, k2⟩ := RSA.reprK h5 hs2 (fun t ht => let ⟨p, hp, hl⟩ := PyData.shownKv_val_le kvs t ht; Nat.le_trans hl (Nat.le_trans (dictText_mem_le hp) hz'))
    obtain ⟨as, r⟩ := RS.reads (.dict (a := a) h1 h2 h3 hsys h4 h5)
    have hb : ReadAtMost h (PyData.depthKv kvs) (b1 ++ b2) := (hb1.mono (PyData.depthAll_keys_le kvs)).append (hb2.mono (PyData.depthAll_vals_le kvs))
    have hna : a ∉ b1 ++ b2 := not_mem_of_deeper r (by simp only [PyData.depth]; omega) hb
    refine ⟨a :: (b1 ++ b2), ReadAtMost.cons r (by simp only [PyData.depth]; omega) hb, ?_⟩
    simp only [PyData.depth, PyData.shown, PyData.shownKv_eq]
    exact ReprK.dict h1 h2 h3 hsys hna (ReprEntriesK.of_two es.toList _ _
      (k1.more_le (fun b hb => List.mem_append_left _ hb) (PyData.depthAll_keys_le kvs)) (k2.more_le (fun b hb => List.mem_append_right _ hb) (PyData.depthAll_vals_le kvs)))
theorem RSA.reprK : ∀ {vs : List Value} {ds : List PyData}, RSA h vs ds → PyData.showableAll ds = true → (∀ t ∈ PyData.shownAll ds, t.length ≤ sizeLine) →
    ∃ bs, ReadAtMost h (PyData.depthAll ds) bs ∧ ReprAllK prog w bs h (PyData.depthAll ds) vs (PyData.shownAll ds)
  | _, _, .nil, _, _ => ⟨[], (fun _ h => nomatch h), by simp only [PyData.shownAll]; exact .nil⟩
  | _, _, .cons (d := d) (ds := ds) r rs, hs, hz => by
    have hs' : d.showable = true ∧ PyData.showableAll ds = true := by simpa [PyData.showableAll] using hs
    obtain ⟨b1, hb1, k1⟩ := RS.reprK r hs'.1 (hz _ (by simp only [PyData.shownAll]; exact List.mem_cons_self ..))
    obtain ⟨b2, hb2, k2⟩ := RSA.reprK rs hs'.2 (fun t ht => hz t (by simp only [PyData.shownAll]; exact List.mem_cons_of_mem _ ht))
    refine ⟨b1 ++ b2, ?_, ?_⟩
    · intro b hm
      simp only [PyData.depthAll]
      rcases List.mem_append.mp hm with hm | hm
      · obtain ⟨d', as', r', hd'⟩ := hb1 b hm
        exact ⟨d', as', r', Nat.le_trans hd' (Nat.le_max_left _ _)⟩
      · obtain ⟨d', as', r', hd'⟩ := hb2 b hm
        exact ⟨d', as', r', Nat.le_trans hd' (Nat.le_max_right _ _)⟩
    · simp only [PyData.depthAll, PyData.shownAll]
      exact .cons ((k1.more fun b hb => List.mem_append_left _ hb).level_le (Nat.le_max_left _ _)) (k2.more_le (fun b hb => List.mem_append_right _ hb) (Nat.le_max_right _ _))
end
theorem RS.shows {a : Addr} {d : PyData} (r : RS h (.ref a) d) (hs : d.showable = true) (hsz : d.shown.length ≤ sizeLine) : ∃ T idr, ShowsBy prog w h a d T idr := by
  obtain ⟨as, rd⟩ := r.reads
  cases r with
  | list h1 h2 h3 h4 =>
    rename_i o vs n xs
    have hz' : (listText (PyData.shownAll xs)).length ≤ sizeLine := by simpa only [PyData.shown] using hsz
    obtain ⟨bs, hb, hk⟩ := RSA.reprK (prog := prog) (w := w) h4 (by simpa [PyData.showable] using hs) (fun t ht => Nat.le_trans (listText_mem_le ht) hz')
    have hna : a ∉ bs := not_mem_of_deeper rd (by simp only [PyData.depth]; omega) hb
    refine ⟨"list", "list.__repr__", F.slot_list_repr.toG, F.slot_list_str, F.slot_list_format, fun s hk0 => ⟨o, hk0 _ _ h1, h2⟩, fun A E s Q hg hu hk0 hQ => ?_⟩
    simp only [PyData.depth] at hu
    simp only [PyData.shown] at hQ
    obtain ⟨l⟩ := vs
    cases l with
    | nil =>
      have h4' : RSA h [] xs := h4
      cases h4'
      simp only [PyData.shownAll, listText_nil] at hQ
      exact call_list_repr_empty ⟨o, hk0 _ _ h1, h2⟩ (hk0 _ _ h1) h3 (hQ s.heap _ _ fun _ _ e => e)
    | cons x l =>
      exact call_list_reprK h1 h2 h3 hna (by simpa using hk.length_eq) (fun i y e => hk.item i y (by simpa using e)) hg (fun b _ => Clear.nil b) hu hk0 hQ hz'
  | tuple h1 h2 h3 h4 =>
    rename_i o vs n xs
    have hz' : (tupleText (PyData.shownAll xs)).length ≤ sizeLine := by simpa only [PyData.shown] using hsz
    obtain ⟨bs, hb, hk⟩ := RSA.reprK (prog := prog) (w := w) h4 (by simpa [PyData.showable] using hs) (fun t ht => Nat.le_trans (tupleText_mem_le ht) hz')
    have hna : a ∉ bs := not_mem_of_deeper rd (by simp only [PyData.depth]; omega) hb
    refine ⟨"tuple", "tuple.__repr__", F.slot_tuple_repr, F.slot_tuple_str, F.slot_tuple_format, fun s hk0 => ⟨o, hk0 _ _ h1, h2⟩, fun A E s Q hg hu hk0 hQ => ?_⟩
    simp only [PyData.depth] at hu
    simp only [PyData.shown] at hQ
    exact call_tuple_reprK h1 h2 h3 hna hk hg (fun b _ => Clear.nil b) hu hk0 hQ hz'
  | dict h1 h2 h3 hsys h4 h5 =>
    rename_i o es n kvs
    have hz' : (dictText (PyData.shownKv kvs)).length ≤ sizeLine := by simpa only [PyData.shown] using hsz
    obtain ⟨hs1, hs2⟩ := PyData.showableKv_split kvs (by simpa [PyData.showable] using hs)
    obtain ⟨b1, hb1, k1⟩ := RSA.reprK (prog := prog) (w := w) h4 hs1 (fun t ht => let ⟨p, hp, hl⟩ := PyData.shownKv_key_le kvs t ht; Nat.le_trans hl (Nat.le_trans (dictText_mem_le hp) hz'))
    obtain ⟨b2, hb2, k2⟩ := RSA.reprK (prog := prog) (w := w) h5 hs2 (fun t ht => let ⟨p, hp, hl⟩ := PyData.shownKv_val_le kvs t ht; Nat.le_trans hl (Nat.le_trans (dictText_mem_le hp) hz'))
    have hb : ReadAtMost h (PyData.depthKv kvs) (b1 ++ b2) := (hb1.mono (PyData.depthAll_keys_le kvs)).append (hb2.mono (PyData.depthAll_vals_le kvs))
    have hna : a ∉ b1 ++ b2 := not_mem_of_deeper rd (by simp only [PyData.depth]; omega) hb
    refine ⟨"dict", "dict.__repr__", F.slot_dict_repr, F.slot_dict_str, F.slot_dict_format, fun s hk0 => ⟨o, hk0 _ _ h1, h2⟩, fun A E s Q hg hu hk0 hQ => ?_⟩
    simp only [PyData.depth] at hu
    simp only [PyData.shown, PyData.shownKv_eq] at hQ
    exact call_dict_reprK h1 h2 h3 hsys hna (ReprEntriesK.of_two es.toList _ _
      (k1.more_le (fun b hb => List.mem_append_left _ hb) (PyData.depthAll_keys_le kvs)) (k2.more_le (fun b hb => List.mem_append_right _ hb) (PyData.depthAll_vals_le kvs))) hg (fun b _ => Clear.nil b) hu hk0 hQ (by rw [← PyData.shownKv_eq]; exact hz')
end
/-! ### data, as the heap has it -/
theorem keyD_rs {h : Heap} {k : Key} {u : Value} (e : keyIs k u = true) : RS h u (keyD k) := by
  rcases keyIs_shape e with ⟨i, t, rfl, rfl⟩ | ⟨x, t, rfl, rfl⟩
  · exact .int i t
  · exact .str x t
section
variable {X : Cx} {pins : List (Addr × Obj)} {σ : L2.St} {H : Hp} {s : Shared}
mutual
theorem Dt.rs (I : Inv X pins σ H s) : ∀ {v : V} {d : PyData} {u : Value}, Dt H v d → RelV v u → RS s.heap u d
  | _, _, _, .non, r => by cases r; exact .none
  | _, _, _, .bl b, r => by cases r; exact .bool b
  | _, _, _, .int i, r => by obtain ⟨t, rfl⟩ := r; exact .int i t
  | _, _, _, .str x, r => by obtain ⟨t, rfl⟩ := r; exact .str x t
  | _, _, _, .lst h a, r => by
    cases r
    obtain ⟨its, rv, ⟨o, n, ho, hc, _, hd⟩, _⟩ := I.list (SqL.of (K := X.K) h)
    exact .list ho hc hd (DtA.rs I a rv)
  | _, _, _, .tup h a, r => by
    cases r
    obtain ⟨its, rv, ⟨o, ho, hc, n, hd⟩, _⟩ := I.tuple (h.sq (K := X.K) (Same.refl _))
    exact .tuple ho hc hd (DtA.rs I a rv)
  | _, _, _, .dct h a, r => by
    cases r
    obtain ⟨_, hsys, vs, kv, o, es, ep, ho, hx, hdt, _, hp, _⟩ := dk_of I.hok h
    have hk : RSA s.heap (es.toList.map (·.key)) _ ∧ RSA s.heap (es.toList.map (·.val)) _ := DtK.rs I a kv hp
    exact .dict ho hx.1 hdt hsys hk.1 hk.2
theorem DtA.rs (I : Inv X pins σ H s) : ∀ {vs : List V} {ds : List PyData} {us : List Value}, DtA H vs ds → Vals vs us → RSA s.heap us ds
  | _, _, _, .nil, r => by cases r; exact .nil
  | _, _, _, .cons a t, r => by
    cases r with
    | cons r1 r2 => exact .cons (Dt.rs I a r1) (DtA.rs I t r2)
theorem DtK.rs (I : Inv X pins σ H s) : ∀ {kvs : List (Key × V)} {es : List (PyData × PyData)} {vs : List (Key × Value)} {ens : List DictEntry}, DtK H kvs es → KV kvs vs → Pairs (mixKind X.prog X.w) ens vs → RSA s.heap (ens.map (·.key)) (es.map (·.1)) ∧ RSA s.heap (ens.map (·.val)) (es.map (·.2))
  | _, _, _, _, .nil, r, p => by
    cases r
    cases p
    exact ⟨.nil, .nil⟩
  | _, _, _, _, .cons a t, r, p => by
    cases r with
    | cons r1 r2 =>
      cases p with
      | cons p1 p2 p3 =>
        obtain ⟨q1, q2⟩ := DtK.rs I t r2 p3
        refine ⟨.cons ?_ q1, .cons ?_ q2⟩
        · have e := r1.1
          dsimp only at e
          rw [e]
          exact keyD_rs p1
        · have e := r1.2
          dsimp only at e
          show RS s.heap _ _
          dsimp only
          rw [p2]
          exact Dt.rs I a e
end
end
/-- repr of data of any kind -/
def rReprA : List V → Hp → VK → Prop := fun xs H Q => ∃ v d, xs = [v] ∧ Dt H v d ∧ d.depth ≤ 64 ∧ d.showable = true ∧ d.shown.length ≤ sizeLine ∧ Q (.str d.shown) H
theorem call_reprA {X : Cx} (hG : X.A.guards = some []) (hu : X.A.units + 70 < cLine) : CallR X (.builtin "repr") rReprA := by
  intro pins s σ H xs us Q I r h
  obtain ⟨v, d, rfl, hd, hs, hsh, hz, q⟩ := h
  obtain ⟨u, rfl, ru⟩ := vals1 r
  have hr := Dt.rs I hd ru
  cases hd with
  | non =>
    cases ru
    exact PySem.P.repr_of_none ⟨.str _, H, I.tok _, ⟨_, rfl⟩, by rw [PyData.shown_none] at q; exact q⟩
  | bl b =>
    cases ru
    exact PySem.P.repr_of_bool ⟨.str _, H, I.tok _, ⟨_, rfl⟩, by rw [PyData.shown_bool] at q; cases b <;> exact q⟩
  | int i =>
    obtain ⟨t, rfl⟩ := ru
    exact PySem.P.repr_of_int (by simpa [PyData.showable] using hsh) ⟨.str _, H, I.tok _, ⟨_, rfl⟩, by rw [PyData.shown_int] at q; exact q⟩
  | str x =>
    obtain ⟨t, rfl⟩ := ru
    exact PySem.P.repr_of_str ⟨.str _, H, I.tok _, ⟨_, rfl⟩, by rw [PyData.shown_str] at q; exact q⟩ (by rw [PyData.shown_str] at hz; exact hz)
  | lst a r =>
    cases ru
    obtain ⟨T, idr, S⟩ := hr.shows (prog := X.prog) (w := X.w) hsh hz
    exact call_repr_slot (by omega) (S.typeIs s fun _ _ e => e) S.slotRepr (S.call X.A.in1 _ s _ hG (by show X.A.units + 1 + _ < cLine; omega) (fun _ _ e => e) fun h' u tk hk => ⟨_, _, rfl, .str _, H, I.kept (t' := tk) hk, ⟨_, rfl⟩, q⟩)
  | tup a r =>
    cases ru
    obtain ⟨T, idr, S⟩ := hr.shows (prog := X.prog) (w := X.w) hsh hz
    exact call_repr_slot (by omega) (S.typeIs s fun _ _ e => e) S.slotRepr (S.call X.A.in1 _ s _ hG (by show X.A.units + 1 + _ < cLine; omega) (fun _ _ e => e) fun h' u tk hk => ⟨_, _, rfl, .str _, H, I.kept (t' := tk) hk, ⟨_, rfl⟩, q⟩)
  | dct a r =>
    cases ru
    obtain ⟨T, idr, S⟩ := hr.shows (prog := X.prog) (w := X.w) hsh hz
    exact call_repr_slot (by omega) (S.typeIs s fun _ _ e => e) S.slotRepr (S.call X.A.in1 _ s _ hG (by show X.A.units + 1 + _ < cLine; omega) (fun _ _ e => e) fun h' u tk hk => ⟨_, _, rfl, .str _, H, I.kept (t' := tk) hk, ⟨_, rfl⟩, q⟩)
/-- data of this depth at most, dicts too, whose repr has n signs at most -/
structure Ra (m n : Nat) (d : PyData) : Prop where
  dep : d.depth ≤ m
  sho : d.showable = true
  len : d.shown.length ≤ n
theorem Rp.ra {m n : Nat} {d : PyData} (h : Rp m n d) : Ra m n d := ⟨h.shp.2, h.sho, h.len⟩
theorem Ra.mono {m m' n n' : Nat} {d : PyData} (h : Ra m n d) (hm : m ≤ m') (hn : n ≤ n') : Ra m' n' d := ⟨Nat.le_trans h.dep hm, h.sho, Nat.le_trans h.len hn⟩
theorem depthAll_le' {xs : List PyData} {n : Nat} (h : ∀ d ∈ xs, d.depth ≤ n) : PyData.depthAll xs ≤ n := depthAll_le h
theorem ra_tup {m n k : Nat} {xs : List PyData} (h : ∀ d ∈ xs, Ra m n d) (hk : xs.length ≤ k) : Ra (m + 1) (k * (n + 2) + 3) (.tuple xs) := by
  refine ⟨?_, ?_, ?_⟩
  · simp only [PyData.depth]; have := depthAll_le (n := m) fun d hd => (h d hd).dep; omega
  · simp only [PyData.showable]; exact Spec.showableAll_of fun d hd => (h d hd).sho
  · have h1 := tupleText_len_le (PyData.shownAll xs)
    have h2 := shown_sum (n := n) fun d hd => (h d hd).len
    rw [PyData.shownAll_length] at h1
    simp only [PyData.shown]
    have h3 : xs.length * (n + 2) ≤ k * (n + 2) := Nat.mul_le_mul_right _ hk
    rw [Nat.mul_add] at h3
    omega
theorem ra_lst {m n k : Nat} {xs : List PyData} (h : ∀ d ∈ xs, Ra m n d) (hk : xs.length ≤ k) : Ra (m + 1) (k * (n + 2) + 3) (.list xs) := by
  refine ⟨?_, ?_, ?_⟩
  · simp only [PyData.depth]; have := depthAll_le (n := m) fun d hd => (h d hd).dep; omega
  · simp only [PyData.showable]; exact Spec.showableAll_of fun d hd => (h d hd).sho
  · have h1 := listText_len_le (PyData.shownAll xs)
    have h2 := shown_sum (n := n) fun d hd => (h d hd).len
    rw [PyData.shownAll_length] at h1
    simp only [PyData.shown]
    have h3 : xs.length * (n + 2) ≤ k * (n + 2) := Nat.mul_le_mul_right _ hk
    rw [Nat.mul_add] at h3
    omega
theorem ra_dict0 : Ra 1 2 (.dict []) := ⟨by simp [PyData.depth, PyData.depthKv], by simp [PyData.showable, PyData.showableKv], by simp only [PyData.shown, PyData.shownKv]; decide +kernel⟩
theorem ra_dict1 {m n : Nat} {z : Str} {d : PyData} (hz : PyData.strOk z = true) (hl : z.length ≤ 10) (h : Ra m n d) : Ra (m + 1) (n + 110) (.dict [(.str z, d)]) := by
  have hs := rp_str (L := 10) hz hl
  refine ⟨?_, ?_, ?_⟩
  · simp only [PyData.depth, PyData.depthKv]; have := h.dep; omega
  · simp only [PyData.showable, PyData.showableKv, h.sho]; rfl
  · have h1 := hs.len
    have h2 := h.len
    simp only [PyData.shown, PyData.shownKv] at h1 ⊢
    unfold dictText
    simp only [Str.join]
    rw [len_app, len_app, len_app, len_app]
    have e1 : (Str.ofString ": ").length = 2 := by decide +kernel
    have e2 : (Str.ofString "{").length = 1 := by decide +kernel
    have e3 : (Str.ofString "}").length = 1 := by decide +kernel
    rw [e1, e2, e3]
    omega
theorem ev_reprA {μ : Mu} {te : TE} {Γ : List Sl} {k m n : Nat} {d : PyData} (h : Ev μ te Γ k (Eq d)) (hr : Ra m n d) (hm : m ≤ 64 := by decide) (hn : n ≤ 16777216 := by decide) : Ev μ (tCB rReprA (tCons te tNil)) Γ k (Eq (.str d.shown)) := ev_cb (ea_cons h ea_nil) fun G H vs Q s hv q => by
  cases hv with
  | cons h1 h2 => cases h2; exact ⟨_, d, rfl, h1.mono s, Nat.le_trans hr.dep hm, hr.sho, Nat.le_trans hr.len (Nat.le_trans hn (by decide)), q _ G H (Nw.refl _ _) s (Same.refl _) (.str _)⟩
end B

/-! B16: lists of lists that a def has made and changes; items stored. -/
namespace B
open PySem PySem.Spec PyProof.Rows L2 TL
section
variable {μ : Mu} {Γ : List Sl} {n n1 n2 c : Nat} {R : Po} {ta tb tc te ti tj : TE} {ts : TS} {wi : TI} {g : TG} {i j l t : Nat} {is vs : List Nat} {P : PyData → Prop} {K : PySem.W.Frag} {ds r : List PyData} {d x : PyData}
theorem nodup_ix {α : Type} {q : α} : ∀ {xs : List α} {a b : Nat}, xs.Nodup → xs[a]? = some q → xs[b]? = some q → a = b
  | [], _, _, _, h, _ => by simp at h
  | x :: xs, 0, 0, _, _, _ => rfl
  | x :: xs, 0, b + 1, nd, h1, h2 => by
    simp at h1 h2
    exact absurd (List.mem_of_getElem? (h1 ▸ h2)) (List.nodup_cons.mp nd).1
  | x :: xs, a + 1, 0, nd, h1, h2 => by
    simp at h1 h2
    exact absurd (List.mem_of_getElem? (h2 ▸ h1)) (List.nodup_cons.mp nd).1
  | x :: xs, a + 1, b + 1, nd, h1, h2 => by
    exact congrArg (· + 1) (nodup_ix (xs := xs) (a := a) (b := b) (List.nodup_cons.mp nd).2 (by simpa using h1) (by simpa using h2))
theorem ixN_in {n j : Nat} (hj : j < n) : ixN n (j : Int) = some j := by
  unfold ixN
  rw [if_pos (by omega), if_pos (by omega)]
  rfl
theorem Stt.junk {G0 H0 G : Hp} {σ : L2.St} {H : Hp} {a : Addr} {u : HO} (S : Stt μ G0 H0 G Γ c σ H) (g : G a = none) (h0 : H0 a = none) (no : ∀ j, ¬ Owns Γ σ j a) : Stt μ G0 H0 G Γ c σ (upd H a u) := by
  have hM : ¬ μ.M a := fun m => (S.ent a m).1 h0
  refine ⟨S.len, S.new, fun b o hb => ?_, fun b o hb hh => ?_, S.ent, ?_, fun j s hs => ?_, S.dj⟩
  · rw [upd_ne (fun z => by rw [z, g] at hb; cases hb)]; exact S.sub b o hb
  · rw [upd_ne (fun z => by rw [z, h0] at hh; cases hh)]; exact S.fr b o hb hh
  · exact μ.st _ H _ (fun b o hb hh => by rw [upd_ne (fun z => by rw [z] at hb; exact hM hb)]; exact hh) S.inv
  · obtain ⟨o, ho, hok⟩ := S.sl j s hs
    refine ⟨o, ho, ?_⟩
    cases s with
    | un => trivial
    | dat d => exact hok
    | raw v => exact hok
    | fz φ => exact hok
    | ow k =>
      obtain ⟨p, w, rfl, h1, h2, h3, h4, h5⟩ := hok
      refine ⟨p, w, rfl, h1, h2, by rw [upd_ne (fun z => by subst z; exact no j ⟨k, hs, .inl ho⟩)]; exact h3, h4, fun m q hq => ?_⟩
      obtain ⟨r, ws, b1, b2, b3, b4, b5⟩ := h5 m q hq
      exact ⟨r, ws, b1, b2, b3, by rw [upd_ne (fun z => by subst z; exact no j ⟨k, hs, .inr (List.mem_of_getElem? hq)⟩)]; exact b4, b5⟩
theorem Stt.notOwn {G0 H0 G : Hp} {σ : L2.St} {H : Hp} {a : Addr} (S : Stt μ G0 H0 G Γ c σ H) (h : H a = none) (j : Nat) : ¬ Owns Γ σ j a := by
  rintro ⟨k, hk, h'⟩
  obtain ⟨o, ho, p, w, rfl, h1, h2, h3, h4, h5⟩ := S.sl j _ hk
  rcases h' with h' | h'
  · rw [h'] at ho; cases ho
    rw [h] at h3; cases h3
  · obtain ⟨m, hm⟩ := List.getElem?_of_mem h'
    obtain ⟨r, ws, b1, b2, b3, b4, b5⟩ := h5 m a hm
    rw [h] at b4; cases b4
/-- a new list each time -/
def EvN (μ : Mu) (te : TE) (Γ : List Sl) (r : List PyData) : Prop :=
  ∀ (G0 H0 G : Hp) (c : Nat) (σ : L2.St) (H : Hp) (Q : VK), Stt μ G0 H0 G Γ c σ H → c ≤ CM →
    (∀ q vs G' H', Stt μ G0 H0 G' Γ c σ H' → Ext μ.M G H G' H' → H' q = none → DtA G' vs r → Q (.ref q) (upd H' q (.lst vs))) → te σ H Q
theorem en_rep {k : Int} (hk : Ev μ tb Γ 0 (Eq (.int k))) (hx : Ev μ ta Γ 0 (Eq x)) (h1 : 0 ≤ k) (h2 : k ≤ 1000000) : EvN μ (tOp rRep (tLst (tCons ta tNil)) tb) Γ (List.replicate k.toNat x) := fun G0 H0 G c σ H Q S l q =>
  ev_lstE (ea_cons0 hx ea_nil) (Nat.le_of_ble_eq_true rfl) G0 H0 G c σ H _ S l fun d v G1 H1 p S1 e1 d1 => hk G0 H0 G1 c σ H1 _ S1 l fun d2 v2 G2 H2 p2 S2 e2 d2' => by
    cases p; cases p2; cases d2'
    cases d1 with
    | lst a ra =>
      cases ra with
      | cons hv ra =>
        cases ra
        refine ⟨_, k, _, rfl, rfl, S2.sub _ _ (e2.gg _ _ a), by omega, by omega, ?_, fun p hp => ?_⟩
        · show 1 * k.toNat ≤ sizeLine
          rw [Nat.one_mul]
          exact Nat.le_trans (show k.toNat ≤ 1000000 by omega) (by decide)
        · refine q p _ G2 H2 S2 (e1.trans e2) hp ?_
          have : ∀ n : Nat, DtA G2 (List.replicate n [_]).flatten (List.replicate n x) := fun n => by
            induction n with
            | zero => exact .nil
            | succ n ih => rw [List.replicate_succ, List.replicate_succ, List.flatten_cons]; exact .cons (hv.mono e2.gg) ih
          exact this _
structure GrdW (μ : Mu) (G0 H0 G1 H1 : Hp) (Γ : List Sl) (c : Nat) (σ : L2.St) (D : Addr) (r : List PyData) (i : Nat) (H' : Hp) (G2 : Hp) (qs : List Addr) : Prop where
  st : Stt μ G0 H0 G2 Γ c σ H'
  ex : Ext μ.M G1 H1 G2 H'
  gD : G2 D = none
  hD : H' D = some (.lst (qs.map V.ref))
  len : qs.length = i
  nd : qs.Nodup
  nin : D ∉ qs
  row : ∀ q ∈ qs, H1 q = none ∧ G2 q = none ∧ ∃ vs, H' q = some (.lst vs) ∧ DtA G2 vs r
theorem go_grid0 (hi : EvW μ wi Γ 0 (Eq ds)) (hl : ds.length ≤ 50000) (hv : ∀ i ∈ is, i ∈ vs) (ht : ∀ d, d ∈ ds → ∃ Γ', EvG g d is (wipeG Γ vs) Γ' ∧ EvN μ te Γ' r) (hc : c ≤ CM)
    (k : ∀ qs, R.nx (Γ.set i (.ow (.grd qs (List.replicate ds.length r)))) c) : Go μ (tAsg (tLc wi g tYes te vs) (gName i)) Γ c R := fun G0 H0 Gs G σ H D0 S gs L =>
  hi G0 H0 G c σ H _ S hc fun ds' J G1 H1 p S1 e1 wk => by
    subst p
    intro D hD
    have noD := S1.notOwn hD
    have h0D : H0 D = none := S1.h0 hD
    have hMD : ¬ μ.M D := fun hm' => (S1.ent D hm').1 h0D
    refine ⟨fun i left H' => left = ds.length - i ∧ i ≤ ds.length ∧ ∃ G2 qs, GrdW μ G0 H0 G1 H1 Γ c σ D r i H' G2 qs, ⟨ds.length, by omega, Nat.zero_le _, G1, [], ⟨S1.junk (Same.free S1.sub hD) h0D noD, .same (Nw.refl _ _) (Same.new hD), Same.free S1.sub hD, upd_same, rfl, .nil, by simp, by simp⟩⟩, fun i' left H' hW => ?_⟩
    obtain ⟨rfl, hil, G2, qs, W⟩ := hW
    by_cases hlt : i' < ds.length
    · refine .inr ⟨wk.go i' H' hlt (W.ex.gg.trans W.st.sub) (by simp), fun H'' => ∃ G2 qs, GrdW μ G0 H0 G1 H1 Γ c σ D r (i' + 1) H'' G2 qs, fun H'' z => ⟨ds.length - (i' + 1), by omega, rfl, by omega, z⟩, fun x H3 y => ?_⟩
      obtain ⟨G3, d, hdd, nw, s3, s3', hx⟩ := wk.yld i' H' G2 x H3 hlt W.ex.gg W.st.sub (by simp) y
      obtain ⟨Γ', hg, hen⟩ := ht d (List.mem_of_getElem? hdd)
      have S3 := W.st.same nw s3 s3'
      have e3 : Ext μ.M G2 H' G3 H3 := .same nw s3'
      refine hg μ G0 H0 G3 _ _ H3 x _ (S3.wipe vs) hx fun σ' S4 hwp => ⟨?_, ?_⟩
      · rw [hwp vs hv, wipe_wipe vs σ vs fun _ h => h]
      show te σ' H3 _
      refine hen G0 H0 G3 c σ' H3 _ S4 hc fun q us G5 H5 S5 e5 hq hus => ?_
      have e35 := e3.trans e5
      have hD5 : H5 D = some (.lst (qs.map V.ref)) := e35.fr _ _ hMD W.hD
      have gD5 : G5 D = none := e35.out W.gD W.hD
      have qD : q ≠ D := fun z => by rw [z, hD5] at hq; cases hq
      have Sx := W.st.of e35 S5
      have h1q : H1 q = none := W.ex.dm q (e35.dm q hq)
      have h0q : H0 q = none := S1.h0 h1q
      have gq : G5 q = none := Same.free S5.sub hq
      have noq := S1.notOwn h1q
      refine ⟨qs.map V.ref, by rw [upd_ne (Ne.symm qD)]; exact hD5, ?_, G5, qs ++ [q], ?_⟩
      · rw [List.length_map, W.len]
        exact Nat.lt_of_lt_of_le (show i' < 50000 by omega) (by decide)
      have old : ∀ a ∈ qs, a ≠ q ∧ a ≠ D := fun a ha => by
        obtain ⟨_, _, ws, hw, _⟩ := W.row a ha
        refine ⟨fun z => ?_, fun z => W.nin (z ▸ ha)⟩
        have hMa : ¬ μ.M a := fun m => (S1.ent a m).1 (S1.h0 (W.row a ha).1)
        have := e35.fr _ _ hMa hw
        rw [z, hq] at this; cases this
      refine ⟨(Sx.junk gq h0q noq).junk gD5 h0D noD, ?_, gD5, ?_, by rw [List.length_append, W.len]; rfl, ?_, ?_, ?_⟩
      · have ee := W.ex.trans e35
        refine ⟨ee.nw, fun a o ha hh => ?_, fun a ha => ?_⟩
        · rw [upd_ne (fun z => by subst z; rw [hD] at hh; cases hh), upd_ne (fun z => by subst z; rw [h1q] at hh; cases hh)]
          exact ee.fr a o ha hh
        · by_cases z : a = D
          · subst z; exact hD
          · rw [upd_ne z] at ha
            by_cases z2 : a = q
            · subst z2; exact h1q
            · rw [upd_ne z2] at ha; exact ee.dm a ha
      · rw [upd_same, List.map_append]; rfl
      · rw [List.nodup_append]
        refine ⟨W.nd, by simp, fun a ha b hb => ?_⟩
        rw [List.mem_singleton.mp hb]
        exact (old a ha).1
      · intro hm
        rcases List.mem_append.mp hm with h | h
        · exact W.nin h
        · exact qD (List.mem_singleton.mp h).symm
      · intro a ha
        rcases List.mem_append.mp ha with h | h
        · obtain ⟨a1, a2, ws, a3, a4⟩ := W.row a h
          have hMa : ¬ μ.M a := fun m => (S1.ent a m).1 (S1.h0 a1)
          refine ⟨a1, e35.out a2 a3, ws, ?_, a4.mono e35.gg⟩
          rw [upd_ne (old a h).2, upd_ne (old a h).1]
          exact e35.fr _ _ hMa a3
        · rw [List.mem_singleton.mp h]
          exact ⟨h1q, gq, us, by rw [upd_ne qD, upd_same], hus⟩
    · have ei : i' = ds.length := by omega
      subst ei
      refine .inl ⟨wk.stop H' (W.ex.gg.trans W.st.sub) (by simp), ?_⟩
      refine L.nx _ _ G2 _ _ (k qs) (W.st.set ⟨D, _, rfl, h0D, W.gD, W.hD, ⟨rfl, W.nin, W.nd, by rw [W.len, List.length_replicate]⟩, fun m q hq => ?_⟩ fun a o j hj ow => ?_) ((gs.trans e1.gg).trans W.ex.gg)
      · have hm : q ∈ qs := List.mem_of_getElem? hq
        obtain ⟨a1, a2, ws, a3, a4⟩ := W.row q hm
        have hlt : m < ds.length := by rw [← W.len]; exact (List.getElem?_eq_some_iff.mp hq).1
        exact ⟨r, ws, by show (List.replicate ds.length r)[m]? = some r; rw [List.getElem?_replicate, if_pos hlt], S1.h0 a1, a2, a3, a4⟩
      · obtain ⟨k', e, h'⟩ := o
        have hi : i < Γ.length := by
          have := (List.getElem?_eq_some_iff.mp e).1
          rw [List.length_set] at this; exact this
        rw [List.getElem?_set_self hi] at e
        cases e
        rcases h' with h' | h'
        · rw [List.getElem?_set_self (by rw [W.st.len]; exact hi)] at h'
          cases h'
          exact noD j ow
        · exact S1.notOwn (W.row a h').1 j ow
theorem Stt.grd {G0 H0 G : Hp} {σ : L2.St} {H : Hp} {qs : List Addr} {rss : List (List PyData)} (S : Stt μ G0 H0 G Γ c σ H) (h : Γ[t]? = some (.ow (.grd qs rss))) : ∃ p, σ[t]? = some (some (.ref p)) ∧ ¬ μ.M p ∧ H0 p = none ∧ G p = none ∧ H p = some (.lst (qs.map V.ref)) ∧ p ∉ qs ∧ qs.Nodup ∧ qs.length = rss.length ∧
    ∀ (m : Nat) q r, qs[m]? = some q → rss[m]? = some r → H0 q = none ∧ G q = none ∧ ∃ vs, H q = some (.lst vs) ∧ DtA G vs r := by
  obtain ⟨o, ho, p, u, rfl, h0, g, hp, ⟨rfl, a1, a2, a3⟩, hin⟩ := S.sl t _ h
  refine ⟨p, ho, fun m => (S.ent p m).1 h0, h0, g, hp, a1, a2, a3, fun m q r hq hr => ?_⟩
  obtain ⟨r', vs, b1, b2, b3, b4, b5⟩ := hin m q hq
  have b1' : rss[m]? = some r' := b1
  rw [hr] at b1'
  cases b1'
  exact ⟨b2, b3, vs, b4, b5⟩
/-- table[i][j] -/
theorem ev_grid {qs : List Addr} {rss : List (List PyData)} {a b : Nat} (h : Γ[t]? = some (.ow (.grd qs rss))) (hi : Ev μ ti Γ 0 (Eq (.int (a : Int)))) (hj : Ev μ tj Γ 0 (Eq (.int (b : Int)))) (hr : rss[a]? = some r) (hd : r[b]? = some d) : Ev μ (tOp (rIxL K) (tOp (rIxL K) (tVar t) ti) tj) Γ 0 (Eq d) := fun G0 H0 G c σ H Q S l q => by
  obtain ⟨p, hs, hM, h0, g, hp, n1, n2, n3, hrow⟩ := S.grd h
  have hl : a < qs.length := by rw [n3]; exact (List.getElem?_eq_some_iff.mp hr).1
  refine ⟨_, hs, hi G0 H0 G c σ H _ S l fun d1 v1 G1 H1 p1 S1 e1 d1' => ?_⟩
  cases p1; cases d1'
  have hq : qs[a]? = some qs[a] := List.getElem?_eq_getElem hl
  obtain ⟨b2, b3, vs, b4, b5⟩ := hrow a _ r hq hr
  have hMq : ¬ μ.M qs[a] := fun m => (S.ent _ m).1 b2
  refine ⟨p, _, _, .ref qs[a], rfl, rfl, SqL.of (e1.fr _ _ hM hp), atI_nat (by rw [List.getElem?_map, hq]; rfl), ?_⟩
  refine hj G0 H0 G1 _ σ H1 _ S1 l fun d2 v2 G2 H2 p2 S2 e2 d2' => ?_
  cases p2; cases d2'
  have ee := e1.trans e2
  obtain ⟨u, hu, hdu⟩ := b5.getD hd
  exact ⟨_, vs, _, u, rfl, rfl, SqL.of (ee.fr _ _ hMq b4), atI_nat hu, q _ _ G2 H2 rfl S2 ee (hdu.mono ee.gg)⟩
theorem DtA.setA {G : Hp} {v : V} {d : PyData} (h : Dt G v d) : ∀ {vs : List V} {ds : List PyData} (j : Nat), DtA G vs ds → DtA G (vs.set j v) (ds.set j d)
  | _, _, _, .nil => .nil
  | _, _, 0, .cons _ r => .cons h r
  | _, _, j + 1, .cons a r => .cons a (DtA.setA h j r)
/-- an inner list is changed -/
theorem Stt.putIn {G0 H0 G : Hp} {σ : L2.St} {H : Hp} {qs : List Addr} {rss : List (List PyData)} {a : Nat} {q : Addr} {us : List V} {r : List PyData} (S : Stt μ G0 H0 G Γ c σ H) (h : Γ[t]? = some (.ow (.grd qs rss))) (hq : qs[a]? = some q) (hd : DtA G us r) : Stt μ G0 H0 G (Γ.set t (.ow (.grd qs (rss.set a r)))) c σ (upd H q (.lst us)) := by
  obtain ⟨p, hs, hM, h0, g, hp, n1, n2, n3, hrow⟩ := S.grd h
  have hl : t < Γ.length := (List.getElem?_eq_some_iff.mp h).1
  have hal : a < rss.length := by rw [← n3]; exact (List.getElem?_eq_some_iff.mp hq).1
  obtain ⟨b2, b3, vs, b4, b5⟩ := hrow a q _ hq (List.getElem?_eq_getElem hal)
  have hMq : ¬ μ.M q := fun m => (S.ent _ m).1 b2
  have hqm : q ∈ qs := List.mem_of_getElem? hq
  have oth : ∀ m b, Owns (Γ.set t (.ow (.grd qs (rss.set a r)))) σ m b → Owns Γ σ m b := fun m b z => by
    obtain ⟨k1, e1, h1⟩ := z
    by_cases e : m = t
    · subst e
      rw [List.getElem?_set_self hl] at e1
      cases e1
      exact ⟨_, h, h1⟩
    · rw [List.getElem?_set_ne (Ne.symm e)] at e1
      exact ⟨k1, e1, h1⟩
  refine ⟨by rw [List.length_set]; exact S.len, S.new, fun b o hb => ?_, fun b o hb hh => ?_, S.ent, ?_, fun j s hj => ?_, fun j k b x y => S.dj j k b (oth j b x) (oth k b y)⟩
  · rw [upd_ne (fun z => by subst z; rw [b3] at hb; cases hb)]; exact S.sub b o hb
  · rw [upd_ne (fun z => by subst z; rw [b2] at hh; cases hh)]; exact S.fr b o hb hh
  · exact μ.st _ H _ (fun b o hb hh => by rw [upd_ne (fun z => by rw [z] at hb; exact hMq hb)]; exact hh) S.inv
  · by_cases z : j = t
    · subst z
      rw [List.getElem?_set_self hl] at hj
      cases hj
      refine ⟨_, hs, p, _, rfl, h0, g, by rw [upd_ne (show p ≠ q from fun z => n1 (by rw [z]; exact hqm))]; exact hp, ⟨rfl, n1, n2, by rw [List.length_set]; exact n3⟩, fun m b hb => ?_⟩
      have hml : m < rss.length := by rw [← n3]; exact (List.getElem?_eq_some_iff.mp hb).1
      by_cases e : m = a
      · subst e
        have hb' : qs[m]? = some b := hb
        rw [hq] at hb'
        cases hb'
        exact ⟨r, us, by show (rss.set m r)[m]? = some r; rw [List.getElem?_set_self hml], b2, b3, upd_same, hd⟩
      · obtain ⟨c2, c3, ws, c4, c5⟩ := hrow m b _ hb (List.getElem?_eq_getElem hml)
        refine ⟨rss[m], ws, by show (rss.set a r)[m]? = _; rw [List.getElem?_set_ne (Ne.symm e), List.getElem?_eq_getElem hml], c2, c3, ?_, c5⟩
        rw [upd_ne (fun z => ?_)]
        · exact c4
        · subst z
          exact e (nodup_ix n2 hb hq)
    · rw [List.getElem?_set_ne (Ne.symm z)] at hj
      obtain ⟨o, ho', hk1⟩ := S.sl j s hj
      refine ⟨o, ho', ?_⟩
      have ne : ∀ b, Owns Γ σ j b → b ≠ q := fun b hb e => by
        subst e
        exact z (S.dj j t b hb ⟨_, h, .inr hqm⟩)
      cases s with
      | un => trivial
      | dat d => exact hk1
      | raw v => exact hk1
      | fz φ => exact hk1
      | ow xs =>
        obtain ⟨q', ws, e, a1, a2, a3, a4, a5⟩ := hk1
        subst e
        refine ⟨q', ws, rfl, a1, a2, by rw [upd_ne (ne q' ⟨_, hj, .inl ho'⟩)]; exact a3, a4, fun m b hb => ?_⟩
        obtain ⟨r', ws', c1, c2, c3, c4, c5⟩ := a5 m b hb
        exact ⟨r', ws', c1, c2, c3, by rw [upd_ne (ne b ⟨_, hj, .inr (List.mem_of_getElem? hb)⟩)]; exact c4, c5⟩
/-- table[i][j] = e -/
theorem go_gridset {qs : List Addr} {rss : List (List PyData)} {a b : Nat} (h : Γ[t]? = some (.ow (.grd qs rss))) (he : Ev μ te Γ 0 (Eq d)) (hi : Ev μ ti Γ 0 (Eq (.int (a : Int)))) (hj : Ev μ tj Γ 0 (Eq (.int (b : Int)))) (hr : rss[a]? = some r) (hb : b < r.length) (hc : c ≤ CM)
    (k : R.nx (Γ.set t (.ow (.grd qs (rss.set a (r.set b d))))) c) : Go μ (tAsg te (gSub (tOp (rIxL K) (tVar t) ti) tj rSetL)) Γ c R := fun G0 H0 Gs G σ H D S gs L =>
  he G0 H0 G c σ H _ S hc fun d0 v G1 H1 p1 S1 e1 d1 => by
    cases p1
    obtain ⟨p, hs, hM, h0, g, hp, n1, n2, n3, hrow⟩ := S1.grd h
    have hl : a < qs.length := by rw [n3]; exact (List.getElem?_eq_some_iff.mp hr).1
    refine ⟨_, hs, hi G0 H0 G1 c σ H1 _ S1 hc fun d2 v2 G2 H2 p2 S2 e2 d2' => ?_⟩
    cases p2; cases d2'
    have hq : qs[a]? = some qs[a] := List.getElem?_eq_getElem hl
    obtain ⟨b2, b3, vs, b4, b5⟩ := hrow a _ r hq hr
    have hMq : ¬ μ.M qs[a] := fun m => (S1.ent _ m).1 b2
    refine ⟨p, _, _, .ref qs[a], rfl, rfl, SqL.of (e2.fr _ _ hM hp), atI_nat (by rw [List.getElem?_map, hq]; rfl), ?_⟩
    refine hj G0 H0 G2 _ σ H2 _ S2 hc fun d3 v3 G3 H3 p3 S3 e3 d3' => ?_
    cases p3; cases d3'
    have ee := e2.trans e3
    refine ⟨_, vs, _, b, rfl, rfl, ee.fr _ _ hMq b4, ixN_in (by rw [b5.length]; exact hb), ?_⟩
    exact L.nx _ _ G3 _ _ k (S3.putIn h hq ((b5.mono ee.gg).setA (d1.mono ee.gg) b)) (gs.trans (e1.trans ee).gg)
/-- x[j] = e, x an own list -/
theorem go_setO {b : Nat} (h : Γ[t]? = some (.own ds)) (he : Ev μ te Γ 0 (Eq d)) (hj : Ev μ tj Γ 0 (Eq (.int (b : Int)))) (hb : b < ds.length) (hc : c ≤ CM) (k : R.nx (Γ.set t (.own (ds.set b d))) c) : Go μ (tAsg te (gSub (tVar t) tj rSetL)) Γ c R := fun G0 H0 Gs G σ H D S gs L =>
  he G0 H0 G c σ H _ S hc fun d0 v G1 H1 p1 S1 e1 d1 => by
    cases p1
    obtain ⟨p, vs, hs, hM, hp, hd⟩ := S1.own h
    refine ⟨_, hs, hj G0 H0 G1 c σ H1 _ S1 hc fun d2 v2 G2 H2 p2 S2 e2 d2' => ?_⟩
    cases p2; cases d2'
    refine ⟨p, vs, _, b, rfl, rfl, e2.fr _ _ hM hp, ixN_in (by rw [hd.length]; exact hb), ?_⟩
    exact L.nx _ _ G2 _ _ k (S2.putOwn h hs ((hd.mono e2.gg).setA (d1.mono e2.gg) b)) (gs.trans (e1.trans e2).gg)
/-- x = [e] * k, an own list -/
theorem go_ownN (he : EvN μ te Γ r) (hc : c ≤ CM) (k : R.nx (Γ.set i (.own r)) c) : Go μ (tAsg te (gName i)) Γ c R := fun G0 H0 Gs G σ H D S gs L =>
  he G0 H0 G c σ H _ S hc fun q vs G1 H1 S1 e1 hq hd => L.nx _ _ G1 _ _ k (S1.newOwn hq hd) (gs.trans e1.gg)
/-- the lists are given up to the data -/
theorem frz_rows {G H : Hp} (s : Same G H) : ∀ {qs : List Addr} {rss : List (List PyData)}, qs.Nodup → qs.length = rss.length → (∀ (m : Nat) q r, qs[m]? = some q → rss[m]? = some r → G q = none ∧ ∃ vs, H q = some (.lst vs) ∧ DtA G vs r) →
    ∃ G', Same G G' ∧ Same G' H ∧ (∀ a, G' a ≠ none → G a ≠ none ∨ a ∈ qs) ∧ DtA G' (qs.map V.ref) (rss.map .list)
  | [], [], _, _, _ => ⟨G, Same.refl _, s, fun _ h => .inl h, .nil⟩
  | [], _ :: _, _, h, _ => by simp at h
  | _ :: _, [], _, h, _ => by simp at h
  | q :: qs, r :: rss, nd, hl, hr => by
    have nd' := List.nodup_cons.mp nd
    obtain ⟨G', s1, s2, s3, d1⟩ := frz_rows s nd'.2 (by simpa using hl) fun m a b h1 h2 => hr (m + 1) a b (by simpa using h1) (by simpa using h2)
    obtain ⟨g, vs, hq, hd⟩ := hr 0 q r rfl rfl
    have g' : G' q = none := by
      cases e : G' q with
      | none => rfl
      | some o =>
        rcases s3 q (by rw [e]; simp) with h | h
        · exact absurd g h
        · exact absurd h nd'.1
    have sn := Same.new (o := HO.lst vs) g'
    refine ⟨upd G' q (.lst vs), s1.trans sn, fun a o ha => ?_, fun a ha => ?_, .cons (.lst upd_same ((hd.mono s1).mono sn)) (d1.mono sn)⟩
    · by_cases z : a = q
      · subst z; rw [upd_same] at ha; rw [hq]; exact ha
      · rw [upd_ne z] at ha; exact s2 a o ha
    · by_cases z : a = q
      · subst z; exact .inr List.mem_cons_self
      · rw [upd_ne z] at ha
        rcases s3 a ha with h | h
        · exact .inl h
        · exact .inr (List.mem_cons_of_mem _ h)
theorem go_freezeG {qs : List Addr} {rss : List (List PyData)} (h : Γ[t]? = some (.ow (.grd qs rss))) (k : Go μ ts (Γ.set t (.dat (.list (rss.map .list)))) c R) : Go μ ts Γ c R := fun G0 H0 Gs G σ H D S gs L => by
  obtain ⟨p, hs, hM, h0, g, hp, n1, n2, n3, hrow⟩ := S.grd h
  obtain ⟨G', s1, s2, s3, d1⟩ := frz_rows S.sub n2 n3 fun m q r hq hr => (hrow m q r hq hr).2
  have rows0 : ∀ q ∈ qs, H0 q = none ∧ G q = none := fun q hq => by
    obtain ⟨m, hm⟩ := List.getElem?_of_mem hq
    have hl : m < rss.length := by rw [← n3]; exact (List.getElem?_eq_some_iff.mp hm).1
    obtain ⟨a, b, _⟩ := hrow m q _ hm (List.getElem?_eq_getElem hl)
    exact ⟨a, b⟩
  have gp : G' p = none := by
    cases e : G' p with
    | none => rfl
    | some o =>
      rcases s3 p (by rw [e]; simp) with z | z
      · exact absurd g z
      · exact absurd z n1
  have hl : t < Γ.length := (List.getElem?_eq_some_iff.mp h).1
  have sn := Same.new (o := HO.lst (qs.map V.ref)) gp
  have own : ∀ a, a = p ∨ a ∈ qs → Owns Γ σ t a := fun a ha => ⟨_, h, ha.elim (fun z => .inl (z ▸ hs)) .inr⟩
  have fin : ∀ a, (upd G' p (.lst (qs.map V.ref))) a ≠ none → G a ≠ none ∨ (a = p ∨ a ∈ qs) := fun a ha => by
    by_cases z : a = p
    · exact .inr (.inl z)
    · rw [upd_ne z] at ha
      rcases s3 a ha with y | y
      · exact .inl y
      · exact .inr (.inr y)
  refine k G0 H0 Gs (upd G' p (.lst (qs.map V.ref))) σ H D ⟨by rw [List.length_set]; exact S.len, ⟨(S.new.1.trans s1).trans sn, fun a ha => ?_⟩, fun a o ha => ?_, S.fr, S.ent, S.inv, fun j s hj => ?_, fun j m a x y => ?_⟩ ((gs.trans s1).trans sn) L
  · rcases fin a ha with y | y | y
    · exact S.new.2 a y
    · rw [y]; exact .inr h0
    · exact .inr (rows0 a y).1
  · by_cases z : a = p
    · subst z; rw [upd_same] at ha; rw [hp]; exact ha
    · rw [upd_ne z] at ha; exact s2 a o ha
  · by_cases z : j = t
    · subst z
      rw [List.getElem?_set_self hl] at hj
      cases hj
      exact ⟨_, hs, .ref p, rfl, .lst upd_same (d1.mono sn)⟩
    · rw [List.getElem?_set_ne (Ne.symm z)] at hj
      obtain ⟨o, ho', hk1⟩ := S.sl j s hj
      refine ⟨o, ho', ?_⟩
      have keep : ∀ b, Owns Γ σ j b → G b = none → (upd G' p (.lst (qs.map V.ref))) b = none := fun b ob gb => by
        cases e : (upd G' p (.lst (qs.map V.ref))) b with
        | none => rfl
        | some o =>
          rcases fin b (by rw [e]; simp) with y | y
          · exact absurd gb y
          · exact absurd (S.dj j t b ob (own b y)) z
      cases s with
      | un => trivial
      | dat d => obtain ⟨v, e, hv⟩ := hk1; exact ⟨v, e, (hv.mono s1).mono sn⟩
      | raw v => exact hk1
      | fz φ => obtain ⟨v, e, hv⟩ := hk1; exact ⟨v, e, fun G2 s2 => hv G2 ((s1.trans sn).trans s2)⟩
      | ow xs =>
        obtain ⟨q', ws, e, a1, a2, a3, a4, a5⟩ := hk1
        subst e
        refine ⟨q', ws, rfl, a1, keep q' ⟨_, hj, .inl ho'⟩ a2, a3, a4.mono (s1.trans sn), fun m b hb => ?_⟩
        obtain ⟨r', ws', c1, c2, c3, c4, c5⟩ := a5 m b hb
        exact ⟨r', ws', c1, c2, keep b ⟨_, hj, .inr (List.mem_of_getElem? hb)⟩ c3, c4, c5.mono (s1.trans sn)⟩
  · have oth : ∀ j, Owns (Γ.set t (.dat (.list (rss.map .list)))) σ j a → Owns Γ σ j a := fun j o => by
      obtain ⟨k', e, h'⟩ := o
      by_cases z : j = t
      · subst z
        rw [List.getElem?_set_self hl] at e
        cases e
      · rw [List.getElem?_set_ne (Ne.symm z)] at e
        exact ⟨k', e, h'⟩
    exact S.dj j m a (oth j x) (oth m y)
/-! ### ranges that go down -/
def rngC (lo c : Int) (n : Nat) : List PyData := (List.range n).map fun i => .int (lo + (i : Nat) * c)
theorem rngC_len (lo c : Int) (n : Nat) : (rngC lo c n).length = n := by unfold rngC; rw [List.length_map, List.length_range]
theorem rngC_get {lo c : Int} {n i : Nat} {d : PyData} (h : (rngC lo c n)[i]? = some d) : d = .int (lo + (i : Nat) * c) := by
  unfold rngC at h
  rw [List.getElem?_map] at h
  cases e : (List.range n)[i]? with
  | none => rw [e] at h; cases h
  | some j =>
    rw [e] at h
    cases h
    have := List.getElem?_range (n := n) (i := i) (by have := (List.getElem?_eq_some_iff.mp e).1; simpa using this)
    rw [this] at e
    cases e
    rfl
theorem ew_rngDown {ta : TA} {a b : Int} (h : EvA μ ta Γ n (Eq [.int a, .int b, .int (-1)])) (h1 : a ≤ 1000000) (h2 : -1000000 ≤ a) (h3 : b ≤ 1000000) (h4 : -1000000 ≤ b) : EvW μ (iRng3 ta) Γ n (Eq (rngC a (-1) (a - b).toNat)) := fun G0 H0 G c σ H R S l q =>
  h G0 H0 G c σ H _ S l fun ds vs G1 H1 p S1 e1 d1 => by
    cases p
    cases d1 with
    | cons x1 r1 =>
      cases r1 with
      | cons x2 r2 =>
        cases r2 with
        | cons x3 r3 =>
          cases r3; cases x1; cases x2; cases x3
          refine ⟨a, b, -1, _, rfl, RgC.neg (by omega) (by omega) (by omega) (by omega), q _ _ G1 H1 rfl S1 e1 (dwalk_fn (f := fun i => .int (a + (i : Nat) * (-1))) (by rw [rngC_len]; exact walk_rangeC) (fun _ => trivial) fun i d hd => by rw [rngC_get hd]; exact .int _)⟩
end
end B

/-! B17: enumerate(tuple); several names; max. -/
namespace B
open PySem PySem.Spec PyProof.Rows L2 TL
theorem meets_enum1 {v : Value} {o : Obj} {H : Heap → Prop} (B : Begins v o H) :
    Meets (Builtin.«enumerate.__new__» ⟨[.type "enumerate", v], []⟩) (fun _ R s => H s.heap ∧
      R (.ok (.ret (.ref (s.heap.push o).objs.size))) { s with heap := (s.heap.push o).push { cls := .type "enumerate", data := .fields #[.none, .bool false, .ref s.heap.objs.size, rawInt 0, .none, .none] } }) :=
  .of_wp fun prog w A R s h => by
    obtain ⟨hp, g, d, tk, os⟩ := s; obtain ⟨h1, h⟩ := h
    have hsub := sub_enumerate
    have q1 : ∀ {A' : Around} {E : Value → Shared → Prop} {Q : Value → Shared → Prop}, Q (.ref hp.objs.size) ⟨hp.push o, g, d, tk, os⟩ → wpAny (model prog w) A' (pyIter v) Q E ⟨hp, g, d, tk, os⟩ :=
      fun q => B.iter prog w _ _ ⟨hp, g, d, tk, os⟩ _ h1 q
    wp_walk using q1
    refine wpAny_stack_any fun st => wpAny_pure ?_
    split
    · rename_i c _ _ _ _ _
      cases (c == Value.type "enumerate")
      · wp_walk using q1
        exact ⟨_, rfl, h⟩
      · wp_walk using q1
        exact ⟨_, rfl, h⟩
    · wp_walk using q1
      exact ⟨_, rfl, h⟩
/-- the tuple at a, each item in a new pair with its place -/
def IteT (K : PySem.W.Frag) (a : Addr) : It :=
  ⟨fun i H => ∃ (xs : List V) (x : V), SqT K H a xs ∧ xs[i]? = some x, fun i H v H' => ∃ T x, v = .ref T ∧ H T = none ∧ H' = upd H T (.tup [.int (i : Nat), x]) ∧ ∀ xs, SqT K H a xs → xs[i]? = some x, fun i H => ∃ xs : List V, SqT K H a xs ∧ xs.length = i⟩
theorem turn_enumT {P : Program} {w : World} {K : PySem.W.Frag} {elts : List Expr} {kk : Nat} {tpos : Pos} (a e it : Addr) :
    Turn P w K (.Tuple elts kk tpos) (IteT K a) [e, it] e (fun i h => (∃ old, IsEnum h e it ((i : Nat) : Int) old) ∧ h.IsTupleIter it a i ∧ e ≠ it ∧ a ≠ it ∧ e ≠ a) where
  mem := by simp
  obj := fun i h st b hb => by
    obtain ⟨⟨old, he⟩, ⟨o, ho, hc, hd⟩, _⟩ := st
    have e' : b = e ∨ b = it := by simpa using hb
    rcases e' with z | z
    · rw [z]; exact ⟨_, he, fun v q => nomatch q⟩
    · rw [z]; exact ⟨o, ho, fun v q => by rw [hd] at q; cases q⟩
  keep := fun i h h' st k => let ⟨⟨old, he⟩, hi, hne⟩ := st; ⟨⟨old, k e (by simp) _ he⟩, hi.at fun o q => k it (by simp) o q, hne⟩
  item := by
    intro X hP hw hK hc i pins s σ H E I hf st hg
    subst hP hw hK
    obtain ⟨⟨old, he⟩, hit, hne, hai, hea⟩ := st
    obtain ⟨xs, x, hq, hx⟩ := hg
    obtain ⟨its, rv, p, hz⟩ := I.tuple hq
    obtain ⟨u, hu, ru⟩ := rv.get hx
    have hel : e < s.heap.objs.size := Heap.lt_size he
    have hil : it < s.heap.objs.size := by obtain ⟨_, q, _⟩ := hit; exact Heap.lt_size q
    have hlt : i < its.toArray.size := by
      have := (List.getElem?_eq_some_iff.mp hu).1
      simpa using this
    refine wpAny_pyNext_enum_itemD (Draws.tuple (prog := X.prog) (w := X.w) (A := X.A.in1) (I.ok.hd hc) it a hai its.toArray) he ⟨hit, p⟩ hlt hne (by simp [hne, hea]) fun x' h' tk hPx ho hst hT hsz hk => ?_
    have ex : x' = u := by
      have : (its.toArray)[i]? = some u := by simpa using hu
      rw [this] at hPx
      exact (Option.some.inj hPx).symm
    subst ex
    refine ⟨_, rfl, wpAny_letOwnedTupleGo_enum (s := { s with heap := h', toks := tk + 1 }) ho fun h'' he' sb => ?_⟩
    have hT2 : h''.get? s.heap.objs.size = some { cls := .type "tuple", data := .seq #[.int i tk, x'] } := (sb.2 _ (Nat.ne_of_gt hel)).trans hT
    have new : ObjOk X.prog X.w (upd H s.heap.objs.size (.tup [.int (i : Nat), x])) h'' s.heap.objs.size (.tup [.int (i : Nat), x]) :=
      ⟨by show 2 ≤ sizeLine; decide, [.int i tk, x'], .cons ⟨_, rfl⟩ (.cons ru .nil), ⟨_, hT2, rfl, _, rfl⟩⟩
    have I1 : Inv X pins σ (upd H s.heap.objs.size (.tup [.int (i : Nat), x])) { s with heap := h'', toks := tk + 1 } :=
      I.turnedNew (ch := [e, it]) (fun b ob hb q => (sb.2 b (fun z => hb (by simp [z]))).trans (hk b ob (fun z => hb (by simp [z])) (fun z => hb (by simp [z])) q)) hf (Nat.le_refl _) new
    refine ⟨.ref s.heap.objs.size, _, I1, rfl, ⟨_, x, rfl, I.hok.fresh (Nat.le_refl _), rfl, fun ys hy => by rw [I.tuple_inj hy hq]; exact hx⟩, ⟨⟨x', ?_⟩, hst.1.at fun o q => (sb.2 it (Ne.symm hne)).trans q, hne, hai, hea⟩, fun b hb => ?_⟩
    · have e1 : ((i + 1 : Nat) : Int) = (i : Int) + 1 := by omega
      rw [e1]; exact he'
    · have hb' : b < s.heap.objs.size := by
        have e' : b = e ∨ b = it := by simpa using hb
        rcases e' with z | z
        · rw [z]; exact hel
        · rw [z]; exact hil
      rw [upd_ne (Nat.ne_of_lt hb')]
      exact (hf b hb).1
  done := by
    intro X hP hw hK hc i pins s σ H E I hf st hg
    subst hP hw hK
    obtain ⟨⟨old, he⟩, hit, hne, hai, hea⟩ := st
    obtain ⟨xs, hq, hx⟩ := hg
    obtain ⟨its, rv, p, hz⟩ := I.tuple hq
    obtain ⟨f0, f1, f2, f3, f4, f5⟩ := hf it (by simp)
    have hl := rv.length
    have hi : its.toArray.size = i := by simp; omega
    exact wpAny_pyNext_enum_endD (Draws.tuple (prog := X.prog) (w := X.w) (A := X.A.in1) (I.ok.hd hc) it a hai its.toArray) he ⟨by rw [hi]; exact hit, p⟩ fun h' eb => ⟨rfl, I.turned (t' := s.toks) (fun b o hb q => eb b o hb q) f0 f1 f3 f4 f5⟩
  self := fun A i s Q E st h => let ⟨⟨_, he⟩, _⟩ := st; wpAny_pyIter_enum he h
def iEnumT (K : PySem.W.Frag) (ta : TA) : TI := fun σ H R => ta σ H fun vs H1 => ∃ a xs, vs = [.ref a] ∧ SqT K H1 a xs ∧ R (IteT K a) H1
theorem pi_enumT {X : Cx} {e : Expr} {ta : TA} {p pos tpos : Pos} {elts : List Expr} {kk : Nat} (hg : Gl X "enumerate") (hm : X.mg "enumerate" = none) (ha : PA X [e] ta) (hs : starEach [e] X.env = [(false, eval e X.env)] := by rfl) :
    PI X (.Tuple elts kk tpos) (.Call (.Name "enumerate" p) [e] [] pos) (iEnumT X.K ta) := by
  refine ⟨fun pins s σ H R I h => ?_⟩
  refine Call_ (ld_blt I hg hm boot_enumerate (PyProof.Rows.callWith_type1 (thn (ha.run pos pins s σ H _ I h) fun us s1 ⟨vs, H1, I1, r1, q1⟩ => ?_) hs rfl))
  obtain ⟨a, xs, ex, hq, q⟩ := q1
  subst ex
  cases r1 with
  | cons r rr =>
    cases rr
    cases r
    obtain ⟨its, rv, p', hz⟩ := I1.tuple hq
    have hal : a < s1.heap.objs.size := by obtain ⟨o, ho, _⟩ := p'; exact Heap.lt_size ho
    refine callType_new F.called_enumerate (by decide) (F.typeCall_enumerate_1 _) (F.newCall_enumerate_1 _) (fun obj => F.args_object_init_2 obj _) F.entry_enumerate_new (meets_enum1 (begins_tuple a its.toArray)) ⟨p', ?_⟩
    have hz : (s1.heap.push { cls := .type "tuple_iterator", data := .fields #[.ref a, .int 0 0] }).objs.size = s1.heap.objs.size + 1 := Heap.size_push ..
    show _ ∧ _
    rw [hz]
    have he : IsEnum ((s1.heap.push { cls := .type "tuple_iterator", data := .fields #[.ref a, .int 0 0] }).push { cls := .type "enumerate", data := .fields #[.none, .bool false, .ref s1.heap.objs.size, rawInt 0, .none, .none] }) (s1.heap.objs.size + 1) s1.heap.objs.size 0 .none := by
      have := Heap.get?_push_size (s1.heap.push { cls := .type "tuple_iterator", data := .fields #[.ref a, .int 0 0] }) (o := { cls := .type "enumerate", data := .fields #[.none, .bool false, .ref s1.heap.objs.size, rawInt 0, .none, .none] }) rfl
      rw [hz] at this; exact this
    refine ⟨⟨_, he, rfl⟩, wpAny_pyIter_enum he ?_⟩
    have I2 : Inv X pins σ H1 { s1 with heap := (s1.heap.push { cls := .type "tuple_iterator", data := .fields #[.ref a, .int 0 0] }).push { cls := .type "enumerate", data := .fields #[.none, .bool false, .ref s1.heap.objs.size, rawInt 0, .none, .none] } } := I1.kept (t' := s1.toks) fun b o x => Heap.get?_push_of_some _ (Heap.get?_push_of_some _ x)
    refine ⟨s1.heap.objs.size + 1, [s1.heap.objs.size + 1, s1.heap.objs.size], _, _, H1, rfl, I2, turn_enumT a (s1.heap.objs.size + 1) s1.heap.objs.size, ⟨⟨.none, he⟩, ⟨_, Heap.get?_push_of_some _ (Heap.get?_push_size _ rfl), rfl, rfl⟩, Nat.succ_ne_self _, Nat.ne_of_lt hal, Nat.ne_of_gt (Nat.lt_succ_of_lt hal)⟩, fun b hb => ?_, q⟩
    have e' : b = s1.heap.objs.size + 1 ∨ b = s1.heap.objs.size := by simpa using hb
    have hle : s1.heap.objs.size ≤ b := by
      rcases e' with z | z
      · rw [z]; exact Nat.le_add_right _ _
      · rw [z]; exact Nat.le_refl _
    exact I1.fpOk hle (I1.hok.fresh hle)
section
variable {μ : Mu} {Γ : List Sl} {n n1 n2 c : Nat} {R : Po} {ta tb tc te : TE} {i j l : Nat} {P : List PyData → Prop} {K : PySem.W.Frag} {ds : List PyData} {x y z : PyData}
def enumD (ds : List PyData) : List PyData := ds.mapIdx fun i d => .tuple [.int (i : Int), d]
theorem enumD_len : (enumD ds).length = ds.length := by unfold enumD; rw [List.length_mapIdx]
theorem enumD_get {i : Nat} {d : PyData} (h : ds[i]? = some d) : (enumD ds)[i]? = some (.tuple [.int (i : Int), d]) := by unfold enumD; rw [List.getElem?_mapIdx, h]; rfl
theorem ew_enumT {ta : TA} (h : EvA μ ta Γ n (Eq [.tuple ds])) : EvW μ (iEnumT K ta) Γ n (Eq (enumD ds)) := fun G0 H0 G c σ H R S l q =>
  h G0 H0 G c σ H _ S l fun ds' vs G1 H1 p S1 e1 d1 => by
    cases p
    cases d1 with
    | cons x1 r1 =>
      cases r1
      cases x1 with
      | tup a r =>
        refine ⟨_, _, rfl, (a.sq S1.sub), q _ _ G1 H1 rfl S1 e1 ⟨fun i H hi s p => ?_, fun H s p => ?_, fun i H G2 x H' hi s s1 p y => ?_⟩⟩
        · rw [enumD_len] at hi
          obtain ⟨v, hv, _⟩ := r.getD (List.getElem?_eq_getElem hi)
          exact ⟨_, v, (a.sq s), hv⟩
        · exact ⟨_, (a.sq s), by rw [enumD_len, r.length]⟩
        · obtain ⟨T, v, rfl, hT, rfl, hall⟩ := y
          have hv := hall _ (((a).mono s).sq s1)
          obtain ⟨d, hd, hdv⟩ := r.get hv
          exact ⟨upd G2 T (.tup [.int (i : Nat), v]), _, enumD_get hd, Nw.upd hT s1, Same.upd2 s1, Same.new hT, .tup (.key trivial) (.cons (.int _) (.one ((hdv.mono s).mono (Nw.upd hT s1).1)))⟩
/-- a, b, c = x, y, z -/
theorem go_par3 {ta : TA} (h : EvA μ ta Γ n P) (hc : c + n ≤ CM) (hl : ∀ xs, P xs → xs.length = 3) (k : ∀ a b d, P [a, b, d] → R.nx (((Γ.set i (.dat a)).set j (.dat b)).set l (.dat d)) (c + n)) : Go μ (tPar3 i j l ta) Γ c R := fun G0 H0 Gs G σ H D S gs L =>
  h G0 H0 G c σ H _ S hc fun ds vs G1 H1 p S1 e1 d1 => by
    have hl' := hl ds p
    cases d1 with
    | nil => cases hl'
    | cons h1 r1 =>
      cases r1 with
      | nil => cases hl'
      | cons h2 r2 =>
        cases r2 with
        | nil => cases hl'
        | cons h3 r3 =>
          cases r3 with
          | cons _ _ => simp at hl'
          | nil => exact ⟨_, _, _, rfl, L.nx _ _ G1 _ H1 (k _ _ _ p) (((S1.setD h1).setD h2).setD h3) (gs.trans e1.gg)⟩
/-- a, b, c = [], y, z -/
theorem go_par3f (hb : Ev μ tb Γ 0 (Eq y)) (hd : Ev μ tc Γ 0 (Eq z)) (hc : c ≤ CM) (hij : i ≠ j) (hil : i ≠ l) (hiΓ : i < Γ.length) (k : R.nx (((Γ.set i (.own [])).set j (.dat y)).set l (.dat z)) c) : Go μ (tPar3 i j l (tCons (tLst tNil) (tCons tb (tCons tc tNil)))) Γ c R := fun G0 H0 Gs G σ H D S gs L => by
  refine ⟨Nat.zero_le _, fun p hp => ?_⟩
  have S1 := S.junk (u := .lst []) (Same.free S.sub hp) (S.h0 hp) (S.notOwn hp)
  have e0 : Ext μ.M G H G (upd H p (.lst [])) := .same (Nw.refl _ _) (Same.new hp)
  have hM : ¬ μ.M p := fun m => (S.ent p m).1 (S.h0 hp)
  refine hb G0 H0 G c σ _ _ S1 hc fun d1 v1 G2 H2 p1 S2 e2 dt1 => hd G0 H0 G2 c σ H2 _ S2 hc fun d2 v2 G3 H3 p2 S3 e3 dt2 => ?_
  cases p1; cases p2
  refine ⟨_, _, _, rfl, ?_⟩
  have ee := e2.trans e3
  have hp3 : H3 p = some (.lst []) := ee.fr _ _ hM upd_same
  have gp3 : G3 p = none := ee.out (Same.free S.sub hp) upd_same
  have S4 : Stt μ G0 H0 G3 (Γ.set i (.own [])) c (σ.set i (some (.ref p))) H3 := S3.set ⟨p, _, rfl, S.h0 hp, gp3, hp3, ⟨[], rfl, .nil⟩, OwIn.none rfl⟩ fun q o m hm ow => by
    obtain ⟨k', e, h'⟩ := o
    rw [List.getElem?_set_self hiΓ] at e
    cases e
    rcases h' with h' | h'
    · rw [List.getElem?_set_self (by rw [S.len]; exact hiΓ)] at h'
      cases h'
      exact S.notOwn hp m ow
    · cases h'
  exact L.nx _ _ G3 _ H3 k ((S4.setD (dt1.mono e3.gg)).setD dt2) (gs.trans ((e0.trans ee).gg))
abbrev rMax2 : List V → Hp → VK → Prop := fun xs H Q => ∃ i j, xs = [.int i, .int j] ∧ Q (.int (if j > i then j else i)) H
theorem ev_max2 {a b : Int} (h : EvA μ (tCons ta (tCons tb tNil)) Γ n (Eq [.int a, .int b])) : Ev μ (tCB rMax2 (tCons ta (tCons tb tNil))) Γ n (Eq (.int (max a b))) := ev_cb h fun G H vs Q s hv q => by
  cases hv with
  | cons h1 r1 =>
    cases r1 with
    | cons h2 r2 =>
      cases r2; cases h1; cases h2
      refine ⟨a, b, rfl, ?_⟩
      have e : (if b > a then b else a) = max a b := by rw [Int.max_def]; split <;> split <;> omega
      rw [e]
      exact q _ G H (Nw.refl _ _) s (Same.refl _) (.int _)
theorem ev_max3 {a b d : Int} {tr : TA} (h : EvA μ tr Γ n (Eq [.int a, .int b, .int d])) : Ev μ (tCB (rNuC3 nuMax3) tr) Γ n (Eq (.int (max (max a b) d))) := ev_cb h fun G H vs Q s hv q => by
  cases hv with
  | cons h1 r1 =>
    cases r1 with
    | cons h2 r2 =>
      cases r2 with
      | cons h3 r3 =>
        cases r3; cases h1; cases h2; cases h3
        refine ⟨_, _, _, .int (max (max a b) d), rfl, ?_, q _ G H (Nw.refl _ _) s (Same.refl _) (.int _)⟩
        have e2 : ∀ x y : Int, nuMax2 (.int x) (.int y) = some (.int (max x y)) := fun x y => by
          show (some (decide (x < y))).map _ = _
          rw [Option.map_some, Int.max_def]
          by_cases h : x < y
          · rw [decide_eq_true h, if_pos rfl, if_pos (by omega)]
          · rw [decide_eq_false h, if_neg (by decide)]
            split
            · rw [show x = y by omega]
            · rfl
        unfold nuMax3
        rw [e2, Option.bind_some, e2]
theorem rd_ltT {ns ms : List Int} : RD (rLtT K) (.tuple (ns.map .int)) (.tuple (ms.map .int)) (.bool (HT.lexLt ns ms)) := fun G H v w Q s hv hw q => by
  cases hv with
  | tup a r =>
    cases hw with
    | tup a2 r2 =>
      have e1 := r.of_ints
      have e2 := r2.of_ints
      subst e1 e2
      exact ⟨_, _, ns, ms, rfl, rfl, (a.sq s), (a2.sq s), q _ G H (Nw.refl _ _) s (Same.refl _) (.bl _)⟩
theorem opK_ltT {X : Cx} (h : X.K = K) (hu : X.A.units < cLine) : OpR X (compareOp .Lt) (rLtT K) := h ▸ op_ltT hu
theorem piK_enumT {X : Cx} {e : Expr} {ta : TA} {p pos tpos : Pos} {elts : List Expr} {kk : Nat} (hK : X.K = K) (hg : Gl X "enumerate") (hm : X.mg "enumerate" = none) (ha : PA X [e] ta) (hs : starEach [e] X.env = [(false, eval e X.env)] := by rfl) :
    PI X (.Tuple elts kk tpos) (.Call (.Name "enumerate" p) [e] [] pos) (iEnumT K ta) := hK ▸ pi_enumT hg hm ha hs
theorem u0 {k : Nat} {A : Around} (hr : Room k A) : A.units < cLine := by have := hr.un; omega
end
end B

/-! B18: tuple * int, zip, slices at drawn places, x + [] of an own list. -/
namespace B
open PySem PySem.Spec PyProof.Rows L2 TL
/-! ### tuple * int -/
theorem tuple_mul0 (l : Addr) (items : Array Value) (n : Nat) (dd : Option Addr) (sl : Array (Option Value)) (x : Int) (u : Tok) (c0 : (decide (x < -(2 ^ 63)) || decide (x ≥ 2 ^ 63)) = false) (c1 : (items.isEmpty || x == 1) = false) (c2 : (decide (x ≤ 0) || items.isEmpty) = true) :
    Meets (Builtin.«tuple.__mul__» ⟨[.ref l, .int x u], []⟩) (fun _ R s => s.heap.get? l = some { cls := .type "tuple", dict := dd, data := .seq items n, slots := sl } ∧
      R (.ok (.ret (Value.ref s.heap.objs.size))) { s with heap := s.heap.push { cls := Value.type "tuple", data := Data.seq #[] }, toks := s.toks }) :=
  .of_wp fun prog w A R s h => by
    obtain ⟨hp, g, d, tk, os⟩ := s
    obtain ⟨hl, h⟩ := h
    have f1 := AutoSeq1.idx_int
    wp_walk using wpAny_loadPart' hl
    repeat (first
      | (refine wpAny_ite_false (decide_eq_false (by rw [c0]; exact Bool.false_ne_true)) ?_; wp_walk using wpAny_loadPart' hl)
      | (refine wpAny_ite_false (decide_eq_false (by rw [c1]; exact Bool.false_ne_true)) ?_; wp_walk using wpAny_loadPart' hl)
      | (refine wpAny_ite_true (decide_eq_true (by rw [c2])) ?_; wp_walk using wpAny_loadPart' hl))
    exact ⟨_, rfl, h⟩
theorem tuple_mul1 (l : Addr) (items : Array Value) (n : Nat) (dd : Option Addr) (sl : Array (Option Value)) (x : Int) (u : Tok) (c0 : (decide (x < -(2 ^ 63)) || decide (x ≥ 2 ^ 63)) = false) (c1 : (items.isEmpty || x == 1) = true) :
    Meets (Builtin.«tuple.__mul__» ⟨[.ref l, .int x u], []⟩) (fun _ R s => s.heap.get? l = some { cls := .type "tuple", dict := dd, data := .seq items n, slots := sl } ∧
      R (.ok (.ret (Value.ref l))) s) :=
  .of_wp fun prog w A R s h => by
    obtain ⟨hp, g, d, tk, os⟩ := s
    obtain ⟨hl, h⟩ := h
    have f1 := AutoSeq1.idx_int
    wp_walk using wpAny_loadPart' hl
    repeat (first
      | (refine wpAny_ite_false (decide_eq_false (by rw [c0]; exact Bool.false_ne_true)) ?_; wp_walk using wpAny_loadPart' hl)
      | (refine wpAny_ite_true (decide_eq_true (by rw [c1])) ?_; wp_walk using wpAny_loadPart' hl))
    exact ⟨_, rfl, h⟩
/-- t * k, t not empty, 0 ≤ k -/
def rRepTA (K : PySem.W.Frag) : R2 := fun x y H Q => ∃ l k xs, x = .ref l ∧ y = .int k ∧ SqT K H l xs ∧ xs ≠ [] ∧ 0 ≤ k ∧ k ≤ 1000 ∧ xs.length ≤ 1000 ∧ (k = 1 → Q (.ref l) H) ∧ (k = 0 → newT H [] Q) ∧ (2 ≤ k → ∀ p, H p = none → Q (.ref p) (upd H p (.tup (List.replicate k.toNat xs).flatten)))
theorem op_repTA {X : Cx} : OpR X (binaryOp .Mult) (rRepTA X.K) := by
  intro pins s σ H x y v u Q I rx ry h
  obtain ⟨l, k, xs, rfl, rfl, hT, hne, h1, h2, hz, q1, q0, q⟩ := h
  by_cases hk2 : 2 ≤ k
  · exact op_repT pins s σ H _ _ v u Q I rx ry ⟨l, k, xs, rfl, rfl, hT, hne, hk2, h2, hz, q hk2⟩
  cases rx
  obtain ⟨t, rfl⟩ := ry
  obtain ⟨its, r, ⟨⟨cls, dd, data, sl⟩, ho, hc, n, hd⟩, hs⟩ := I.tuple hT
  simp only at hc hd
  subst hc hd
  have hle : its.length = xs.length := r.length.symm
  have hn : its ≠ [] := fun e => hne (by
    rw [e] at hle
    exact List.eq_nil_of_length_eq_zero hle.symm)
  have hi : its.toArray.isEmpty = false := by
    cases its with
    | nil => exact absurd rfl hn
    | cons a b => rfl
  have c0 : (decide (k < -(2 ^ 63)) || decide (k ≥ 2 ^ 63)) = false := by
    rw [decide_eq_false (by omega), decide_eq_false (by omega)] <;> rfl
  by_cases hk1 : k = 1
  · have c1 : (its.toArray.isEmpty || k == 1) = true := by rw [hi, hk1]; rfl
    refine wpAny_binaryOp_repeat_ref (T := "tuple") (U := "int") (by decide) ⟨_, ho, rfl⟩ (fun s' => typeIs_int s' k t) noFill_tuple_mul F.fills_int_mul F.slot_int_rmul repeat_tuple F.slot_int_index.lookup
      (call_meets F.slot_int_rmul (typeIs_int s k t) F.entry_int_rmul (F.args_int_rmul_2 _ _) (int_rmul_tuple k t l its.toArray n dd sl)
        ⟨ho, rfl, ⟨_, ho, rfl⟩, call_meets F.slot_tuple_mul ⟨_, ho, rfl⟩ F.entry_tuple_mul (F.args_tuple_mul_2 _ _) (tuple_mul1 l its.toArray n dd sl k t c0 c1) ⟨ho, ?_⟩⟩)
    exact ⟨.ref l, H, I, rfl, q1 hk1⟩
  · have hk0 : k = 0 := by omega
    have c1 : (its.toArray.isEmpty || k == 1) = false := by
      rw [hi, Bool.false_or]
      exact beq_eq_false_iff_ne.mpr hk1
    have c2 : (decide (k ≤ 0) || its.toArray.isEmpty) = true := by rw [hk0]; rfl
    refine wpAny_binaryOp_repeat_ref (T := "tuple") (U := "int") (by decide) ⟨_, ho, rfl⟩ (fun s' => typeIs_int s' k t) noFill_tuple_mul F.fills_int_mul F.slot_int_rmul repeat_tuple F.slot_int_index.lookup
      (call_meets F.slot_int_rmul (typeIs_int s k t) F.entry_int_rmul (F.args_int_rmul_2 _ _) (int_rmul_tuple k t l its.toArray n dd sl)
        ⟨ho, rfl, ⟨_, ho, rfl⟩, call_meets F.slot_tuple_mul ⟨_, ho, rfl⟩ F.entry_tuple_mul (F.args_tuple_mul_2 _ _) (tuple_mul0 l its.toArray n dd sl k t c0 c1 c2) ⟨ho, ?_⟩⟩)
    exact laidT I (us := []) .nil (by decide) (q0 hk0)
theorem opK_repTA {X : Cx} {K : PySem.W.Frag} (h : X.K = K) : OpR X (binaryOp .Mult) (rRepTA K) := h ▸ op_repTA
/-- data that begin with an int or a text -/
def headK : List PyData → Prop
  | PyData.int _ :: _ => True
  | PyData.str _ :: _ => True
  | _ => False
theorem headK_of {G : Hp} {vs : List V} {ds : List PyData} (h : DtA G vs ds) (k : headK ds) : kHead vs := by
  cases h with
  | nil => exact k
  | cons a r => cases a <;> first | trivial | exact k.elim
theorem _root_.B.kHead.app {xs ys : List V} (h : kHead xs) : kHead (xs ++ ys) := by
  rcases xs with _ | ⟨x, _ | ⟨y, r⟩⟩
  · exact h.elim
  · cases x <;> first | trivial | exact h.elim
  · cases x <;> first | trivial | (cases y <;> first | trivial | exact h.elim)
def isK : PyData → Bool
  | .int _ => true
  | .str _ => true
  | _ => false
theorem isK_head {x : PyData} {r : List PyData} (h : isK x = true) : headK (x :: r) := by cases x <;> first | trivial | cases h
theorem DtA.rep {G : Hp} {vs : List V} {ds : List PyData} (h : DtA G vs ds) : ∀ n : Nat, DtA G (List.replicate n vs).flatten (List.replicate n ds).flatten
  | 0 => .nil
  | n + 1 => by rw [List.replicate_succ, List.replicate_succ, List.flatten_cons, List.flatten_cons]; exact h.append (DtA.rep h n)
section
variable {μ : Mu} {Γ : List Sl} {n n1 n2 c : Nat} {R : Po} {ta tb tc te : TE} {i j l : Nat} {K : PySem.W.Frag} {ds xs ys : List PyData} {x y z : PyData} {P P1 : PyData → Prop}
theorem rd_repTA {k : Int} (hK : headK xs) (hne : xs ≠ []) (h1 : 0 ≤ k) (h2 : k ≤ 1000) (hl : xs.length ≤ 1000) : RD (rRepTA K) (.tuple xs) (.int k) (.tuple (List.replicate k.toNat xs).flatten) := fun G H v w Q s hv hw q => by
  cases hv with
  | tup a r =>
    cases hw
    refine ⟨_, k, _, rfl, rfl, (a.sq s), fun e => hne ?_, h1, h2, by rw [r.length]; exact hl, fun hk => ?_, fun hk p o ho hp => ?_, fun hk p hp => ?_⟩
    · have := r.length
      rw [e] at this
      exact List.eq_nil_of_length_eq_zero this.symm
    · refine q _ G H (Nw.refl _ _) s (Same.refl _) (.tup a ?_)
      rw [hk]
      have : (List.replicate (1 : Int).toNat xs).flatten = xs := by
        show (List.replicate 1 xs).flatten = xs
        simp
      rw [this]; exact r
    · rw [hk] at q
      exact q _ _ _ (Nw.upd hp s) (Same.upd2 s) (Same.new hp) (.tup (.new ho) .nil)
    · refine q _ _ _ (Nw.upd hp s) (Same.upd2 s) (Same.new hp) (.tup (.key ?_) ((r.rep _).mono (Nw.upd hp s).1))
      obtain ⟨m, hm⟩ : ∃ m, k.toNat = m + 1 := ⟨k.toNat - 1, by omega⟩
      rw [hm, List.replicate_succ, List.flatten_cons]
      exact (headK_of r hK).app
/-! ### zip -/
def zipD (xs ys : List PyData) : List PyData := (xs.zip ys).map fun p => .tuple [p.1, p.2]
theorem zipD_len : (zipD xs ys).length = min xs.length ys.length := by unfold zipD; rw [List.length_map, List.length_zip]
theorem dwalk_pair {J : It} {G : Hp} {pins : List (Addr × HO)} {C : Hp → Prop} {us vs : List V} (w : Walk J (min us.length vs.length) C (YPair (fun i => us[i]?) (fun i => vs[i]?))) (hC : ∀ H, Same G H → (∀ p ∈ pins, H p.1 = some p.2) → C H) (h1 : DtA G us xs) (h2 : DtA G vs ys) (hk : ∀ d ∈ xs, isK d = true) : DWalk J G pins (zipD xs ys) := by
  have hl : (zipD xs ys).length = min us.length vs.length := by rw [zipD_len, h1.length, h2.length]
  refine ⟨fun i H hi s p => w.goes i H (by omega) (hC H s p), fun H s p => ?_, fun i H G1 x H' hi s s1 p yl => ?_⟩
  · rw [hl]; exact w.stops H (hC H s p)
  · obtain ⟨T, a, b, rfl, hT, rfl, ha, hb⟩ := w.yields i H x H' (by omega) (hC H (s.trans s1) p) yl
    obtain ⟨d1, e1, k1⟩ := h1.get ha
    obtain ⟨d2, e2, k2⟩ := h2.get hb
    refine ⟨_, .tuple [d1, d2], ?_, Nw.upd hT s1, Same.upd2 s1, Same.new hT, .tup (.key (headK_of (.cons k1 (.cons k2 .nil)) (isK_head (hk d1 (List.mem_of_getElem? e1))))) ?_⟩
    · unfold zipD
      rw [List.getElem?_map, (List.getElem?_zip_eq_some (z := (d1, d2))).mpr ⟨e1, e2⟩]
      rfl
    · have m := s.trans (Nw.upd hT s1 (o := .tup [a, b])).1
      exact .cons (k1.mono m) (.cons (k2.mono m) .nil)
theorem walk_zipT {a b : Addr} {us vs : List V} : Walk (RZ.ItzT K a b) (min us.length vs.length) (fun H => SqT K H a us ∧ SqT K H b vs) (YPair (fun i => us[i]?) (fun i => vs[i]?)) := by
  refine ⟨fun i _ hi q => ?_, fun _ q => ⟨us, vs, q.1, q.2, by omega⟩, fun i H v H' _ q y => ?_⟩
  · have h1 : i < us.length := by omega
    have h2 : i < vs.length := by omega
    exact ⟨us, vs, us[i], vs[i], q.1, q.2, by simp [h1], by simp [h2]⟩
  · obtain ⟨T, x, z, h1, h2, h3, h4, h5⟩ := y
    exact ⟨T, x, z, h1, h2, h3, h4 us q.1, h5 vs q.2⟩
theorem ew_zipT {ta : TA} (h : EvA μ ta Γ n (Eq [.tuple xs, .tuple ys])) (hk : ∀ d ∈ xs, isK d = true) : EvW μ (RZ.iZipA K ta) Γ n (Eq (zipD xs ys)) := fun G0 H0 G c σ H R S l q =>
  h G0 H0 G c σ H _ S l fun ds' vs G1 H1 p S1 e1 d1 => by
    cases p
    cases d1 with
    | cons x1 r1 =>
      cases r1 with
      | cons x2 r2 =>
        cases r2
        cases x1 with
        | tup a r =>
          cases x2 with
          | tup b r' =>
            exact ⟨_, _, _, _, rfl, .inr ⟨(a.sq S1.sub), (b.sq S1.sub), q _ _ G1 H1 rfl S1 e1 (dwalk_pair walk_zipT (fun H s _ => ⟨(a.sq s), (b.sq s)⟩) r r' hk)⟩⟩
theorem ew_zipL {ta : TA} (h : EvA μ ta Γ n (Eq [.list xs, .list ys])) (hk : ∀ d ∈ xs, isK d = true) : EvW μ (RZ.iZipA K ta) Γ n (Eq (zipD xs ys)) := fun G0 H0 G c σ H R S l q =>
  h G0 H0 G c σ H _ S l fun ds' vs G1 H1 p S1 e1 d1 => by
    cases p
    cases d1 with
    | cons x1 r1 =>
      cases r1 with
      | cons x2 r2 =>
        cases r2
        cases x1 with
        | lst a r =>
          cases x2 with
          | lst b r' =>
            exact ⟨_, _, _, _, rfl, .inl ⟨SqL.of (S1.sub _ _ a), SqL.of (S1.sub _ _ b), q _ _ G1 H1 rfl S1 e1 (dwalk_pair (walk_zip rfl) (fun H s _ => ⟨SqL.of (s _ _ a), SqL.of (s _ _ b)⟩) r r' hk)⟩⟩
theorem piK_zipA {X : Cx} {e e2 : Expr} {ta : TA} {p pos tpos : Pos} {elts : List Expr} {kk : Nat} (hK : X.K = K) (hg : Gl X "zip") (hm : X.mg "zip" = none) (ha : PA X [e, e2] ta)
    (hs : starEach [e, e2] X.env = (false, eval e X.env) :: starEach [e2] X.env := by rfl) (hpl : (backTo pos (starEach [e2] X.env)).any (·.1) = false := by rfl) :
    PI X (.Tuple elts kk tpos) (.Call (.Name "zip" p) [e, e2] [] pos) (RZ.iZipA K ta) := hK ▸ RZ.pi_zipA hg hm ha hs hpl
/-! ### slices at drawn places -/
def EvOP (μ : Mu) (to : TO) (Γ : List Sl) (n : Nat) (P : Option Int → Prop) : Prop :=
  ∀ (G0 H0 G : Hp) (c : Nat) (σ : L2.St) (H : Hp) (Q : Option Int → Hp → Prop), Stt μ G0 H0 G Γ c σ H → c + n ≤ CM → (∀ o G' H', P o → Stt μ G0 H0 G' Γ (c + n) σ H' → Ext μ.M G H G' H' → Q o H') → to σ H Q
theorem eop_none : EvOP μ tNoPart Γ 0 (Eq none) := fun _ _ G c σ H Q S l q => q none G H rfl S (Ext.refl _ G H)
theorem eop_some {P : PyData → Prop} (h : Ev μ te Γ n P) (hP : ∀ d, P d → ∃ j, d = .int j) : EvOP μ (tPart te) Γ n (fun o => ∃ j, o = some j ∧ P (.int j)) := fun G0 H0 G c σ H Q S l q =>
  h G0 H0 G c σ H _ S l fun d v G1 H1 p S1 e1 d1 => by
    obtain ⟨j, rfl⟩ := hP d p
    cases d1
    exact ⟨j, rfl, q _ G1 H1 ⟨j, rfl, p⟩ S1 e1⟩
theorem ev_slLP {tl th : TO} {PL : List PyData → Prop} {P1 P2 : Option Int → Prop} {n3 : Nat} (h : EvL μ te Γ n PL) (h1 : EvOP μ tl Γ n2 P1) (h2 : EvOP μ th Γ n3 P2) : Ev μ (tSl (rSlL K) te tl th) Γ (n + n2 + n3) (fun d => ∃ ds lo hi, PL ds ∧ P1 lo ∧ P2 hi ∧ d = .list (cutD ds lo hi)) := fun G0 H0 G c σ H Q S l q =>
  h G0 H0 G c σ H _ S (by omega) fun ds' p vs G1 H1 e S1 e1 hM hp hd => h1 G0 H0 G1 _ σ H1 _ S1 (by omega) fun lo G2 H2 p2 S2 e2 => h2 G0 H0 G2 _ σ H2 _ S2 (by omega) fun hi G3 H3 p3 S3 e3 => by
    have hp3 := e3.fr _ _ hM (e2.fr _ _ hM hp)
    refine ⟨p, vs, rfl, SqL.of hp3, fun a ha => ?_⟩
    have S4 := S3.laid (o := .lst (cutV vs lo hi)) ha
    rw [Nat.add_assoc, Nat.add_assoc] at S4
    exact q _ _ _ _ ⟨ds', lo, hi, e, p2, p3, rfl⟩ (by rw [Nat.add_assoc]; exact S4) (((e1.trans e2).trans e3).trans (.same (Nw.upd ha S3.sub) (Same.new ha))) (.lst upd_same (((hd.mono (e2.gg.trans e3.gg)).mono (Nw.upd ha S3.sub).1).cut lo hi))
theorem ev_slTP {tl th : TO} {P1 P2 : Option Int → Prop} {n3 : Nat} (h : Ev μ te Γ n (Eq (.tuple ds))) (h1 : EvOP μ tl Γ n2 P1) (h2 : EvOP μ th Γ n3 P2) : Ev μ (tSl (rSlAP K) te tl th) Γ (n + n2 + n3) (fun d => ∃ lo hi, P1 lo ∧ P2 hi ∧ d = .tuple (cutD ds lo hi)) := fun G0 H0 G c σ H Q S l q =>
  h G0 H0 G c σ H _ S (by omega) fun d v G1 H1 p S1 e1 d1 => h1 G0 H0 G1 _ σ H1 _ S1 (by omega) fun lo G2 H2 p2 S2 e2 => h2 G0 H0 G2 _ σ H2 _ S2 (by omega) fun hi G3 H3 p3 S3 e3 => by
    cases p
    have d3 := d1.mono (e2.gg.trans e3.gg)
    have S3' : Stt μ G0 H0 G3 Γ (c + (n + n2 + n3)) σ H3 := by
      have := S3; rw [Nat.add_assoc, Nat.add_assoc] at this; rw [Nat.add_assoc]; exact this
    cases d3 with
    | tup a r =>
      refine ⟨_, _, rfl, (a.sq S3.sub), fun hw => ?_, fun _ b o ho hb => ?_⟩
      · refine q _ _ G3 H3 ⟨lo, hi, p2, p3, rfl⟩ S3' ((e1.trans e2).trans e3) (.tup a ?_)
        have : cutD ds lo hi = ds := by
          unfold cutD
          rw [← r.length, hw.1, hw.2, List.drop_zero, Nat.sub_zero, r.length, List.take_length]
        rw [this]; exact r
      · exact q _ _ _ _ ⟨lo, hi, p2, p3, rfl⟩ (S3'.laid hb) (((e1.trans e2).trans e3).trans (.same (Nw.upd hb S3.sub) (Same.new hb))) (.tup (.new ho) ((r.mono (Nw.upd hb S3.sub).1).cut lo hi))
/-! ### x + y, lists that are read -/
theorem ev_catO (h : EvL μ ta Γ n1 (Eq xs)) (hb : EvL μ tb Γ n2 (Eq ys)) (hl : xs.length + ys.length ≤ 10000000) : Ev μ (tOp rCat ta tb) Γ (n1 + n2) (Eq (.list (xs ++ ys))) := fun G0 H0 G c σ H Q S l q =>
  h G0 H0 G c σ H _ S (by omega) fun ds' p vs G1 H1 e S1 e1 hM hp hd => hb G0 H0 G1 _ σ H1 _ S1 (by omega) fun ds2 p2 vs2 G2 H2 e2 S2 e2' hM2 hp2 hd2 => by
    cases e
    cases e2
    have hp' := e2'.fr _ _ hM hp
    have hx := hd.length
    have hy := hd2.length
    refine ⟨p, p2, vs, vs2, rfl, rfl, hp', hp2, by rw [hx, hy]; exact Nat.le_trans hl (by decide), fun a ha => ?_⟩
    have S3 := S2.laid (o := .lst (vs ++ vs2)) ha
    rw [Nat.add_assoc] at S3
    exact q _ _ _ _ rfl S3 ((e1.trans e2').trans (.same (Nw.upd ha S2.sub) (Same.new ha))) (.lst upd_same (((hd.mono e2'.gg).append hd2).mono (Nw.upd ha S2.sub).1))
/-! ### drawn numbers -/
theorem ev_takeN {b : Addr} {E : XK} {m : Nat} (hi : Γ[i]? = some (.raw (.ref b))) (h : Ev (boxMu b) te Γ 0 (Eq (.int (m : Int)))) (h1 : 1 ≤ m := by decide) (h2 : m ≤ 1000000 := by decide) : Ev (boxMu b) (tCall (spB 1 takePre takePost) [] E (tCons (tVar i) (tCons te tNil))) Γ 1 (fun d => ∃ j : Nat, d = .int (j : Int) ∧ j < m) :=
  (ev_take (m := (m : Int)) hi h (by omega) (by omega)).imp fun d ⟨j, e, a, b⟩ => ⟨j.toNat, by rw [e, Int.toNat_of_nonneg a], by omega⟩
theorem ev_addN {a b : Nat} (ha : Ev μ ta Γ n1 (Eq (.int (a : Int)))) (hb : Ev μ tb Γ n2 (fun d => ∃ j : Nat, d = .int (j : Int) ∧ j < b)) : Ev μ (tOp (rI0 fun i j => .int (i + j)) ta tb) Γ (n1 + n2) (fun d => ∃ j : Nat, d = .int (j : Int) ∧ a ≤ j ∧ j < a + b) :=
  ev_opP ha hb fun x y e1 ⟨j, e2, hj⟩ => by
    subst e1 e2
    exact ⟨_, rd_I0, a + j, by rw [Int.natCast_add], by omega, by omega⟩
theorem ew_rngP {P : Nat → Prop} (h : Ev μ te Γ n (fun d => ∃ j : Nat, d = .int (j : Int) ∧ P j)) (hl : ∀ j, P j → j ≤ 1000000) : EvW μ (iRng1 (tCons te tNil)) Γ n (fun ds => ∃ j : Nat, P j ∧ ds = rngD 0 j) :=
  (ew_rng1 (P := fun ds => ∃ j : Nat, ds = [.int (j : Int)] ∧ P j) (ea_consP h ea_nil fun x y ⟨j, e, pj⟩ e2 => ⟨j, by rw [e, ← e2], pj⟩) fun d ⟨j, e, pj⟩ => ⟨j, e, by have := hl j pj; omega, by omega⟩).imp fun ds ⟨i, ⟨j, e, pj⟩, e2⟩ => by
    cases e
    exact ⟨j, pj, by rw [e2, Int.toNat_natCast]⟩
theorem all_map {α β : Type} {f : α → β} {S : α → Prop} : ∀ {es : List β}, (∀ e ∈ es, ∃ a, S a ∧ e = f a) → ∃ as : List α, es = as.map f ∧ ∀ a ∈ as, S a
  | [], _ => ⟨[], rfl, by simp⟩
  | e :: r, h => by
    obtain ⟨a, ha, rfl⟩ := h e List.mem_cons_self
    obtain ⟨as, rfl, hs⟩ := all_map (es := r) fun x hx => h x (List.mem_cons_of_mem _ hx)
    exact ⟨a :: as, rfl, fun x hx => (List.mem_cons.mp hx).elim (fun z => z ▸ ha) (hs x)⟩
theorem all_mem {α β : Type} {f : α → β} {S : List α} {es : List β} (h : ∀ e ∈ es, e ∈ S.map f) : ∃ as : List α, es = as.map f ∧ ∀ a ∈ as, a ∈ S :=
  all_map fun e he => let ⟨a, ha, q⟩ := List.mem_map.mp (h e he); ⟨a, ha, q.symm⟩
def cutN {α : Type} (xs : List α) (a b : Nat) : List α := (xs.drop (min a xs.length)).take (min b xs.length - min a xs.length)
theorem cutN_to {α : Type} (xs : List α) (b : Nat) : (xs.drop 0).take (min b xs.length - 0) = xs.take b := by
  rw [List.drop_zero, Nat.sub_zero]
  by_cases h : b ≤ xs.length
  · rw [Nat.min_eq_left h]
  · rw [Nat.min_eq_right (by omega), List.take_length, List.take_of_length_le (by omega)]
theorem cutN_from {α : Type} (xs : List α) (a : Nat) : (xs.drop (min a xs.length)).take (xs.length - min a xs.length) = xs.drop a := by
  rw [List.take_of_length_le (by rw [List.length_drop]; omega)]
  by_cases h : a ≤ xs.length
  · rw [Nat.min_eq_left h]
  · rw [Nat.min_eq_right (by omega), List.drop_length, List.drop_of_length_le (by omega)]
theorem cutN_mid {α : Type} (xs : List α) {a b : Nat} (hab : a ≤ b) : (xs.drop (min a xs.length)).take (min b xs.length - min a xs.length) = (xs.drop a).take (b - a) := by
  by_cases h : a ≤ xs.length
  · rw [Nat.min_eq_left h]
    by_cases h2 : b ≤ xs.length
    · rw [Nat.min_eq_left h2]
    · rw [Nat.min_eq_right (by omega), List.take_of_length_le (by rw [List.length_drop]; omega), List.take_of_length_le (by rw [List.length_drop]; omega)]
  · rw [Nat.min_eq_right (a := a) (by omega), List.drop_length, List.drop_of_length_le (by omega), List.take_nil, List.take_nil]
theorem cutD_to {ds : List PyData} {b : Nat} : cutD ds none (some (b : Int)) = ds.take b := by
  unfold cutD; rw [HT.sIx_none, HT.sIx_nat]; exact cutN_to ds b
theorem cutD_from {ds : List PyData} {a : Nat} : cutD ds (some (a : Int)) none = ds.drop a := by
  unfold cutD; rw [HT.sIx_none, HT.sIx_nat]; exact cutN_from ds a
theorem cutD_mid {ds : List PyData} {a b : Nat} (h : a ≤ b) : cutD ds (some (a : Int)) (some (b : Int)) = (ds.drop a).take (b - a) := by
  unfold cutD; rw [HT.sIx_nat, HT.sIx_nat]; exact cutN_mid ds h
end
end B

/-! Lcs: longest pairings of two lists; plain. -/
namespace B
section
variable {α : Type} [DecidableEq α]
def lcs : List α → List α → Nat
  | [], _ => 0
  | _ :: _, [] => 0
  | x :: xs, y :: ys => if x = y then lcs xs ys + 1 else max (lcs xs (y :: ys)) (lcs (x :: xs) ys)
  termination_by xs ys => xs.length + ys.length
theorem lcs_nil (xs : List α) : lcs xs [] = 0 := by cases xs <;> simp [lcs]
theorem lcs_nil' (ys : List α) : lcs [] ys = 0 := by simp [lcs]
theorem lcs_eq {x y : α} {xs ys : List α} (h : x = y) : lcs (x :: xs) (y :: ys) = lcs xs ys + 1 := by rw [lcs]; simp [h]
theorem lcs_ne {x y : α} {xs ys : List α} (h : x ≠ y) : lcs (x :: xs) (y :: ys) = max (lcs xs (y :: ys)) (lcs (x :: xs) ys) := by rw [lcs]; simp [h]
theorem lcs_upper : ∀ (xs ys zs : List α), zs.Sublist xs → zs.Sublist ys → zs.length ≤ lcs xs ys
  | [], ys, zs, h1, _ => by rw [List.sublist_nil.mp h1]; simp
  | x :: xs, [], zs, _, h2 => by rw [List.sublist_nil.mp h2]; simp
  | x :: xs, y :: ys, zs, h1, h2 => by
    by_cases e : x = y
    · rw [lcs_eq e]
      cases h1 with
      | cons _ a =>
        cases h2 with
        | cons _ b => have := lcs_upper xs ys zs a b; omega
        | cons_cons _ b =>
          rename_i l
          have := lcs_upper xs ys l ((List.sublist_cons_self _ _).trans a) b
          simp; omega
      | cons_cons _ a =>
        rename_i l
        have hb : l.Sublist ys := by
          cases h2 with
          | cons _ b => exact (List.sublist_cons_self _ _).trans b
          | cons_cons _ b => exact b
        have := lcs_upper xs ys l a hb
        simp; omega
    · rw [lcs_ne e]
      cases h1 with
      | cons _ a => have := lcs_upper xs (y :: ys) zs a h2; omega
      | cons_cons _ a =>
        cases h2 with
        | cons _ b => rename_i l; have := lcs_upper (x :: xs) ys (x :: l) (a.cons_cons x) b; omega
        | cons_cons _ b => exact absurd rfl e
  termination_by xs ys => xs.length + ys.length
theorem lcs_there : ∀ (xs ys : List α), ∃ zs : List α, zs.Sublist xs ∧ zs.Sublist ys ∧ zs.length = lcs xs ys
  | [], ys => ⟨[], List.nil_sublist _, List.nil_sublist _, by rw [lcs_nil']; rfl⟩
  | x :: xs, [] => ⟨[], List.nil_sublist _, List.nil_sublist _, by rw [lcs_nil]; rfl⟩
  | x :: xs, y :: ys => by
    by_cases e : x = y
    · obtain ⟨zs, a, b, c⟩ := lcs_there xs ys
      subst e
      exact ⟨x :: zs, a.cons_cons x, b.cons_cons x, by rw [lcs_eq rfl, List.length_cons, c]⟩
    · rw [lcs_ne e]
      by_cases h : lcs xs (y :: ys) ≤ lcs (x :: xs) ys
      · obtain ⟨zs, a, b, c⟩ := lcs_there (x :: xs) ys
        exact ⟨zs, a, b.cons y, by rw [c, Nat.max_eq_right h]⟩
      · obtain ⟨zs, a, b, c⟩ := lcs_there xs (y :: ys)
        exact ⟨zs, a.cons x, b, by rw [c, Nat.max_eq_left (by omega)]⟩
  termination_by xs ys => xs.length + ys.length
theorem lcs_mono {xs ys xs' ys' : List α} (h1 : xs.Sublist xs') (h2 : ys.Sublist ys') : lcs xs ys ≤ lcs xs' ys' := by
  obtain ⟨zs, a, b, c⟩ := lcs_there xs ys
  rw [← c]
  exact lcs_upper _ _ _ (a.trans h1) (b.trans h2)
theorem lcs_rev (xs ys : List α) : lcs xs.reverse ys.reverse = lcs xs ys := by
  have key : ∀ xs ys : List α, lcs xs ys ≤ lcs xs.reverse ys.reverse := fun xs ys => by
    obtain ⟨zs, a, b, c⟩ := lcs_there xs ys
    rw [← c, ← List.length_reverse]
    exact lcs_upper _ _ _ a.reverse b.reverse
  have h := key xs.reverse ys.reverse
  rw [List.reverse_reverse, List.reverse_reverse] at h
  have := key xs ys
  omega
theorem lcs_cons_le {x : α} {xs ys : List α} : lcs (x :: xs) ys ≤ lcs xs ys + 1 := by
  obtain ⟨zs, a, b, c⟩ := lcs_there (x :: xs) ys
  rw [← c]
  cases a with
  | cons _ a => have := lcs_upper _ _ _ a b; omega
  | cons_cons _ a => rename_i l; have := lcs_upper _ _ _ a ((List.sublist_cons_self _ _).trans b); simp; omega
theorem lcs_le_cons {y : α} {xs ys : List α} : lcs xs (y :: ys) ≤ lcs xs ys + 1 := by
  obtain ⟨zs, a, b, c⟩ := lcs_there xs (y :: ys)
  rw [← c]
  cases b with
  | cons _ b => have := lcs_upper _ _ _ a b; omega
  | cons_cons _ b => rename_i l; have := lcs_upper _ _ _ ((List.sublist_cons_self _ _).trans a) b; simp; omega
/-- the step by three -/
theorem lcs_three {x y : α} {xs ys : List α} : lcs (x :: xs) (y :: ys) = max (max (lcs xs (y :: ys)) (lcs (x :: xs) ys)) (if x = y then 1 + lcs xs ys else 0) := by
  by_cases e : x = y
  · rw [lcs_eq e, if_pos e]
    have h1 := lcs_le_cons (y := y) (xs := xs) (ys := ys)
    have h2 := lcs_cons_le (x := x) (xs := xs) (ys := ys)
    omega
  · rw [lcs_ne e, if_neg e]
    omega
theorem lcs_snoc {x y : α} {xs ys : List α} : lcs (xs ++ [x]) (ys ++ [y]) = max (max (lcs xs (ys ++ [y])) (lcs (xs ++ [x]) ys)) (if x = y then 1 + lcs xs ys else 0) := by
  have r : ∀ (as : List α) (a : α), (as ++ [a]).reverse = a :: as.reverse := fun as a => by simp
  rw [← lcs_rev (xs ++ [x]), r, r, lcs_three, ← lcs_rev xs (ys ++ [y]), ← lcs_rev (xs ++ [x]) ys, ← lcs_rev xs ys, r, r]
/-- from two places on -/
def lc (xs ys : List α) (i j : Nat) : Nat := lcs (xs.drop i) (ys.drop j)
theorem lc_mono {xs ys : List α} {i j i' j' : Nat} (h1 : i' ≤ i) (h2 : j' ≤ j) : lc xs ys i j ≤ lc xs ys i' j' :=
  lcs_mono (by rw [show i = i' + (i - i') by omega, ← List.drop_drop]; exact List.drop_sublist _ _) (by rw [show j = j' + (j - j') by omega, ← List.drop_drop]; exact List.drop_sublist _ _)
theorem lc_at {xs ys : List α} {i j : Nat} {x y : α} (hx : xs[i]? = some x) (hy : ys[j]? = some y) : lc xs ys i j = if x = y then lc xs ys (i + 1) (j + 1) + 1 else max (lc xs ys (i + 1) j) (lc xs ys i (j + 1)) := by
  have e1 : xs.drop i = x :: xs.drop (i + 1) := by
    have hl := (List.getElem?_eq_some_iff.mp hx).1
    rw [List.drop_eq_getElem_cons hl, (List.getElem?_eq_some_iff.mp hx).2]
  have e2 : ys.drop j = y :: ys.drop (j + 1) := by
    have hl := (List.getElem?_eq_some_iff.mp hy).1
    rw [List.drop_eq_getElem_cons hl, (List.getElem?_eq_some_iff.mp hy).2]
  unfold lc
  by_cases h : x = y
  · rw [if_pos h, e1, e2, lcs_eq h]
  · rw [if_neg h, e1, e2, lcs_ne h, ← e1, ← e2]
theorem lc_at3 {xs ys : List α} {i j : Nat} {x y : α} (hx : xs[i]? = some x) (hy : ys[j]? = some y) : lc xs ys i j = max (max (lc xs ys (i + 1) j) (lc xs ys i (j + 1))) (if x = y then 1 + lc xs ys (i + 1) (j + 1) else 0) := by
  have e1 : xs.drop i = x :: xs.drop (i + 1) := by
    have hl := (List.getElem?_eq_some_iff.mp hx).1
    rw [List.drop_eq_getElem_cons hl, (List.getElem?_eq_some_iff.mp hx).2]
  have e2 : ys.drop j = y :: ys.drop (j + 1) := by
    have hl := (List.getElem?_eq_some_iff.mp hy).1
    rw [List.drop_eq_getElem_cons hl, (List.getElem?_eq_some_iff.mp hy).2]
  unfold lc
  rw [e1, e2, lcs_three, ← e1, ← e2]
theorem lc_out {xs ys : List α} {i j : Nat} (h : xs.length ≤ i ∨ ys.length ≤ j) : lc xs ys i j = 0 := by
  unfold lc
  rcases h with h | h
  · rw [List.drop_of_length_le h, lcs_nil']
  · rw [List.drop_of_length_le h, lcs_nil]
/-- a pair with which a longest pairing may begin -/
def Starts (xs ys : List α) (i j a b : Nat) : Prop := i ≤ a ∧ j ≤ b ∧ ∃ z, xs[a]? = some z ∧ ys[b]? = some z ∧ lc xs ys (a + 1) (b + 1) + 1 = lc xs ys i j
theorem starts_ex {xs ys : List α} : ∀ (n i j : Nat), (xs.length - i) + (ys.length - j) ≤ n → 0 < lc xs ys i j → ∃ a b, Starts xs ys i j a b
  | n, i, j, hn, hp => by
    by_cases hi : i < xs.length
    · by_cases hj : j < ys.length
      · have hx := List.getElem?_eq_getElem hi
        have hy := List.getElem?_eq_getElem hj
        have e := lc_at hx hy
        by_cases h : xs[i] = ys[j]
        · rw [if_pos h] at e
          exact ⟨i, j, Nat.le_refl _, Nat.le_refl _, xs[i], hx, by rw [hy, h], e.symm⟩
        · rw [if_neg h] at e
          match n, hn with
          | 0, hn => omega
          | n + 1, hn =>
            by_cases hm : lc xs ys (i + 1) j ≤ lc xs ys i (j + 1)
            · rw [Nat.max_eq_right hm] at e
              obtain ⟨a, b, h1, h2, z, h3, h4, h5⟩ := starts_ex (xs := xs) (ys := ys) n i (j + 1) (by omega) (by omega)
              exact ⟨a, b, h1, by omega, z, h3, h4, by omega⟩
            · rw [Nat.max_eq_left (by omega)] at e
              obtain ⟨a, b, h1, h2, z, h3, h4, h5⟩ := starts_ex (xs := xs) (ys := ys) n (i + 1) j (by omega) (by omega)
              exact ⟨a, b, by omega, h2, z, h3, h4, by omega⟩
      · rw [lc_out (.inr (by omega))] at hp; omega
    · rw [lc_out (.inl (by omega))] at hp; omega
theorem pair_le {xs ys : List α} {i j a b : Nat} {z : α} (h1 : i ≤ a) (h2 : j ≤ b) (hx : xs[a]? = some z) (hy : ys[b]? = some z) : lc xs ys (a + 1) (b + 1) + 1 ≤ lc xs ys i j := by
  have e := lc_at hx hy
  rw [if_pos rfl] at e
  rw [← e]
  exact lc_mono h1 h2
/-- the least such pair -/
def Least (xs ys : List α) (i j a b : Nat) : Prop := Starts xs ys i j a b ∧ ∀ a' b', Starts xs ys i j a' b' → a < a' ∨ (a = a' ∧ b ≤ b')
theorem Least.det {xs ys : List α} {i j a b a' b' : Nat} (h : Least xs ys i j a b) (k : Least xs ys i j a' b') : a = a' ∧ b = b' := by
  have h1 := h.2 _ _ k.1
  have h2 := k.2 _ _ h.1
  omega
/-- the least of the longest pairings, from two places on -/
inductive Greedy (xs ys : List α) : Nat → Nat → List (Nat × Nat) → Prop
  | nil {i j : Nat} : lc xs ys i j = 0 → Greedy xs ys i j []
  | cons {i j a b : Nat} {ps : List (Nat × Nat)} : Least xs ys i j a b → Greedy xs ys (a + 1) (b + 1) ps → Greedy xs ys i j ((a, b) :: ps)
theorem Greedy.len {xs ys : List α} {i j : Nat} {ps : List (Nat × Nat)} (h : Greedy xs ys i j ps) : ps.length = lc xs ys i j := by
  induction h with
  | nil e => rw [e]; rfl
  | cons h _ ih =>
    obtain ⟨⟨_, _, z, _, _, e⟩, _⟩ := h
    rw [List.length_cons, ih, e]
theorem Greedy.det {xs ys : List α} {i j : Nat} {ps qs : List (Nat × Nat)} (h : Greedy xs ys i j ps) (k : Greedy xs ys i j qs) : ps = qs := by
  induction h generalizing qs with
  | nil e =>
    have := k.len
    rw [e] at this
    exact (List.eq_nil_of_length_eq_zero this).symm
  | cons h g ih =>
    cases k with
    | nil e =>
      obtain ⟨⟨_, _, z, _, _, e'⟩, _⟩ := h
      omega
    | cons h' g' =>
      obtain ⟨rfl, rfl⟩ := h.det h'
      rw [ih g']
theorem Starts.lt {xs ys : List α} {i j a b : Nat} (h : Starts xs ys i j a b) : a < xs.length ∧ b < ys.length := by
  obtain ⟨_, _, z, h1, h2, _⟩ := h
  exact ⟨(List.getElem?_eq_some_iff.mp h1).1, (List.getElem?_eq_some_iff.mp h2).1⟩
open Classical in
noncomputable def greedy (xs ys : List α) : List (Nat × Nat) := if h : ∃ ps, Greedy xs ys 0 0 ps then h.choose else []
theorem greedy_eq {xs ys : List α} {ps : List (Nat × Nat)} (h : Greedy xs ys 0 0 ps) : greedy xs ys = ps := by
  unfold greedy
  have e : ∃ ps, Greedy xs ys 0 0 ps := ⟨ps, h⟩
  rw [dif_pos e]
  exact e.choose_spec.det h
/-- what a pairing is -/
theorem Greedy.pairs {xs ys : List α} {i j : Nat} {ps : List (Nat × Nat)} (h : Greedy xs ys i j ps) : (∀ p ∈ ps, i ≤ p.1 ∧ j ≤ p.2 ∧ ∃ z, xs[p.1]? = some z ∧ ys[p.2]? = some z) ∧ ps.Pairwise (fun p q => p.1 < q.1 ∧ p.2 < q.2) := by
  induction h with
  | nil e => exact ⟨by simp, .nil⟩
  | cons h g ih =>
    obtain ⟨⟨h1, h2, z, h3, h4, _⟩, _⟩ := h
    refine ⟨fun p hp => ?_, .cons (fun q hq => ?_) ih.2⟩
    · rcases List.mem_cons.mp hp with rfl | hp
      · exact ⟨h1, h2, z, h3, h4⟩
      · obtain ⟨k1, k2, k3⟩ := ih.1 p hp
        exact ⟨by omega, by omega, k3⟩
    · obtain ⟨k1, k2, k3⟩ := ih.1 q hq
      exact ⟨by simp only; omega, by simp only; omega⟩
/-- no lesser pair goes on as long -/
theorem Least.no {xs ys : List α} {i j a b c d : Nat} {z : α} (h : Least xs ys i j a b) (h1 : i ≤ c) (h2 : j ≤ d) (hx : xs[c]? = some z) (hy : ys[d]? = some z) (hl : c < a ∨ (c = a ∧ d < b)) : ¬ lc xs ys (a + 1) (b + 1) ≤ lc xs ys (c + 1) (d + 1) := fun le => by
  have k := pair_le h1 h2 hx hy
  obtain ⟨⟨_, _, w, _, _, e⟩, m⟩ := h
  have := m c d ⟨h1, h2, z, hx, hy, by omega⟩
  omega
end
end B

/-! S1: set(list of keys) and sorted of it (keys: ints, texts). -/
namespace B
open PySem PySem.Spec PyProof.Rows L2

def kOf (e : Int × Value) : Key := match e.2 with
  | .int k _ => .inl k
  | .str x _ => .inr x
  | _ => .inl 0
def GoodK (w : World) (e : Int × Value) : Prop := ∃ k, keyIs k e.2 = true ∧ e.1 = keyH w k
theorem kOf_is {e : Int × Value} {k : Key} (h : keyIs k e.2 = true) : kOf e = k := by
  unfold kOf
  rcases keyIs_shape h with ⟨i, t, rfl, e2⟩ | ⟨x, t, rfl, e2⟩ <;> rw [e2]
/-- the keys at a: their table can be walked -/
def SetW (w : World) (h : Heap) (a : Addr) (S : Key → Bool) (n : Nat) : Prop :=
  ∃ o es ep t, h.get? a = some o ∧ o.ExactSet ∧ o.data = .set es ep t ∧ (∀ e ∈ es.toList, GoodK w e) ∧ (es.toList.map kOf).Nodup ∧ (∀ k, S k = true ↔ k ∈ es.toList.map kOf) ∧
    es.size < scanBound ∧ t.fits es.size = true ∧ es.size = n ∧ Ris t.place.toList ∧ (w.params.followText "set-order" = true ∨ t.led = true)
theorem key_scans {k : Key} {u : Value} (h : keyIs k u = true) : u.scannable = true := by
  rcases keyIs_shape h with ⟨i, t, rfl, e⟩ | ⟨x, t, rfl, e⟩ <;> rw [e] <;> rfl
section
variable {P : Program} {w : World} {h h' : Heap} {a : Addr} {S : Key → Bool} {n : Nat}
theorem SetW.at (R : SetW w h a S n) (k : ∀ o, h.get? a = some o → h'.get? a = some o) : SetW w h' a S n := by
  obtain ⟨o, es, ep, t, ho, r⟩ := R
  exact ⟨o, es, ep, t, k o ho, r⟩
theorem SetW.congr {S' : Key → Bool} (R : SetW w h a S n) (e : ∀ k, S' k = S k) : SetW w h a S' n := by
  rw [show S' = S from funext e]; exact R
theorem goodK_elems {l : List (Int × Value)} (g : ∀ e ∈ l, GoodK w e) : ElemsOf (mixKind P w) l := fun e he => by
  obtain ⟨k, h1, h2⟩ := g e he
  exact ⟨⟨k, h1, h2⟩, key_scans h1⟩
theorem goodK_mem {l : List (Int × Value)} (g : ∀ e ∈ l, GoodK w e) (k : Key) : k ∈ l.map kOf ↔ ∃ e ∈ l, (mixKind P w).is k e.2 = true := by
  rw [List.mem_map]
  refine ⟨fun ⟨e, he, q⟩ => ⟨e, he, ?_⟩, fun ⟨e, he, q⟩ => ⟨e, he, kOf_is q⟩⟩
  obtain ⟨k', h1, _⟩ := g e he
  rw [kOf_is h1] at q
  subst q
  exact h1
end
section
variable {P : Program} {w : World} {A : Around} {E : Value → Shared → Prop} {s : Shared} {a : Addr} {S : Key → Bool} {n : Nat}
theorem setW_tail {g : Bool → Sem Unit} (hg : ∀ (b : Bool) (s₁ : Shared) (Q' : Unit → Shared → Prop), Q' () s₁ → wpAny (model P w) A (g b) Q' E s₁)
    {o : Obj} {es : Array (Int × Value)} {ep : Nat} {t : SetTable} (ho : s.heap.get? a = some o) (hex : o.ExactSet) (hd : o.data = .set es ep t)
    {fs : Array (Int × Value)} {u : SetTable} {S' : Key → Bool} (gf : ∀ e ∈ fs.toList, GoodK w e) (ndf : (fs.toList.map kOf).Nodup) (mf : ∀ k, S' k = true ↔ k ∈ fs.toList.map kOf)
    (hbf : fs.size < scanBound) (hfu : u.fits fs.size = true) (hru : Ris u.place.toList) (hlu : w.params.followText "set-order" = true ∨ u.led = true) {wasDummy : Bool} {R : Option Bool → Shared → Prop}
    (hR : ∀ h', Heap.SameBut a s.heap h' → SetW w h' a S' fs.size → R (some true) { s with heap := h' }) :
    wpAny (model P w) A (do
        storeSet a fs u
        if (!wasDummy && u.tooFull) = true then do
            g (relayAll u fs (SetTable.grown fs.size)).2.2
            storeSet a (relayAll u fs (SetTable.grown fs.size)).1 (relayAll u fs (SetTable.grown fs.size)).2.1
            pure (some true)
          else pure (some true)) R E s := by
  refine wpAny_bind (wpAny_storeSet_of ho hd ?_ (fits_of_scanBound hbf))
  have ho1 := store_at (es' := fs) (t' := u) ho hd
  have sb1 := Heap.SameBut.update s.heap a (Obj.putSet fs u)
  split
  · have pm := relayAll_perm u fs (SetTable.grown fs.size)
    have hf3 := relayAll_fits u fs (SetTable.grown fs.size)
    have hr3 := relayAll_ris u fs (SetTable.grown fs.size)
    have hl3 := relayAll_led u fs (SetTable.grown fs.size)
    generalize relayAll u fs (SetTable.grown fs.size) = Z at pm hf3 hr3 hl3 ⊢
    obtain ⟨es2, t3, gave⟩ := Z
    dsimp only at pm hf3 hr3 hl3 ⊢
    have hsz : es2.size = fs.size := by rw [← Array.length_toList, pm.length_eq, Array.length_toList]
    have hb2 : es2.size < scanBound := by rw [hsz]; exact hbf
    refine wpAny_bind (hg _ _ _ (wpAny_bind (wpAny_storeSet_of ho1 rfl (wpAny_pure (hR _ (sb1.trans (Heap.SameBut.update _ a _)) ?_)) (fits_of_scanBound hb2))))
    exact ⟨_, es2, _, t3, store_at (es' := es2) (t' := t3) ho1 rfl, hex, rfl, fun e he => gf e (pm.mem_iff.mp he), (pm.map kOf).nodup_iff.mpr ndf, fun k => (mf k).trans (pm.map kOf).mem_iff.symm, hb2, hf3, hsz, hr3,
      hlu.imp id fun z => by rw [hl3]; exact z⟩
  · exact wpAny_pure (hR _ sb1 ⟨_, fs, _, u, ho1, hex, rfl, gf, ndf, mf, hbf, hfu, rfl, hru, hlu⟩)
theorem setW_add {k : Key} {v : Value} {Q : Bool → Shared → Prop} (hv : keyIs k v = true) (R : SetW w s.heap a S n) (room : n + 1 < scanBound)
    (hQ : ∀ h', Heap.SameBut a s.heap h' → SetW w h' a (fun j => S j || decide (j = k)) (if S k = true then n else n + 1) → Q (!S k) { s with heap := h' }) :
    wpAny (model P w) A (setAddHashed a v ((mixKind P w).hash k)) Q E s := by
  obtain ⟨o, es, ep, t, ho, hex, hd, g, nd, hm, hb, hf, hn, hr, hl⟩ := R
  have hkey : (mixKind P w).is k v = true := hv
  have hsc := key_scans hv
  have hel : ElemsOf (mixKind P w) es.toList := goodK_elems g
  unfold setAddHashed setAddHashedIn
  refine wpAny_holding (wpAny_bind (wpAny_setState_of ho hd hf ?_))
  dsimp only
  rw [byScan_of hsc hb hel]
  simp only [↓reduceIte]
  unfold setAddByScan
  refine wpAny_bind (wpAny_bind (wpAny_rule (wpAny_bind (wpAny_setScan_of hkey ho hd hf hel ?_))))
  cases hfi : List.findIdx? (fun e => (mixKind P w).is k e.2) es.toList with
  | some j =>
    dsimp only
    obtain ⟨hj, pj, _⟩ := List.findIdx?_eq_some_iff_getElem.mp hfi
    have hSk : S k = true := (hm k).2 ((goodK_mem (P := P) g k).2 ⟨es.toList[j], List.getElem_mem hj, pj⟩)
    refine wpAny_pure (wpAny_pure ?_)
    have q := hQ s.heap (Heap.SameBut.refl a s.heap) ⟨o, es, ep, t, ho, hex, hd, g, nd, fun i => by
      rw [Bool.or_eq_true, decide_eq_true_eq, ← hm i]
      exact ⟨fun z => z.elim id (fun e => e ▸ hSk), .inl⟩, hb, hf, by rw [if_pos hSk]; exact hn, hr, hl⟩
    rw [hSk] at q
    exact q
  | none =>
    dsimp only
    have hnk : k ∉ es.toList.map kOf := fun z => by
      obtain ⟨e, he, q⟩ := (goodK_mem (P := P) g k).1 z
      have c := List.findIdx?_eq_none_iff.mp hfi e he
      rw [q] at c
      cases c
    have hSk : S k = false := by
      cases q : S k with
      | false => rfl
      | true => exact absurd ((hm k).1 q) hnk
    have hgw : ∀ (b : Bool) {s₁ : Shared} {Q' : Unit → Shared → Prop}, Q' () s₁ → wpAny (model P w) A (match b with | true => rule "set.scan.the-table-gave-way" | false => pure ()) Q' E s₁ :=
      fun b s₁ Q' q => by cases b <;> first | exact wpAny_pure q | exact wpAny_rule q
    have pm := layNew_perm t es ((mixKind P w).hash k) v
    have hf1 := layNew_fits t es ((mixKind P w).hash k) v
    have hr1 := layNew_ris t es ((mixKind P w).hash k) v hr
    have hl1 := layNew_led t es ((mixKind P w).hash k) v
    generalize layNew t es ((mixKind P w).hash k) v = Z at pm hf1 hr1 hl1 ⊢
    obtain ⟨fs, u, wasDummy, gave⟩ := Z
    dsimp only at pm hf1 hr1 hl1 ⊢
    rw [Array.toList_push] at pm
    have pc : fs.toList.Perm (((mixKind P w).hash k, v) :: es.toList) := pm.trans (List.perm_append_singleton _ _)
    have pk : (fs.toList.map kOf).Perm (k :: es.toList.map kOf) := by
      have z := pc.map kOf
      rw [List.map_cons, kOf_is (e := ((mixKind P w).hash k, v)) hv] at z
      exact z
    have g1 : ∀ e ∈ fs.toList, GoodK w e := fun e he => by
      rcases List.mem_cons.mp (pc.mem_iff.mp he) with z | z
      · rw [z]; exact ⟨k, hv, rfl⟩
      · exact g e z
    have nd1 : (fs.toList.map kOf).Nodup := pk.nodup_iff.mpr (List.nodup_cons.mpr ⟨hnk, nd⟩)
    have m1 : ∀ i, (S i || decide (i = k)) = true ↔ i ∈ fs.toList.map kOf := fun i => by
      rw [Bool.or_eq_true, decide_eq_true_eq, hm i, pk.mem_iff, List.mem_cons]
      exact Or.comm
    have hsz : fs.size = n + 1 := by rw [← Array.length_toList, pc.length_eq, List.length_cons, Array.length_toList, hn]
    have hb1 : fs.size < scanBound := by rw [hsz]; exact room
    have hled : w.params.followText "set-order" = true ∨ u.led = true := hl.imp id fun z => by rw [hl1]; exact z
    have fin : ∀ h', Heap.SameBut a s.heap h' → SetW w h' a (fun j => S j || decide (j = k)) fs.size → Q true { s with heap := h' } := fun h' sb r => by
      have q := hQ h' sb
      rw [hSk] at q
      rw [hsz] at r
      exact q r
    refine wpAny_bind (hgw _ ?_)
    split
    · refine wpAny_bind ?_
      rw [hashByValue_scannable 8 hsc]
      refine wpAny_pure (setW_tail ?_ ho hex hd g1 nd1 m1 hb1 ?_ ?_ ?_ ?_)
      · intro b s₁ Q' q; cases b <;> first | exact wpAny_pure q | exact wpAny_rule q
      · first | (split <;> first | exact hf1 | exact SetTable.fits_plain_off hf1) | exact hf1
      · first | (split <;> exact hr1) | exact hr1
      · first | (split <;> exact hled) | exact hled
      · intro h' sb r; dsimp only; exact wpAny_pure (fin h' sb r)
    · refine wpAny_bind (wpAny_pure ?_)
      simp only [↓reduceIte]
      refine setW_tail ?_ ho hex hd g1 nd1 m1 hb1 hf1 hr1 hled ?_
      · intro b s₁ Q' q; cases b <;> first | exact wpAny_pure q | exact wpAny_rule q
      · intro h' sb r; dsimp only; exact wpAny_pure (fin h' sb r)
end
/-! ### set(list of keys) -/
def inK (ks : List Key) (j : Key) : Bool := ks.any fun x => decide (x = j)
theorem inK_iff {ks : List Key} {j : Key} : inK ks j = true ↔ j ∈ ks := by
  unfold inK
  rw [List.any_eq_true]
  exact ⟨fun ⟨x, h1, h2⟩ => (of_decide_eq_true h2) ▸ h1, fun h => ⟨j, h, decide_eq_true rfl⟩⟩
/-- an empty set, as set() makes it -/
abbrev noSet (w : World) : Obj := { cls := .type "set", dict := none, data := .set #[] 0 (.fresh 0 0 (!w.params.followText "set-order")) }
theorem setW_none {w : World} {h : Heap} {a : Addr} {ks : List Key} (ho : h.get? a = some (noSet w)) : SetW w h a (fun j => inK (ks.take 0) j) 0 := by
  have led : w.params.followText "set-order" = true ∨ (!w.params.followText "set-order") = true := by cases w.params.followText "set-order" <;> simp
  exact ⟨_, #[], 0, _, ho, ⟨rfl, rfl, rfl⟩, rfl, (fun e he => by simp at he), (by simp), (fun k => by simp [inK]), (by decide), (by rfl), rfl, List.Pairwise.nil, led⟩
section
variable {P : Program} {w : World} {A : Around} {E : Value → Shared → Prop} {s : Shared}
theorem setW_update {I : Addr} {fp wr : List Addr} {G : Array GenState → Array GenState → Prop} {n : Nat} {Pv : Nat → Value → Prop} {St : Nat → Shared → Prop} {R : Result → Shared → Prop}
    (W : WalksS P w A.in1 I fp wr G n Pv St) (B : Addr) (hBf : B ∉ fp) (ks : List Key) (hn : n = ks.length) (hb : ks.length + 1 < scanBound) (hval : ∀ i v, Pv i v → ∃ k, ks[i]? = some k ∧ keyIs k v = true) :
    ∀ (m i : Nat) (s : Shared), n - i = m → i ≤ n → St i s → (∃ c, c ≤ i ∧ SetW w s.heap B (fun j => inK (ks.take i) j) c) →
      (∀ s' c, Moved (B :: wr) G s s' → c ≤ n → SetW w s'.heap B (fun j => inK ks j) c → R (.ok (.ret .none)) s') →
      codeAny (model P w) A (.builtin "set.update.loop" ⟨[.ref B, .ref I], []⟩) R s := by
  have hBw : B ∉ wr := fun h => hBf (W.sub _ h)
  have sub : ∀ b ∈ wr, b ∈ B :: wr := fun b hb => List.mem_cons_of_mem _ hb
  intro m
  induction m with
  | zero =>
    intro i s hm hi hst ⟨c, hc, hB⟩ hR
    have hin : i = n := by omega
    subst hin
    refine codeAny_builtin F.entry_set_update_loop ?_
    rw [Around.under_plainId F.plain_set_update_loop _]
    refine wpAny_bind (m := pyNext (.ref I)) (W.done s _ _ hst fun s' hm => ?_)
    rw [List.take_of_length_le (show ks.length ≤ i by omega)] at hB
    exact wpAny_pure (hR s' c (hm.mono sub) hc (hB.at fun o e => hm.heap B o hBw e))
  | succ m ih =>
    intro i s hm hi hst ⟨c, hc, hB⟩ hR
    have hlt : i < n := by omega
    refine codeAny_builtin F.entry_set_update_loop ?_
    rw [Around.under_plainId F.plain_set_update_loop _]
    refine wpAny_bind (m := pyNext (.ref I)) (W.item i s _ _ hlt hst fun v s' hP hst' hm => ?_)
    obtain ⟨k, hk, hv⟩ := hval i v hP
    have hB1 : SetW w s'.heap B (fun j => inK (ks.take i) j) c := hB.at fun o e => hm.heap B o hBw e
    refine wpAny_bind (m := holding [v] (setAdd B v)) (wpAny_holding ?_)
    unfold setAdd
    refine wpAny_holding (wpAny_bind ((mixKind P w).pyHash (k := k) hv ?_))
    refine setW_add (s := { s' with toks := s'.toks + 1 }) hv hB1 (by omega) fun h' hsb hB2 => ?_
    have hB3 : SetW w h' B (fun j => inK (ks.take (i + 1)) j) (if inK (ks.take i) k = true then c else c + 1) := hB2.congr fun j => by
      unfold inK
      rw [List.take_add_one, hk, List.any_append]
      simp [eq_comm]
    have hc3 : (if inK (ks.take i) k = true then c else c + 1) ≤ i + 1 := by split <;> omega
    refine wpAny_pure ⟨plainId_quiet F.plain_set_update_loop _, ih (i + 1) _ (by omega) hlt (W.frame _ s' _ _ hst' (Nat.le_succ _) fun b hb o e => ?_) ⟨_, hc3, hB3⟩ fun s'' c2 hm2 hc2 hS2 => ?_⟩
    · rw [hsb.2 b (fun h : b = B => hBf (h ▸ hb))]; exact e
    · refine hR s'' c2 (Moved.trans W.gtrans ((hm.mono sub).then_heap (Nat.le_succ _) fun b o hb e => ?_) hm2) hc2 hS2
      rw [hsb.2 b (fun h : b = B => hb (by rw [h]; exact List.mem_cons_self))]; exact e
set_option maxHeartbeats 8000000 in
theorem call_setW {l : Addr} {items : Array Value} (ks : List Key) {Q : Value → Shared → Prop} (hh : A.handled = none) (hl : s.heap.IsList l items) (hit : ∀ (i : Nat) (v : Value), items[i]? = some v → ∃ k, ks[i]? = some k ∧ keyIs k v = true) (hisz : items.size = ks.length) (hb : ks.length + 1 < scanBound)
    (h : ∀ (h' : Heap) (tk c : Nat), SetW w h' s.heap.objs.size (fun j => inK ks j) c → c ≤ ks.length → (∀ b o, s.heap.get? b = some o → h'.get? b = some o) → Q (.ref s.heap.objs.size) { s with heap := h', toks := tk }) :
    wpAny (model P w) A (call (.type "set") [.ref l]) Q E s := by
  obtain ⟨c, tl, hmro⟩ := F.called_set.mro
  have hmade := F.called_set.made
  have hsub := F.called_set.sub
  refine wpAny_call (codeAny_of_tree ?_)
  show wpAny _ _ (callAny (.type "set") _) _ _ _
  refine wpAny_pure ⟨Code.quiet_builtin _ (by decide +kernel), codeAny_builtin F.entry_type_call ?_⟩
  rw [Around.under_plain (weight_type_call_type "set" [.ref l] []) rfl]
  have h1 := F.called_set.notType
  have h2 := F.called_set.canCreate
  have hct := F.typeCall_set_1 (.ref l)
  repeat (any_goals (first | assumption | wp_step))
  refine codeAny_mono (code_set_led1 (.ref l) (E := E) (Q₁ := fun obj s₁ => obj = .ref s.heap.objs.size ∧ s₁ = { s with heap := s.heap.push (noSet w) }) ⟨rfl, rfl⟩) fun r s₁ hr => ?_
  cases r with
  | error e => exact hr
  | ok fl =>
    cases fl with
    | ret obj =>
      obtain ⟨rfl, rfl⟩ := hr
      have hS : (s.heap.push (noSet w)).get? s.heap.objs.size = some (noSet w) := Heap.get?_push_size _ rfl
      have hT : Shared.TypeIs { s with heap := s.heap.push (noSet w) } (.ref s.heap.objs.size) "set" := ⟨_, hS, rfl⟩
      have hli := F.called_set.init.lookup
      have hbi := F.called_set.init.bind (.ref s.heap.objs.size)
      repeat (any_goals (first | assumption | wp_step))
      refine codeAny_mono (codeAny_call_builtin (R := wants (fun r s₂ => r = .none ∧ ∃ h' tk c, s₂ = { s with heap := h', toks := tk } ∧ SetW w h' s.heap.objs.size (fun j => inK ks j) c ∧ c ≤ ks.length ∧
          (∀ b o, s.heap.get? b = some o → h'.get? b = some o)) E) F.called_set.init.plain F.entry_set_init (check_set_init_1 hT ?_)) fun r₂ s₂ hr₂ => ?_
      · obtain ⟨ol, hol, hcl, nl, hdl⟩ := hl
        obtain ⟨ocls, odict, odata, oslots⟩ := ol
        simp only at hcl hdl
        subst hcl; subst hdl
        have hol' : (s.heap.push (noSet w)).get? l = some { cls := .type "list", dict := odict, data := .seq items nl, slots := oslots } := Heap.get?_push_of_some _ hol
        have hsls := F.sub_list_set
        have hslf := F.sub_list_frozenset
        have hne : (Value.type "list" == Value.type "dict") = false := by decide
        have hl1 : (s.heap.push (noSet w)).IsList l items := ⟨_, hol', rfl, nl, rfl⟩
        unfold Builtin.«set.__init__» noKeywords Builtin.Frozenset.updateFrom
        generalize hPI : pyIter = PI
        wp_walk
        subst hPI
        refine wpAny_pyIter_list hl1 (wpAny_bind (wpAny_runValue ?_))
        have hlS : l < s.heap.objs.size := Heap.lt_size hol
        have hh3 : A.in1.in1.in1.handled = none := by simp [hh]
        have hz1 : (s.heap.push (noSet w)).objs.size = s.heap.objs.size + 1 := Heap.size_push ..
        have hneI : l ≠ (s.heap.push (noSet w)).objs.size := by rw [hz1]; exact Nat.ne_of_lt (Nat.lt_succ_of_lt hlS)
        have hSf : s.heap.objs.size ∉ [(s.heap.push (noSet w)).objs.size, l] := by
          rw [hz1]; simp only [List.mem_cons, List.mem_singleton, List.not_mem_nil, or_false, not_or]
          exact ⟨Nat.ne_of_lt (Nat.lt_succ_self _), Nat.ne_of_gt hlS⟩
        refine setW_update ((Walks.list hh3 _ l hneI items).toS) s.heap.objs.size hSf ks hisz hb hit (items.size - 0) 0 _ (by omega) (Nat.zero_le _)
          ⟨⟨_, Heap.get?_push_size _ rfl, rfl, rfl⟩, (hl1.push _)⟩ ⟨0, Nat.le_refl 0, setW_none (Heap.get?_push_of_some _ hS)⟩ ?hR
        case hR =>
          intro s' c' hm hc' hS'
          obtain ⟨h', g2, d', tk', os'⟩ := s'
          have eg : g2 = s.gens := hm.gens
          have ed : d' = s.drawn := hm.drawn
          have eo : os' = s.os := hm.os
          subst eg; subst ed; subst eo
          show wpAny _ _ _ _ _ _
          refine wpAny_pure ?_
          show wpAny _ _ (ret Value.none) _ _ _
          rw [hisz] at hc'
          refine wpAny_pure ⟨rfl, h', tk', c', rfl, hS', hc', fun b o e => ?_⟩
          have hb0 : b < s.heap.objs.size := Heap.lt_size e
          have hb2 : b ≠ (s.heap.push (noSet w)).objs.size := by rw [hz1]; exact Nat.ne_of_lt (Nat.lt_succ_of_lt hb0)
          exact hm.heap b o (by simp only [List.mem_cons, List.mem_singleton, List.not_mem_nil, or_false, not_or]; exact ⟨Nat.ne_of_lt hb0, hb2⟩) (Heap.get?_push_of_some _ (Heap.get?_push_of_some _ e))
      · cases r₂ with
        | error e => exact hr₂
        | ok fl₂ =>
          cases fl₂ with
          | ret r =>
            obtain ⟨rfl, h', tk, c', rfl, hS', hc', hk'⟩ := hr₂
            repeat (any_goals (first | assumption | wp_step))
            exact h _ _ _ hS' hc' hk'
          | _ => exact hr₂.elim
    | _ => exact hr.elim
end
end B

/-! S2: sorted(set(list of texts)), sorted(set(list of ints)), sorted(list of texts or ints), over data. -/
namespace B
open PySem PySem.Spec PyProof.Rows L2
section
variable {P : Program} {w : World} {A : Around} {E : Value → Shared → Prop} {s : Shared} {a : Addr} {S : Key → Bool} {n : Nat}
def txOf : Value → Str
  | .str x _ => x
  | _ => Str.ofString ""
theorem strs_all : ∀ (l : List Value), (∀ v ∈ l, ∃ x t, v = Value.str x t) → StrsAre l (l.map txOf)
  | [], _ => .nil
  | v :: l, h => by
    obtain ⟨x, t, rfl⟩ := h v List.mem_cons_self
    exact .cons x t (strs_all l fun u hu => h u (List.mem_cons_of_mem _ hu))
theorem inr_map_tx (l : List (Int × Value)) (h : ∀ e ∈ l, ∃ x t, e.2 = Value.str x t) : l.map kOf = (l.map fun e => txOf e.2).map Sum.inr := by
  rw [List.map_map]
  refine List.map_congr_left fun e he => ?_
  obtain ⟨x, t, q⟩ := h e he
  unfold kOf
  rw [Function.comp_apply, q]
  rfl
theorem inl_map_int (l : List (Int × Value)) (h : ∀ e ∈ l, ∃ x t, e.2 = Value.int x t) : l.map kOf = (l.map fun e => Builtin.Re.reRawOf e.2).map Sum.inl := by
  rw [List.map_map]
  refine List.map_congr_left fun e he => ?_
  obtain ⟨x, t, q⟩ := h e he
  unfold kOf
  rw [Function.comp_apply, q]
  rfl
theorem nodup_inj {α β : Type} {f : α → β} {l : List α} (h : (l.map f).Nodup) : l.Nodup := List.Pairwise.of_map f (fun _ _ hne e => hne (congrArg f e)) h
theorem sortedW_strs {Q : Value → Shared → Prop} (R : SetW w s.heap a S n) (hh : A.handled = none) (hn : n ≤ 100000) (htx : ∀ k, S k = true → ∃ x, k = .inr x)
    (hQ : ∀ s' p (out : Array Value) (c : Nat) (ys : List Str), (∀ b o, s.heap.get? b = some o → s'.heap.get? b = some o) → s'.gens = s.gens → s'.os = s.os → s.heap.objs.size ≤ p →
      s'.heap.get? p = some (seqObj "list" out c) → StrsAre out.toList ys → sortedS ys = true → ys.Nodup → (∀ x, x ∈ ys ↔ S (.inr x) = true) → ys.length = n → Q (.ref p) s') :
    wpAny (model P w) A (call (.builtin "sorted") [.ref a]) Q E s := by
  obtain ⟨o, es, ep, t, ho, hex, hd, g, nd, hm, hb, hf, hsz, hr, hl⟩ := R
  have allS : ∀ e ∈ es.toList, ∃ x t, e.2 = Value.str x t := fun e he => by
    obtain ⟨k, h1, _⟩ := g e he
    have hk : S k = true := (hm k).2 (List.mem_map.mpr ⟨e, he, kOf_is h1⟩)
    obtain ⟨x, rfl⟩ := htx k hk
    rcases keyIs_shape h1 with ⟨i, t, e1, _⟩ | ⟨y, t, _, e2⟩
    · cases e1
    · exact ⟨y, t, e2⟩
  refine Calls.call_function_entry kind_sorted plain_sorted entry_sorted (args_sorted1 _) ?_
  unfold Builtin.«sorted»
  refine wpAny_bind (m := checkCount "sorted" 1 1 _) (wpAny_pure (wpAny_bind (collect_set (A := A.in1) hh ⟨o, ho, hex.1, hd⟩ hf hb hr hl fun s1 vs k1 hz g1 o1 pm => ?_)))
  have hvl : vs.length = n := by rw [pm.length_eq, List.length_map, Array.length_toList]; exact hsz
  have hsl : vs.length ≤ sizeLine := by rw [hvl, sizeLine_eq]; omega
  have hI : StrsAre vs (vs.map txOf) := strs_all vs fun v hv => by
    obtain ⟨e, he, q⟩ := List.mem_map.mp (pm.mem_iff.mp hv)
    obtain ⟨x, t, h1⟩ := allS e he
    exact ⟨x, t, by rw [← q]; exact h1⟩
  have pk : (vs.map txOf).Perm (es.toList.map fun e => txOf e.2) := by
    have q := pm.map txOf
    rw [List.map_map] at q
    exact q
  have ek := inr_map_tx es.toList allS
  refine wpAny_bind (wpAny_newList ?_ hsl)
  have hoL : (s1.heap.push (seqObj "list" vs.toArray 0)).get? s1.heap.objs.size = some (seqObj "list" vs.toArray 0) := Heap.get?_push_size _ rfl
  refine wpAny_bind (wpAny_holding (wpAny_call_entry slot_list_sort ⟨_, hoL, rfl⟩ entry_list_sort (list_sort_treeKAny strKind_oneLt hoL hI.keysOf (fun v₁ v₂ rest e => keyKind_strs (by rw [← e]; exact hI)) hsl fun st' hp hs => ⟨_, rfl, ?_⟩) (args_list_sort _)))
  obtain ⟨ys, a1, a2, a3⟩ := sorted_out_str hI hp hs
  obtain ⟨c, hc⟩ := sortedHeap_at (vs := vs) (out := (arrOf st').map (·.2)) hoL
  have pn := a2.trans pk
  rw [ek] at nd hm
  refine wpAny_pure ⟨_, rfl, hQ _ s1.heap.objs.size _ c ys (fun b u e => ?_) g1 o1 hz hc a1 a3 (pn.nodup_iff.mpr (nodup_inj nd)) (fun x => ?_) ?_⟩
  · have q := k1 b u e
    have hlt := Heap.lt_size q
    show (sortedHeap (s1.heap.push (seqObj "list" vs.toArray 0)) s1.heap.objs.size vs _).get? b = some u
    rw [sortedHeap_old (Nat.ne_of_lt hlt) (by rw [size_push']; exact Nat.lt_succ_of_lt hlt)]
    exact Heap.get?_push_of_some _ q
  · rw [pn.mem_iff, hm (.inr x)]
    exact ⟨fun h => List.mem_map.mpr ⟨x, h, rfl⟩, fun h => by obtain ⟨y, hy, e⟩ := List.mem_map.mp h; cases e; exact hy⟩
  · rw [pn.length_eq, List.length_map, Array.length_toList]; exact hsz
theorem sortedW_ints {Q : Value → Shared → Prop} (R : SetW w s.heap a S n) (hh : A.handled = none) (hn : n ≤ 100000) (htx : ∀ k, S k = true → ∃ x, k = .inl x)
    (hQ : ∀ s' p (out : Array Value) (c : Nat) (ys : List Int), (∀ b o, s.heap.get? b = some o → s'.heap.get? b = some o) → s'.gens = s.gens → s'.os = s.os → s.heap.objs.size ≤ p →
      s'.heap.get? p = some (seqObj "list" out c) → IntsAre out.toList ys → ys.Pairwise (· < ·) → (∀ x, x ∈ ys ↔ S (.inl x) = true) → ys.length = n → Q (.ref p) s') :
    wpAny (model P w) A (call (.builtin "sorted") [.ref a]) Q E s := by
  obtain ⟨o, es, ep, t, ho, hex, hd, g, nd, hm, hb, hf, hsz, hr, hl⟩ := R
  have allI : ∀ e ∈ es.toList, ∃ x t, e.2 = Value.int x t := fun e he => by
    obtain ⟨k, h1, _⟩ := g e he
    have hk : S k = true := (hm k).2 (List.mem_map.mpr ⟨e, he, kOf_is h1⟩)
    obtain ⟨x, rfl⟩ := htx k hk
    rcases keyIs_shape h1 with ⟨i, t, _, e2⟩ | ⟨y, t, e1, _⟩
    · exact ⟨i, t, e2⟩
    · cases e1
  refine Calls.call_function_entry kind_sorted plain_sorted entry_sorted (args_sorted1 _) ?_
  unfold Builtin.«sorted»
  refine wpAny_bind (m := checkCount "sorted" 1 1 _) (wpAny_pure (wpAny_bind (collect_set (A := A.in1) hh ⟨o, ho, hex.1, hd⟩ hf hb hr hl fun s1 vs k1 hz g1 o1 pm => ?_)))
  have hvl : vs.length = n := by rw [pm.length_eq, List.length_map, Array.length_toList]; exact hsz
  have hsl : vs.length ≤ sizeLine := by rw [hvl, sizeLine_eq]; omega
  have hI : IntsAre vs (vs.map Builtin.Re.reRawOf) := ints_of vs fun v hv => by
    obtain ⟨e, he, q⟩ := List.mem_map.mp (pm.mem_iff.mp hv)
    obtain ⟨x, t, h1⟩ := allI e he
    exact ⟨x, t, by rw [← q]; exact h1⟩
  have pk : (vs.map Builtin.Re.reRawOf).Perm (es.toList.map fun e => Builtin.Re.reRawOf e.2) := by
    have q := pm.map Builtin.Re.reRawOf
    rw [List.map_map] at q
    exact q
  have ek := inl_map_int es.toList allI
  refine wpAny_bind (wpAny_newList ?_ hsl)
  have hoL : (s1.heap.push (seqObj "list" vs.toArray 0)).get? s1.heap.objs.size = some (seqObj "list" vs.toArray 0) := Heap.get?_push_size _ rfl
  refine wpAny_bind (wpAny_holding (wpAny_call_entry slot_list_sort ⟨_, hoL, rfl⟩ entry_list_sort (list_sort_treeAny hoL hI hsl fun out ys a1 a2 a3 => ⟨_, rfl, ?_⟩) (args_list_sort _)))
  obtain ⟨c, hc⟩ := sortedHeap_at (vs := vs) (out := out) hoL
  have pn := a2.trans pk
  rw [ek] at nd hm
  refine wpAny_pure ⟨_, rfl, hQ _ s1.heap.objs.size _ c ys (fun b u e => ?_) g1 o1 hz hc a1 (lt_of_le_nodup ys a3 (pn.nodup_iff.mpr (nodup_inj nd))) (fun x => ?_) ?_⟩
  · have q := k1 b u e
    have hlt := Heap.lt_size q
    show (sortedHeap (s1.heap.push (seqObj "list" vs.toArray 0)) s1.heap.objs.size vs _).get? b = some u
    rw [sortedHeap_old (Nat.ne_of_lt hlt) (by rw [size_push']; exact Nat.lt_succ_of_lt hlt)]
    exact Heap.get?_push_of_some _ q
  · rw [pn.mem_iff, hm (.inl x)]
    exact ⟨fun h => List.mem_map.mpr ⟨x, h, rfl⟩, fun h => by obtain ⟨y, hy, e⟩ := List.mem_map.mp h; cases e; exact hy⟩
  · rw [pn.length_eq, List.length_map, Array.length_toList]; exact hsz
end
/-! ### the rules -/
def SetWO (w : World) (a : Addr) (S : Key → Bool) (n : Nat) : HO := .ext fun h => SetW w h a S n
section
variable {X : Cx}
theorem setWO_new {w : World} {P : Program} {H : Hp} {h : Heap} {a : Addr} {S : Key → Bool} {n : Nat} (R : SetW w h a S n) : ObjOk P w H h a (SetWO w a S n) := by
  have ⟨o, _, _, _, ho, _⟩ := R
  exact ⟨R, ⟨o, ho⟩, fun h1 h2 p k => SetW.at p k⟩
theorem setWO_get {pins : List (Addr × Obj)} {σ : L2.St} {H : Hp} {s : Shared} {a : Addr} {S : Key → Bool} {n : Nat} (I : Inv X pins σ H s) (ha : H a = some (SetWO X.w a S n)) : SetW X.w s.heap a S n := (I.hok a _ ha).1
/-- set(xs), xs a list of keys -/
def rSetW (K : PySem.W.Frag) (w : World) : List V → Hp → VK → Prop := fun xs H Q => ∃ (l : Addr) (ks : List Key), xs = [V.ref l] ∧ SqL K H l (ks.map kV) ∧ ks.length ≤ 1000 ∧ ∀ a n, H a = none → n ≤ ks.length → Q (.ref a) (upd H a (SetWO w a (inK ks) n))
theorem vals_key : ∀ {ks : List Key} {us : List Value}, Vals (ks.map kV) us → ∀ (i : Nat) v, us[i]? = some v → ∃ k, ks[i]? = some k ∧ keyIs k v = true
  | [], _, h, i, v, e => by cases h; simp at e
  | k :: ks, _, .cons a r, 0, v, e => by
    cases e
    refine ⟨k, rfl, ?_⟩
    cases k with
    | inl i => obtain ⟨t, rfl⟩ := a; simp [keyIs, Value.isInt]
    | inr i => obtain ⟨t, rfl⟩ := a; simp [keyIs, Value.isStrOf]
  | k :: ks, _, .cons a r, i + 1, v, e => vals_key r i v (by simpa using e)
theorem cr_setW (hc : X.calm = true) : CallR X (.type "set") (rSetW X.K X.w) := by
  intro pins s σ H xs us Q I r h
  obtain ⟨l, ks, rfl, hl, hf, q⟩ := h
  rw [Vals.ref1 r]
  obtain ⟨its, rv, pl, hz⟩ := I.list hl
  have hlen := rv.length
  rw [List.length_map] at hlen
  have hn : H s.heap.objs.size = none := I.hok.fresh (Nat.le_refl _)
  refine call_setW (P := X.prog) (w := X.w) ks (I.ok.hd hc) pl.isList (fun i v e => vals_key rv i v (by simpa using e)) (by simpa using hlen.symm) (Nat.lt_of_le_of_lt (Nat.succ_le_succ hf) (by decide)) fun h' tk c R hc' k => ?_
  exact ⟨.ref s.heap.objs.size, upd H s.heap.objs.size (SetWO X.w s.heap.objs.size (inK ks) c), I.laid (t' := tk) k (Nat.le_refl _) (setWO_new R), rfl, q _ c hn hc'⟩
/-- sorted(s), s a set of texts -/
def rSortW (w : World) : List V → Hp → VK → Prop := fun vs H Q => ∃ (a : Addr) (S : Key → Bool) (n : Nat), vs = [V.ref a] ∧ H a = some (SetWO w a S n) ∧ n ≤ 100000 ∧
  (((∀ k, S k = true → ∃ x, k = .inr x) ∧ ∀ (ys : List Str) (p : Addr), sortedS ys = true → ys.Nodup → (∀ x, x ∈ ys ↔ S (.inr x) = true) → H p = none → Q (.ref p) (upd H p (.lst (ys.map V.str)))) ∨
   ((∀ k, S k = true → ∃ x, k = .inl x) ∧ ∀ (ys : List Int) (p : Addr), ys.Pairwise (· < ·) → (∀ x, x ∈ ys ↔ S (.inl x) = true) → H p = none → Q (.ref p) (upd H p (.lst (ys.map V.int)))))
theorem cr_sortW (hc : X.calm = true) : CallR X (.builtin "sorted") (rSortW X.w) := by
  intro pins s σ H vs us Q I r h
  obtain ⟨a, S, n, rfl, ha, hn, h⟩ := h
  have R := setWO_get I ha
  rw [Vals.ref1 r]
  have fin : ∀ (s' : Shared) (p : Addr) (zs : List V) (out : Array Value) (c : Nat), (∀ b o, s.heap.get? b = some o → s'.heap.get? b = some o) → s'.gens = s.gens → s'.os = s.os → s.heap.objs.size ≤ p →
      s'.heap.get? p = some (seqObj "list" out c) → Vals zs out.toList → zs.length ≤ 100000 → (H p = none → Q (.ref p) (upd H p (.lst zs))) → EP X pins σ Q (.ref p) s' := fun s' p zs out c k g o hp hg hv hl q => by
    have hlen : zs.length ≤ sizeLine := Nat.le_trans hl (by decide)
    have hn : H p = none := I.hok.fresh hp
    have J : Inv X pins σ (upd H p (.lst zs)) { s with heap := s'.heap, gens := s'.gens, drawn := s'.drawn, toks := s'.toks } :=
      I.call (ch := []) (Un.laid k hp hn) (I.hok.laid k hp ⟨hlen, out.toList, c, hv, hg⟩) (by rw [g]; exact I.bare) (fun _ z => nomatch z)
    have e : s' = { s with heap := s'.heap, gens := s'.gens, drawn := s'.drawn, toks := s'.toks } := by
      cases s'
      cases s
      cases o
      rfl
    rw [e]
    exact ⟨.ref p, _, J, rfl, q hn⟩
  rcases h with ⟨htx, q⟩ | ⟨htx, q⟩
  · exact sortedW_strs R (I.ok.hd hc) hn htx fun s' p out c ys k g o hp hg hi hs hnd hm hl => fin s' p _ out c k g o hp hg (vals_of_strs hi) (by rw [List.length_map, hl]; exact hn) fun hn => q ys p hs hnd hm hn
  · exact sortedW_ints R (I.ok.hd hc) hn htx fun s' p out c ys k g o hp hg hi hs hm hl => fin s' p _ out c k g o hp hg (vals_of_ints hi) (by rw [List.length_map, hl]; exact hn) fun hn => q ys p hs hm hn
/-- sorted(xs), xs a list of texts of any length -/
def rSortedSA (K : PySem.W.Frag) : List V → Hp → VK → Prop := fun vs H Q => ∃ (a : Addr) (xs : List Str), vs = [V.ref a] ∧ SqL K H a (xs.map V.str) ∧ ∀ (ys : List Str) (p : Addr), ys.Perm xs → sortedS ys = true → H p = none → Q (.ref p) (upd H p (.lst (ys.map V.str)))
theorem cr_sortedSA : CallR X (.builtin "sorted") (rSortedSA X.K) := by
  intro pins s σ H vs us Q I r h
  obtain ⟨a, xs, rfl, hs, q⟩ := h
  obtain ⟨its, rv, hl, hz⟩ := I.list hs
  rw [Vals.ref1 r]
  have hlen0 := rv.length
  rw [List.length_map] at hlen0 hz
  refine PyProof.Rows.sorted_strsAny hl.isList rv.strs (by rw [← hlen0]; exact hz) fun out ys h1 h2 h3 => ?_
  obtain ⟨ep, he'⟩ := PyProof.Rows.sortedAll_at s.heap its out
  have hlen : (ys.map V.str).length ≤ sizeLine := by rw [List.length_map, h2.length_eq]; exact hz
  exact ⟨.ref _, upd H (s.heap.objs.size + 1) (.lst (ys.map V.str)), I.laid (t' := s.toks) (fun _ _ => PyProof.Rows.sortedAll_old) (Nat.le_succ _) ⟨hlen, out.toList, ep, vals_of_strs h1, he'⟩, rfl, q ys _ h2 h3 (I.hok.fresh (Nat.le_succ _))⟩
end
/-! ### texts in order -/
def ltS (x y : Str) : Prop := x.cps.toList < y.cps.toList
instance (x y : Str) : Decidable (ltS x y) := inferInstanceAs (Decidable (x.cps.toList < y.cps.toList))
theorem ltS_irrefl (x : Str) : ¬ ltS x x := List.lt_irrefl _
theorem ltS_trans {x y z : Str} (h : ltS x y) (k : ltS y z) : ltS x z := List.lt_trans h k
theorem ltS_total {x y : Str} (h : ¬ ltS x y) (k : ¬ ltS y x) : x = y := tl_inj.mp (List.le_antisymm (List.not_lt.mp k) (List.not_lt.mp h))
theorem ltS_asym {x y : Str} (h : ltS x y) : ¬ ltS y x := fun k => ltS_irrefl x (ltS_trans h k)
theorem ltS_or {x y : Str} (h : x ≠ y) : ltS x y ∨ ltS y x := by
  by_cases a : ltS x y
  · exact .inl a
  · by_cases b : ltS y x
    · exact .inr b
    · exact absurd (ltS_total a b) h
theorem leS_trans {x y z : Str} (h : ¬ ltS y x) (k : ¬ ltS z y) : ¬ ltS z x := by
  unfold ltS at *
  exact List.not_lt.mpr (List.le_trans (List.not_lt.mp h) (List.not_lt.mp k))
theorem rising_pw : ∀ {p : Str} {l : List Str}, risingS p l = true → (p :: l).Pairwise (fun x y => ¬ ltS y x)
  | p, [], _ => by simp
  | p, x :: r, h => by
    unfold risingS at h
    rw [Bool.and_eq_true] at h
    have ih := rising_pw h.2
    have h1 : ¬ ltS x p := by
      have := h.1
      rw [ltCps_eq] at this
      simpa [ltS] using this
    refine List.pairwise_cons.mpr ⟨fun y hy => ?_, ih⟩
    rcases List.mem_cons.mp hy with e | e
    · rw [e]; exact h1
    · exact leS_trans h1 ((List.pairwise_cons.mp ih).1 y e)
theorem sorted_pw : ∀ {l : List Str}, sortedS l = true → l.Pairwise (fun x y => ¬ ltS y x)
  | [], _ => .nil
  | x :: r, h => rising_pw h
def sortS (zs : List Str) : List Str := zs.mergeSort fun x y => !decide (ltS y x)
theorem sortS_perm (zs : List Str) : (sortS zs).Perm zs := List.mergeSort_perm _ _
theorem sortS_pw (zs : List Str) : (sortS zs).Pairwise (fun x y => ¬ ltS y x) := by
  have h := List.pairwise_mergeSort (le := fun x y => !decide (ltS y x)) (fun a b c h1 h2 => by
    simp only [Bool.not_eq_true', decide_eq_false_iff_not] at h1 h2 ⊢
    exact leS_trans h1 h2) (fun a b => by
    by_cases h : ltS b a
    · simp [h, ltS_asym h]
    · simp [h]) zs
  exact h.imp fun {a b} h => by simpa using h
theorem sortS_eq {ys zs : List Str} (p : ys.Perm zs) (h : ys.Pairwise (fun x y => ¬ ltS y x)) : ys = sortS zs :=
  List.Perm.eq_of_pairwise (fun a b _ _ h1 h2 => ltS_total h2 h1) h (sortS_pw zs) (p.trans (sortS_perm zs).symm)
theorem sortS_mem {zs : List Str} {x : Str} : x ∈ sortS zs ↔ x ∈ zs := (sortS_perm zs).mem_iff
/-- in order, each once -/
def sortU (zs : List Str) : List Str := sortS zs.eraseDups
theorem perm_of_mem {α : Type} {xs ys : List α} (hx : xs.Nodup) (hy : ys.Nodup) (h : ∀ a, a ∈ xs ↔ a ∈ ys) : xs.Perm ys := (List.perm_ext_iff_of_nodup hx hy).mpr h
theorem nodup_dups {α : Type} [BEq α] [LawfulBEq α] : ∀ (n : Nat) (xs : List α), xs.length ≤ n → xs.eraseDups.Nodup
  | 0, xs, h => by
    have : xs = [] := List.length_eq_zero_iff.mp (by omega)
    subst this
    simp
  | n + 1, [], h => by simp
  | n + 1, x :: xs, h => by
    rw [List.eraseDups_cons]
    refine List.nodup_cons.mpr ⟨fun z => ?_, nodup_dups n _ (Nat.le_trans (List.length_filter_le _ _) (by simpa using h))⟩
    rw [List.mem_eraseDups, List.mem_filter] at z
    simp at z
theorem sortU_mem {zs : List Str} {x : Str} : x ∈ sortU zs ↔ x ∈ zs := by unfold sortU; rw [sortS_mem, List.mem_eraseDups]
theorem sortU_nodup (zs : List Str) : (sortU zs).Nodup := ((sortS_perm _).nodup_iff).mpr (nodup_dups _ zs (Nat.le_refl _))
theorem pw_lt {ys : List Str} (h : ys.Pairwise (fun x y => ¬ ltS y x)) (hn : ys.Nodup) : ys.Pairwise ltS := by
  induction ys with
  | nil => exact .nil
  | cons x r ih =>
    obtain ⟨h1, h2⟩ := List.pairwise_cons.mp h
    obtain ⟨n1, n2⟩ := List.nodup_cons.mp hn
    refine List.pairwise_cons.mpr ⟨fun y hy => ?_, ih h2 n2⟩
    rcases ltS_or (x := x) (y := y) (fun e => n1 (e ▸ hy)) with z | z
    · exact z
    · exact absurd z (h1 y hy)
theorem sortU_pw (zs : List Str) : (sortU zs).Pairwise ltS := pw_lt (sortS_pw _) (sortU_nodup zs)
theorem sortU_eq {ys zs : List Str} (h : ys.Pairwise (fun x y => ¬ ltS y x)) (hn : ys.Nodup) (hm : ∀ x, x ∈ ys ↔ x ∈ zs) : ys = sortU zs :=
  sortS_eq (perm_of_mem hn (nodup_dups _ zs (Nat.le_refl _)) fun x => by rw [hm x, List.mem_eraseDups]) h
theorem lt_nodup {ys : List Str} (h : ys.Pairwise ltS) : ys.Nodup := List.Pairwise.imp (S := fun a b => a ≠ b) (fun {a b} z e => by subst e; exact ltS_irrefl _ z) h
theorem sortU_self {ys : List Str} (h : ys.Pairwise ltS) : sortU ys = ys := (sortU_eq (h.imp fun z => ltS_asym z) (lt_nodup h) fun _ => Iff.rfl).symm
theorem sortU_is {ys : List Str} : ys = sortU ys ↔ ys.Pairwise ltS := ⟨fun h => by rw [h]; exact sortU_pw _, fun h => (sortU_self h).symm⟩
/-! ### over data -/
section
variable {μ : Mu} {Γ : List Sl} {n : Nat} {te : TE} {K : PySem.W.Frag} {w : World}
theorem rc_sortS {zs : List Str} : RC (rSortedSA K) [.list (zs.map .str)] (.list ((sortS zs).map .str)) := fun G H vs Q s hv q => by
  cases hv with
  | cons a r =>
    cases r
    cases a with
    | lst e d =>
      have ev := DtA.of_strs d
      subst ev
      refine ⟨_, zs, rfl, SqL.of (s _ _ e), fun ys p pm hs hp => ?_⟩
      rw [sortS_eq pm (sorted_pw hs)]
      exact q _ _ _ (Nw.upd hp s) (Same.upd2 s) (Same.new hp) (.lst upd_same (DtA.strs _))
theorem ev_sortedS {zs : List Str} (h : Ev μ te Γ n (Eq (.list (zs.map .str)))) : Ev μ (tCB (rSortedSA K) (tCons te tNil)) Γ n (Eq (.list ((sortS zs).map .str))) := ev_cb (ea_cons h ea_nil) rc_sortS
theorem inK_inr {zs : List Str} {x : Str} : inK (zs.map Sum.inr) (.inr x) = true ↔ x ∈ zs := by
  rw [inK_iff, List.mem_map]
  exact ⟨fun ⟨y, h, e⟩ => by cases e; exact h, fun h => ⟨x, h, rfl⟩⟩
/-- sorted(set(xs)), xs texts -/
theorem ev_sortU {zs : List Str} (h : EvL μ te Γ n (Eq (zs.map .str))) (hl : zs.length ≤ 1000) : Ev μ (tCB (rSortW w) (tCons (tCB (rSetW K w) (tCons te tNil)) tNil)) Γ n (Eq (.list ((sortU zs).map .str))) := fun G0 H0 G c σ H Q S l q =>
  h G0 H0 G c σ H _ S l fun ds p vs G1 H1 e S1 e1 hM hp hd => by
    subst e
    have ev := DtA.of_strs hd
    subst ev
    refine ⟨p, zs.map Sum.inr, rfl, SqL.of (by rw [hp, List.map_map]; rfl), by rw [List.length_map]; exact hl, fun a m ha hm => ?_⟩
    have hmz : m ≤ 1000 := by rw [List.length_map] at hm; omega
    have Sa := S1.same (G' := G1) (H' := upd H1 a (SetWO w a (inK (zs.map Sum.inr)) m)) (Nw.refl _ _) (S1.sub.trans (Same.new ha)) (Same.new ha)
    have ea : Ext μ.M G1 H1 G1 (upd H1 a (SetWO w a (inK (zs.map Sum.inr)) m)) := .same (Nw.refl _ _) (Same.new ha)
    refine ⟨a, _, m, rfl, upd_same, by omega, .inl ⟨fun k hk => ?_, fun ys p2 hs hn hx hp2 => ?_⟩⟩
    · obtain ⟨x, _, e⟩ := List.mem_map.mp (inK_iff.mp hk)
      exact ⟨x, e.symm⟩
    · have ey := sortU_eq (zs := zs) (sorted_pw hs) hn fun x => (hx x).trans inK_inr
      subst ey
      exact q _ _ _ _ rfl (Sa.laid hp2) ((e1.trans ea).trans (.same (Nw.upd hp2 Sa.sub) (Same.new hp2))) (.lst upd_same (DtA.strs _))
end
section
variable {X : Cx} {K : PySem.W.Frag} {w : World}
theorem crK_setW (h : X.K = K) (h2 : X.w = w) (hc : X.calm = true) : CallR X (.type "set") (rSetW K w) := h ▸ h2 ▸ cr_setW hc
theorem crK_sortW (h2 : X.w = w) (hc : X.calm = true) : CallR X (.builtin "sorted") (rSortW w) := h2 ▸ cr_sortW hc
theorem crK_sortedSA (h : X.K = K) : CallR X (.builtin "sorted") (rSortedSA K) := h ▸ cr_sortedSA
end
end B

/-! S3: order of texts, enumerate(list), xs[::-1], list(t). -/
namespace B
open PySem PySem.Spec PyProof.Rows L2
section
variable {μ : Mu} {Γ : List Sl} {n n1 n2 : Nat} {K : PySem.W.Frag} {te ta tb : TE} {ds : List PyData}
abbrev rLtS : R2 := fun x y H Q => ∃ i j, x = .str i ∧ y = .str j ∧ Q (.bl (decide (i.cps.toList < j.cps.toList))) H
theorem rd_ltS {a b : Str} : RD rLtS (.str a) (.str b) (.bool (decide (ltS a b))) := fun G H v w Q s hv hw q => by
  cases hv; cases hw
  exact ⟨a, b, rfl, rfl, q _ G H (Nw.refl _ _) s (Same.refl _) (.bl _)⟩
theorem ew_enum {t : TE} (h : Ev μ t Γ n (Eq (.list ds))) : EvW μ (iEnum K (tCons t tNil)) Γ n (Eq (enumD ds)) := fun G0 H0 G c σ H R S l q =>
  h G0 H0 G c σ H _ S l fun d v G1 H1 p S1 e1 d1 => by
    cases p
    cases d1 with
    | lst a r =>
      refine ⟨_, _, rfl, SqL.of (S1.sub _ _ a), q _ _ G1 H1 rfl S1 e1 ?_⟩
      have hl := r.length
      refine ⟨fun i H hi s p => (walk_enum (K := K)).goes i H (by rw [hl]; rw [enumD_len] at hi; exact hi) (SqL.of (s _ _ a)), fun H s p => by rw [enumD_len, ← hl]; exact (walk_enum (K := K)).stops H (SqL.of (s _ _ a)), fun i H G2 x H' hi s s1 p y => ?_⟩
      obtain ⟨T, x', y', rfl, hT, rfl, e2, e3⟩ := (walk_enum (K := K)).yields i H x H' (by rw [hl]; rw [enumD_len] at hi; exact hi) (SqL.of (s1 _ _ (s _ _ a))) y
      cases e2
      obtain ⟨d, hd, hdv⟩ := r.get e3
      exact ⟨upd G2 T (.tup [.int (i : Nat), y']), _, enumD_get hd, Nw.upd hT s1, Same.upd2 s1, Same.new hT, .tup (.key trivial) (.cons (.int _) (.one ((hdv.mono s).mono (Nw.upd hT s1).1)))⟩
theorem DtA.rev {G : Hp} {vs : List V} {ds : List PyData} (h : DtA G vs ds) : DtA G vs.reverse ds.reverse := by
  induction vs generalizing ds with
  | nil => cases h; exact .nil
  | cons v r ih =>
    cases h with
    | cons a b =>
      rw [List.reverse_cons, List.reverse_cons]
      exact (ih b).append (.one a)
theorem ev_revL (h : EvL μ te Γ n (Eq ds)) : Ev μ (tRevL K te) Γ n (Eq (.list ds.reverse)) := fun G0 H0 G c σ H Q S l q =>
  h G0 H0 G c σ H _ S l fun ds' p vs G1 H1 e S1 e1 hM hp hd => by
    subst e
    exact ⟨p, vs, rfl, SqL.of hp, fun p2 hp2 => q _ _ _ _ rfl (S1.laid hp2) (e1.trans (.same (Nw.upd hp2 S1.sub) (Same.new hp2))) (.lst upd_same (hd.rev.mono (Nw.upd hp2 S1.sub).1))⟩
theorem ev_listT (h : Ev μ te Γ n (Eq (.tuple ds))) : Ev μ (tCB (rLstOf K) (tCons te tNil)) Γ n (Eq (.list ds)) := ev_cb (ea_cons h ea_nil) fun G H vs Q s hv q => by
  cases hv with
  | cons a r =>
    cases r
    cases a with
    | tup e d => exact ⟨_, _, rfl, .inr (e.sq s), fun l hl => q _ _ _ (Nw.upd hl s) (Same.upd2 s) (Same.new hl) (.lst upd_same (d.mono (Nw.upd hl s).1))⟩
theorem ev_listL (h : EvL μ te Γ n (Eq ds)) : Ev μ (tCB (rLstOf K) (tCons te tNil)) Γ n (Eq (.list ds)) := fun G0 H0 G c σ H Q S l q =>
  h G0 H0 G c σ H _ S l fun ds' p vs G1 H1 e S1 e1 hM hp hd => by
    subst e
    exact ⟨p, vs, rfl, .inl (SqL.of hp), fun p2 hp2 => q _ _ _ _ rfl (S1.laid hp2) (e1.trans (.same (Nw.upd hp2 S1.sub) (Same.new hp2))) (.lst upd_same (hd.mono (Nw.upd hp2 S1.sub).1))⟩
end
section
variable {X : Cx} {K : PySem.W.Frag}
theorem revK_L {e : Expr} {te : TE} {k : Nat} {p1 p2 p3 pos : Pos} (h : X.K = K) (he : PE X e te) : PE X (.Subscript e (.Slice none none (some (.UnaryOp .USub (.Constant (.int 1) k p1) p2)) p3) pos) (tRevL K te) := h ▸ pe_revL he
theorem piK_enum {e : Expr} {ta : TA} {p pos tpos : Pos} {elts : List Expr} {kk : Nat} (hK : X.K = K) (hg : Gl X "enumerate") (hm : X.mg "enumerate" = none) (ha : PA X [e] ta) (hs : starEach [e] X.env = [(false, eval e X.env)] := by rfl) :
    PI X (.Tuple elts kk tpos) (.Call (.Name "enumerate" p) [e] [] pos) (iEnum K ta) := hK ▸ pi_enum hg hm ha hs
end
end B

/-! S4: min(list) over data, max(list of ints); pairings in the order of tuples. -/
namespace B
open PySem PySem.Spec PyProof.Rows L2
open PySem.W (AlikeAll minD dataLt alike alikeAll keyToks keyToksAll min_list_data lex_pre)
section
variable {X : Cx} {pins : List (Addr × Obj)} {σ : L2.St} {H : Hp} {s : Shared} {K : PySem.W.Frag}
theorem DtA.reads (I : Inv X pins σ H s) : ∀ {vs : List V} {ds : List PyData} {us : List Value}, DtA H vs ds → Vals vs us → (∀ d ∈ ds, SeqAt.shaped d = true) → ∃ as, ReadsAll s.heap us ds as
  | _, _, _, .nil, .nil, _ => ⟨[], .nil⟩
  | _, _, _, .cons h t, .cons r q, hs => by
    obtain ⟨as, h1⟩ := Dt.reads I h r (hs _ List.mem_cons_self)
    obtain ⟨bs, h2⟩ := DtA.reads I t q fun d hd => hs d (List.mem_cons_of_mem _ hd)
    exact ⟨_, .cons h1 h2⟩
theorem vals_at : ∀ {vs : List V} {us : List Value}, Vals vs us → ∀ (i : Nat) u, us[i]? = some u → ∃ v, vs[i]? = some v ∧ RelV v u
  | _, _, .nil, i, u, e => by simp at e
  | _, _, .cons a r, 0, u, e => by cases e; exact ⟨_, rfl, a⟩
  | _, _, .cons a r, i + 1, u, e => vals_at r i u (by simpa using e)
/-- min(xs), xs a list of alike data -/
def rMinD (K : PySem.W.Frag) : List V → Hp → VK → Prop := fun vs H Q => ∃ (a : Addr) (xs : List V) (d : PyData) (ds : List PyData), vs = [V.ref a] ∧ SqL K H a xs ∧ DtA H xs (d :: ds) ∧ (∀ e ∈ d :: ds, SeqAt.shaped e = true) ∧ AlikeAll (d :: ds) ∧ PyData.depthAll (d :: ds) ≤ 60 ∧
  ∀ v, v ∈ xs → Dt H v (minD d ds) → Q v H
theorem cr_minD (hc : X.calm = true) (hu : X.A.units + 70 < cLine) : CallR X (.builtin "min") (rMinD X.K) := by
  intro pins s σ H vs us Q I r h
  obtain ⟨a, xs, d, ds, rfl, hs, hx, hsh, hal, hde, q⟩ := h
  obtain ⟨its, rv, hl, hz⟩ := I.list hs
  rw [Vals.ref1 r]
  obtain ⟨as, ra⟩ := DtA.reads I hx rv hsh
  refine min_list_data (I.ok.hd hc) hl.isList (by simpa using ra) hal (by omega) fun i v h' tk bs hv hr hk => ?_
  have hv' : its[i]? = some v := by simpa using hv
  obtain ⟨x, hx1, hx2⟩ := vals_at rv i v hv'
  obtain ⟨e, he, hxe⟩ := hx.get hx1
  obtain ⟨cs, hrd⟩ := Dt.reads I hxe hx2 (hsh e (List.mem_of_getElem? he))
  have := (PyProof.Rows.reads_det (fun b o e _ => hk b o e) hrd hr).1
  rw [← this] at hxe
  exact ⟨x, H, I.kept hk, hx2, q x (List.mem_of_getElem? hx1) hxe⟩
theorem crK_minD (h : X.K = K) (hc : X.calm = true) (hu : X.A.units + 70 < cLine) : CallR X (.builtin "min") (rMinD K) := h ▸ cr_minD hc hu
theorem crK_max (h : X.K = K) (hc : X.calm = true) : CallR X (.builtin "max") (rMax K) := h ▸ cr_max hc
end
section
variable {μ : Mu} {Γ : List Sl} {n : Nat} {te : TE} {K : PySem.W.Frag} {ds : List PyData}
theorem ev_minD {d : PyData} (h : Ev μ te Γ n (Eq (.list (d :: ds)))) (hsh : ∀ e ∈ d :: ds, SeqAt.shaped e = true) (hal : AlikeAll (d :: ds)) (hde : PyData.depthAll (d :: ds) ≤ 60) : Ev μ (tCB (rMinD K) (tCons te tNil)) Γ n (Eq (minD d ds)) := ev_cb (ea_cons h ea_nil) fun G H vs Q s hv q => by
  cases hv with
  | cons a r =>
    cases r
    cases a with
    | lst e hd =>
      refine ⟨_, _, d, ds, rfl, SqL.of (s _ _ e), hd.mono s, hsh, hal, hde, fun v hm hv => ?_⟩
      obtain ⟨d', hd', h'⟩ := hd.mem hm
      have := Dt.det hv (h'.mono s)
      exact q v G H (Nw.refl _ _) s (Same.refl _) (this ▸ h')
theorem ev_maxL {ns : List Int} {m : Int} (h : Ev μ te Γ n (Eq (.list (ns.map .int)))) (h1 : m ∈ ns) (h2 : ∀ y ∈ ns, y ≤ m) : Ev μ (tCB (rMax K) (tCons te tNil)) Γ n (Eq (.int m)) := ev_cb (ea_cons h ea_nil) fun G H vs Q s hv q => by
  cases hv with
  | cons a r =>
    cases r
    cases a with
    | lst e hd =>
      have ev := DtA.of_ints hd
      subst ev
      refine ⟨_, ns, rfl, SqL.of (s _ _ e), List.length_pos_of_mem h1, fun m' hm hle => ?_⟩
      have : m' = m := by
        have a1 := hle m h1
        have a2 := h2 m' hm
        omega
      rw [this]
      exact q _ G H (Nw.refl _ _) s (Same.refl _) (.int m)
end
/-! ### minD -/
theorem minD_stay {t : PyData} : ∀ (ds : List PyData), (∀ e ∈ ds, dataLt e t = false) → ds.foldl (fun a y => if dataLt y a then y else a) t = t
  | [], _ => rfl
  | e :: ds, h => by
    rw [List.foldl_cons, h e List.mem_cons_self]
    exact minD_stay ds fun e he => h e (List.mem_cons_of_mem _ he)
theorem minD_is {t : PyData} : ∀ (ds : List PyData) (d : PyData), t ∈ d :: ds → (∀ e ∈ d :: ds, dataLt e t = false) → (∀ e ∈ d :: ds, e ≠ t → dataLt t e = true) → minD d ds = t
  | [], d, h, _, _ => by rw [List.mem_singleton.mp h]; rfl
  | e :: ds, d, h, h1, h2 => by
    unfold minD
    by_cases ed : d = t
    · subst ed
      exact minD_stay _ fun x hx => h1 x (List.mem_cons_of_mem _ hx)
    · rw [List.foldl_cons]
      by_cases ee : e = t
      · subst ee
        rw [h2 d List.mem_cons_self ed]
        exact minD_stay _ fun x hx => h1 x (List.mem_cons_of_mem _ (List.mem_cons_of_mem _ hx))
      · have ht : t ∈ ds := by
          rcases List.mem_cons.mp h with q | q
          · exact absurd q.symm ed
          · rcases List.mem_cons.mp q with q | q
            · exact absurd q.symm ee
            · exact q
        by_cases hl : dataLt e d = true
        · rw [if_pos hl]
          exact minD_is ds e (List.mem_cons_of_mem _ ht) (fun x hx => h1 x (List.mem_cons_of_mem _ hx)) fun x hx => h2 x (List.mem_cons_of_mem _ hx)
        · rw [if_neg hl]
          refine minD_is ds d (List.mem_cons_of_mem _ ht) (fun x hx => h1 x ?_) fun x hx => h2 x ?_
          all_goals
            rcases List.mem_cons.mp hx with q | q
            · rw [q]; exact List.mem_cons_self
            · exact List.mem_cons_of_mem _ (List.mem_cons_of_mem _ q)
/-! ### lists of pairs of numbers, in the order of tuples -/
def prD (p : Nat × Nat) : PyData := .tuple [.int (p.1 : Int), .int (p.2 : Int)]
def prsD (ps : List (Nat × Nat)) : PyData := .tuple (ps.map prD)
inductive LexP : List (Nat × Nat) → List (Nat × Nat) → Prop
  | nil {q : Nat × Nat} {qs : List (Nat × Nat)} : LexP [] (q :: qs)
  | lt {p q : Nat × Nat} {ps qs : List (Nat × Nat)} : p.1 < q.1 ∨ (p.1 = q.1 ∧ p.2 < q.2) → LexP (p :: ps) (q :: qs)
  | eq {p : Nat × Nat} {ps qs : List (Nat × Nat)} : LexP ps qs → LexP (p :: ps) (p :: qs)
theorem toks_pr (p : Nat × Nat) : keyToks (prD p) = [.inl 1, .inl (p.1 : Int), .inl 1, .inl (p.2 : Int), .inl 0] := by simp [prD, keyToks, keyToksAll]
theorem blt_i {a b : Int} : itemOrd.blt (Sum.inl a) (Sum.inl b) = decide (a < b) := rfl
theorem lex_prs : ∀ {ps qs : List (Nat × Nat)}, LexP ps qs → dataLt (prsD ps) (prsD qs) = true ∧ dataLt (prsD qs) (prsD ps) = false := by
  intro ps qs h
  unfold dataLt prsD
  simp only [keyToks]
  induction h with
  | nil =>
    simp only [List.map_nil, List.map_cons, keyToksAll]
    rw [lex_diff (by simp), lex_diff (by simp), blt_i, blt_i]
    decide
  | lt h =>
    rename_i p q ps qs
    simp only [List.map_cons, keyToksAll, toks_pr, List.cons_append, List.nil_append]
    rw [lex_self, lex_self, lex_self, lex_self]
    rcases h with h | ⟨e, h⟩
    · rw [lex_diff (by simp; omega), lex_diff (by simp; omega), blt_i, blt_i]
      exact ⟨decide_eq_true (by omega), decide_eq_false (by omega)⟩
    · rw [e, lex_self, lex_self, lex_self, lex_self, lex_diff (by simp; omega), lex_diff (by simp; omega), blt_i, blt_i]
      exact ⟨decide_eq_true (by omega), decide_eq_false (by omega)⟩
  | eq _ ih =>
    simp only [List.map_cons, keyToksAll]
    rw [lex_self, lex_self, lex_pre, lex_pre]
    exact ih
theorem lex_irr (d : PyData) : dataLt d d = false := by
  unfold dataLt
  generalize keyToks d = l
  induction l with
  | nil => rfl
  | cons x r ih => rw [lex_self]; exact ih
theorem alike_pr (p q : Nat × Nat) : alike (prD p) (prD q) = true := by simp [prD, alike, alikeAll]
theorem alike_prs : ∀ ps qs : List (Nat × Nat), alikeAll (ps.map prD) (qs.map prD) = true
  | [], _ => by simp [alikeAll]
  | _ :: _, [] => by simp [alikeAll]
  | p :: ps, q :: qs => by rw [List.map_cons, List.map_cons, alikeAll, alike_pr, alike_prs ps qs]; rfl
theorem prD_inj {p q : Nat × Nat} (h : prD p = prD q) : p = q := by
  simp only [prD, PyData.tuple.injEq, List.cons.injEq, PyData.int.injEq, and_true] at h
  exact Prod.ext (by omega) (by omega)
theorem prsD_inj : ∀ {ps qs : List (Nat × Nat)}, ps.map prD = qs.map prD → ps = qs
  | [], [], _ => rfl
  | [], _ :: _, h => by simp at h
  | _ :: _, [], h => by simp at h
  | p :: ps, q :: qs, h => by
    simp only [List.map_cons, List.cons.injEq] at h
    rw [prD_inj h.1, prsD_inj h.2]
theorem shp_prs (ps : List (Nat × Nat)) : Shp 2 (prsD ps) := shp_tup fun d hd => by
  obtain ⟨p, hp, rfl⟩ := List.mem_map.mp hd
  refine shp_tup fun d hd => ?_
  simp only [List.mem_cons, List.not_mem_nil, or_false] at hd
  rcases hd with rfl | rfl <;> exact shp_int
/-- the least of several lists of pairs -/
theorem min_prs {L : List (List (Nat × Nat))} {t : List (Nat × Nat)} {d : PyData} {ds : List PyData} (e : L.map prsD = d :: ds) (ht : t ∈ L) (h : ∀ ps ∈ L, ps ≠ t → LexP t ps) : minD d ds = prsD t := by
  refine minD_is ds d (by rw [← e]; exact List.mem_map_of_mem ht) (fun x hx => ?_) fun x hx ne => ?_
  · rw [← e] at hx
    obtain ⟨ps, hp, rfl⟩ := List.mem_map.mp hx
    by_cases q : ps = t
    · rw [q]; exact lex_irr _
    · exact (lex_prs (h ps hp q)).2
  · rw [← e] at hx
    obtain ⟨ps, hp, rfl⟩ := List.mem_map.mp hx
    exact (lex_prs (h ps hp fun q => ne (by rw [q]))).1
/-! ### pairings -/
section
variable {α : Type} [DecidableEq α]
inductive Pm (xs ys : List α) : Nat → Nat → List (Nat × Nat) → Prop
  | nil {i j : Nat} : Pm xs ys i j []
  | cons {i j a b : Nat} {z : α} {ps : List (Nat × Nat)} : i ≤ a → j ≤ b → xs[a]? = some z → ys[b]? = some z → Pm xs ys (a + 1) (b + 1) ps → Pm xs ys i j ((a, b) :: ps)
theorem Greedy.pm {xs ys : List α} {i j : Nat} {ps : List (Nat × Nat)} (h : Greedy xs ys i j ps) : Pm xs ys i j ps := by
  induction h with
  | nil _ => exact .nil
  | cons h _ ih =>
    obtain ⟨⟨h1, h2, z, h3, h4, _⟩, _⟩ := h
    exact .cons h1 h2 h3 h4 ih
theorem Pm.len {xs ys : List α} {i j : Nat} {ps : List (Nat × Nat)} (h : Pm xs ys i j ps) : ps.length ≤ lc xs ys i j := by
  induction h with
  | nil => exact Nat.zero_le _
  | cons h1 h2 h3 h4 _ ih =>
    have := pair_le h1 h2 h3 h4
    rw [List.length_cons]
    omega
theorem Pm.least {xs ys : List α} {i j : Nat} {ps g : List (Nat × Nat)} (h : Pm xs ys i j ps) (hl : ps.length = lc xs ys i j) (hg : Greedy xs ys i j g) (ne : ps ≠ g) : LexP g ps := by
  induction h generalizing g with
  | nil =>
    cases hg with
    | nil _ => exact absurd rfl ne
    | cons k1 k2 =>
      have := (Greedy.cons k1 k2).len
      rw [List.length_cons] at this
      rw [List.length_nil] at hl
      omega
  | cons h1 h2 h3 h4 hp ih =>
    rename_i i j a b z ps
    have a1 := pair_le h1 h2 h3 h4
    have a2 := hp.len
    rw [List.length_cons] at hl
    have st : Starts xs ys i j a b := ⟨h1, h2, z, h3, h4, by omega⟩
    cases hg with
    | nil h0 => omega
    | cons k1 k2 =>
      rename_i a' b' g
      rcases k1.2 a b st with q | ⟨q, q2⟩
      · exact .lt (.inl q)
      · by_cases e : b' = b
        · subst q
          subst e
          refine .eq (ih (by omega) k2 fun z => ne (by rw [z]))
        · exact .lt (.inr ⟨q, by omega⟩)
theorem Pm.mono {xs ys : List α} {i j i' j' : Nat} {ps : List (Nat × Nat)} (h : Pm xs ys i j ps) (h1 : i' ≤ i) (h2 : j' ≤ j) : Pm xs ys i' j' ps := by
  cases h with
  | nil => exact .nil
  | cons a b c d e => exact .cons (Nat.le_trans h1 a) (Nat.le_trans h2 b) c d e
end
end B

/-! S5: a new own list of data; a comprehension over what is told by a property. -/
namespace B
open PySem PySem.Spec PyProof.Rows L2
section
variable {μ : Mu} {Γ : List Sl} {n k m : Nat} {te : TE} {tt : TT} {wi : TI} {g : TG} {vs is : List Nat} {ta : TA} {r : List PyData}
theorem en_lst (h : EvA μ ta Γ 0 (Eq r)) (hl : r.length ≤ 100000 := by exact Nat.le_of_ble_eq_true rfl) : EvN μ (tLst ta) Γ r := fun G0 H0 G c σ H Q S l q =>
  h G0 H0 G c σ H _ S l fun ds vs G1 H1 p S1 e1 d1 => by
    subst p
    exact ⟨by rw [d1.length]; exact Nat.le_trans hl (by decide), fun p hp => q p vs G1 H1 S1 e1 hp d1⟩
theorem ev_lcTMP {α : Type} {enc : α → PyData} {Pa : List α → Prop} (hi : EvI μ wi Γ n (fun ds => ∃ as, Pa as ∧ ds = as.map enc)) (hm : ∀ as, Pa as → as.length ≤ 50000) (hv : ∀ i ∈ is, i ∈ vs) (h : α → PyData)
    (ht : ∀ as, Pa as → ∀ a ∈ as, ∃ Γ', EvG g (enc a) is (wipeG Γ vs) Γ' ∧ Ev μ te Γ' 0 (Eq (h a))) : Ev μ (tLc wi g tYes te vs) Γ n (fun d => ∃ as, Pa as ∧ d = .list (as.map h)) :=
  ev_lcR (w := fun _ => 0) (m := 0) hi (fun ds ⟨as, p, e⟩ => by rw [e, List.length_map]; exact hm as p) hv (fun ds i es => ∃ as, Pa as ∧ ds = as.map enc ∧ es = (as.take i).map h) (fun ds ⟨as, p, e⟩ => ⟨as, p, e, rfl⟩) (fun _ => Nat.le_refl _) (fun _ _ => Nat.le_refl _)
    (fun ds i es _ ⟨as, _, _, e⟩ => by rw [e, List.length_map, List.length_take]; omega) (fun ds es _ ⟨as, p, e1, e2⟩ => ⟨as, p, by rw [e2, e1, List.length_map, List.take_length]⟩) fun ds i d es _ hd ⟨as, p, e1, e2⟩ => by
      subst e1
      rw [List.getElem?_map] at hd
      cases ha : as[i]? with
      | none => rw [ha] at hd; cases hd
      | some a =>
        rw [ha] at hd
        cases hd
        obtain ⟨Γ', hg, he⟩ := ht as p a (List.mem_of_getElem? ha)
        refine ⟨Γ', true, 0, 0, Eq (h a), hg, fun _ _ G c σ H Q S l q => q true G H rfl S (Ext.refl _ G H), fun _ => ⟨he, fun e pe => ⟨as, p, rfl, ?_⟩⟩, (fun z => by cases z), Nat.le_refl _⟩
        rw [List.take_add_one, ha, List.map_append, ← e2, ← pe]
        rfl
variable {n2 : Nat} {K : PySem.W.Frag}
theorem ev_slTQ {tl th : TO} {P1 P2 : Option Int → Prop} {n3 : Nat} {PT : PyData → Prop} (h : Ev μ te Γ n PT) (hT : ∀ d, PT d → ∃ ds, d = .tuple ds) (h1 : EvOP μ tl Γ n2 P1) (h2 : EvOP μ th Γ n3 P2) : Ev μ (tSl (rSlAP K) te tl th) Γ (n + n2 + n3) (fun d => ∃ ds lo hi, PT (.tuple ds) ∧ P1 lo ∧ P2 hi ∧ d = .tuple (cutD ds lo hi)) := fun G0 H0 G c σ H Q S l q =>
  h G0 H0 G c σ H _ S (by omega) fun d v G1 H1 p S1 e1 d1 => h1 G0 H0 G1 _ σ H1 _ S1 (by omega) fun lo G2 H2 p2 S2 e2 => h2 G0 H0 G2 _ σ H2 _ S2 (by omega) fun hi G3 H3 p3 S3 e3 => by
    obtain ⟨ds, rfl⟩ := hT d p
    have d3 := d1.mono (e2.gg.trans e3.gg)
    have S3' : Stt μ G0 H0 G3 Γ (c + (n + n2 + n3)) σ H3 := by
      have := S3; rw [Nat.add_assoc, Nat.add_assoc] at this; rw [Nat.add_assoc]; exact this
    cases d3 with
    | tup a r =>
      refine ⟨_, _, rfl, (a.sq S3.sub), fun hw => ?_, fun _ b o ho hb => ?_⟩
      · refine q _ _ G3 H3 ⟨ds, lo, hi, p, p2, p3, rfl⟩ S3' ((e1.trans e2).trans e3) (.tup a ?_)
        have : cutD ds lo hi = ds := by
          unfold cutD
          rw [← r.length, hw.1, hw.2, List.drop_zero, Nat.sub_zero, r.length, List.take_length]
        rw [this]; exact r
      · exact q _ _ _ _ ⟨ds, lo, hi, p, p2, p3, rfl⟩ (S3'.laid hb) (((e1.trans e2).trans e3).trans (.same (Nw.upd hb S3.sub) (Same.new hb))) (.tup (.new ho) ((r.mono (Nw.upd hb S3.sub).1).cut lo hi))
/-- one of a list, by a number that is drawn or known -/
theorem ev_pick {μ : Mu} {Γ : List Sl} {ta tb : TE} {n1 n2 : Nat} {Q : PyData → Prop} {m : Nat} (h : Ev μ ta Γ n1 (fun d => ∃ xs, d = .list xs ∧ xs.length = m ∧ ∀ x ∈ xs, Q x)) (hj : Ev μ tb Γ n2 (fun d => ∃ i : Nat, d = .int (i : Int) ∧ i < m)) : Ev μ (tOp (rIxL K) ta tb) Γ (n1 + n2) Q :=
  ev_opP h hj fun x y ⟨xs, e1, h1, h2⟩ ⟨i, e2, h3⟩ => by
    subst e1 e2
    obtain ⟨v, hv, ha⟩ := atI_mem (xs := xs) (i := (i : Int)) (by omega) (by omega)
    exact ⟨v, rd_ixL ha, h2 v hv⟩
theorem ea_all {μ : Mu} {Γ : List Sl} {ta : TE} {tr : TA} {n1 n2 k : Nat} {Q : PyData → Prop} (h : Ev μ ta Γ n1 Q) (hr : EvA μ tr Γ n2 (fun xs => xs.length = k ∧ ∀ x ∈ xs, Q x)) : EvA μ (tCons ta tr) Γ (n1 + n2) (fun xs => xs.length = k + 1 ∧ ∀ x ∈ xs, Q x) :=
  ea_consP h hr fun x y h1 ⟨h2, h3⟩ => ⟨by rw [List.length_cons, h2], fun z hz => by
    rcases List.mem_cons.mp hz with e | e
    · rw [e]; exact h1
    · exact h3 z e⟩
theorem ea_all0 {μ : Mu} {Γ : List Sl} {Q : PyData → Prop} : EvA μ tNil Γ 0 (fun xs => xs.length = 0 ∧ ∀ x ∈ xs, Q x) := ea_nil.imp fun d e => by rw [← e]; exact ⟨rfl, by simp⟩
theorem ev_lstAll {μ : Mu} {Γ : List Sl} {ta : TA} {n k : Nat} {Q : PyData → Prop} (h : EvA μ ta Γ n (fun xs => xs.length = k ∧ ∀ x ∈ xs, Q x)) (hk : k ≤ 1000) : Ev μ (tLst ta) Γ n (fun d => ∃ xs, d = .list xs ∧ xs.length = k ∧ ∀ x ∈ xs, Q x) :=
  (ev_lst h fun xs ⟨e, _⟩ => by omega).imp fun d ⟨xs, ⟨e, h⟩, e2⟩ => ⟨xs, e2, e, h⟩
end
end B

/-! S6: list(zip(t, u)) of two tuples. -/
namespace B
open PySem PySem.Spec PyProof.Rows L2
section
variable {prog : Program} {w : World} {A : Around} {E : Value → Shared → Prop} {s : Shared}
theorem zt_item {z TI TO T i1 i2 l1 l2 : Addr} {f : Bool} {oT : Obj} {k1 k2 : Nat} {xs ys : Array Value} {x y : Value} {Q : Option Value → Shared → Prop} (D : ZipApart z TI TO i1 i2 l1 l2)
    (hz : IsZipHeld s.heap z TI TO T f) (hT : s.heap.get? T = some oT) (hTI : IsPair s.heap TI (.ref i1) (.ref i2))
    (h1 : s.heap.IsTupleIter i1 l1 k1) (h2 : s.heap.IsTupleIter i2 l2 k2) (hl1 : s.heap.IsTuple l1 xs) (hl2 : s.heap.IsTuple l2 ys) (hx : xs[k1]? = some x) (hy : ys[k2]? = some y)
    (hQ : ∀ h', IsZipHeld h' z TI TO T true → h'.IsTupleIter i1 l1 (k1 + 1) → h'.IsTupleIter i2 l2 (k2 + 1) → IsPair h' s.heap.objs.size x y → h'.objs.size = s.heap.objs.size + 1 →
      (∀ c o, c ≠ z → c ≠ i1 → c ≠ i2 → s.heap.get? c = some o → h'.get? c = some o) → Q (some (.ref s.heap.objs.size)) { s with heap := h' }) :
    wpAny (model prog w) A (pyNext (.ref z)) Q E s := by
  have hTy : s.TypeIs (.ref z) "zip" := ⟨_, hz, rfl⟩
  unfold pyNext
  refine wpAny_bind (wpAny_attempt (wpAny_callSpecial?_slot (name := Str.ofString "__next__") hTy F.slot_zip_next (wpAny_call_entry F.slot_zip_next hTy F.entry_zip_next ?_ (F.args_zip_next_1 _))))
  refine wpAny_bind (m := field (.ref z) 2) (wpAny_field hz rfl (x := .bool false) rfl ?_)
  refine wpAny_bind (m := field (.ref z) 3) (wpAny_field hz rfl (x := .ref TI) rfl ?_)
  refine wpAny_bind (wpAny_seqItems hTI rfl ?_)
  refine wpAny_bind (m := Builtin.SmallTypes.ownedTupleIsFree (.ref z)) (wpAny_tupleHeld_zip hz hT fun g1 hz1 s1 => ?_)
  simp only [Bool.false_eq_true, if_false]
  refine wpAny_bind ?_
  rw [← Array.forIn_toList]
  simp only [List.forIn_cons, List.forIn_nil]
  refine wpAny_bind (wpAny_bind (wpAny_holding ?_))
  refine wpAny_bind (m := Builtin.SmallTypes.nextOf (.ref i1)) (RZ.nextOf_tuple_item (s := { s with heap := g1 }) (h1.extBut s1.extBut D.i1z) (hl1.extBut s1.extBut D.l1z) hx fun g2 h12 s2 => wpAny_pure (wpAny_pure ?_))
  refine wpAny_bind (wpAny_bind (wpAny_holding ?_))
  refine wpAny_bind (m := Builtin.SmallTypes.nextOf (.ref i2)) (RZ.nextOf_tuple_item (s := { s with heap := g2 }) ((h2.extBut s1.extBut D.i2z).extBut s2.extBut D.i12.symm) ((hl2.extBut s1.extBut D.l2z).extBut s2.extBut D.l2i1) hy fun g3 h23 s3 => wpAny_pure (wpAny_pure (wpAny_pure ?_)))
  refine wpAny_bind (m := newTuple [x, y]) (wpAny_newTuple ?_)
  have hsz : g3.objs.size = s.heap.objs.size := by rw [s3.1, s2.1, s1.1]
  have hz3 : IsZipHeld g3 z TI TO T true := s3.extBut _ _ D.i2z.symm (s2.extBut _ _ D.i1z.symm hz1)
  have keep : ∀ c o, c ≠ z → c ≠ i1 → c ≠ i2 → s.heap.get? c = some o → g3.get? c = some o := fun c o c1 c2 c3 e => s3.extBut _ _ c3 (s2.extBut _ _ c2 (s1.extBut _ _ c1 e))
  have h13 : g3.IsTupleIter i1 l1 (k1 + 1) := h12.extBut s3.extBut D.i12
  have hp : IsPair (g3.push { cls := .type "tuple", data := .seq #[x, y] }) g3.objs.size x y := Heap.get?_push_size _ rfl
  have hz4 : (g3.push { cls := .type "tuple", data := .seq #[x, y] }).objs.size = g3.objs.size + 1 := Heap.size_push ..
  refine wpAny_pure ⟨_, rfl, wpAny_pure ?_⟩
  show Q (some (.ref g3.objs.size)) _
  rw [hsz] at hp hz4 ⊢
  exact hQ _ (Heap.get?_push_of_some _ hz3) (h13.at fun o e => Heap.get?_push_of_some _ e) (h23.at fun o e => Heap.get?_push_of_some _ e) hp hz4 fun c o c1 c2 c3 e => Heap.get?_push_of_some _ (keep c o c1 c2 c3 e)
theorem zt_end {z TI TO T i1 i2 l1 l2 : Addr} {f : Bool} {oT : Obj} {k1 k2 : Nat} {xs ys : Array Value} {Q : Option Value → Shared → Prop} (hh : A.handled = none) (D : ZipApart z TI TO i1 i2 l1 l2)
    (hz : IsZipHeld s.heap z TI TO T f) (hT : s.heap.get? T = some oT) (hTI : IsPair s.heap TI (.ref i1) (.ref i2))
    (h1 : s.heap.IsTupleIter i1 l1 k1) (h2 : s.heap.IsTupleIter i2 l2 k2) (hl1 : s.heap.IsTuple l1 xs) (hl2 : s.heap.IsTuple l2 ys) (hend : xs[k1]? = none ∨ ys[k2]? = none)
    (hQ : ∀ h', (∀ c o, c ≠ z → c ≠ i1 → c ≠ i2 → s.heap.get? c = some o → h'.get? c = some o) → Q none { s with heap := h' }) : wpAny (model prog w) A (pyNext (.ref z)) Q E s := by
  have hTy : s.TypeIs (.ref z) "zip" := ⟨_, hz, rfl⟩
  have fin : ∀ h' e, (∀ c o, c ≠ z → c ≠ i1 → c ≠ i2 → s.heap.get? c = some o → h'.get? c = some o) → (∃ o, h'.get? e = some o ∧ o.cls = .type "StopIteration") →
      wpAny (model prog w) A (do if ← isInstance (.ref e) (.type "StopIteration") then pure none else throw (.ref e)) Q E { s with heap := h' } := fun h' e hk he => by
    obtain ⟨o, ho, hc⟩ := he
    refine wpAny_bind (wpAny_isInstance (T := "StopIteration") (b := true) ⟨_, ho, hc⟩ isSubtype_stop ?_)
    exact wpAny_pure (hQ h' hk)
  unfold pyNext
  refine wpAny_bind (wpAny_attempt (wpAny_callSpecial?_slot (name := Str.ofString "__next__") hTy F.slot_zip_next (wpAny_call_entry F.slot_zip_next hTy F.entry_zip_next ?_ (F.args_zip_next_1 _))))
  refine wpAny_bind (m := field (.ref z) 2) (wpAny_field hz rfl (x := .bool false) rfl ?_)
  refine wpAny_bind (m := field (.ref z) 3) (wpAny_field hz rfl (x := .ref TI) rfl ?_)
  refine wpAny_bind (wpAny_seqItems hTI rfl ?_)
  refine wpAny_bind (m := Builtin.SmallTypes.ownedTupleIsFree (.ref z)) (wpAny_tupleHeld_zip hz hT fun g1 hz1 s1 => ?_)
  simp only [Bool.false_eq_true, if_false]
  refine wpAny_bind ?_
  rw [← Array.forIn_toList]
  simp only [List.forIn_cons, List.forIn_nil]
  refine wpAny_bind (wpAny_bind (wpAny_holding ?_))
  show wpAny _ _ (Builtin.SmallTypes.nextOf (.ref i1) >>= _) _ _ _
  cases hx : xs[k1]? with
  | none =>
    refine wpAny_bind (RZ.nextOf_tuple_end (s := { s with heap := g1 }) hh (h1.extBut s1.extBut D.i1z) (hl1.extBut s1.extBut D.l1z) hx fun g2 e s2 he => ?_)
    exact fin g2 e (fun c o c1 c2 _ x => s2 _ _ c2 (s1.extBut _ _ c1 x)) he
  | some x =>
    have hy : ys[k2]? = none := by
      rcases hend with h | h
      · rw [hx] at h; cases h
      · exact h
    refine wpAny_bind (RZ.nextOf_tuple_item (s := { s with heap := g1 }) (h1.extBut s1.extBut D.i1z) (hl1.extBut s1.extBut D.l1z) hx fun g2 h12 s2 => wpAny_pure (wpAny_pure ?_))
    refine wpAny_bind (wpAny_bind (wpAny_holding ?_))
    refine wpAny_bind (m := Builtin.SmallTypes.nextOf (.ref i2)) (RZ.nextOf_tuple_end (s := { s with heap := g2 }) hh ((h2.extBut s1.extBut D.i2z).extBut s2.extBut D.i12.symm) ((hl2.extBut s1.extBut D.l2z).extBut s2.extBut D.l2i1) hy fun g3 e s3 he => ?_)
    exact fin g3 e (fun c o c1 c2 c3 x => s3 _ _ c3 (s2.extBut _ _ c2 (s1.extBut _ _ c1 x))) he
end
/-! ### the loop -/
structure ZS (h : Heap) (z TI TO i1 i2 l1 l2 S : Addr) (xs ys : Array Value) (k : Nat) : Prop where
  ti : IsPair h TI (.ref i1) (.ref i2)
  a1 : h.IsTupleIter i1 l1 k
  a2 : h.IsTupleIter i2 l2 k
  b1 : h.IsTuple l1 xs
  b2 : h.IsTuple l2 ys
  zz : (IsZip h z TI TO .none ∧ ∃ a b, IsPair h TO a b) ∨ ∃ T f oT, IsZipHeld h z TI TO T f ∧ h.get? T = some oT ∧ T ≠ z ∧ T ≠ TO ∧ T ≠ i1 ∧ T ≠ i2 ∧ T ≠ S
structure SApart (S z TI TO i1 i2 l1 l2 : Addr) : Prop where
  z : z ≠ S
  ti : TI ≠ S
  to : TO ≠ S
  i1 : i1 ≠ S
  i2 : i2 ≠ S
  l1 : l1 ≠ S
  l2 : l2 ≠ S
theorem ZS.but {h h' : Heap} {z TI TO i1 i2 l1 l2 S : Addr} {xs ys : Array Value} {k : Nat} (Z : ZS h z TI TO i1 i2 l1 l2 S xs ys k) (P : SApart S z TI TO i1 i2 l1 l2) (e : ∀ b o, b ≠ S → h.get? b = some o → h'.get? b = some o) : ZS h' z TI TO i1 i2 l1 l2 S xs ys k :=
  ⟨e _ _ P.ti Z.ti, Z.a1.at fun o q => e _ o P.i1 q, Z.a2.at fun o q => e _ o P.i2 q, Z.b1.at fun o q => e _ o P.l1 q, Z.b2.at fun o q => e _ o P.l2 q,
    Z.zz.imp (fun ⟨a, x, y, b⟩ => ⟨e _ _ P.z a, x, y, e _ _ P.to b⟩) fun ⟨T, f, oT, a, b, c⟩ => ⟨T, f, oT, e _ _ P.z a, e _ _ c.2.2.2.2 b, c⟩⟩
abbrev lstO (acc : List Addr) (c : Nat) : Obj := { cls := .type "list", dict := none, data := .seq (acc.map Value.ref).toArray c, slots := #[] }
/-- the tuples made so far -/
structure Made (h : Heap) (lo : Nat) (xs ys : Array Value) (as : List Addr) : Prop where
  pair : ∀ (j : Nat) (t : Addr), as[j]? = some t → ∃ x y, xs[j]? = some x ∧ ys[j]? = some y ∧ IsPair h t x y
  lo : ∀ t ∈ as, lo ≤ t ∧ t < h.objs.size
  up : as.Pairwise (· < ·)
section
variable {prog : Program} {w : World} {A : Around} {E : Value → Shared → Prop}
theorem zl_loop {z TI TO i1 i2 l1 l2 S : Addr} {xs ys : Array Value} {lo n : Nat} {res : Value} {R : Result → Shared → Prop} (hh : A.handled = none) (D : ZipApart z TI TO i1 i2 l1 l2) (P : SApart S z TI TO i1 i2 l1 l2) (hn : n = min xs.size ys.size) (hsz : n ≤ 10000000)
    (hlo : z < lo ∧ TI < lo ∧ TO < lo ∧ i1 < lo ∧ i2 < lo ∧ S < lo) :
    ∀ (m k : Nat) (s : Shared) (as : List Addr) (c : Nat), n - k = m → k ≤ n → lo ≤ s.heap.objs.size → ZS s.heap z TI TO i1 i2 l1 l2 S xs ys k → s.heap.get? S = some (lstO as c) → as.length = k → Made s.heap lo xs ys as →
      (∀ h' as' c', (∀ b o, b ≠ z → b ≠ TO → b ≠ i1 → b ≠ i2 → b ≠ S → s.heap.get? b = some o → h'.get? b = some o) → h'.get? S = some (lstO as' c') → as'.length = n → Made h' lo xs ys as' → R (.ok (.ret res)) { s with heap := h' }) →
      codeAny (model prog w) A (.builtin "list.extend.loop" ⟨[.ref S, .ref z, res], []⟩) R s := by
  have ap : ∀ t : Addr, lo ≤ t → t ≠ z ∧ t ≠ TO ∧ t ≠ i1 ∧ t ≠ i2 ∧ t ≠ S := fun t h => ⟨Nat.ne_of_gt (Nat.lt_of_lt_of_le hlo.1 h), Nat.ne_of_gt (Nat.lt_of_lt_of_le hlo.2.2.1 h), Nat.ne_of_gt (Nat.lt_of_lt_of_le hlo.2.2.2.1 h), Nat.ne_of_gt (Nat.lt_of_lt_of_le hlo.2.2.2.2.1 h), Nat.ne_of_gt (Nat.lt_of_lt_of_le hlo.2.2.2.2.2 h)⟩
  intro m
  induction m with
  | zero =>
    intro k s as c hk hkn hl Z hS hal hM hR
    have e : k = n := by omega
    subst e
    have hend : xs[k]? = none ∨ ys[k]? = none := by
      by_cases q : xs.size ≤ k
      · exact .inl (Array.getElem?_eq_none q)
      · exact .inr (Array.getElem?_eq_none (by omega))
    refine codeAny_builtin F.entry_extend_loop ?_
    rw [Around.under_plainId F.plain_extend_loop _]
    have big : ∀ h' : Heap, (∀ b o, b ≠ z → b ≠ TO → b ≠ i1 → b ≠ i2 → s.heap.get? b = some o → h'.get? b = some o) → h'.get? S = some (lstO as c) := fun h' hk => hk _ _ P.z.symm P.to.symm P.i1.symm P.i2.symm hS
    have done : ∀ h', (∀ b o, b ≠ z → b ≠ TO → b ≠ i1 → b ≠ i2 → s.heap.get? b = some o → h'.get? b = some o) → R (.ok (.ret res)) { s with heap := h' } := fun h' hk => by
      refine hR h' as c (fun b o a1 a2 a3 a4 _ e => hk b o a1 a2 a3 a4 e) (big h' hk) hal ⟨fun j t ht => ?_, fun t ht => ⟨(hM.lo t ht).1, ?_⟩, hM.up⟩
      · obtain ⟨x, y, q1, q2, q3⟩ := hM.pair j t ht
        have q := ap t (hM.lo t (List.mem_of_getElem? ht)).1
        exact ⟨x, y, q1, q2, hk _ _ q.1 q.2.1 q.2.2.1 q.2.2.2.1 q3⟩
      · obtain ⟨j, hj⟩ := List.getElem?_of_mem ht
        obtain ⟨x, y, _, _, q3⟩ := hM.pair j t hj
        have q := ap t (hM.lo t ht).1
        exact Heap.lt_size (hk _ _ q.1 q.2.1 q.2.2.1 q.2.2.2.1 q3)
    show wpAny _ A.in1 (pyNext (.ref z) >>= _) _ _ s
    rcases Z.zz with ⟨hz, a, b, hTO⟩ | ⟨T, f, oT, hz, hT, _⟩
    · exact wpAny_bind (RZ.pyNext_zipT_end (A := A.in1) hh D hz Z.ti hTO Z.a1 Z.a2 Z.b1 Z.b2 hend fun h' hk => wpAny_pure (done h' hk))
    · exact wpAny_bind (zt_end (A := A.in1) hh D hz hT Z.ti Z.a1 Z.a2 Z.b1 Z.b2 hend fun h' hk => wpAny_pure (done h' fun b o c1 _ c3 c4 e => hk b o c1 c3 c4 e))
  | succ m ih =>
    intro k s as c hk hkn hl Z hS hal hM hR
    have hkl : k < n := by omega
    obtain ⟨x, hx⟩ : ∃ x, xs[k]? = some x := ⟨xs[k]'(by omega), Array.getElem?_eq_getElem (by omega)⟩
    obtain ⟨y, hy⟩ : ∃ y, ys[k]? = some y := ⟨ys[k]'(by omega), Array.getElem?_eq_getElem (by omega)⟩
    refine codeAny_builtin F.entry_extend_loop ?_
    rw [Around.under_plainId F.plain_extend_loop _]
    have step : ∀ h', (∀ b o, b ≠ z → b ≠ TO → b ≠ i1 → b ≠ i2 → s.heap.get? b = some o → h'.get? b = some o) → h'.IsTupleIter i1 l1 (k + 1) → h'.IsTupleIter i2 l2 (k + 1) → IsPair h' s.heap.objs.size x y → h'.objs.size = s.heap.objs.size + 1 →
        (∃ T f oT, IsZipHeld h' z TI TO T f ∧ h'.get? T = some oT ∧ T ≠ z ∧ T ≠ TO ∧ T ≠ i1 ∧ T ≠ i2 ∧ T ≠ S) →
        wpAny (model prog w) A.in1 (updateSeq S (·.push (.ref s.heap.objs.size)) >>= fun _ => again (.builtin "list.extend.loop" ⟨[.ref S, .ref z, res], []⟩))
          (fun fin s' => match fin with | .done f => R (.ok f) s' | .again c' => c'.quiet = true ∧ codeAny (model prog w) A c' R s') (fun e s' => R (.error e) s') { s with heap := h' } := fun h' hk n1 n2 hp hsz' hzz => by
      have hS' : h'.get? S = some (lstO as c) := hk _ _ P.z.symm P.to.symm P.i1.symm P.i2.symm hS
      refine wpAny_bind (wpAny_updateSeq hS' rfl (wpAny_pure ⟨plainId_quiet F.plain_extend_loop _, ?_⟩) ?_ ?_)
      · have oth : ∀ b o, b ≠ S → h'.get? b = some o → (h'.update S (Obj.mapSeq (·.push (Value.ref s.heap.objs.size)))).get? b = some o := fun b o hb e => (Heap.get?_update_other _ _ (Ne.symm hb)).trans e
        have Z' : ZS h' z TI TO i1 i2 l1 l2 S xs ys (k + 1) := ⟨hk _ _ D.TIz D.TITO D.TIi1 D.TIi2 Z.ti, n1, n2, Z.b1.at fun o e => hk _ o D.l1z D.l1TO D.l1i1 D.l1i2 e, Z.b2.at fun o e => hk _ o D.l2z D.l2TO D.l2i1 D.l2i2 e, .inr hzz⟩
        have eS : (h'.update S (Obj.mapSeq (·.push (Value.ref s.heap.objs.size)))).get? S = some (lstO (as ++ [s.heap.objs.size]) (c + 1)) := by
          have := Heap.get?_update_self (Obj.mapSeq (·.push (Value.ref s.heap.objs.size))) hS' rfl
          rw [this]
          simp [Obj.mapSeq, lstO]
        have hsz2 : (h'.update S (Obj.mapSeq (·.push (Value.ref s.heap.objs.size)))).objs.size = s.heap.objs.size + 1 := by
          rw [(Heap.SameBut.update h' S (Obj.mapSeq (·.push (Value.ref s.heap.objs.size)))).1]; exact hsz'
        refine ih (k + 1) _ (as ++ [s.heap.objs.size]) (c + 1) (by omega) (by omega) (by show lo ≤ (h'.update S _).objs.size; omega) (Z'.but P oth) eS (by rw [List.length_append, hal]; rfl) ⟨fun j t ht => ?_, fun t ht => ?_, ?_⟩ fun h'' as' c' hk'' hS'' hal'' hM'' => ?_
        · by_cases q : j < as.length
          · rw [List.getElem?_append_left q] at ht
            obtain ⟨u, v, q1, q2, q3⟩ := hM.pair j t ht
            have q := ap t (hM.lo t (List.mem_of_getElem? ht)).1
            exact ⟨u, v, q1, q2, oth _ _ q.2.2.2.2 (hk _ _ q.1 q.2.1 q.2.2.1 q.2.2.2.1 q3)⟩
          · rw [List.getElem?_append_right (by omega)] at ht
            have e : j = as.length := by
              have := (List.getElem?_eq_some_iff.mp ht).1
              simp at this; omega
            rw [e, Nat.sub_self] at ht
            cases ht
            rw [e, hal]
            exact ⟨x, y, hx, hy, oth _ _ (ap _ hl).2.2.2.2 hp⟩
        · show lo ≤ t ∧ t < (h'.update S _).objs.size
          rcases List.mem_append.mp ht with q | q
          · exact ⟨(hM.lo t q).1, Nat.lt_of_lt_of_le (hM.lo t q).2 (by rw [hsz2]; exact Nat.le_succ _)⟩
          · rw [List.mem_singleton.mp q]
            exact ⟨hl, by rw [hsz2]; exact Nat.lt_succ_self _⟩
        · refine List.pairwise_append.mpr ⟨hM.up, by simp, fun a ha b hb => ?_⟩
          rw [List.mem_singleton.mp hb]
          exact (hM.lo a ha).2
        · refine hR h'' as' c' (fun b o a1 a2 a3 a4 a5 e => hk'' b o a1 a2 a3 a4 a5 (oth b o a5 (hk b o a1 a2 a3 a4 e))) hS'' hal'' hM''
      · show (as.map Value.ref).toArray.size ≤ sizeLine
        rw [List.size_toArray, List.length_map, hal]
        exact Nat.le_trans (show k ≤ 10000000 by omega) (by decide)
      · show ((as.map Value.ref).toArray.push _).size ≤ sizeLine + 1
        rw [Array.size_push, List.size_toArray, List.length_map, hal]
        exact Nat.succ_le_succ (Nat.le_trans (show k ≤ 10000000 by omega) (by decide))
    show wpAny _ A.in1 (pyNext (.ref z) >>= _) _ _ s
    rcases Z.zz with ⟨hz, a, b, hTO⟩ | ⟨T, f, oT, hz, hT, t1, t2, t3, t4, t5⟩
    · refine wpAny_bind (RZ.pyNext_zipT_item (A := A.in1) D hz Z.ti hTO Z.a1 Z.a2 Z.b1 Z.b2 hx hy fun h' q1 q2 q3 q4 q5 q6 q7 => step h' q7 q3 q4 q5 q6 ⟨s.heap.objs.size, false, _, q1, q5, ap _ hl⟩)
    · refine wpAny_bind (zt_item (A := A.in1) D hz hT Z.ti Z.a1 Z.a2 Z.b1 Z.b2 hx hy fun h' q1 q2 q3 q4 q5 q6 => step h' (fun b o c1 _ c3 c4 e => q6 b o c1 c3 c4 e) q2 q3 q4 q5 ⟨T, true, oT, q1, q6 _ _ t1 t3 t4 hT, t1, t2, t3, t4, t5⟩)
theorem zip_no_len : typeLookup (.type "zip") "__len__" = pure none := by rw [typeLookup_type, builtinLookup_eq_fast]; kernel_rfl
theorem zip_no_hint : typeLookup (.type "zip") "__length_hint__" = pure none := by rw [typeLookup_type, builtinLookup_eq_fast]; kernel_rfl
theorem call_listZip {z TI TO i1 i2 l1 l2 : Addr} {xs ys : Array Value} {s : Shared} {Q : Value → Shared → Prop} (hh : A.handled = none) (D : ZipApart z TI TO i1 i2 l1 l2) (hsz : min xs.size ys.size ≤ 10000000)
    (hz : IsZip s.heap z TI TO .none) (hTI : IsPair s.heap TI (.ref i1) (.ref i2)) {a b : Value} (hTO : IsPair s.heap TO a b) (h1 : s.heap.IsTupleIter i1 l1 0) (h2 : s.heap.IsTupleIter i2 l2 0) (b1 : s.heap.IsTuple l1 xs) (b2 : s.heap.IsTuple l2 ys)
    (hQ : ∀ h' as' c', (∀ b o, b ≠ z → b ≠ TO → b ≠ i1 → b ≠ i2 → s.heap.get? b = some o → h'.get? b = some o) → h'.get? s.heap.objs.size = some (lstO as' c') → as'.length = min xs.size ys.size → Made h' (s.heap.objs.size + 1) xs ys as' → Q (.ref s.heap.objs.size) { s with heap := h' }) :
    wpAny (model prog w) A (call (.type "list") [.ref z]) Q E s := by
  have lt : ∀ b o, s.heap.get? b = some o → b < s.heap.objs.size := fun b o e => Heap.lt_size e
  have nS : ∀ b o, s.heap.get? b = some o → b ≠ s.heap.objs.size := fun b o e => Nat.ne_of_lt (Heap.lt_size e)
  obtain ⟨o1, e1, _⟩ := id h1
  obtain ⟨o2, e2, _⟩ := id h2
  obtain ⟨o3, e3, _⟩ := id b1
  obtain ⟨o4, e4, _⟩ := id b2
  have P : SApart s.heap.objs.size z TI TO i1 i2 l1 l2 := ⟨nS _ _ hz, nS _ _ hTI, nS _ _ hTO, nS _ _ e1, nS _ _ e2, nS _ _ e3, nS _ _ e4⟩
  refine callType_codes (Q₁ := fun obj s₁ => obj = .ref s.heap.objs.size ∧ s₁ = { s with heap := s.heap.push { cls := .type "list", data := .seq #[] } }) F.called_list (F.typeCall_list_1 _) F.entry_list_init
    (code_list_new _ ⟨rfl, rfl⟩) fun obj s₁ h₁ => ?_
  obtain ⟨rfl, rfl⟩ := h₁
  have hS : (s.heap.push { cls := .type "list", data := .seq #[] }).get? s.heap.objs.size = some { cls := .type "list", data := .seq #[] } := Heap.get?_push_size _ rfl
  refine ⟨⟨_, hS, rfl⟩, F.args_list_init_2 _ _, ?_⟩
  have hz1 : IsZip (s.heap.push { cls := .type "list", data := .seq #[] }) z TI TO .none := Heap.get?_push_of_some _ hz
  have Z1 : ZS (s.heap.push { cls := .type "list", data := .seq #[] }) z TI TO i1 i2 l1 l2 s.heap.objs.size xs ys 0 := ⟨Heap.get?_push_of_some _ hTI, h1.at fun o e => Heap.get?_push_of_some _ e, h2.at fun o e => Heap.get?_push_of_some _ e, b1.at fun o e => Heap.get?_push_of_some _ e, b2.at fun o e => Heap.get?_push_of_some _ e, .inl ⟨hz1, _, _, Heap.get?_push_of_some _ hTO⟩⟩
  have hsz1 : (s.heap.push { cls := .type "list", data := .seq #[] }).objs.size = s.heap.objs.size + 1 := Heap.size_push ..
  generalize hH : s.heap.push { cls := .type "list", data := .seq #[] } = H1 at hS hz1 Z1 hsz1 ⊢
  have hold : ∀ b o, s.heap.get? b = some o → H1.get? b = some o := fun b o e => by rw [← hH]; exact Heap.get?_push_of_some _ e
  generalize hSS : s.heap.objs.size = S at *
  refine wpAny_bind (m := Builtin.List.listItems (.ref S)) ?_
  unfold Builtin.List.listItems
  refine wpAny_bind (wpAny_seqItems hS rfl (wpAny_pure ?_))
  refine wpAny_bind (m := updateSeq S (fun _ => #[])) (wpAny_updateSeq hS rfl ?_)
  have hS2 := Heap.get?_update_self (Obj.mapSeq (fun _ => (#[] : Array Value))) hS rfl
  have oth2 : ∀ b o, b ≠ S → H1.get? b = some o → (H1.update S (Obj.mapSeq (fun _ => (#[] : Array Value)))).get? b = some o := fun b o hb e => (Heap.get?_update_other _ _ (Ne.symm hb)).trans e
  have sz2 : (H1.update S (Obj.mapSeq (fun _ => (#[] : Array Value)))).objs.size = S + 1 := by rw [(Heap.SameBut.update H1 S _).1]; exact hsz1
  have Z2 := Z1.but P oth2
  have hz2 := oth2 _ _ P.z hz1
  generalize H1.update S (Obj.mapSeq (fun _ => (#[] : Array Value))) = H2 at hS2 oth2 sz2 Z2 hz2 ⊢
  refine wpAny_bind (wpAny_letGo ?_)
  unfold Builtin.List.listExtendWith
  have hTy : Shared.TypeIs { s with heap := H2 } (.ref z) "zip" := ⟨_, hz2, rfl⟩
  refine wpAny_bind (wpAny_typeOf hTy ?_)
  have k1 : Builtin.List.listSameRef (.ref S) (.ref z) = false := by simp [Builtin.List.listSameRef, P.z.symm]
  have k2 : (Value.type "zip" == Value.type "list") = false := by decide
  have k3 : (Value.type "zip" == Value.type "tuple") = false := by decide
  simp only [k1, k2, k3, Bool.or_false, Bool.false_eq_true, if_false]
  refine wpAny_bind (wpAny_pyIter_zip hz2 (wpAny_bind (wpAny_holding ?_)))
  unfold Builtin.List.listLengthHint
  refine wpAny_bind (wpAny_specialOf hTy zip_no_len ?_)
  refine wpAny_bind (m := specialOf (Value.ref z) (Str.ofString "__length_hint__")) (wpAny_specialOf hTy zip_no_hint (wpAny_pure ?_))
  refine wpAny_bind (m := rule "list.extend.makes-room") (wpAny_rule (wpAny_bind ?_))
  refine wpAny_bind (m := updateSeq S (·.push .none)) (wpAny_updateSeq hS2 rfl ?_)
  have hS3 := Heap.get?_update_self (Obj.mapSeq (·.push Value.none)) hS2 rfl
  refine wpAny_updateSeq (hz := by seq_fits) hS3 rfl ?_
  have hS4 := Heap.get?_update_self (Obj.mapSeq (·.pop)) hS3 rfl
  have oth4 : ∀ b o, b ≠ S → H2.get? b = some o → ((H2.update S (Obj.mapSeq (·.push Value.none))).update S (Obj.mapSeq (·.pop))).get? b = some o :=
    fun b o hb e => (Heap.get?_update_other _ _ (Ne.symm hb)).trans ((Heap.get?_update_other _ _ (Ne.symm hb)).trans e)
  have sz4 : ((H2.update S (Obj.mapSeq (·.push Value.none))).update S (Obj.mapSeq (·.pop))).objs.size = S + 1 := by
    rw [(Heap.SameBut.update (H2.update S (Obj.mapSeq (·.push Value.none))) S _).1, (Heap.SameBut.update H2 S _).1]; exact sz2
  refine wpAny_pure ⟨plainId_quiet F.plain_extend_loop _, zl_loop (A := A.in1) (lo := S + 1) (show A.in1.handled = none from hh) D P rfl hsz ⟨?_, ?_, ?_, ?_, ?_, Nat.lt_succ_self _⟩ (min xs.size ys.size - 0) 0 _ [] _ rfl (Nat.zero_le _) (Nat.le_of_eq sz4.symm) (Z2.but P oth4) hS4 rfl ⟨fun j t e => by simp at e, fun t e => (by cases e), .nil⟩ fun h' as' c' hk' hS' hal' hM' => ⟨rfl, ?_⟩⟩
  · exact Nat.lt_succ_of_lt (lt _ _ hz)
  · exact Nat.lt_succ_of_lt (lt _ _ hTI)
  · exact Nat.lt_succ_of_lt (lt _ _ hTO)
  · exact Nat.lt_succ_of_lt (lt _ _ e1)
  · exact Nat.lt_succ_of_lt (lt _ _ e2)
  · exact hQ h' as' c' (fun b o a1 a2 a3 a4 e => hk' b o a1 a2 a3 a4 (nS b o e) (oth4 b o (nS b o e) (oth2 b o (nS b o e) (hold b o e)))) hS' hal' hM'
end
end B

/-! S7: list(zip(t, u)) as a rule, and over data. -/
namespace B
open PySem PySem.Spec PyProof.Rows L2
def putP (ob : Addr → Obj) : Hp → List Addr → List (V × V) → Hp
  | H, a :: as, p :: ps => putP ob (upd H a (.frz (ob a) (.tup [p.1, p.2]))) as ps
  | H, _, _ => H
theorem putP_off {ob : Addr → Obj} {b : Addr} : ∀ (as : List Addr) (ps : List (V × V)) (H : Hp), b ∉ as → putP ob H as ps b = H b
  | [], _, _, _ => rfl
  | _ :: _, [], _, _ => rfl
  | a :: as, p :: ps, H, h => by
    show putP ob (upd H a (.frz (ob a) (.tup [p.1, p.2]))) as ps b = H b
    rw [putP_off as ps _ (fun z => h (List.mem_cons_of_mem _ z)), upd_ne (fun z => h (by rw [z]; exact List.mem_cons_self))]
theorem putP_at {ob : Addr → Obj} : ∀ (as : List Addr) (ps : List (V × V)) (H : Hp), as.length = ps.length → as.Nodup → ∀ (j : Nat) (t : Addr), as[j]? = some t → ∃ p, ps[j]? = some p ∧ putP ob H as ps t = some (.frz (ob t) (.tup [p.1, p.2]))
  | [], _, _, _, _, j, t, e => by simp at e
  | _ :: _, [], _, h, _, _, _, _ => by cases h
  | a :: as, p :: ps, H, h, hn, 0, t, e => by
    cases e
    refine ⟨p, rfl, ?_⟩
    show putP ob (upd H a (.frz (ob a) (.tup [p.1, p.2]))) as ps a = _
    rw [putP_off as ps _ (List.nodup_cons.mp hn).1, upd_same]
  | a :: as, p :: ps, H, h, hn, j + 1, t, e => putP_at as ps (upd H a (.frz (ob a) (.tup [p.1, p.2]))) (Nat.succ.inj h) (List.nodup_cons.mp hn).2 j t (by simpa using e)
section
variable {X : Cx} {pins : List (Addr × Obj)} {σ : L2.St} {H : Hp} {s : Shared}
theorem zip_laid {h' : Heap} {S : Addr} {xs ys : List V} {us ws : List Value} {as : List Addr} {c : Nat} (I : Inv X pins σ H s) (rx : Vals xs us) (ry : Vals ys ws) (hle : s.heap.objs.size ≤ S) (hl : as.length = (xs.zip ys).length) (hz : as.length ≤ 10000000)
    (hk : ∀ b o, s.heap.get? b = some o → h'.get? b = some o) (hS : h'.get? S = some (lstO as c)) (hM : Made h' (S + 1) us.toArray ws.toArray as) :
    ∃ H' : Hp, (∀ b o, H b = some o → H' b = some o) ∧ H S = none ∧ (∀ t ∈ as, H t = none) ∧ S ∉ as ∧ H' S = some (.lst (as.map V.ref)) ∧ (∀ (j : Nat) (t : Addr), as[j]? = some t → ∃ p, (xs.zip ys)[j]? = some p ∧ ∃ o, PlO o ∧ H' t = some (.frz o (.tup [p.1, p.2]))) ∧ Inv X pins σ H' { s with heap := h', toks := s.toks } := by
  have above : ∀ t ∈ as, S < t := fun t ht => (hM.lo t ht).1
  have hSn : S ∉ as := fun z => Nat.lt_irrefl _ (above _ z)
  have nd : as.Nodup := List.Pairwise.imp (S := fun a b => a ≠ b) (fun {a b} (h : a < b) => Nat.ne_of_lt h) hM.up
  have new : ∀ t ∈ as, H t = none := fun t ht => I.hok.fresh (Nat.le_trans hle (Nat.le_of_lt (above t ht)))
  have newS : H S = none := I.hok.fresh hle
  let ob : Addr → Obj := fun b => (h'.get? b).getD { cls := .type "tuple", data := .seq #[] }
  have atP := putP_at (ob := ob) as (xs.zip ys) (upd H S (.lst (as.map V.ref))) hl nd
  have off : ∀ b, b ∉ as → b ≠ S → putP ob (upd H S (.lst (as.map V.ref))) as (xs.zip ys) b = H b := fun b h1 h2 => by rw [putP_off as _ _ h1, upd_ne h2]
  have low : ∀ b o, s.heap.get? b = some o → b ∉ as ∧ b ≠ S := fun b o e => ⟨fun z => absurd (Heap.lt_size e) (Nat.not_lt.mpr (Nat.le_trans hle (Nat.le_of_lt (above b z)))), fun z => by
    have := Heap.lt_size e
    rw [z] at this
    exact absurd this (Nat.not_lt.mpr hle)⟩
  have kp : ∀ b u, H b = some u → (putP ob (upd H S (.lst (as.map V.ref))) as (xs.zip ys)) b = some u := fun b u e => by
    rw [off b (fun z => by rw [new b z] at e; cases e) (fun z => by rw [z, newS] at e; cases e)]
    exact e
  have eS : putP ob (upd H S (.lst (as.map V.ref))) as (xs.zip ys) S = some (.lst (as.map V.ref)) := by rw [putP_off as _ _ hSn, upd_same]
  have obE : ∀ (j : Nat) (t : Addr), as[j]? = some t → PlO (ob t) := fun j t e => by
    obtain ⟨x, y, f1, f2, f3⟩ := hM.pair j t e
    show PlO ((h'.get? t).getD _)
    rw [f3]
    exact ⟨rfl, rfl⟩
  refine ⟨putP ob (upd H S (.lst (as.map V.ref))) as (xs.zip ys), kp, newS, new, hSn, eS, fun j t e => (atP j t e).imp fun p h => ⟨h.1, ob t, obE j t e, h.2⟩, ?_⟩
  refine I.call' (ch := []) rfl ⟨fun b o q _ _ _ => hk b o q, fun b o q _ _ _ => ⟨o.slots, hk b o q⟩, fun b o q n _ => ?_, fun b o q _ => ⟨o, hk b o q⟩, fun b xs q => kp b _ q, fun b o u q => kp b _ q, fun b ps q => ⟨#[], by rw [kp b _ q]; simp⟩⟩ (fun b u q => ?_) I.bare fun b z => by simp at z
  · obtain ⟨z1, z2⟩ := low b o q
    rw [off b z1 z2]
    exact n
  · by_cases hb : b ∈ as
    · obtain ⟨j, e1⟩ := List.getElem?_of_mem hb
      obtain ⟨pk, e2, e3⟩ := atP j b e1
      rw [e3] at q
      cases q
      obtain ⟨x, y, f1, f2, f3⟩ := hM.pair j b e1
      rw [List.getElem?_zip_eq_some] at e2
      obtain ⟨x', g1, g2⟩ := vals_at rx j x (by simpa using f1)
      obtain ⟨y', g3, g4⟩ := vals_at ry j y (by simpa using f2)
      rw [e2.1] at g1
      rw [e2.2] at g3
      cases g1
      cases g3
      refine ⟨?_, by show 2 ≤ sizeLine; decide, [x, y], .cons g2 (.cons g4 .nil), ⟨_, f3, rfl, _, rfl⟩⟩
      show h'.get? b = some ((h'.get? b).getD _)
      rw [f3]
      rfl
    · by_cases hb2 : b = S
      · rw [hb2] at q ⊢
        rw [eS] at q
        cases q
        exact ⟨by rw [List.length_map]; exact Nat.le_trans hz (by decide), as.map Value.ref, c, LiI.vals_refs as, hS⟩
      · rw [off b hb hb2] at q
        exact (I.hok b u q).stay (fun d v _ y => hk d v y) (fun d y => kp d _ y) fun d xs y => kp d _ y
end
def rListZip (K : PySem.W.Frag) : List V → Hp → VK → Prop := fun vs H Q => ∃ (a b : Addr) (xs ys : List V), vs = [.ref a, .ref b] ∧ SqT K H a xs ∧ SqT K H b ys ∧ xs.length ≤ 10000000 ∧
  ∀ (H' : Hp) (p : Addr) (ts : List Addr), (∀ b o, H b = some o → H' b = some o) → H p = none → (∀ t ∈ ts, H t = none) → p ∉ ts → H' p = some (.lst (ts.map V.ref)) → ts.length = (xs.zip ys).length → (∀ (j : Nat) (t : Addr), ts[j]? = some t → ∃ q, (xs.zip ys)[j]? = some q ∧ ∃ o, PlO o ∧ H' t = some (.frz o (.tup [q.1, q.2]))) → Q (.ref p) H'
section
variable {X : Cx} {e e2 : Expr} {ta : TA} {p p2 pos pos2 : Pos}
/-- list(zip(e, e2)) -/
theorem pe_listZip (hc : X.calm = true) (ha : PA X [e, e2] ta) (hg : Gl X "list") (hm : X.mg "list" = none) (hg2 : Gl X "zip") (hm2 : X.mg "zip" = none)
    (hs : starEach [.Call (.Name "zip" p2) [e, e2] [] pos2] X.env = (false, eval (.Call (.Name "zip" p2) [e, e2] [] pos2) X.env) :: starEach [] X.env := by rfl)
    (hs2 : starEach [e, e2] X.env = (false, eval e X.env) :: starEach [e2] X.env := by rfl) (hpl : (backTo pos2 (starEach [e2] X.env)).any (·.1) = false := by rfl) :
    PE X (.Call (.Name "list" p) [.Call (.Name "zip" p2) [e, e2] [] pos2] [] pos) (tCB (rListZip X.K) ta) := by
  refine ⟨fun pins s σ H Q I hq => ?_⟩
  refine wpAny_Call_Name_kw (ld_blt I hg hm bt_list (PyProof.Rows.callWith_type1 ?_ hs rfl))
  rw [hs]
  show wpAny _ _ (spliced ((false, eval (.Call (.Name "zip" p2) [e, e2] [] pos2) X.env) :: backTo pos (starEach [] X.env))) _ _ s
  refine Calls.spliced_cons ?_
  refine Call_ (ld_blt I hg2 hm2 PyProof.Rows.boot_zip (PyProof.Rows.callWith_type1 (thn (ha.run pos2 pins s σ H _ I hq) fun us s1 ⟨vs, H1, I1, r1, q1⟩ => ?_) hs2 hpl))
  obtain ⟨a, b, xs, ys, ex, hqx, hqy, hlx, q⟩ := q1
  subst ex
  cases r1 with
  | cons r rr =>
    cases rr with
    | cons r' rr =>
      cases rr
      cases r
      cases r'
      obtain ⟨its, rv, t1, _⟩ := I1.tuple hqx
      obtain ⟨its2, rv2, t2, _⟩ := I1.tuple hqy
      obtain ⟨o1, ho1, _⟩ := id t1
      obtain ⟨o2, ho2, _⟩ := id t2
      have l1 := rv.length
      have l2 := rv2.length
      refine RZ.call_zipT (show s1.heap.IsTuple a its.toArray from t1) (show s1.heap.IsTuple b its2.toArray from t2) fun h' hz hTI hTO h1 h2 hsz hk => Calls.spliced_nil ?_
      have D := PySem.W.ktu_apart s1.heap.objs.size a b (Heap.lt_size ho1) (Heap.lt_size ho2)
      refine call_listZip (s := { s1 with heap := h' }) (xs := its.toArray) (ys := its2.toArray) (I1.ok.hd hc) D (by rw [List.size_toArray, List.size_toArray]; omega) hz hTI hTO h1 h2 ((show s1.heap.IsTuple a its.toArray from t1).at fun o e => hk _ o e) ((show s1.heap.IsTuple b its2.toArray from t2).at fun o e => hk _ o e) fun h2' as c kp hS hal hM => ?_
      have big : ∀ c o, s1.heap.get? c = some o → c ≠ s1.heap.objs.size + 4 ∧ c ≠ s1.heap.objs.size + 3 ∧ c ≠ s1.heap.objs.size ∧ c ≠ s1.heap.objs.size + 1 := fun c o e => by
        have := Heap.lt_size e
        exact ⟨Nat.ne_of_lt (Nat.lt_of_lt_of_le this (Nat.le_add_right _ _)), Nat.ne_of_lt (Nat.lt_of_lt_of_le this (Nat.le_add_right _ _)), Nat.ne_of_lt this, Nat.ne_of_lt (Nat.lt_of_lt_of_le this (Nat.le_add_right _ _))⟩
      have hzl : (xs.zip ys).length = as.length := by
        rw [List.length_zip, l1, l2, hal, List.size_toArray, List.size_toArray]
      have hle : s1.heap.objs.size ≤ h'.objs.size := by rw [hsz]; exact Nat.le_add_right _ _
      obtain ⟨H', k1, k2, k3, k4, k5, k6, J⟩ := zip_laid (S := h'.objs.size) I1 rv rv2 hle hzl.symm (by rw [← hzl, List.length_zip]; omega) (fun c o e => let z := big c o e; kp c o z.1 z.2.1 z.2.2.1 z.2.2.2 (hk c o e)) hS hM
      exact ⟨.ref _, H', J, rfl, q H' _ as k1 k2 k3 k4 k5 hzl.symm k6⟩
end
section
variable {X : Cx} {e e2 : Expr} {ta : TA} {p p2 pos pos2 : Pos} {K : PySem.W.Frag}
theorem peK_listZip (hK : X.K = K) (hc : X.calm = true) (ha : PA X [e, e2] ta) (hg : Gl X "list") (hm : X.mg "list" = none) (hg2 : Gl X "zip") (hm2 : X.mg "zip" = none)
    (hs : starEach [.Call (.Name "zip" p2) [e, e2] [] pos2] X.env = (false, eval (.Call (.Name "zip" p2) [e, e2] [] pos2) X.env) :: starEach [] X.env := by rfl)
    (hs2 : starEach [e, e2] X.env = (false, eval e X.env) :: starEach [e2] X.env := by rfl) (hpl : (backTo pos2 (starEach [e2] X.env)).any (·.1) = false := by rfl) :
    PE X (.Call (.Name "list" p) [.Call (.Name "zip" p2) [e, e2] [] pos2] [] pos) (tCB (rListZip K) ta) := hK ▸ pe_listZip hc ha hg hm hg2 hm2 hs hs2 hpl
end
/-! ### over data -/
theorem zips_data {G H H' : Hp} {p : Addr} (s : Same G H) (hH : ∀ b o, H b = some o → H' b = some o) (hp : H p = none) : ∀ {ts : List Addr} {xs ys : List V} {ds es : List PyData}, DtA G xs ds → DtA G ys es → ts.length = (xs.zip ys).length → (∀ (j : Nat) (t : Addr), ts[j]? = some t → ∃ q, (xs.zip ys)[j]? = some q ∧ ∃ o, PlO o ∧ H' t = some (.frz o (.tup [q.1, q.2]))) → (∀ t ∈ ts, H t = none) → p ∉ ts →
    ∃ G', Nw G H G' ∧ Same G' H' ∧ DtA G' (ts.map V.ref) (zipD ds es) ∧ G' p = none
  | [], _, _, _, _, h1, h2, hl, _, _, _ => by
    refine ⟨G, Nw.refl _ _, fun a o e => hH a o (s a o e), ?_, Same.free s hp⟩
    have e0 : (zipD (‹List PyData›) (‹List PyData›)).length = (zipD (‹List PyData›) (‹List PyData›)).length := rfl
    cases h1 with
    | nil => exact .nil
    | cons _ _ =>
      cases h2 with
      | nil => exact .nil
      | cons _ _ => simp at hl
  | t :: ts, _, _, _, _, .nil, _, hl, _, _, _ => by simp at hl
  | t :: ts, _, _, _, _, .cons _ _, .nil, hl, _, _, _ => by simp at hl
  | t :: ts, _, _, _, _, .cons (v := v) (d := d) hd r, .cons (v := w) (d := e) he r2, hl, hall, hn, hne => by
    obtain ⟨G', n1, s1, d1, gp⟩ := zips_data s hH hp r r2 (by simpa using hl) (fun j t' ht => by
      obtain ⟨q, q1, q2⟩ := hall (j + 1) t' (by simpa using ht)
      exact ⟨q, by simpa using q1, q2⟩) (fun a ha => hn a (List.mem_cons_of_mem _ ha)) (fun ha => hne (List.mem_cons_of_mem _ ha))
    have htn := hn t List.mem_cons_self
    obtain ⟨q, q1, ob, hob, ht⟩ := hall 0 t rfl
    have eq : q = (v, w) := by simpa using q1.symm
    subst eq
    have hpt : p ≠ t := fun z => hne (by rw [z]; exact List.mem_cons_self)
    cases hg : G' t with
    | some o =>
      have e2 := s1 t o hg
      rw [ht] at e2
      cases e2
      exact ⟨G', n1, s1, .cons (.tup (.inl ⟨_, hg, hob⟩) (.cons (hd.mono n1.1) (.one (he.mono n1.1)))) d1, gp⟩
    | none =>
      have sn := Same.new (o := HO.frz ob (HO.tup [v, w])) hg
      refine ⟨upd G' t (.frz ob (.tup [v, w])), ⟨n1.1.trans sn, fun a ha => ?_⟩, fun a o ha => ?_, .cons (.tup (.new hob) (.cons ((hd.mono n1.1).mono sn) (.one ((he.mono n1.1).mono sn)))) (d1.mono sn), ?_⟩
      · by_cases z : a = t
        · subst z; exact .inr htn
        · rw [upd_ne z] at ha; exact n1.2 a ha
      · by_cases z : a = t
        · subst z; rw [upd_same] at ha; rw [ht]; exact ha
        · rw [upd_ne z] at ha; exact s1 a o ha
      · rw [upd_ne hpt]; exact gp
section
variable {μ : Mu} {Γ : List Sl} {n : Nat} {ta : TA} {K : PySem.W.Frag} {ds es : List PyData}
theorem ev_listZip (h : EvA μ ta Γ n (Eq [.tuple ds, .tuple es])) (hl : ds.length ≤ 10000000) : Ev μ (tCB (rListZip K) ta) Γ n (Eq (.list (zipD ds es))) := fun G0 H0 G c σ H Q S l q =>
  h G0 H0 G c σ H _ S l fun xs vs G1 H1 p S1 e1 d1 => by
    cases p
    cases d1 with
    | cons x1 r1 =>
      cases r1 with
      | cons x2 r2 =>
        cases r2
        cases x1 with
        | tup a1 r1 =>
          cases x2 with
          | tup a2 r2 =>
            refine ⟨_, _, _, _, rfl, (a1.sq S1.sub), (a2.sq S1.sub), by rw [r1.length]; exact hl, fun H' a ts hH ha hts hat hl hlen hpr => ?_⟩
            obtain ⟨G', n1, s1, d1, gp⟩ := zips_data S1.sub hH ha r1 r2 hlen hpr hts hat
            have sn := Same.new (o := HO.lst (ts.map V.ref)) gp
            have nw : Nw G1 H1 (upd G' a (.lst (ts.map V.ref))) := ⟨n1.1.trans sn, fun b hb => by
              by_cases z : b = a
              · subst z; exact .inr ha
              · rw [upd_ne z] at hb; exact n1.2 b hb⟩
            have sm : Same (upd G' a (.lst (ts.map V.ref))) H' := fun b o hb => by
              by_cases z : b = a
              · subst z; rw [upd_same] at hb; rw [hl]; exact hb
              · rw [upd_ne z] at hb; exact s1 b o hb
            exact q _ _ _ _ rfl (S1.same nw sm hH) (e1.trans (.same nw hH)) (.lst upd_same (d1.mono sn))
end
end B

/-! S8: t[::-1] of a tuple; sorted over alike data (tuples with an item at least, or none a tuple), exactly. -/
namespace B
open PySem PySem.Spec PyProof.Rows L2
/-- data in order -/
def sortD (ds : List PyData) : List PyData := ds.mergeSort (PySem.W.dataLe false id)
theorem sortD_perm (ds : List PyData) : (sortD ds).Perm ds := List.mergeSort_perm _ _
theorem sortD_len (ds : List PyData) : (sortD ds).length = ds.length := (sortD_perm ds).length_eq
theorem sortD_mem {ds : List PyData} {d : PyData} : d ∈ sortD ds ↔ d ∈ ds := (sortD_perm ds).mem_iff
def rSortedD (K : PySem.W.Frag) : List V → Hp → VK → Prop := fun vs H Q => ∃ (a : Addr) (xs : List V) (ds : List PyData), vs = [V.ref a] ∧ SqL K H a xs ∧ DtA H xs ds ∧ (∀ d ∈ ds, SeqAt.shaped d = true) ∧ PySem.W.AllAlike ds ∧ PySem.W.Sortable ds ∧
  ∀ (ys : List V) (p : Addr), ys.Perm xs → DtA H ys (sortD ds) → H p = none → Q (.ref p) (upd H p (.lst ys))
theorem each_vals {R : Value → V → Prop} : ∀ {xs : List V} {us : List Value}, Vals xs us → (∀ x ∈ xs, ∀ u, RelV x u → R u x) → PySem.W.EachIs R us xs
  | _, _, .nil, _ => .nil
  | _, _, .cons r rr, h => .cons (h _ List.mem_cons_self _ r) (each_vals rr fun x hx u => h x (List.mem_cons_of_mem _ hx) u)
theorem vals_each : ∀ {xs : List V} {us : List Value}, PySem.W.EachIs (fun u x => RelV x u) us xs → Vals xs us
  | _, _, .nil => .nil
  | _, _, .cons r rr => .cons r (vals_each rr)
section
variable {X : Cx} {K : PySem.W.Frag}
theorem cr_sortedD (hu : X.A.units + 70 < cLine) : CallR X (.builtin "sorted") (rSortedD X.K) := by
  intro pins s σ H vs us Q I r h
  obtain ⟨a, xs, ds, rfl, hs, hx, hsh, hal, hso, q⟩ := h
  obtain ⟨its, rv, hl, hz⟩ := I.list hs
  rw [Vals.ref1 r]
  have hmap : xs.map (datOf H) = ds := hx.map_of fun x d h => datOf_eq h
  have dat : ∀ x ∈ xs, Dt H x (datOf H x) ∧ datOf H x ∈ ds := fun x hm => by
    obtain ⟨d, hd, h⟩ := hx.mem hm
    rw [datOf_eq h]
    exact ⟨h, hd⟩
  refine PySem.W.sorted_data (vs := its) (bs := xs) (enc := datOf H) (R := fun u x => RelV x u) hl.isList (each_vals rv fun x _ u h => h) (each_vals rv fun x hm u h => Dt.reads I (dat x hm).1 h (hsh _ (dat x hm).2)) (by rw [hmap]; exact hal) (by rw [hmap]; exact hso) hz (fun b hb => ?_) fun out ho he => ?_
  · have := SeqAt.depth_of_shaped (hsh _ (dat b hb).2)
    omega
  · obtain ⟨ep, he'⟩ := PyProof.Rows.sortedAll_at s.heap its out.toArray
    have hp := List.mergeSort_perm xs (PySem.W.dataLe false (datOf H))
    have hd : DtA H (xs.mergeSort (PySem.W.dataLe false (datOf H))) (sortD ds) := by
      have e : sortD ds = (xs.mergeSort (PySem.W.dataLe false (datOf H))).map (datOf H) := by
        unfold sortD
        rw [← hmap]
        exact (List.map_mergeSort (r := PySem.W.dataLe false (datOf H)) (s := PySem.W.dataLe false id) (f := datOf H) (fun a _ b _ => rfl)).symm
      rw [e]
      exact DtA.of_map fun x hm => (dat x (hp.mem_iff.mp hm)).1
    have hv := vals_each he
    have hlen : (xs.mergeSort (PySem.W.dataLe false (datOf H))).length ≤ sizeLine := by rw [hp.length_eq]; exact hz
    exact ⟨.ref _, upd H (s.heap.objs.size + 1) (.lst (xs.mergeSort (PySem.W.dataLe false (datOf H)))), I.laid (t' := s.toks) (fun _ _ => PyProof.Rows.sortedAll_old) (Nat.le_succ _) ⟨hlen, out, ep, hv, he'⟩, rfl, q _ _ hp hd (I.hok.fresh (Nat.le_succ _))⟩
theorem crK_sortedD (h : X.K = K) (hu : X.A.units + 70 < cLine) : CallR X (.builtin "sorted") (rSortedD K) := h ▸ cr_sortedD hu
end
section
variable {μ : Mu} {Γ : List Sl} {n : Nat} {te : TE} {K : PySem.W.Frag} {ds : List PyData}
theorem ev_sortD (h : EvL μ te Γ n (Eq ds)) (hsh : ∀ d ∈ ds, SeqAt.shaped d = true) (hal : PySem.W.AllAlike ds) (hso : PySem.W.Sortable ds) : Ev μ (tCB (rSortedD K) (tCons te tNil)) Γ n (Eq (.list (sortD ds))) := fun G0 H0 G c σ H Q S l q =>
  h G0 H0 G c σ H _ S l fun ds' p vs G1 H1 e S1 e1 hM hp hd => by
    subst e
    refine ⟨p, vs, _, rfl, SqL.of hp, hd.mono S1.sub, hsh, hal, hso, fun ys p2 pv hy hp2 => ?_⟩
    have hy' : DtA G1 ys (sortD ds) := DtA.of_mem S1.sub hy fun y hm => by
      obtain ⟨d, _, h⟩ := hd.mem (pv.mem_iff.mp hm)
      exact ⟨d, h⟩
    exact q _ _ _ _ rfl (S1.laid hp2) (e1.trans (.same (Nw.upd hp2 S1.sub) (Same.new hp2))) (.lst upd_same (hy'.mono (Nw.upd hp2 S1.sub).1))
end
/-! ### t[::-1], t a tuple -/
section
variable {prog : Program} {w : World} {A : Around} {E : Value → Shared → Prop} {s : Shared}
theorem sliceApplied_rev {sl : Addr} {vl vu vs : Value} {n : Nat} {Q : Int × Int × Nat → Shared → Prop} (hs : s.heap.IsSliceOf sl vl vu vs) (pl : IsPart vl none) (pu : IsPart vu none) (ps : IsPart vs (some (-1)))
    (h : Q ((n : Int) - 1, -1, n) s) : wpAny (model prog w) A (Builtin.Slice.sliceApplied (.ref sl) (pure (n : Int))) Q E s := by
  obtain ⟨os, hos, hcs, hds⟩ := id hs
  unfold Builtin.Slice.sliceApplied Builtin.Slice.sliceFields
  refine wpAny_bind (wpAny_bind (wpAny_field hos hds (x := vl) rfl (wpAny_bind (wpAny_field hos hds (x := vu) rfl (wpAny_bind (wpAny_field hos hds (x := vs) rfl (wpAny_pure ?_)))))))
  refine wpAny_bind (HT.slicePart_ ps ?_)
  show wpAny _ _ (if ((-1 : Int) == 0) = true then _ else _) _ _ s
  rw [if_neg (by decide)]
  refine wpAny_bind (HT.slicePart_ pl (wpAny_bind (HT.slicePart_ pu (wpAny_bind (wpAny_pure ?_)))))
  have e1 : Builtin.Slice.sliceAdjust none none (-1) (n : Int) = ((n : Int) - 1, -1) := by
    unfold Builtin.Slice.sliceAdjust
    simp
  show wpAny _ _ (match Builtin.Slice.sliceAdjust none none (-1) (n : Int) with | (lo, hi) => pure (lo, (-1 : Int), Builtin.Slice.slicePlaces lo hi (-1))) _ _ s
  rw [e1]
  show wpAny _ _ (pure ((n : Int) - 1, (-1 : Int), Builtin.Slice.slicePlaces ((n : Int) - 1) (-1) (-1))) _ _ s
  have e2 : Builtin.Slice.slicePlaces ((n : Int) - 1) (-1) (-1) = n := by
    unfold Builtin.Slice.slicePlaces
    simp
    omega
  rw [e2]
  exact wpAny_pure h
theorem pick_rev (xs : Array Value) : ((List.range xs.size).filterMap fun (m : Nat) => xs[(((xs.size : Int) - 1) + (m : Int) * (-1)).toNat]?).toArray = xs.toList.reverse.toArray := by
  rw [← PySem.W.krv_pick]
  unfold slicePick
  rw [PySem.W.krv_bounds]
  show _ = ((sliceRange ((xs.size : Int) - 1) (-1) (-1)).filterMap (xs[·]?)).toArray
  rw [PySem.W.krv_sliceRange, List.filterMap_map]
  congr 2
  funext m
  show _ = xs[xs.size - 1 - m]?
  have e : (((xs.size : Int) - 1) + (m : Int) * (-1)).toNat = xs.size - 1 - m := by omega
  rw [e]
theorem getItem_tuple_rev {t sl : Addr} {items : Array Value} {vl vu vs : Value} {Q : Value → Shared → Prop} (ht : IsTup s.heap t items) (hs : s.heap.IsSliceOf sl vl vu vs) (pl : IsPart vl none) (pu : IsPart vu none) (ps : IsPart vs (some (-1)))
    (h : Q (.ref s.heap.objs.size) { s with heap := s.heap.push { cls := .type "tuple", data := .seq items.toList.reverse.toArray } })
    (hsz : items.size ≤ sizeLine) : wpAny (model prog w) A (getItem (.ref t) (.ref sl)) Q E s := by
  have htake : sizeOk (.seq items.toList.reverse.toArray) := by
    show items.toList.reverse.toArray.size ≤ sizeLine
    rw [List.size_toArray, List.length_reverse, Array.length_toList]
    omega
  obtain ⟨os, hos, hcs, hds⟩ := id hs
  have hTs : s.TypeIs (.ref sl) "slice" := ⟨os, hos, hcs⟩
  unfold getItem
  try with_reducible refine wpAny_holding ?_
  first | refine wpAny_bind (wpAny_pure ?_) | skip
  refine wpAny_bind (wpAny_sequenceKey ht.typeIs (by decide) ?_)
  refine wpAny_bind (wpAny_callSpecial?_slot (name := Str.ofString "__getitem__") ht.typeIs PyProof.Rows.slot_tuple_getitem
    (wpAny_call_entry PyProof.Rows.slot_tuple_getitem ht.typeIs entry_tuple_getitem ?_ (args_tuple_getitem _ _)))
  show wpAny _ _ (Builtin.Tuple.tupleItemsOf (.ref t) >>= _) _ _ s
  refine wpAny_bind (tupleItemsOf_ ht ?_)
  refine wpAny_bind (wpAny_typeOf hTs ?_)
  rw [if_pos (by decide)]
  refine wpAny_bind (sliceApplied_rev hs pl pu ps ?_)
  have hno : ¬ ((((items.size : Int) - 1) == 0 && (-1 : Int) == 1 && items.size == items.size) = true) := by
    rw [show ((-1 : Int) == 1) = false from rfl, Bool.and_false, Bool.false_and]
    exact Bool.false_ne_true
  show wpAny _ _ (if (((items.size : Int) - 1) == 0 && (-1 : Int) == 1 && items.size == items.size) = true then _ else _) _ _ s
  rw [if_neg hno, pick_rev]
  first
    | exact wpAny_bind (m := Builtin.Tuple.tupleExact _) (wpAny_newObj_type (wpAny_pure ⟨_, rfl, wpAny_pure h⟩) htake)
    | exact wpAny_bind (m := Builtin.Tuple.tupleExact _) (wpAny_newObj_type (wpAny_bind (wpAny_pure (wpAny_pure ⟨_, rfl, wpAny_pure h⟩))) htake)
    | exact wpAny_bind (wpAny_bind (m := Builtin.Tuple.tupleExact _) (wpAny_newObj_type (wpAny_pure (wpAny_pure ⟨_, rfl, wpAny_pure h⟩)) htake))
    | exact wpAny_bind (wpAny_bind (m := Builtin.Tuple.tupleExact _) (wpAny_newObj_type (wpAny_pure ⟨_, rfl, wpAny_pure h⟩) htake))
end
def tRevT (K : PySem.W.Frag) (te : TE) : TE := fun σ H Q => te σ H fun x H1 => ∃ a xs, x = .ref a ∧ SqT K H1 a xs ∧ newT H1 xs.reverse Q
section
variable {X : Cx} {K : PySem.W.Frag}
theorem pe_revT {e : Expr} {te : TE} {k : Nat} {p1 p2 p3 pos : Pos} (he : PE X e te) : PE X (.Subscript e (.Slice none none (some (.UnaryOp .USub (.Constant (.int 1) k p1) p2)) p3) pos) (tRevT X.K te) := by
  refine ⟨fun pins s σ H Q I h => ?_⟩
  refine Subscript_ (thn (he.run pins s σ H _ I h) fun v s1 ⟨x, H1, I1, r1, q1⟩ => ?_)
  obtain ⟨a, xs, ex, hx, q⟩ := q1
  subst ex
  cases r1
  have hst : PO X (some (.UnaryOp .USub (.Constant (.int 1) k p1) p2)) (tPart (tUn (rU fun i => .int (-i)) (tC (.int 1)))) := po_some (pe_un un_neg pe_int)
  refine wpAny_Slice (thn (po_none.run pins s1 σ H1 (fun o H2 => o = none ∧ H2 = H1) I1 ⟨rfl, rfl⟩) fun vl s2 ⟨l, H2, I2, pl, el, e2⟩ => ?_)
  subst el e2
  refine thn (po_none.run pins s2 σ H2 (fun o H3 => o = none ∧ H3 = H2) I2 ⟨rfl, rfl⟩) fun vu s3 ⟨u, H3, I3, pu, eu, e3⟩ => ?_
  subst eu e3
  refine thn (hst.run pins s3 σ H3 (fun o H4 => o = some (-1) ∧ H4 = H3) I3 ⟨1, rfl, -1, rfl, rfl, rfl⟩) fun vs s4 ⟨o, H4, I4, ps, eo, e4⟩ => ?_
  subst eo e4
  have I5 : Inv X pins σ H4 { s4 with heap := s4.heap.push { cls := .type "slice", data := .fields #[vl, vu, vs] } } := I4.kept (t' := s4.toks) fun b ob q => Heap.get?_push_of_some _ q
  obtain ⟨its, r, ht, hz⟩ := I5.tuple hx
  have hlen := r.length
  show wpAny (model X.prog X.w) X.A (subscriptTail e (.Slice none none (some (.UnaryOp .USub (.Constant (.int 1) k p1) p2)) p3) (.ref a) (.ref s4.heap.objs.size)) (EP X pins σ Q) X.xe { s4 with heap := s4.heap.push { cls := .type "slice", data := .fields #[vl, vu, vs] } }
  refine tail_any (ops := [.ref a, .ref s4.heap.objs.size]) ht.typeIs (PyProof.Rows.slot_tuple_getitem.lookup) ?_ (by with_unfolding_all rfl)
  refine getItem_tuple_rev ht (Heap.IsSliceOf.new _ vl vu vs) pl pu ps ?_ (by rw [List.size_toArray]; omega)
  exact laidT I5 r.reverse (by rw [List.length_reverse]; exact hz) q
theorem revK_T {e : Expr} {te : TE} {k : Nat} {p1 p2 p3 pos : Pos} (h : X.K = K) (he : PE X e te) : PE X (.Subscript e (.Slice none none (some (.UnaryOp .USub (.Constant (.int 1) k p1) p2)) p3) pos) (tRevT K te) := h ▸ pe_revT he
end
section
variable {μ : Mu} {Γ : List Sl} {n : Nat} {te : TE} {K : PySem.W.Frag} {ds : List PyData}
theorem ev_revT (h : Ev μ te Γ n (Eq (.tuple ds))) : Ev μ (tRevT K te) Γ n (Eq (.tuple ds.reverse)) := fun G0 H0 G c σ H Q S l q =>
  h G0 H0 G c σ H _ S l fun d v G1 H1 p S1 e1 d1 => by
    subst p
    cases d1 with
    | tup a r => exact ⟨_, _, rfl, (a.sq S1.sub), fun p o ho hp => q _ _ _ _ rfl (S1.laid hp) (e1.trans (.same (Nw.upd hp S1.sub) (Same.new hp))) (.tup (.new ho) (r.rev.mono (Nw.upd hp S1.sub).1))⟩
end
/-! ### text * int -/
def rRepSt : R2 := fun x y H Q => ∃ (z : Str) (n : Int), x = .str z ∧ y = .int n ∧ MulOk z n ∧ Q (.str (Txt.mul z n)) H
theorem op_repS {X : Cx} : OpR X (binaryOp .Mult) rRepSt := by
  intro pins s σ H x y v u Q I rx ry h
  obtain ⟨z, n, rfl, rfl, hm, q⟩ := h
  obtain ⟨t, rfl⟩ := rx
  obtain ⟨t', rfl⟩ := ry
  exact SB.mul hm fun t2 k => ⟨.str _, H, I.tok _, ⟨_, rfl⟩, q⟩
theorem rd_repS {z : Str} {n : Int} (h : MulOk z n) : RD rRepSt (.str z) (.int n) (.str (Txt.mul z n)) := fun G H v w Q s hv hw q => by
  cases hv; cases hw
  exact ⟨z, n, rfl, rfl, h, q _ G H (Nw.refl _ _) s (Same.refl _) (.str _)⟩
theorem mulOk_a9 : MulOk "a" 9 := ⟨by decide +kernel, fun _ _ => by decide +kernel, fun _ _ => by decide +kernel⟩
theorem mulOk_a61 : MulOk "a" 61 := ⟨by decide +kernel, fun _ _ => by decide +kernel, fun _ _ => by decide +kernel⟩
end B

/-! S9: dict(pairs) of a list or a plain tuple, list(d). -/
namespace B
open PySem PySem.Spec PyProof.Rows L2
/-- dict(x), x a list or a plain tuple of pairs -/
def rDictP (K : PySem.W.Frag) : List V → Hp → VK → Prop := fun xs H Q => ∃ (a : Addr) (ps : List Addr) (kvs : List (Key × V)), xs = [.ref a] ∧ (SqL K H a (ps.map V.ref) ∨ ∃ o, H a = some (.frz o (.tup (ps.map V.ref))) ∧ PlO o) ∧ Paired (fun p kv => SqT K H p [kV kv.1, kv.2]) ps kvs ∧
  ∀ p, H p = none → Q (.ref p) (upd H p (.dK (mergeK [] kvs)))
section
variable {X : Cx} {K : PySem.W.Frag}
theorem pairs2_of {pins : List (Addr × Obj)} {σ : L2.St} {H : Hp} {s : Shared} (I : Inv X pins σ H s) : ∀ {ps : List Addr} {kvs : List (Key × V)}, Paired (fun p kv => SqT X.K H p [kV kv.1, kv.2]) ps kvs →
    ∃ (prs : List (Key × Value)) (qs : List (Value × Value)), KV kvs prs ∧ prs.length = ps.length ∧ qs.length = ps.length ∧ ∀ (j : Nat) (k v : Value), qs[j]? = some (k, v) → ∃ (b : Addr) (q : Key), ps[j]? = some b ∧ IsTup s.heap b #[k, v] ∧ prs[j]? = some (q, v) ∧ keyIs q k = true
  | _, _, .nil => ⟨[], [], .nil, rfl, rfl, fun j k v e => by simp at e⟩
  | _, _, .cons (a := p) (b := kv) h t => by
    obtain ⟨prs, qs, r, hl, hl2, hp⟩ := pairs2_of I t
    obtain ⟨its, rv, ht, _⟩ := I.tuple h
    obtain ⟨u, y, ei, ru, ry⟩ := vals2 rv
    subst ei
    refine ⟨(kv.1, y) :: prs, (u, y) :: qs, .cons ⟨rfl, ry⟩ r, by rw [List.length_cons, List.length_cons, hl], by rw [List.length_cons, List.length_cons, hl2], fun j k v e => ?_⟩
    cases j with
    | zero =>
      cases e
      exact ⟨p, kv.1, rfl, ht, rfl, kV_is (P := X.prog) (w := X.w) ru⟩
    | succ j =>
      obtain ⟨b, q, e1, e2, e3, e4⟩ := hp j k v (by simpa using e)
      exact ⟨b, q, by simpa using e1, e2, by simpa using e3, e4⟩
theorem cr_dictP (hc : X.calm = true) : CallR X (.type "dict") (rDictP X.K) := by
  intro pins s σ H xs us Q I r q
  obtain ⟨a, ps, kvs, ex, hq, hp, q⟩ := q
  rcases hq with hq | ⟨o, ho, hod⟩
  · exact call_dictP hc pins s σ H xs us Q I r ⟨a, ps, kvs, ex, hq, hp, q⟩
  · subst ex
    obtain ⟨u, eu, rx⟩ := vals1 r
    subst eu
    cases rx
    obtain ⟨hg, hz, its, rv, o2, hg2, hcl, n, hdat⟩ := (show ObjOk X.prog X.w H s.heap a (.frz o (.tup (ps.map V.ref))) from I.hok a _ ho)
    rw [hg] at hg2
    cases hg2
    have ei := refs_at rv
    subst ei
    rw [List.length_map] at hz
    obtain ⟨prs, qs, rel, hl, hl2, hpr⟩ := pairs2_of I hp
    have hps : PairsHave (mixKind X.prog X.w) qs.length (PairRel qs) prs := ⟨by rw [hl, hl2], fun i key v e => by
      obtain ⟨b, q, e1, e2, e3, e4⟩ := hpr i key v e
      exact ⟨q, e3, e4⟩⟩
    refine PySem.call_dict_pairs (knd := mixKind X.prog X.w) (kvs := prs) (PairArg.tuple (prog := X.prog) (w := X.w) a (ps.map Value.ref).toArray (fun j => ps.getD j 0) qs) (I.ok.hd hc) ⟨⟨o, n, hg, hcl, hod.1, hdat⟩, by rw [List.size_toArray, List.length_map, hl2], fun j k v e => ?_⟩ hps (by rw [hl2]; exact hz) fun h' tk hd' k => ?_
    · obtain ⟨b, q, e1, e2, e3, e4⟩ := hpr j k v e
      have hb : ps.getD j 0 = b := by rw [List.getD_eq_getElem?_getD, e1]; rfl
      refine ⟨?_, .inl ?_⟩
      · show (ps.map Value.ref).toArray[j]? = some (.ref (ps.getD j 0))
        rw [hb]
        simp [e1]
      · show s.heap.IsTuple (ps.getD j 0) #[k, v]
        rw [hb]
        exact e2
    · have hm : (s.heap.objs.size == sysModules) = false := beq_eq_false_iff_ne.mpr (Nat.ne_of_gt I.big)
      have hlen : (mergeK [] kvs).length ≤ sizeLine := by
        refine Nat.le_trans (length_mergeK kvs []) ?_
        rw [List.length_nil, Nat.zero_add, rel.length, hl]
        exact hz
      exact ⟨.ref s.heap.objs.size, upd H s.heap.objs.size (.dK (mergeK [] kvs)), I.laid (t' := tk) (fun b o e => k b o (by simp) e) (Nat.le_refl _) (show ObjOk X.prog X.w _ _ _ (.dK (mergeK [] kvs)) from ⟨hlen, hm, merged [] prs, KV.merge rel .nil, hd'⟩), rfl, q _ (I.hok.fresh (Nat.le_refl _))⟩
theorem crK_dictP (h : X.K = K) (hc : X.calm = true) : CallR X (.type "dict") (rDictP K) := h ▸ cr_dictP hc
end
/-! ### over data -/
def mergeM (acc more : List (Key × PyData)) : List (Key × PyData) := more.foldl (fun acc e => putM acc e.1 e.2) acc
theorem DtM.merge {G : Hp} : ∀ {kvs acc : List (Key × V)} {es bs : List (Key × PyData)}, DtM G kvs es → DtM G acc bs → DtM G (mergeK acc kvs) (mergeM bs es)
  | [], _, _, _, .nil, h => h
  | (k, v) :: kvs, acc, (_, d) :: es, bs, .cons a r, h => DtM.merge (acc := putK acc k v) (bs := putM bs k d) r (h.put a)
theorem pairs_in {G : Hp} : ∀ {es : List (Key × PyData)} {vs : List V}, DtA G vs (itemsD es) → ∃ (ps : List Addr) (kvs : List (Key × V)), vs = ps.map V.ref ∧ Paired (fun p kv => TpA G p [kV kv.1, kv.2]) ps kvs ∧ DtM G kvs es
  | [], vs, h => by
    cases h
    exact ⟨[], [], rfl, .nil, .nil⟩
  | (k, d) :: es, vs, h => by
    cases h with
    | cons a r =>
      obtain ⟨ps, kvs, rfl, h1, h2⟩ := pairs_in r
      cases a with
      | tup t m =>
        cases m with
        | cons m1 m2 =>
          cases m2 with
          | cons m2 m3 =>
            cases m3
            have e := m1.ofKey
            subst e
            exact ⟨_ :: ps, (k, _) :: kvs, rfl, .cons t h1, .cons m2 h2⟩
theorem paired_imp {α β : Type} {R S : α → β → Prop} (h : ∀ a b, R a b → S a b) : ∀ {as : List α} {bs : List β}, Paired R as bs → Paired S as bs
  | _, _, .nil => .nil
  | _, _, .cons a r => .cons (h _ _ a) (paired_imp h r)
theorem refs_noK (ps : List Addr) : ¬ kHead (ps.map V.ref) := by rcases ps with _ | ⟨a, _ | ⟨b, r⟩⟩ <;> exact fun h => h
def dictD (es : List (Key × PyData)) : PyData := .dict (es.map fun e => (keyD e.1, e.2))
section
variable {μ : Mu} {Γ : List Sl} {n c i : Nat} {te : TE} {K : PySem.W.Frag} {es : List (Key × PyData)}
/-- what dict(x) makes: a new dict -/
def EvNd (μ : Mu) (te : TE) (Γ : List Sl) (n : Nat) (es : List (Key × PyData)) : Prop :=
  ∀ (G0 H0 G : Hp) (c : Nat) (σ : L2.St) (H : Hp) (Q : VK), Stt μ G0 H0 G Γ c σ H → c + n ≤ CM →
    (∀ p kvs G' H', Stt μ G0 H0 G' Γ (c + n) σ H' → Ext μ.M G H G' H' → H' p = none → DtM G' kvs es → Q (.ref p) (upd H' p (.dK kvs))) → te σ H Q
theorem en_dictT (h : Ev μ te Γ n (Eq (.tuple (itemsD es)))) : EvNd μ (tCB (rDictP K) (tCons te tNil)) Γ n (mergeM [] es) := fun G0 H0 G c σ H Q S l q =>
  h G0 H0 G c σ H _ S l fun d v G1 H1 p S1 e1 d1 => by
    subst p
    cases d1 with
    | tup a r =>
      obtain ⟨ps, kvs, rfl, h1, h2⟩ := pairs_in r
      obtain ⟨o, ho, hod⟩ := a.plain (refs_noK ps)
      exact ⟨_, ps, kvs, rfl, .inr ⟨o, S1.sub _ _ ho, hod⟩, paired_imp (fun p kv t => t.sq S1.sub) h1, fun p hp => q p _ G1 H1 S1 e1 hp (h2.merge .nil)⟩
theorem en_dictL (h : EvL μ te Γ n (Eq (itemsD es))) : EvNd μ (tCB (rDictP K) (tCons te tNil)) Γ n (mergeM [] es) := fun G0 H0 G c σ H Q S l q =>
  h G0 H0 G c σ H _ S l fun ds' p vs G1 H1 e S1 e1 hM hp hd => by
    subst e
    obtain ⟨ps, kvs, rfl, h1, h2⟩ := pairs_in hd
    exact ⟨p, ps, kvs, rfl, .inl (SqL.of hp), paired_imp (fun p kv t => t.sq S1.sub) h1, fun p2 hp2 => q p2 _ G1 H1 S1 e1 hp2 (h2.merge .nil)⟩
/-- as data -/
theorem EvNd.ev (h : EvNd μ te Γ n es) : Ev μ te Γ n (Eq (dictD es)) := fun G0 H0 G c σ H Q S l q =>
  h G0 H0 G c σ H _ S l fun p kvs G1 H1 S1 e1 hp hm => q _ _ _ _ rfl (S1.laid hp) (e1.trans (.same (Nw.upd hp S1.sub) (Same.new hp))) (.dct upd_same (hm.toK.mono (Nw.upd hp S1.sub).1))
/-- as an own dict -/
theorem go_mapN {R : Po} (h : EvNd μ te Γ n es) (hc : c + n ≤ CM) (k : R.nx (Γ.set i (.map es)) (c + n)) : Go μ (tAsg te (gName i)) Γ c R := fun G0 H0 Gs G σ H D S gs L =>
  h G0 H0 G c σ H _ S hc fun p kvs G1 H1 S1 e1 hp hm => L.nx _ _ G1 _ _ k (S1.newOw hp ⟨kvs, rfl, hm⟩) (gs.trans e1.gg)
/-- list(d): its keys -/
def rListD : List V → Hp → VK → Prop := fun xs H Q => ∃ (a : Addr) (kvs : List (Key × V)), xs = [.ref a] ∧ Rd H a (.dK kvs) ∧ ∀ p, H p = none → Q (.ref p) (upd H p (.lst (kvs.map fun kv => kV kv.1)))
theorem crK_listD {X : Cx} (hc : X.calm = true) : CallR X (.type "list") rListD := call_listD hc
theorem DtM.keys {G : Hp} : ∀ {kvs : List (Key × V)} {es : List (Key × PyData)}, DtM G kvs es → DtA G (kvs.map fun kv => kV kv.1) (es.map fun e => keyD e.1)
  | _, _, .nil => .nil
  | _, _, .cons a r => .cons (Dt.key _) (DtM.keys r)
theorem ev_listD (h : EvD μ te Γ n es) : Ev μ (tCB rListD (tCons te tNil)) Γ n (Eq (.list (es.map fun e => keyD e.1))) := fun G0 H0 G c σ H Q S l q =>
  h G0 H0 G c σ H _ S l fun p kvs u G1 H1 S1 e1 hM hp hu hm => ⟨p, kvs, rfl, rd_of hp hu, fun p2 hp2 => q _ _ _ _ rfl (S1.laid hp2) (e1.trans (.same (Nw.upd hp2 S1.sub) (Same.new hp2))) (.lst upd_same (hm.keys.mono (Nw.upd hp2 S1.sub).1))⟩
/-- d.pop(k) as a statement -/
def dropM (es : List (Key × PyData)) (k : Key) : List (Key × PyData) := es.filter fun e => decide (e.1 ≠ k)
theorem DtM.drop {G : Hp} {k : Key} : ∀ {kvs : List (Key × V)} {es : List (Key × PyData)}, DtM G kvs es → DtM G (dropK kvs k) (dropM es k)
  | _, _, .nil => .nil
  | (k', v) :: kvs, (_, d) :: es, .cons a r => by
    have ih := DtM.drop (k := k) r
    unfold dropK dropM at ih ⊢
    by_cases e : k' = k
    · rw [List.filter_cons_of_neg (by simp [e]), List.filter_cons_of_neg (by simp [e])]
      exact ih
    · rw [List.filter_cons_of_pos (by simp [e]), List.filter_cons_of_pos (by simp [e])]
      exact .cons a ih
theorem go_dpop {R : Po} {ty : TE} {k : Key} {d : PyData} (h : Γ[i]? = some (.map es)) (hk : Ev μ ty Γ n (Eq (keyD k))) (hv : valM es k = some d) (hc : c + n ≤ CM) (kk : R.nx (Γ.set i (.map (dropM es k))) (c + n)) : Go μ (tDrop (tDPop1 (tVar i) ty)) Γ c R := fun G0 H0 Gs G σ H D S gs L => by
  obtain ⟨p, kvs, hs, hM, hp, hm⟩ := S.dct h
  refine ⟨_, hs, p, rfl, ?_, hk G0 H0 G c σ H _ S hc fun d2 v2 G2 H2 p2 S2 e2 d2' => ?_⟩
  · exact .inl ⟨kvs, .inl hp⟩
  · cases p2
    have e := d2'.ofKey
    subst e
    rcases (hm.mono e2.gg).val (k := k) with ⟨_, h2⟩ | ⟨v, d', h1, h2, h3⟩
    · rw [hv] at h2; cases h2
    · exact ⟨kvs, k, v, e2.fr _ _ hM hp, rfl, h1, L.nx _ _ G2 σ _ kk (S2.putOw h hs ⟨_, rfl, (hm.mono e2.gg).drop⟩) (gs.trans e2.gg)⟩
end
end B

/-! S10: {**a, **b}. -/
namespace B
open PySem PySem.Spec PyProof.Rows L2
section
variable {prog : Program} {w : World} {A : Around} {E : Value → Shared → Prop} {s : Shared}
theorem wpAny_dictPut_pairs {d : Addr} {kvs : List (Key × Value)} {k : Key} {key v : Value} {Q : Unit → Shared → Prop} (hkey : keyIs k key = true) (hm : s.heap.DictOf (mixKind prog w) d kvs)
    (hQ : ∀ h', h'.DictOf (mixKind prog w) d (stored kvs k v) → Heap.SameBut d s.heap h' → Q () { s with heap := h' })
    (hsz : kvs.length ≤ sizeLine) :
    wpAny (model prog w) A (dictPut d ((mixKind prog w).hash k) key v) Q E s := by
  obtain ⟨o, es, ep, ho, hc, hd, hk, hp, hn⟩ := hm
  have hes : es.size ≤ sizeLine := by
    have e1 := hp.length
    have e2 : es.toList.length = es.size := by simp
    omega
  have hkey' : (mixKind prog w).is k key = true := hkey
  unfold dictPut
  refine wpAny_bind (wpAny_dictFind_of hkey' ho hd hk ?_)
  have hidx : (es.findIdx? fun e => (mixKind prog w).is k e.key) = kvs.findIdx? fun kv => decide (kv.1 = k) := by
    rw [← hp.findIdx k]; obtain ⟨l⟩ := es; simp
  cases hi : es.findIdx? fun e => (mixKind prog w).is k e.key with
  | some i =>
    refine wpAny_updateDict ho hd (hQ _ ⟨_, _, ep, Heap.get?_update_self _ ho (Obj.isFreed_of_dict (Obj.data_mapDict hd _)),
      hc.mapDict _, Obj.data_mapDict hd _, hk.modify _ _, ?_, ?_⟩ (Heap.SameBut.update ..))
    · rw [stored, if_pos (any_of_findIdx_some (hidx ▸ hi))]
      have hl : (es.toList.findIdx? fun e => (mixKind prog w).is k e.key) = some i := by rw [← hi]; obtain ⟨l⟩ := es; simp
      have := hp.modify hn hl v
      obtain ⟨l⟩ := es
      simpa using this
    · rw [stored, if_pos (any_of_findIdx_some (hidx ▸ hi)), keys_map_store]; exact hn
  | none =>
    have hnot : k ∉ kvs.map (·.1) := not_mem_of_findIdx_none (hidx ▸ hi)
    have hany : ¬ (kvs.any fun kv => decide (kv.1 = k)) = true := by
      rw [List.any_eq_true]; rintro ⟨kv, hkv, he⟩
      exact hnot (List.mem_map.mpr ⟨kv, hkv, of_decide_eq_true he⟩)
    refine wpAny_updateDictKeys (hz := hes) ho hd (hQ _ ⟨_, _, ep + 1, Heap.get?_update_self _ ho (Obj.isFreed_of_dict (Obj.data_mapDictKeys hd _)),
      hc.mapDictKeys _, Obj.data_mapDictKeys hd _, hk.push hkey' _, ?_, ?_⟩ (Heap.SameBut.update ..))
    · rw [stored, if_neg hany]
      have := hp.append hkey' ((mixKind prog w).hash k) v
      obtain ⟨l⟩ := es
      simpa using this
    · rw [stored, if_neg hany, List.map_append, List.nodup_append]
      refine ⟨hn, by simp, ?_⟩
      intro a ha b hb
      simp only [List.map_cons, List.map_nil, List.mem_singleton] at hb
      subst hb
      exact fun e => hnot (e ▸ ha)
theorem wpAny_mergeMapping {d o : Addr} {kvs more : List (Key × Value)} {Q : Unit → Shared → Prop} (hdo : d ≠ o) (hoS : (o == sysModules) = false)
    (hd : s.heap.DictOf (mixKind prog w) d kvs) (ho : s.heap.DictOf (mixKind prog w) o more)
    (hQ : ∀ h', h'.DictOf (mixKind prog w) d (merged kvs more) → Heap.SameBut d s.heap h' → Q () { s with heap := h' })
    (hsz : kvs.length + more.length ≤ sizeLine) :
    wpAny (model prog w) A (mergeMapping d (.ref o) false) Q E s := by
  obtain ⟨od, esd, epd, hod, hcd, hdd, hkd, hpd, hnd⟩ := id hd
  obtain ⟨oo, eso, epo, hoo, hco, hdo', hko, hpo, hno⟩ := id ho
  have hT : s.TypeIs (.ref o) "dict" := ⟨oo, hoo, hco.1⟩
  unfold mergeMapping
  refine wpAny_bind (wpAny_isInstance (b := true) hT (by rfl) ?_)
  rw [if_pos rfl]
  refine wpAny_bind (wpAny_specialOf hT F.slot_dict_iter.lookup ?_)
  have e1 : (some (Value.builtin "dict.__iter__") == some (.builtin "dict.__iter__")) = true := by decide
  refine wpAny_bind (wpAny_pure ?_)
  rw [e1]
  dsimp only
  rw [if_neg (by rw [hoS]; exact Bool.false_ne_true)]
  have loop : ∀ Xb : DictEntry → Sem Unit, wpAny (model prog w) A (do
      let l ← dictEntries o
      let epoch ← dictEpoch o
      forIn (List.range l.size) PUnit.unit fun i (_ : PUnit) => (do
          let l' ← dictEntries o
          match l'[i]? with
            | some e => do
              holding [e.key, e.val] (if false = true then Xb e else dictPut d e.hash e.key e.val)
              let ep' ← dictEpoch o
              if (ep' != epoch) = true then do
                  (unsupported "dict.changed-during-merge" : Sem PUnit)
                  pure (ForInStep.yield PUnit.unit)
                else pure (ForInStep.yield PUnit.unit)
            | _ => do
              (unsupported "dict.changed-during-merge" : Sem PUnit)
              pure (ForInStep.yield PUnit.unit) : Sem (ForInStep PUnit))
      pure ()) Q E s := fun Xb => by
    have hlen : more.length = eso.size := by rw [← hpo.length]; simp
    refine wpAny_bind (wpAny_dictEntries hoo hdo' ?_)
    refine wpAny_bind (wpAny_dictEpoch hoo hdo' ?_)
    refine wpAny_bind ?_
    rw [List.range_eq_range']
    refine wpAny_forIn_list _
      (fun rest _ s' => ∃ h' i, s' = { s with heap := h' } ∧ rest = List.range' i (eso.size - i) ∧ i ≤ eso.size ∧ h'.DictOf (mixKind prog w) d (merged kvs (more.take i)) ∧ h'.get? o = some oo ∧ Heap.SameBut d s.heap h')
      _ ?_ ?_ _ _ ⟨s.heap, 0, rfl, by simp, Nat.zero_le _, by simpa [merged] using hd, hoo, Heap.SameBut.refl _ _⟩
    · rintro x rest b s' ⟨h', i, rfl, hr, hi, hd', hoo', hs'⟩
      have hlt : i < eso.size := by
        rcases Nat.lt_or_ge i eso.size with h | h
        · exact h
        · rw [Nat.sub_eq_zero_of_le h] at hr; simp at hr
      obtain ⟨rfl, hrest⟩ : x = i ∧ rest = List.range' (i + 1) (eso.size - (i + 1)) := by
        have e : eso.size - i = (eso.size - (i + 1)) + 1 := by omega
        rw [e, List.range'_succ] at hr
        injection hr with h1 h2
        exact ⟨h1, h2⟩
      refine wpAny_bind (wpAny_dictEntries hoo' hdo' ?_)
      rw [Array.getElem?_eq_getElem hlt]
      obtain ⟨kv, hkv⟩ : ∃ kv, more[x]? = some kv := ⟨more[x]'(by rw [hlen]; exact hlt), List.getElem?_eq_getElem _⟩
      obtain ⟨k, v⟩ := kv
      obtain ⟨hkey, hval⟩ := hpo.get? (e := eso[x]) (by simp [hlt]) hkv
      obtain ⟨k', hkey', hhash⟩ := hko eso[x] (Array.getElem_mem hlt)
      obtain rfl : k' = k := (mixKind prog w).inj _ _ _ hkey' hkey
      show wpAny _ _ (holding [eso[x].key, eso[x].val] (if false = true then Xb eso[x] else dictPut d eso[x].hash eso[x].key eso[x].val) >>= _) _ _ _
      rw [if_neg Bool.false_ne_true, hhash, hval]
      have hmx : (merged kvs (more.take x)).length ≤ sizeLine := by
        have e1 := merged_length_le kvs (more.take x)
        have e2 : (more.take x).length ≤ more.length := by rw [List.length_take]; omega
        omega
      refine wpAny_bind (wpAny_holding (wpAny_dictPut_pairs (hsz := hmx) hkey hd' fun h'' hd'' hs'' => ?_))
      have hoo'' : h''.get? o = some oo := (hs''.2 o (Ne.symm hdo)).trans hoo'
      refine wpAny_bind (wpAny_dictEpoch hoo'' hdo' ?_)
      rw [if_neg (by simp)]
      exact wpAny_pure ⟨h'', x + 1, rfl, hrest, hlt, by rw [merged_take_succ kvs more x (k', v) hkv]; exact hd'', hoo'', hs'.trans hs''⟩
    · rintro b s' ⟨h', i, rfl, hr, hi, hd', hoo', hs'⟩
      have hin : i = eso.size := by
        rcases Nat.lt_or_ge i eso.size with h | h
        · have e : eso.size - i = (eso.size - (i + 1)) + 1 := by omega
          rw [e, List.range'_succ] at hr; exact nomatch hr
        · exact Nat.le_antisymm hi h
      refine wpAny_pure (hQ h' ?_ hs')
      rw [hin, ← hlen, List.take_length] at hd'; exact hd'
  refine wpAny_bind (wpAny_dictEntries hod hdd ?_)
  split
  · refine wpAny_bind (wpAny_dictEntries hoo hdo' ?_)
    refine wpAny_bind ?_
    rw [← Array.forIn_toList]
    refine wpAny_forIn_list _ (fun rest _ s' => s' = s ∧ ∀ e ∈ rest, e ∈ eso.toList) _ ?_ ?_ _ _ ⟨rfl, fun _ h => h⟩
    · rintro x rest b s' ⟨rfl, hm⟩
      obtain ⟨k, hk, _⟩ := hko x (Array.mem_toList_iff.mp (hm x List.mem_cons_self))
      have hnr : ∀ a, x.key ≠ .ref a := fun a e => by
        rw [e] at hk
        rcases keyIs_shape hk with ⟨i, t, _, q⟩ | ⟨y, t, _, q⟩ <;> cases q
      split
      · rename_i a e
        exact absurd e (hnr a)
      · exact wpAny_pure ⟨rfl, fun e he => hm e (List.mem_cons_of_mem _ he)⟩
    · rintro b s' ⟨rfl, _⟩
      exact loop _
  · exact loop _
end
end B

/-! S11: {**a, **b} as a rule. -/
namespace B
open PySem PySem.Spec PyProof.Rows L2
def mergeIn (d : Addr) (m : Value) : Sem Unit :=
  (((holding [.ref d, m] (mergeMapping d m false)).onRaise fun x => do let _ ← holding [.ref d, m, x] (runValue (.builtin "proto.let_go" {}))).tryCatch fun e => do
        if ← isInstance e (.type "AttributeError") then
          rule "dict.display.not-a-mapping"; raiseError "TypeError" s!"'{← typeNameOf m}' object is not a mapping"
        throw e).onRaise fun x => do let _ ← holding [.ref d, x] (runValue (.builtin "proto.let_go" {}))
theorem dictDisplay_two (v1 v2 : Sem Value) : dictDisplay [(none, v1), (none, v2)] = (do
    let d ← alloc { cls := .type "dict", data := .dict #[] }
    let m ← holding [.ref d] v1
    mergeIn d m
    let m2 ← holding [.ref d] v2
    mergeIn d m2
    pure (.ref d)) := by
  unfold dictDisplay mergeIn
  simp
section
variable {X : Cx} {pins : List (Addr × Obj)} {σ : L2.St} {H : Hp} {s : Shared}
theorem merge_in {d a : Addr} {kvs more : List (Key × V)} {Q : Unit → Shared → Prop} (I : Inv X pins σ H s) (hd : H d = some (.dK kvs)) (ha : Rd H a (.dK more)) (hne : d ≠ a) (hl : kvs.length + more.length ≤ sizeLine)
    (hq : ∀ s', Inv X pins σ (upd H d (.dK (mergeK kvs more))) s' → Q () s') : wpAny (model X.prog X.w) X.A (mergeIn d (.ref a)) Q X.xe s := by
  obtain ⟨z, hS, vs, rel, dd⟩ := dk_of I.hok hd
  obtain ⟨z2, hS2, vs2, rel2, dd2⟩ := dk_rd I.hok ha
  unfold mergeIn
  refine wpAny_onRaise (wpAny_tryCatch (wpAny_onRaise (wpAny_holding ?_)))
  refine wpAny_mergeMapping hne hS2 dd dd2 (fun h' dd' hs => hq _ ?_) (by rw [← rel.length, ← rel2.length]; exact hl)
  have he : ∃ q, h'.get? d = some q := let ⟨q, _, _, hq, _⟩ := dd'; ⟨q, hq⟩
  exact d_write I (by rw [hd]; exact True.intro) hs he (dk_new (Nat.le_trans (length_mergeK more kvs) hl) hS (rel2.merge rel) dd')
def tDD (t1 t2 : TE) : TE := fun σ H Q => ∀ p, H p = none → t1 σ (upd H p (.dK [])) fun x H1 => ∃ (a : Addr) (m1 : List (Key × V)), x = .ref a ∧ p ≠ a ∧ H1 p = some (.dK []) ∧ Rd H1 a (.dK m1) ∧ m1.length ≤ 1000000 ∧
  t2 σ (upd H1 p (.dK (mergeK [] m1))) fun y H2 => ∃ (b : Addr) (m2 : List (Key × V)), y = .ref b ∧ p ≠ b ∧ H2 p = some (.dK (mergeK [] m1)) ∧ Rd H2 b (.dK m2) ∧ m2.length ≤ 1000000 ∧
  Q (.ref p) (upd H2 p (.dK (mergeK (mergeK [] m1) m2)))
theorem pe_dd {e1 e2 : Expr} {t1 t2 : TE} {pos : Pos} (h1 : PE X e1 t1) (h2 : PE X e2 t2) : PE X (.Dict [none, none] [e1, e2] pos) (tDD t1 t2) := by
  refine ⟨fun pins s σ H Q I h => ?_⟩
  rw [arm_eval_Dict]
  refine wpAny_bind (wpAny_standAt ?_)
  show wpAny _ _ (dictDisplay [(none, (do let x ← eval e1 X.env; standAt pos; pure x)), (none, (do let x ← eval e2 X.env; standAt pos; pure x))]) _ _ s
  rw [dictDisplay_two]
  refine wpAny_bind (wpAny_alloc ?_)
  have hf : H s.heap.objs.size = none := I.hok.fresh (Nat.le_refl _)
  have hm : (s.heap.objs.size == sysModules) = false := beq_eq_false_iff_ne.mpr (Nat.ne_of_gt I.big)
  have I0 : Inv X pins σ (upd H s.heap.objs.size (.dK [])) { s with heap := s.heap.push { cls := .type "dict", data := .dict #[] } } :=
    I.laid (t' := s.toks) (fun b u e => Heap.get?_push_of_some _ e) (Nat.le_refl _) (show ObjOk X.prog X.w _ _ _ (.dK []) from ⟨Nat.zero_le _, hm, [], .nil, Heap.DictOf.new s.heap⟩)
  refine wpAny_bind (wpAny_holding (wpAny_bind (thn (h1.run pins _ σ _ _ I0 (h _ hf)) fun u s1 ⟨x, H1, I1, r1, a, m1, ex, hne, hp1, ha, hl1, q1⟩ => wpAny_bind (wpAny_standAt (wpAny_pure ?_)))))
  subst ex
  cases r1
  refine wpAny_bind (merge_in I1 hp1 ha hne (by rw [List.length_nil, sizeLine_eq]; omega) fun s2 I2 => ?_)
  refine wpAny_bind (wpAny_holding (wpAny_bind (thn (h2.run pins _ σ _ _ I2 q1) fun u s3 ⟨y, H3, I3, r3, b, m2, ey, hne2, hp3, hb, hl2, q3⟩ => wpAny_bind (wpAny_standAt (wpAny_pure ?_)))))
  subst ey
  cases r3
  have hlm : (mergeK [] m1).length ≤ 1000000 := by
    have := length_mergeK m1 []
    rw [List.length_nil] at this
    omega
  refine wpAny_bind (merge_in I3 hp3 hb hne2 (by rw [sizeLine_eq]; omega) fun s4 I4 => ?_)
  exact wpAny_pure ⟨.ref _, _, I4, rfl, q3⟩
end
section
variable {μ : Mu} {Γ : List Sl} {n : Nat} {t1 t2 : TE} {es1 es2 : List (Key × PyData)}
theorem mergeM_len : ∀ (more acc : List (Key × PyData)), (mergeM acc more).length ≤ acc.length + more.length := by
  intro more
  induction more with
  | nil => intro acc; exact Nat.le_refl _
  | cons e r ih =>
    intro acc
    have h1 := ih (putM acc e.1 e.2)
    have h2 : (putM acc e.1 e.2).length ≤ acc.length + 1 := by
      unfold putM
      split
      · rw [List.length_map]; omega
      · rw [List.length_append]; exact Nat.le_refl _
    show (mergeM (putM acc e.1 e.2) r).length ≤ _
    rw [List.length_cons]
    omega
/-- {**d1, **d2}, the dicts known by slots that evaluation leaves -/
theorem en_dd {i j : Nat} (h1 : Γ[i]? = some (.dat (dictD es1))) (h2 : Γ[j]? = some (.dat (dictD es2))) (hl1 : es1.length ≤ 1000000) (hl2 : es2.length ≤ 1000000) : EvNd μ (tDD (tVar i) (tVar j)) Γ 0 (mergeM (mergeM [] es1) es2) := fun G0 H0 G c σ H Q S l q => by
  have rd : ∀ {i : Nat} {es : List (Key × PyData)}, Γ[i]? = some (.dat (dictD es)) → ∃ a m, σ[i]? = some (some (.ref a)) ∧ G a = some (.dK m) ∧ DtM G m es := fun {i es} h => by
    obtain ⟨v, hs, hv⟩ := S.var h
    generalize hE : dictD es = E at hv
    cases hv with
    | dct a r =>
      cases hE
      obtain ⟨ms, e, hm⟩ := DtM.of_K r
      rw [keysD_inj e]
      exact ⟨_, _, hs, a, hm⟩
    | _ => cases hE
  obtain ⟨a, m1, s1, g1, d1⟩ := rd h1
  obtain ⟨b, m2, s2, g2, d2⟩ := rd h2
  intro p hp
  have ne : ∀ {a : Addr} {u : HO}, G a = some u → p ≠ a := fun {a u} g z => by
    have := S.sub _ _ g
    rw [← z, hp] at this
    cases this
  have at1 : ∀ {a : Addr} {u w : HO}, G a = some u → upd H p w a = some u := fun g => by rw [upd_ne (Ne.symm (ne g))]; exact S.sub _ _ g
  have uu : ∀ (u w : HO), upd (upd H p u) p w = upd H p w := fun u w => by
    funext c
    by_cases z : c = p
    · rw [z, upd_same, upd_same]
    · rw [upd_ne z, upd_ne z, upd_ne z]
  refine ⟨_, s1, a, m1, rfl, ne g1, upd_same, .inl (at1 g1), by rw [d1.length]; exact hl1, ?_⟩
  rw [uu]
  refine ⟨_, s2, b, m2, rfl, ne g2, upd_same, .inl (at1 g2), by rw [d2.length]; exact hl2, ?_⟩
  rw [uu]
  exact q p _ G H S (Ext.refl _ G H) hp (d2.merge (d1.merge .nil))
end
end B

/-! S12: the walk of a dict that was just made. -/
namespace B
open PySem PySem.Spec PyProof.Rows L2
def iKeysN (td : TE) : TI := fun σ H R => td σ H fun x H1 => ∃ (d : Addr) (kvs : List (Key × V)), x = .ref d ∧ H1 d = some (.dK kvs) ∧ ∀ o, R (Itk d o kvs) (upd H1 d (.frz o (.dK kvs)))
theorem pi_keysN {X : Cx} {e tg : Expr} {td : TE} (he : PE X e td) : PI X tg e (iKeysN td) := by
  refine ⟨fun pins s σ H R I h => ?_⟩
  refine thn (he.run pins s σ H _ I h) fun u s1 ⟨x, H1, I1, rx, d, kvs, ex, hd, q⟩ => ?_
  subst ex
  obtain rfl : u = Value.ref d := rx
  obtain ⟨od, I2⟩ := I1.lock hd trivial
  obtain ⟨hs, hgd, hx, es, ep, vs, hdt, hsz, kv, hm⟩ := I2.frzK upd_same
  refine iter_keys hs hgd hx hdt (pi_one (tk := s1.toks) I2 _ (turn_keys _ hdt) ⟨_, Heap.get?_push_size _ rfl, rfl, ?_⟩ (q od))
  rw [hsz] <;> rfl
section
variable {μ : Mu} {Γ : List Sl} {n : Nat} {te : TE} {es : List (Key × PyData)}
theorem ei_keysN (h : EvNd μ te Γ n es) : EvI μ (iKeysN te) Γ n (Eq (es.map fun e => keyD e.1)) := fun G0 H0 G c σ H R S l q =>
  h G0 H0 G c σ H _ S l fun p kvs G1 H1 S1 e1 hp hm => ⟨p, kvs, rfl, upd_same, fun o => by
    rw [upd_upd]
    have nw := Nw.upd (o := HO.frz o (.dK kvs)) hp S1.sub
    refine q _ _ _ _ _ rfl (S1.laid hp) (e1.trans (.same nw (Same.new hp))) (dwalk_keys (od := o) (hm.mono nw.1)) fun x hx => ?_
    rw [List.mem_singleton.mp hx]
    exact ⟨fun m => (S1.ent p m).1 (S1.h0 hp), upd_same⟩⟩
end
end B

/-! S13: f(*xs), (a, *xs). -/
namespace B
open PySem PySem.Spec PyProof.Rows L2 StX
def tCallS (K : PySem.W.Frag) (sp : Sp) (E : XK) (te : TE) : TE := fun σ H Q => te σ H fun y H1 => ∃ a xs, y = V.ref a ∧ (SqT K H1 a xs ∨ SqL K H1 a xs) ∧ sp xs H1 Q E
section
variable {X : Cx} {CX : CXT} {k : Nat} {f : Addr} {fd : FuncData} {ps : List Str} {sp : Sp} {E : XK} {x : Str} {e : Expr} {te : TE} {p sp_ pos : Pos} {K : PySem.W.Frag}
theorem pc_callS1 (F : FnG X.prog X.w X.K X.mg X.base CX k f fd ps sp) (hG : X.A.guards = some []) (hr : Room k X.A) (hg : Gl X x) (hm : X.mg x = some (.ref f)) (hk : PySem.W.keepIn X.K (.ref f) = true) (hb : L2.Binds X.K fd ps []) (hx : Passes CX X E)
    (he : PE X e te) (hdb : (x == ("__debug__" : Str)) = false := by decide) (hst : starEach [.Starred e sp_] X.env = [(true, eval e X.env)] := by rfl) :
    PE X (.Call (.Name x p) [.Starred e sp_] [] pos) (tCallS X.K sp E te) := by
  refine ⟨fun pins s σ H Q I h => ?_⟩
  refine wpAny_Call_Name_kw (ld_glob I hg hm ?_ hdb)
  refine PySem.W.callWith_S (h₀ := X.base) I.ok.mod.kin hk (thn (he.run pins s σ H _ I h) fun v s1 ⟨y, H1, I1, ry, a, xs, ey, hxs, q⟩ => ?_) hst
  subst ey
  obtain rfl : v = Value.ref a := ry
  exact star_any I1 hxs fun us s2 I2 rv => ⟨I2.kIn, runG F hG hr hb .nil hx I2 rv (by rw [List.append_nil]; exact q)⟩
theorem pcK_callS1 (hK : X.K = K) (F : FnG X.prog X.w X.K X.mg X.base CX k f fd ps sp) (hG : X.A.guards = some []) (hr : Room k X.A) (hg : Gl X x) (hm : X.mg x = some (.ref f)) (hk : PySem.W.keepIn X.K (.ref f) = true) (hb : L2.Binds X.K fd ps []) (hx : Passes CX X E)
    (he : PE X e te) (hdb : (x == ("__debug__" : Str)) = false := by decide) (hst : starEach [.Starred e sp_] X.env = [(true, eval e X.env)] := by rfl) :
    PE X (.Call (.Name x p) [.Starred e sp_] [] pos) (tCallS K sp E te) := hK ▸ pc_callS1 F hG hr hg hm hk hb hx he hdb hst
theorem paK_star {es : List Expr} {t : TA} (hK : X.K = K) (he : PE X e te) (hr : PA X es t) (hs : starEach (.Starred e p :: es) X.env = (true, eval e X.env) :: starEach es X.env := by rfl) : PA X (.Starred e p :: es) (tStar K te t) := hK ▸ pa_star he hr hs
end
section
variable {μ : Mu} {Γ : List Sl} {n n2 : Nat} {te : TE} {t : TA} {K : PySem.W.Frag} {E : XK} {ds : List PyData}
/-- f(*xs), xs a list of data, f a pure def -/
theorem ev_callS {pre : List PyData → Prop} {post : List PyData → PyData → Prop} (h : Ev μ te Γ n (Eq (.list ds))) (hp : pre ds) : Ev μ (tCallS K (spP pre post) E te) Γ n (post ds) := fun G0 H0 G c σ H Q S l q =>
  h G0 H0 G c σ H _ S l fun d v G1 H1 p S1 e1 d1 => by
    subst p
    cases d1 with
    | lst a r => exact ⟨_, _, rfl, .inr (SqL.of (S1.sub _ _ a)), G1, ds, S1.sub, r, hp, fun d v G' H' po nw s s' hd => q d v G' H' po (S1.same nw s s') (e1.trans (.same nw s')) hd⟩
/-- *xs in a display -/
theorem ea_star {es : List PyData} (h : Ev μ te Γ n (Eq (.list ds))) (hr : EvA μ t Γ n2 (Eq es)) : EvA μ (tStar K te t) Γ (n + n2) (Eq (ds ++ es)) := fun G0 H0 G c σ H Q S l q =>
  h G0 H0 G c σ H _ S (by omega) fun d v G1 H1 p S1 e1 d1 => by
    subst p
    cases d1 with
    | lst a r =>
      refine ⟨_, _, rfl, .inr (SqL.of (S1.sub _ _ a)), hr G0 H0 G1 (c + n) σ H1 _ S1 (by omega) fun ys ws G2 H2 p2 S2 e2 d2 => ?_⟩
      subst p2
      rw [Nat.add_assoc] at S2
      exact q _ _ G2 H2 rfl S2 (e1.trans e2) ((r.mono e2.gg).append d2)
end
end B

/-! S14: zip of three tuples. -/
namespace B
open PySem PySem.Spec PyProof.Rows L2
def It3 (K : PySem.W.Frag) (a b c : Addr) (xs ys zs : List V) : It :=
  ⟨fun i H => SqT K H a xs ∧ SqT K H b ys ∧ SqT K H c zs ∧ i < min (min xs.length ys.length) zs.length,
   fun i H v H' => ∃ T x y z, v = .ref T ∧ H T = none ∧ H' = upd H T (.tup [x, y, z]) ∧ xs[i]? = some x ∧ ys[i]? = some y ∧ zs[i]? = some z,
   fun i H => SqT K H a xs ∧ SqT K H b ys ∧ SqT K H c zs ∧ i = min (min xs.length ys.length) zs.length⟩
theorem turn_zip3 {P : Program} {w : World} {K : PySem.W.Frag} {elts : List Expr} {kk : Nat} {tpos : Pos} {a b c : Addr} {N : Nat} {xs ys zs : List V} (ha : a < N) (hb : b < N) (hc : c < N) :
    Turn P w K (.Tuple elts kk tpos) (It3 K a b c xs ys zs) [N + 5, N + 3, N + 4, N, N + 1, N + 2] (N + 5) (fun i h => IsZip h (N + 5) (N + 3) (N + 4) .none ∧ IsTupOf3 h (N + 3) (.ref N) (.ref (N + 1)) (.ref (N + 2)) ∧ (∃ x y z, IsTupOf3 h (N + 4) x y z) ∧ h.IsTupleIter N a i ∧ h.IsTupleIter (N + 1) b i ∧ h.IsTupleIter (N + 2) c i) where
  mem := by simp
  obj := fun i h st d hd => by
    obtain ⟨hz, hTI, ⟨x, y, z, hTO⟩, ⟨o1, e1, _, d1⟩, ⟨o2, e2, _, d2⟩, ⟨o3, e3, _, d3⟩⟩ := st
    have e' : d = N + 5 ∨ d = N + 3 ∨ d = N + 4 ∨ d = N ∨ d = N + 1 ∨ d = N + 2 := by simpa using hd
    rcases e' with q | q | q | q | q | q
    · rw [q]; exact ⟨_, hz, fun v q => nomatch q⟩
    · rw [q]; exact ⟨_, hTI, fun v q => nomatch q⟩
    · rw [q]; exact ⟨_, hTO, fun v q => nomatch q⟩
    · rw [q]; exact ⟨o1, e1, fun v q => by rw [d1] at q; cases q⟩
    · rw [q]; exact ⟨o2, e2, fun v q => by rw [d2] at q; cases q⟩
    · rw [q]; exact ⟨o3, e3, fun v q => by rw [d3] at q; cases q⟩
  keep := fun i h h' st k => by
    obtain ⟨hz, hTI, ⟨x, y, z, hTO⟩, h1, h2, h3⟩ := st
    exact ⟨k _ (by simp) _ hz, k _ (by simp) _ hTI, ⟨x, y, z, k _ (by simp) _ hTO⟩, h1.at fun o q => k _ (by simp) o q, h2.at fun o q => k _ (by simp) o q, h3.at fun o q => k _ (by simp) o q⟩
  item := by
    intro X hP hw hK hcm i pins s σ H E I hf st hg
    subst hP hw hK
    obtain ⟨hz, hTI, hTO, h1, h2, h3⟩ := st
    obtain ⟨hqx, hqy, hqz, hi⟩ := hg
    obtain ⟨its, rv, p, _⟩ := I.tuple hqx
    obtain ⟨its2, rv2, p2, _⟩ := I.tuple hqy
    obtain ⟨its3, rv3, p3, _⟩ := I.tuple hqz
    have l1 := rv.length
    have l2 := rv2.length
    have l3 := rv3.length
    have hh := I.ok.hd hcm
    have W := WalksT.zipD3 (prog := X.prog) (w := X.w) (A := X.A) (zip_sep3 (N := N) (fp1 := [a]) (fp2 := [b]) (fp3 := [c]) (by simpa using ha) (by simpa using hb) (by simpa using hc))
      (Draws.tuple (A := X.A.in1) hh N a (Nat.ne_of_lt ha) its.toArray) (Draws.tuple (A := X.A.in1) hh (N + 1) b (Nat.ne_of_lt (Nat.lt_succ_of_lt hb)) its2.toArray) (Draws.tuple (A := X.A.in1) hh (N + 2) c (Nat.ne_of_lt (Nat.lt_of_lt_of_le hc (Nat.le_add_right _ _))) its3.toArray)
    have hN : ∀ d ∈ [N + 5, N + 3, N + 4, N, N + 1, N + 2], d < s.heap.objs.size := fun d hd => by
      have hz5 : N + 5 < s.heap.objs.size := Heap.lt_size hz
      have e' : d = N + 5 ∨ d = N + 3 ∨ d = N + 4 ∨ d = N ∨ d = N + 1 ∨ d = N + 2 := by simpa using hd
      have : d ≤ N + 5 := by rcases e' with q | q | q | q | q | q <;> (rw [q]; omega)
      exact Nat.lt_of_le_of_lt this hz5
    refine W.item i s _ _ (by simp only [List.size_toArray]; omega) ⟨hz, hTI, hTO, ⟨h1, p⟩, ⟨h2, p2⟩, ⟨h3, p3⟩⟩ fun T vals h' tk hv hT hIs hMid hk => ⟨.ref T, rfl, W.go elts kk tpos i T { s with heap := h', toks := tk } _ _ hMid fun h'' st' hk' => ?_⟩
    obtain ⟨u1, u2, u3, e1, e2, e3, ev⟩ := hv
    subst ev
    have hx : ∃ x, xs[i]? = some x := ⟨_, List.getElem?_eq_getElem (show i < xs.length by omega)⟩
    have hy : ∃ x, ys[i]? = some x := ⟨_, List.getElem?_eq_getElem (show i < ys.length by omega)⟩
    have hz' : ∃ x, zs[i]? = some x := ⟨_, List.getElem?_eq_getElem (show i < zs.length by omega)⟩
    obtain ⟨x, hx⟩ := hx
    obtain ⟨y, hy⟩ := hy
    obtain ⟨z, hz'⟩ := hz'
    obtain ⟨w1, f1, r1⟩ := rv.get hx
    obtain ⟨w2, f2, r2⟩ := rv2.get hy
    obtain ⟨w3, f3, r3⟩ := rv3.get hz'
    have g1 : w1 = u1 := by have q : its[i]? = some u1 := by simpa using e1
                            rw [f1] at q; exact Option.some.inj q
    have g2 : w2 = u2 := by have q : its2[i]? = some u2 := by simpa using e2
                            rw [f2] at q; exact Option.some.inj q
    have g3 : w3 = u3 := by have q : its3[i]? = some u3 := by simpa using e3
                            rw [f3] at q; exact Option.some.inj q
    subst g1 g2 g3
    have hTw := W.apart i T h' hMid
    have new : ObjOk X.prog X.w (upd H T (.tup [x, y, z])) h'' T (.tup [x, y, z]) :=
      ⟨by show 3 ≤ sizeLine; decide, [w1, w2, w3], .cons r1 (.cons r2 (.cons r3 .nil)), hIs.at fun o q => hk' T o hTw q⟩
    have I1 : Inv X pins σ (upd H T (.tup [x, y, z])) { s with heap := h'', toks := tk } :=
      I.turnedNew (t' := tk) (ch := [N + 5, N + 3, N + 4, N, N + 1, N + 2]) (fun d o hd q => by
        have hw : d ∉ [N + 5, N + 4, N, N + 1, N + 2] := fun z => hd (by
          simp only [List.mem_cons, List.not_mem_nil, or_false] at z ⊢
          rcases z with z | z | z | z | z <;> simp [z])
        exact hk' d o hw (hk d o hw q)) hf hT new
    obtain ⟨k1, k2, k3, k4, k5, k6⟩ := st'
    exact ⟨.ref T, _, I1, rfl, ⟨T, x, y, z, rfl, I.hok.fresh hT, rfl, hx, hy, hz'⟩, ⟨k1, k2, k3, k4.1, k5.1, k6.1⟩, fun d hd => by
      rw [upd_ne (Nat.ne_of_lt (Nat.lt_of_lt_of_le (hN d hd) hT))]
      exact (hf d hd).1⟩
  done := by
    intro X hP hw hK hcm i pins s σ H E I hf st hg
    subst hP hw hK
    obtain ⟨hz, hTI, hTO, h1, h2, h3⟩ := st
    obtain ⟨hqx, hqy, hqz, hi⟩ := hg
    obtain ⟨its, rv, p, _⟩ := I.tuple hqx
    obtain ⟨its2, rv2, p2, _⟩ := I.tuple hqy
    obtain ⟨its3, rv3, p3, _⟩ := I.tuple hqz
    have l1 := rv.length
    have l2 := rv2.length
    have l3 := rv3.length
    have hh := I.ok.hd hcm
    have W := WalksT.zipD3 (prog := X.prog) (w := X.w) (A := X.A) (zip_sep3 (N := N) (fp1 := [a]) (fp2 := [b]) (fp3 := [c]) (by simpa using ha) (by simpa using hb) (by simpa using hc))
      (Draws.tuple (A := X.A.in1) hh N a (Nat.ne_of_lt ha) its.toArray) (Draws.tuple (A := X.A.in1) hh (N + 1) b (Nat.ne_of_lt (Nat.lt_succ_of_lt hb)) its2.toArray) (Draws.tuple (A := X.A.in1) hh (N + 2) c (Nat.ne_of_lt (Nat.lt_of_lt_of_le hc (Nat.le_add_right _ _))) its3.toArray)
    have en : i = min (min its.toArray.size its2.toArray.size) its3.toArray.size := by rw [List.size_toArray, List.size_toArray, List.size_toArray, ← l1, ← l2, ← l3]; exact hi
    rw [en] at h1 h2 h3
    exact W.done s _ _ ⟨hz, hTI, hTO, ⟨h1, p⟩, ⟨h2, p2⟩, ⟨h3, p3⟩⟩ fun h' tk hk => ⟨rfl, I.turnedL (t' := tk) (ch := [N + 5, N + 3, N + 4, N, N + 1, N + 2]) (fun d o hd q => hk d o (fun z => hd (by
          simp only [List.mem_cons, List.not_mem_nil, or_false] at z ⊢
          rcases z with z | z | z | z | z <;> simp [z])) q) hf⟩
  self := fun A i s Q E st h => wpAny_pyIter_zip st.1 h
def iZip3 (K : PySem.W.Frag) (ta : TA) : TI := fun σ H R => ta σ H fun vs H1 => ∃ (a b c : Addr) (xs ys zs : List V), vs = [.ref a, .ref b, .ref c] ∧ SqT K H1 a xs ∧ SqT K H1 b ys ∧ SqT K H1 c zs ∧ R (It3 K a b c xs ys zs) H1
theorem pi_zip3 {X : Cx} {e e2 e3 : Expr} {ta : TA} {p pos tpos : Pos} {elts : List Expr} {kk : Nat} (hg : Gl X "zip") (hm : X.mg "zip" = none) (ha : PA X [e, e2, e3] ta)
    (hs : starEach [e, e2, e3] X.env = (false, eval e X.env) :: starEach [e2, e3] X.env := by rfl) (hpl : (backTo pos (starEach [e2, e3] X.env)).any (·.1) = false := by rfl) :
    PI X (.Tuple elts kk tpos) (.Call (.Name "zip" p) [e, e2, e3] [] pos) (iZip3 X.K ta) := by
  refine ⟨fun pins s σ H R I h => ?_⟩
  refine Call_ (ld_blt I hg hm PyProof.Rows.boot_zip (PyProof.Rows.callWith_type1 (thn (ha.run pos pins s σ H _ I h) fun us s1 ⟨vs, H1, I1, r1, q1⟩ => ?_) hs hpl))
  obtain ⟨a, b, c, xs, ys, zs, ex, hqx, hqy, hqz, q⟩ := q1
  subst ex
  cases r1 with
  | cons r rr =>
    cases rr with
    | cons r' rr =>
      cases rr with
      | cons r'' rr =>
        cases rr
        cases r
        cases r'
        cases r''
        obtain ⟨its, rv, p1, _⟩ := I1.tuple hqx
        obtain ⟨its2, rv2, p2, _⟩ := I1.tuple hqy
        obtain ⟨its3, rv3, p3, _⟩ := I1.tuple hqz
        obtain ⟨o1, ho1, _⟩ := id p1
        obtain ⟨o2, ho2, _⟩ := id p2
        obtain ⟨o3, ho3, _⟩ := id p3
        refine zip_begins3 (begins_tuple a its.toArray) (begins_tuple b its2.toArray) (begins_tuple c its3.toArray) p1 p2 p3 fun h' hz hTI hTO h1 h2 h3 hsz hk => wpAny_pyIter_zip hz ?_
        have I2 : Inv X pins σ H1 { s1 with heap := h' } := I1.kept (t' := s1.toks) hk
        refine ⟨s1.heap.objs.size + 5, [s1.heap.objs.size + 5, s1.heap.objs.size + 3, s1.heap.objs.size + 4, s1.heap.objs.size, s1.heap.objs.size + 1, s1.heap.objs.size + 2], _, _, H1, rfl, I2, turn_zip3 (Heap.lt_size ho1) (Heap.lt_size ho2) (Heap.lt_size ho3), ⟨hz, hTI, ⟨_, _, _, hTO⟩, ⟨_, h1, rfl, rfl⟩, ⟨_, h2, rfl, rfl⟩, ⟨_, h3, rfl, rfl⟩⟩, fun d hd => ?_, q⟩
        have hle : s1.heap.objs.size ≤ d := by
          have e' : d = s1.heap.objs.size + 5 ∨ d = s1.heap.objs.size + 3 ∨ d = s1.heap.objs.size + 4 ∨ d = s1.heap.objs.size ∨ d = s1.heap.objs.size + 1 ∨ d = s1.heap.objs.size + 2 := by simpa using hd
          rcases e' with z | z | z | z | z | z
          · rw [z]; exact Nat.le_add_right _ _
          · rw [z]; exact Nat.le_add_right _ _
          · rw [z]; exact Nat.le_add_right _ _
          · rw [z]; exact Nat.le_refl _
          · rw [z]; exact Nat.le_add_right _ _
          · rw [z]; exact Nat.le_add_right _ _
        exact I1.fpOk hle (I1.hok.fresh hle)
theorem piK_zip3 {X : Cx} {K : PySem.W.Frag} {e e2 e3 : Expr} {ta : TA} {p pos tpos : Pos} {elts : List Expr} {kk : Nat} (hK : X.K = K) (hg : Gl X "zip") (hm : X.mg "zip" = none) (ha : PA X [e, e2, e3] ta)
    (hs : starEach [e, e2, e3] X.env = (false, eval e X.env) :: starEach [e2, e3] X.env := by rfl) (hpl : (backTo pos (starEach [e2, e3] X.env)).any (·.1) = false := by rfl) :
    PI X (.Tuple elts kk tpos) (.Call (.Name "zip" p) [e, e2, e3] [] pos) (iZip3 K ta) := hK ▸ pi_zip3 hg hm ha hs hpl
/-! ### over data: items (thing, int, int) and the like -/
def zip3D (xs ys zs : List PyData) : List PyData := ((xs.zip ys).zip zs).map fun q => .tuple [q.1.1, q.1.2, q.2]
theorem zip3D_len {xs ys zs : List PyData} : (zip3D xs ys zs).length = min (min xs.length ys.length) zs.length := by unfold zip3D; rw [List.length_map, List.length_zip, List.length_zip]
theorem kHead_snd {G : Hp} {v w : V} {r : List V} {d : PyData} (h : Dt G w d) (k : isK d = true) : kHead (v :: w :: r) := by
  cases h <;> first | (cases v <;> trivial) | cases k
section
variable {μ : Mu} {Γ : List Sl} {n : Nat} {ta : TA} {K : PySem.W.Frag} {xs ys zs : List PyData}
theorem ew_zip3 (h : EvA μ ta Γ n (Eq [.tuple xs, .tuple ys, .tuple zs])) (hk : ∀ d ∈ ys, isK d = true) : EvW μ (iZip3 K ta) Γ n (Eq (zip3D xs ys zs)) := fun G0 H0 G c σ H R S l q =>
  h G0 H0 G c σ H _ S l fun ds' vs G1 H1 p S1 e1 d1 => by
    cases p
    cases d1 with
    | cons x1 r1 =>
      cases r1 with
      | cons x2 r2 =>
        cases r2 with
        | cons x3 r3 =>
          cases r3
          cases x1 with
          | tup a ra =>
            cases x2 with
            | tup b rb =>
              cases x3 with
              | tup c' rc =>
                refine ⟨_, _, _, _, _, _, rfl, a.sq S1.sub, b.sq S1.sub, c'.sq S1.sub, q _ _ G1 H1 rfl S1 e1 ⟨fun i H hi s _ => ⟨a.sq s, b.sq s, c'.sq s, ?_⟩, fun H s _ => ⟨a.sq s, b.sq s, c'.sq s, ?_⟩, fun i H G2 x H' hi s s1 _ yl => ?_⟩⟩
                · rw [zip3D_len] at hi; rw [ra.length, rb.length, rc.length]; exact hi
                · rw [zip3D_len, ra.length, rb.length, rc.length]
                · obtain ⟨T, u, v, w, rfl, hT, rfl, g1, g2, g3⟩ := yl
                  obtain ⟨d1, f1, k1⟩ := ra.get g1
                  obtain ⟨d2, f2, k2⟩ := rb.get g2
                  obtain ⟨d3, f3, k3⟩ := rc.get g3
                  refine ⟨_, .tuple [d1, d2, d3], ?_, Nw.upd hT s1, Same.upd2 s1, Same.new hT, .tup (.key (kHead_snd k2 (hk d2 (List.mem_of_getElem? f2)))) ?_⟩
                  · unfold zip3D
                    rw [List.getElem?_map, (List.getElem?_zip_eq_some (z := ((d1, d2), d3))).mpr ⟨(List.getElem?_zip_eq_some (z := (d1, d2))).mpr ⟨f1, f2⟩, f3⟩]
                    rfl
                  · have m := s.trans (Nw.upd hT s1 (o := .tup [u, v, w])).1
                    exact .cons (k1.mono m) (.cons (k2.mono m) (.cons (k3.mono m) .nil))
end
end B

/-! S15: xs.extend(t), t a tuple; truth of a list; a, b, .. = x, [], ..; sorted(d) of int keys. -/
namespace B
open PySem PySem.Spec PyProof.Rows L2 PyProof PySem.Calls
set_option maxRecDepth 8000 in
theorem list_extend_tupA (l : Addr) (items : Array Value) (n : Nat) (b : Addr) (items2 : Array Value) (n2 : Nat) (od : Option Addr) (sl : Array (Option Value)) (hs0 : ¬(!items.isEmpty && Builtin.List.listTooLong (items.size + items2.size)) = true) (hs1 : items.size ≤ sizeLine) (hs2 : items.size + items2.size ≤ sizeLine + 1) :
    Meets (Builtin.«list.extend» ⟨[.ref l, .ref b], []⟩) (fun _ R s => s.heap.get? l = some { cls := .type "list", dict := none, data := .seq items n, slots := #[] } ∧ s.heap.get? b = some { cls := .type "tuple", dict := od, data := .seq items2 n2, slots := sl } ∧ R (.ok (.ret Value.none)) { s with heap := s.heap.update l (Obj.mapSeq fun x => x ++ items2), toks := s.toks }) :=
  .of_wp fun prog w A R s h => by
    obtain ⟨hp, g, d, tk, os⟩ := s; obtain ⟨hl, hb, h⟩ := h; have f1 := AutoSeq1.idx_int; have f2 := AutoSeq1.sub_tuple_tuple; have f3 := AutoSeq1.sub_list_list; have f4 := AutoSeq1.sub_tuple_list; have f5 := AutoSeq1.sub_list_tuple;
    have hz' : (items ++ items2).size ≤ sizeLine + 1 := by rw [Array.size_append]; exact hs2
    wp_walk using (wpAny_updateSeq hl rfl (hz := hs1) (_hz' := hz')), wpAny_loadPart' hl, wpAny_loadPart' hb; exact ⟨_, rfl, h⟩
def rExtT (K : PySem.W.Frag) : V → List V → Hp → VK → Prop := fun x vs H Q => ∃ l b xs zs, x = .ref l ∧ vs = [.ref b] ∧ H l = some (.lst xs) ∧ SqT K H b zs ∧ xs.length + zs.length ≤ sizeLine ∧ Q .non (upd H l (.lst (xs ++ zs)))
theorem mt_extendT {X : Cx} : MtM X "list.extend" (rExtT X.K) := by
  intro pins s σ H x vs v us Q I rx rv h
  obtain ⟨l, b, xs, zs, rfl, rfl, hH, hB, hz, q⟩ := h
  cases rx
  obtain ⟨u, rfl, ru⟩ := rv.one
  cases ru
  obtain ⟨z, its, n, r, hl, e⟩ := I.lstM hH
  obtain ⟨its2, r2, ⟨o, e2, hcl, n2, hdat⟩, hl2⟩ := I.tuple hB
  obtain ⟨c, dd, dt, sl⟩ := o
  simp only at hcl hdat
  subst hcl hdat
  have l1 := r.length
  have l2 := r2.length
  have hsz : its.toArray.size + its2.toArray.size ≤ sizeLine := by rw [List.size_toArray, List.size_toArray]; omega
  have hlong : ¬ (!its.toArray.isEmpty && Builtin.List.listTooLong (its.toArray.size + its2.toArray.size)) = true := by
    rw [notLongL hsz, Bool.and_false]
    exact Bool.false_ne_true
  refine call_meets F.slot_list_extend ⟨_, e, rfl⟩ F.entry_list_extend (F.args_list_extend_2 _ _)
    (list_extend_tupA l its.toArray n b its2.toArray n2 dd sl hlong (by rw [List.size_toArray]; omega) (by omega)) ⟨e, e2, ?_⟩
  refine ⟨.non, _, I.lset (its' := its ++ its2) hH e (by simp) (r.append r2) ?_, rfl, q⟩
  rw [List.length_append]
  omega
theorem mtK_extendT {X : Cx} {K : PySem.W.Frag} (h : X.K = K) : MtM X "list.extend" (rExtT K) := h ▸ mt_extendT
section
variable {μ : Mu} {Γ : List Sl} {n n1 n2 c : Nat} {R : Po} {ta tb tc te : TE} {i j l : Nat} {P P1 P2 : PyData → Prop} {K : PySem.W.Frag} {x y z d : PyData} {ds es : List PyData}
theorem go_extT (h : Γ[i]? = some (.own ds)) (he : Ev μ te Γ n P) (hl : ds.length ≤ 50000) (hP : ∀ d, P d → ∃ es, d = .tuple es ∧ es.length ≤ 50000) (hc : c + n ≤ CM) (k : ∀ es, P (.tuple es) → R.nx (Γ.set i (.own (ds ++ es))) (c + n)) :
    Go μ (tDrop (tBM K "list" (rExtT K) (tVar i) (tCons te tNil))) Γ c R := fun G0 H0 Gs G σ H D S gs L => by
  obtain ⟨p, vs, hs, hM, hp, hd⟩ := S.own h
  refine ⟨.ref p, hs, .inl ⟨rfl, _, SqL.of hp⟩, he G0 H0 G c σ H _ S hc fun d v G1 H1 pd S1 e1 d1 => ?_⟩
  have hp1 := e1.fr _ _ hM hp
  obtain ⟨es, rfl, hle⟩ := hP d pd
  cases d1 with
  | tup a r =>
    refine ⟨p, _, vs, _, rfl, rfl, hp1, a.sq S1.sub, ?_, L.nx _ _ G1 σ _ (k es pd) (S1.putOwn h hs ((hd.mono e1.gg).append r)) (gs.trans e1.gg)⟩
    rw [hd.length, r.length]
    exact Nat.le_trans (Nat.add_le_add hl hle) (by decide)
/-- the truth of a list -/
abbrev tTru (K : PySem.W.Frag) (ta : TE) : TT := fun σ H Q => ta σ H fun x H' => ∃ k, TruV K x H' k ∧ Q k H'
theorem et_truL (h : EvL μ te Γ n (Eq ds)) : EvT μ (tTru K te) Γ n (Eq (!ds.isEmpty)) := fun G0 H0 G c σ H Q S l q =>
  h G0 H0 G c σ H _ S l fun ds' p vs G' H' e S' e1 _ hp hd => by
    subst e
    have hl := hd.length
    have he : ds.isEmpty = vs.isEmpty := by cases vs <;> cases ds <;> simp_all
    refine ⟨!ds.isEmpty, .inl ⟨vs, SqL.of hp, by rw [he]⟩, q _ _ _ rfl S' e1⟩
/-- a, b, .. = x, [], .. by a tuple -/
theorem go_asgO2 {tr : TA} {g : TGs} {m : Nat} {xs : List PyData} {is : List Nat} {Γ2 : List Sl} (ha : Ev μ ta Γ 0 (Eq x)) (hr : EvA μ tr Γ 0 (Eq xs)) (hc : c ≤ CM) (hij : i ≠ j) (hjΓ : j < Γ.length) (hm : xs.length + 2 = m) (hm2 : m ≤ 1000)
    (hg : EvGs g xs is ((Γ.set i (.dat x)).set j (.own [])) Γ2) (k : R.nx Γ2 c) : Go μ (tAsg (tTupP (tCons ta (tCons (tLst tNil) tr))) (gTup K m (gCons (gName i) (gCons (gName j) g)))) Γ c R := fun G0 H0 Gs G σ H D S gs L => by
  refine ha G0 H0 G c σ H _ S hc fun d1 v1 G1 H1 p1 S1 e1 dt1 => ?_
  cases p1
  refine ⟨Nat.zero_le _, fun p hp => ?_⟩
  have S1' := S1.junk (u := .lst []) (Same.free S1.sub hp) (S1.h0 hp) (S1.notOwn hp)
  have e0 : Ext μ.M G1 H1 G1 (upd H1 p (.lst [])) := .same (Nw.refl _ _) (Same.new hp)
  have hM : ¬ μ.M p := fun m => (S1.ent p m).1 (S1.h0 hp)
  refine hr G0 H0 G1 c σ _ _ S1' hc fun ds' vs G2 H2 p2 S2 e2 dt2 => ?_
  cases p2
  have hvl := dt2.length
  refine ⟨by simp only [List.length_cons]; rw [hvl]; exact Nat.le_trans (show xs.length + 1 + 1 ≤ 1000 by omega) (by decide), fun q o ho hq => ?_⟩
  have hp2 : H2 p = some (.lst []) := e2.fr _ _ hM upd_same
  have gp2 : G2 p = none := e2.out (Same.free S1.sub hp) upd_same
  have hqp : p ≠ q := fun z => by rw [z, hq] at hp2; cases hp2
  have S3 := S2.junk (u := .frz o (.tup (v1 :: .ref p :: vs))) (Same.free S2.sub hq) (S2.h0 hq) (S2.notOwn hq)
  refine ⟨q, _, rfl, .inl (.inr ⟨o, upd_same⟩), by simp only [List.length_cons]; rw [hvl]; omega, v1, _, rfl, ?_⟩
  have S4 := S3.setD (i := i) (dt1.mono e2.gg)
  refine ⟨_, _, rfl, ?_⟩
  have hjΓ' : j < (Γ.set i (.dat x)).length := by rw [List.length_set]; exact hjΓ
  have hp3 : upd H2 q (.frz o (.tup (v1 :: .ref p :: vs))) p = some (.lst []) := by rw [upd_ne hqp]; exact hp2
  have S5 : Stt μ G0 H0 G2 ((Γ.set i (.dat x)).set j (.own [])) c ((σ.set i (some v1)).set j (some (.ref p))) _ := S4.set ⟨p, _, rfl, S1.h0 hp, gp2, hp3, ⟨[], rfl, .nil⟩, OwIn.none rfl⟩ fun q' o' m' hm' ow => by
    obtain ⟨k', e, h'⟩ := o'
    rw [List.getElem?_set_self hjΓ'] at e
    cases e
    rcases h' with h' | h'
    · rw [List.getElem?_set_self (by rw [List.length_set, S.len]; exact hjΓ)] at h'
      cases h'
      obtain ⟨k2, e2', h2⟩ := ow
      by_cases mi : m' = i
      · subst mi
        have hil : m' < Γ.length := by
          have := (List.getElem?_eq_some_iff.mp e2').1
          rw [List.length_set] at this; exact this
        rw [List.getElem?_set_self hil] at e2'
        cases e2'
      · rw [List.getElem?_set_ne (Ne.symm mi)] at e2' h2
        exact S1.notOwn hp m' ⟨k2, e2', h2⟩
    · cases h'
  refine hg μ G0 H0 G2 c _ _ vs _ S5 dt2 fun σ' S6 _ => ?_
  exact L.nx _ _ G2 σ' _ k S6 (gs.trans ((e1.trans e0).trans e2).gg)
/-- a, b, c = [], [], z -/
theorem go_par3oo (hd : Ev μ tc Γ 0 (Eq z)) (hc : c ≤ CM) (hij : i ≠ j) (hil : i ≠ l) (hjl : j ≠ l) (hiΓ : i < Γ.length) (hjΓ : j < Γ.length) (k : R.nx (((Γ.set i (.own [])).set j (.own [])).set l (.dat z)) c) : Go μ (tPar3 i j l (tCons (tLst tNil) (tCons (tLst tNil) (tCons tc tNil)))) Γ c R := fun G0 H0 Gs G σ H D S gs L => by
  refine ⟨Nat.zero_le _, fun p hp => ⟨Nat.zero_le _, fun q hq => ?_⟩⟩
  have S1 := S.junk (u := .lst []) (Same.free S.sub hp) (S.h0 hp) (S.notOwn hp)
  have S2 := S1.junk (u := .lst []) (Same.free S1.sub hq) (S1.h0 hq) (S1.notOwn hq)
  have hpq : p ≠ q := fun z => by rw [z, ← z, upd_same] at hq; cases hq
  have hMp : ¬ μ.M p := fun m => (S.ent p m).1 (S.h0 hp)
  have hMq : ¬ μ.M q := fun m => (S.ent q m).1 (S1.h0 hq)
  have e0 : Ext μ.M G H G (upd (upd H p (.lst [])) q (.lst [])) := .same (Nw.refl _ _) ((Same.new hp).trans (Same.new hq))
  refine hd G0 H0 G c σ _ _ S2 hc fun d1 v1 G2 H2 p1 S3 e2 dt1 => ?_
  cases p1
  refine ⟨_, _, _, rfl, ?_⟩
  have hp3 : H2 p = some (.lst []) := e2.fr _ _ hMp (by rw [upd_ne hpq]; exact upd_same)
  have hq3 : H2 q = some (.lst []) := e2.fr _ _ hMq upd_same
  have gp3 : G2 p = none := e2.out (Same.free S.sub hp) (by rw [upd_ne hpq]; exact upd_same)
  have gq3 : G2 q = none := e2.out (Same.free S1.sub hq) upd_same
  have S4 : Stt μ G0 H0 G2 (Γ.set i (.own [])) c (σ.set i (some (.ref p))) H2 := S3.set ⟨p, _, rfl, S.h0 hp, gp3, hp3, ⟨[], rfl, .nil⟩, OwIn.none rfl⟩ fun q' o m hm ow => by
    obtain ⟨k', e, h'⟩ := o
    rw [List.getElem?_set_self hiΓ] at e
    cases e
    rcases h' with h' | h'
    · rw [List.getElem?_set_self (by rw [S.len]; exact hiΓ)] at h'
      cases h'
      exact S.notOwn hp m ow
    · cases h'
  have hjΓ' : j < (Γ.set i (.own [])).length := by rw [List.length_set]; exact hjΓ
  have S5 : Stt μ G0 H0 G2 ((Γ.set i (.own [])).set j (.own [])) c ((σ.set i (some (.ref p))).set j (some (.ref q))) H2 := S4.set ⟨q, _, rfl, S1.h0 hq, gq3, hq3, ⟨[], rfl, .nil⟩, OwIn.none rfl⟩ fun q' o m hm ow => by
    obtain ⟨k', e, h'⟩ := o
    rw [List.getElem?_set_self hjΓ'] at e
    cases e
    rcases h' with h' | h'
    · rw [List.getElem?_set_self (by rw [List.length_set, S.len]; exact hjΓ)] at h'
      cases h'
      obtain ⟨k2, e2', h2⟩ := ow
      by_cases mi : m = i
      · subst mi
        rw [List.getElem?_set_self hiΓ] at e2'
        cases e2'
        rcases h2 with h2 | h2
        · rw [List.getElem?_set_self (by rw [S.len]; exact hiΓ)] at h2
          cases h2
          exact hpq rfl
        · cases h2
      · rw [List.getElem?_set_ne (Ne.symm mi)] at e2' h2
        exact S1.notOwn hq m ⟨k2, e2', h2⟩
    · cases h'
  exact L.nx _ _ G2 _ H2 k (S5.setD dt1) (gs.trans ((e0.trans e2).gg))
abbrev rSortDI : List V → Hp → VK → Prop := fun xs H Q => ∃ (a : Addr) (kvs : List (Key × V)) (ks : List Int), xs = [.ref a] ∧ Rd H a (.dK kvs) ∧ kvs.map (·.1) = ks.map Sum.inl ∧ ks.length < 64 ∧
    ∀ (ys : List Int) (p : Addr), ys.Perm ks → ys.Pairwise (· ≤ ·) → H p = none → Q (.ref p) (upd H p (.lst (ys.map V.int)))
theorem DtM.fsts {G : Hp} : ∀ {kvs : List (Key × V)} {es : List (Key × PyData)}, DtM G kvs es → kvs.map (·.1) = es.map (·.1)
  | _, _, .nil => rfl
  | _, _, .cons _ r => by rw [List.map_cons, List.map_cons, DtM.fsts r]
theorem asc_eq {ys ks : List Int} (h : ys.Perm ks) (hy : ys.Pairwise (· ≤ ·)) (hk : ks.Pairwise (· < ·)) : ys = ks :=
  h.eq_of_pairwise (le := (· ≤ ·)) (fun a b _ _ h1 h2 => by omega) hy (hk.imp fun h => by omega)
/-- sorted(d), the keys ints, ascending already -/
theorem ev_sortDI {es : List (Key × PyData)} {ks : List Int} (h : EvD μ te Γ n es) (hk : es.map (·.1) = ks.map Sum.inl) (hl : ks.length < 64) (ha : ks.Pairwise (· < ·)) : Ev μ (tCB rSortDI (tCons te tNil)) Γ n (Eq (.list (ks.map .int))) := fun G0 H0 G c σ H Q S l q =>
  h G0 H0 G c σ H _ S l fun a kvs u G' H' S' e1 _ hu hr hd => by
    refine ⟨a, kvs, ks, rfl, (hr.elim (fun e => .inl (e ▸ hu)) fun ⟨od, e⟩ => .inr ⟨od, e ▸ hu⟩), by rw [hd.fsts, hk], hl, fun ys p hp hs hn => ?_⟩
    have := asc_eq hp hs ha
    subst this
    refine q _ _ _ _ rfl (S'.laid hn) (e1.trans (.same (Nw.upd hn S'.sub) (Same.new hn))) (.lst upd_same ?_)
    have key : ∀ (zs : List Int) (G : Hp), DtA G (zs.map V.int) (zs.map PyData.int) := fun zs G => by
      induction zs with
      | nil => exact .nil
      | cons z r ih => exact .cons (.int z) ih
    exact key _ _
end
end B

/-! X1: an own error class whose __init__ is: super().__init__(..), then a store for each parameter. -/
namespace ErX
open PySem PySem.W PySem.Calls PyProof.Rows PySem.Spec L2
/-- what the written part says of the class at C and of its __init__ at f -/
structure ErT (P : Program) (K : Frag) (C f cc cda : Addr) (fd : FuncData) : Prop where
  oex : OexC K C
  cell : ∃ cl cld csl, K.lookup cc = some ⟨cl, cld, .cell (some (.ref C)), csl⟩
  code : ∃ ccl cdd vs ccs file tf, K.lookup cda = some ⟨ccl, cdd, .fields vs, ccs⟩ ∧ vs[2]? = some (.str file tf) ∧ ((P.main.file : Str) == file) = true
  sup : ks_superIn K C C "__init__" = some (some (.builtin "ValueError.__init__"))
  isC : mroIn K C (.ref C) = some true
  isV : subIn K (.ref C) (.type "ValueError") = some true
  opq : nsIn K cStatics "thirdparty.any" = some none
  top : (P.main.scope.names.lookup ("super" : Str)).isSome = false
section
variable {P : Program} {w : World} {K : Frag} {A : Around} {E : Value → Shared → Prop} {h : Heap} {g : Array GenState} {d : Drawn} {t : Nat} {os : OsState} {mg mb m : Str → Option Value} {base : Heap} {C f cc cda x L t1 : Addr} {fd : FuncData}
abbrev exR (C t : Addr) (dx : Option Addr) : Obj := { cls := .ref C, dict := dx, data := .fields #[.ref t, .none, .none, .none, .bool false, .none] }
/-- the method-wrapper called -/
theorem call_mw {u : Addr} {rest : List Value} {Q : Value → Shared → Prop} (T : OexC K C) (X : K.In h) (hu : h.get? u = some (kxs_mw "ValueError.__init__" x)) (hx : h.get? x = some (exR C t1 none)) (hz : rest.length ≤ sizeLine)
    (hq : ∀ h' t2, (∀ b o, b ≠ x → h.get? b = some o → h'.get? b = some o) → h'.get? x = some (exR C t2 none) → Q .none ⟨h', g, d, t, os⟩) :
    wpAny (model P w) A (call (.ref u) rest) Q E ⟨h, g, d, t, os⟩ := by
  obtain ⟨nm, q, N, bs, bm, sn, sub, ab, col, dd, k0, k1, k2, k3, k5, hC, hbm⟩ := T.cls
  have hC' := X _ _ hC
  refine wpAny_call (codeAny_of_tree ?_)
  show wpAny _ A.in1 (callAny (.ref u) ⟨rest, []⟩) _ _ _
  simp only [callAny]
  refine wpAny_bind (wpAny_load hu ?_)
  simp only [kxs_mw, show (Value.type "method-wrapper" == Value.type "method" || Value.type "method-wrapper" == Value.type "builtin_function_or_method" || Value.type "method-wrapper" == Value.type "method-wrapper") = true by decide, if_true]
  refine KFB.if_so (by decide) ?_
  refine wpAny_bind (check_bound_init F.excBase_ValueError.toExcCallFacts hC' hx rfl ?_)
  refine wpAny_bind (wpAny_pure (wpAny_pure ?_))
  refine ⟨plainId_quiet F.excBase_ValueError.init.plain _, codeAny_builtin F.excBase_ValueError.initEntry ?_⟩
  exact exc_init_tree (cls := .ref C) (t0 := t1) (dv := none) (c2 := .none) (c3 := .none) (b4 := .bool false) hx hz fun h' k e _ => hq h' _ k e
/-- what stands behind the frame at L: the base, the frame's names -/
structure Bh (base : Heap) (L : Addr) (m : Str → Option Value) (h : Heap) : Prop where
  keep : ∀ b o, base.get? b = some o → h.get? b = some o
  ns : h.Ns L m
theorem Bh.to {h' : Heap} {y : Addr} (B : Bh base L m h) (nb : base.get? y = none) (nl : y ≠ L) (k : ∀ b o, b ≠ y → h.get? b = some o → h'.get? b = some o) : Bh base L m h' where
  keep := fun b o e => k b o (fun z => by rw [z, nb] at e; cases e) (B.keep b o e)
  ns := by
    obtain ⟨o, es, ep, e, r⟩ := B.ns
    exact ⟨o, es, ep, k _ _ (Ne.symm nl) e, r⟩
theorem Bh.all {h' : Heap} (B : Bh base L m h) (k : ∀ b o, h.get? b = some o → h'.get? b = some o) : Bh base L m h' where
  keep := fun b o e => k b o (B.keep b o e)
  ns := by
    obtain ⟨o, es, ep, e, r⟩ := B.ns
    exact ⟨o, es, ep, k _ _ e, r⟩
/-- super().__init__(..) as a statement -/
theorem super_stmt {qual : Str} {scope : Scope} {body : List Stmt} {es : List Expr} {e : Expr} {p0 p1 p2 p3 p4 : Pos} {us : List Value} {ar : Arg} {Q : Flow → Shared → Prop} {oc : Value} {od : Option Addr} {osl : Array (Option Value)}
    (T : ErT P K C f cc cda fd) (M : Mod K mg base) (hsup : mg "super" = none) (hf : K.lookup f = some ⟨oc, od, .func fd, osl⟩) (hp : (fd.params.posonlyargs ++ fd.params.args).head? = some ar) (hv : m ar.arg = some (.ref x))
    (hks : scope.names.lookup ("super" : Str) = some .globalImplicit) (hkc : scope.names.lookup ("__class__" : Str) = some .free) (hka : scope.names.lookup ar.arg = some .local) (hk : scope.kind = .function)
    (hus : us.length ≤ sizeLine)
    (hargs : ∀ (h' : Heap) (t' : Nat), h'.Ns L m → ∀ {Q' : List Value → Shared → Prop}, (∀ t'', Q' us ⟨h', g, d, t'', os⟩) → wpAny (model P w) A (spliced (backTo p3 (starEach (e :: es) (ksEnv qual scope L f (.ref cda) cc)))) Q' E ⟨h', g, d, t', os⟩)
    (B : Bh base L m h) (hx : h.get? x = some (exR C t1 none))
    (hq : ∀ h' t2 t', (∀ b o, b ≠ x → h.get? b = some o → h'.get? b = some o) → h'.get? x = some (exR C t2 none) → Q .next ⟨h', g, d, t', os⟩)
    (hi : interactive (ksEnv qual scope L f (.ref cda) cc) = false)
    (he : eval (.Call (.Attribute (.Call (.Name "super" p0) [] [] p1) "__init__" p2) (e :: es) [] p3) (ksEnv qual scope L f (.ref cda) cc) = (do
      let ov ← attributeBase (.Call (.Name "super" p0) [] [] p1) "__init__" (ksEnv qual scope L f (.ref cda) cc) (eval (.Call (.Name "super" p0) [] [] p1) (ksEnv qual scope L f (.ref cda) cc))
      standAt p2.atName
      let (f', first) ← holding [ov] (getMethod ov "__init__" (pure false))
      callWith p3 f' first (backTo p3 (starEach (e :: es) (ksEnv qual scope L f (.ref cda) cc))) []))
    (hee : starEach (e :: es) (ksEnv qual scope L f (.ref cda) cc) = (false, eval e (ksEnv qual scope L f (.ref cda) cc)) :: starEach es (ksEnv qual scope L f (.ref cda) cc))
    (hpl : (backTo p3 (starEach es (ksEnv qual scope L f (.ref cda) cc))).any (·.1) = false) :
    _root_.PySem.wpAt (model P w) A (.func body (ksEnv qual scope L f (.ref cda) cc)) (exec (.Expr (.Call (.Attribute (.Call (.Name "super" p0) [] [] p1) "__init__" p2) (e :: es) [] p3) p4) (ksEnv qual scope L f (.ref cda) cc)) Q E ⟨h, g, d, t, os⟩ := by
  have X : K.In h := M.kin.keeps B.keep
  obtain ⟨cl, cld, csl, hcell⟩ := T.cell
  obtain ⟨ccl, cdd, vs, ccs, file, tf, hcode, hvs, hfile⟩ := T.code
  obtain ⟨nm, q, N, bs, bm, sn, sub, ab, col, dd, k0, k1, k2, k3, k5, hC, hbm⟩ := T.oex.cls
  obtain ⟨mb, hmb, hbb⟩ := M.blt
  have hC' := X _ _ hC
  have hcl : clsIn K C = some { name := nm, bases := bs, mro := .ref C :: bm, ns := N, qualname := q, hasDict := true, slotNames := sn, subclasses := sub, abstract := ab, collection := col, hasDel := false } := by unfold clsIn; rw [hC] <;> rfl
  refine ks_wpAt_Expr_any (hi := hi) ?_
  refine ks_wpAt_MethodCall (pl := pure false) ?_ he
  refine ks_wpAt_super_base (env := ksEnv qual scope L f (.ref cda) cc) hks hkc (by decide) rfl (X _ _ hf) rfl hp rfl (X _ _ hcode) rfl hvs hfile T.top ?_
  refine ks_loadName_global hk hks (loadGlobal_builtin (env := ksEnv qual scope L f (.ref cda) cc) (M.glob.keeps B.keep) hsup (hmb.keeps B.keep) ((hbb _ (by decide +kernel)).trans (by first | boot_by_name | rfl | kernel_rfl)) ⟨rfl, ?_⟩)
  refine wpAny_loadName_free hk hkc rfl ⟨_, X _ _ hcell, rfl⟩ ?_
  refine wpAny_loadName_local hk hka B.ns hv ?_
  refine ks_wpAny_isType_cls hC' rfl ⟨rfl, ?_⟩
  refine ks_wpAny_call_super hC' rfl hx rfl (fun c z => by cases z) (looks_mroIn X T.isC) (fun h1 e1 kk1 => ?_)
  have B1 := B.all kk1
  have X1 : K.In h1 := M.kin.keeps B1.keep
  have hx1 := kk1 _ _ hx
  have I1 : InstAt h1 x (exR C t1 none) C none := ⟨hx1, rfl, rfl, trivial⟩
  have hI : Looks (model P w) h1 (isInstance (.ref x) (.type "ValueError")) true := I1.type.andThen (looks_subIn X1 T.isV)
  have hsu := T.sup
  unfold ks_superIn at hsu
  rw [hcl] at hsu
  refine kxs_getMethod kxs_ValueError e1 (looks_opaque X1 T.opq) (l₀ := .ref C :: bm) ?_ rfl X1 hsu hI (ks_ne X1 I1 hcl) (by decide) ?_
  · exact fun A Q E s k q => wpAny_bind ((looks_clsIn X1 hcl) A _ E s k (wpAny_pure q))
  have kk2 : ∀ b o, h1.get? b = some o → (h1.push (kxs_mw "ValueError.__init__" x)).get? b = some o := fun b o e => Heap.get?_push_of_some _ e
  have B2 := B1.all kk2
  have hu : (h1.push (kxs_mw "ValueError.__init__" x)).get? h1.objs.size = some (kxs_mw "ValueError.__init__" x) := Heap.get?_push_at rfl rfl
  refine kxs_callWith (u := h1.objs.size) (i := "ValueError.__init__") (x := x) ?_ ?_
  · rw [hee]
    show (false || (backTo p3 (starEach es _)).any (·.1)) = false
    rw [hpl]; rfl
  rw [hee]
  have ha : ∀ {Q' : List Value → Shared → Prop}, (∀ t'', Q' us ⟨h1.push (kxs_mw "ValueError.__init__" x), g, d, t'', os⟩) → wpAny (model P w) A (spliced (backTo p3 ((false, eval e (ksEnv qual scope L f (.ref cda) cc)) :: starEach es (ksEnv qual scope L f (.ref cda) cc)))) Q' E ⟨h1.push (kxs_mw "ValueError.__init__" x), g, d, t + 1, os⟩ := fun z => by
    rw [← hee]; exact hargs _ _ B2.ns z
  refine evalArgs_plain (ha fun t'' => ⟨hu, ?_⟩)
  show wpAny _ _ (call (.ref h1.objs.size) us) _ _ _
  refine call_mw T.oex (M.kin.keeps B2.keep) hu (kk2 _ _ hx1) hus fun h3 t2 k3 e3 => ?_
  exact hq h3 t2 _ (fun b o nb e => k3 b o nb (kk2 _ _ (kk1 _ _ e))) e3
/-! ### the stores -/
theorem store_new {env : Env} {sf pn fl : Str} {p1 p2 p3 p4 : Pos} {v : Value} {Q : Flow → Shared → Prop} (T : OexC K C) (M : Mod K mg base) (B : Bh base L m h) (hL : env.locals = L) (hk : env.scope.kind = .function) (hks : env.kindOf sf = some .local) (hkp : env.kindOf pn = some .local)
    (hs : m sf = some (.ref x)) (hv : m pn = some v) (hno : findIn K (.ref C) fl = some none) (hx : h.get? x = some (exR C t1 none))
    (hd1 : (sf == ("__debug__" : Str)) = false) (hd2 : (pn == ("__debug__" : Str)) = false) (hsw : swapsWith (.Name pn p3) (some (.Attribute (.Name sf p1) fl p2)) p4.line env = pure false)
    (hq : ∀ h' dx t', (∀ b o, b ≠ x → h.get? b = some o → h'.get? b = some o) → h.objs.size ≤ dx → dx ≠ x → h'.get? x = some (exR C t1 (some dx)) → h'.Ns1 dx (fun y => if y = fl then some v else none) → Q .next ⟨h', g, d, t', os⟩) :
    wpAny (model P w) A (exec (.Assign [.Attribute (.Name sf p1) fl p2] (.Name pn p3) p4) env) Q E ⟨h, g, d, t, os⟩ := by
  obtain ⟨nm, q, N, bs, bm, sn, sub, ab, col, dd, k0, k1, k2, k3, k5, hC, hbm⟩ := T.cls
  have X : K.In h := M.kin.keeps B.keep
  have hcl : clsIn K C = some { name := nm, bases := bs, mro := .ref C :: bm, ns := N, qualname := q, hasDict := true, slotNames := sn, subclasses := sub, abstract := ab, collection := col, hasDel := false } := by unfold clsIn; rw [hC] <;> rfl
  refine plainObj_wpAny_Assign_Attribute (wpAny_Name (wpAny_loadName_local hk hkp (by rw [hL]; exact B.ns) hv (wpAny_Name (wpAny_loadName_local hk hks (by rw [hL]; exact B.ns) hs ?_) hd1)) hd2) hsw
  refine set_plain X (ox := exR C t1 none) (od := none) ⟨hx, rfl, rfl, trivial⟩ T.sa ?_
  refine PySem.HandSPX.exc_osa X hx hcl (show PySem.HandSPX.refsVE (.ref C :: bm) = true from hbm) rfl hno (fun h' tk' dx k dn dne hx' hn => ?_)
  exact hq h' dx tk' k dn dne hx' hn
theorem store_old {env : Env} {sf pn fl : Str} {p1 p2 p3 p4 : Pos} {v : Value} {dx : Addr} {mA : Str → Option Value} {nl : List Str} {Q : Flow → Shared → Prop} (T : OexC K C) (M : Mod K mg base) (B : Bh base L m h) (hL : env.locals = L) (hk : env.scope.kind = .function) (hks : env.kindOf sf = some .local) (hkp : env.kindOf pn = some .local)
    (hs : m sf = some (.ref x)) (hv : m pn = some v) (hno : findIn K (.ref C) fl = some none) (hx : h.get? x = some (exR C t1 (some dx))) (hns : h.Ns1 dx mA) (hw : Within mA nl) (hz : nl.length ≤ 1000)
    (hd1 : (sf == ("__debug__" : Str)) = false) (hd2 : (pn == ("__debug__" : Str)) = false) (hsw : swapsWith (.Name pn p3) (some (.Attribute (.Name sf p1) fl p2)) p4.line env = pure false)
    (hq : ∀ h' t', (∀ b o, b ≠ dx → h.get? b = some o → h'.get? b = some o) → h'.Ns1 dx (fun y => if y = fl then some v else mA y) → Q .next ⟨h', g, d, t', os⟩) :
    wpAny (model P w) A (exec (.Assign [.Attribute (.Name sf p1) fl p2] (.Name pn p3) p4) env) Q E ⟨h, g, d, t, os⟩ := by
  obtain ⟨nm, q, N, bs, bm, sn, sub, ab, col, dd, k0, k1, k2, k3, k5, hC, hbm⟩ := T.cls
  have X : K.In h := M.kin.keeps B.keep
  have hcl : clsIn K C = some { name := nm, bases := bs, mro := .ref C :: bm, ns := N, qualname := q, hasDict := true, slotNames := sn, subclasses := sub, abstract := ab, collection := col, hasDel := false } := by unfold clsIn; rw [hC] <;> rfl
  obtain ⟨oD, _, _, hoD, _, _⟩ := hns.count hw
  refine plainObj_wpAny_Assign_Attribute (wpAny_Name (wpAny_loadName_local hk hkp (by rw [hL]; exact B.ns) hv (wpAny_Name (wpAny_loadName_local hk hks (by rw [hL]; exact B.ns) hs ?_) hd1)) hd2) hsw
  refine set_plain X (ox := exR C t1 (some dx)) (od := some oD) ⟨hx, rfl, rfl, hoD⟩ T.sa ?_
  refine PySem.OEX.osa_old X hx hns hw hz hcl (show PySem.HandSPX.refsVE (.ref C :: bm) = true from hbm) rfl hno (fun h' tk' k hn => ?_)
  exact hq h' tk' k hn
/-- stores of parameters to fields -/
inductive StOk (K : Frag) (C : Addr) (env : Env) (m : Str → Option Value) (x : Addr) : List Stmt → List (Str × V) → Prop
  | nil : StOk K C env m x [] []
  | cons {sf pn fl : Str} {p1 p2 p3 p4 : Pos} {v : Value} {y : V} {sts : List Stmt} {fs : List (Str × V)} (hks : env.kindOf sf = some .local) (hkp : env.kindOf pn = some .local) (hs : m sf = some (.ref x)) (hv : m pn = some v) (ry : RelV y v) (hno : findIn K (.ref C) fl = some none)
    (hd1 : (sf == ("__debug__" : Str)) = false) (hd2 : (pn == ("__debug__" : Str)) = false) (hsw : swapsWith (.Name pn p3) (some (.Attribute (.Name sf p1) fl p2)) p4.line env = pure false) (r : StOk K C env m x sts fs) :
    StOk K C env m x (.Assign [.Attribute (.Name sf p1) fl p2] (.Name pn p3) p4 :: sts) ((fl, y) :: fs)
theorem run_stores {env : Env} {dx : Addr} {Q : Flow → Shared → Prop} (T : OexC K C) (M : Mod K mg base) (hL : env.locals = L) (hk : env.scope.kind = .function) (nb : base.get? dx = none) (nL : dx ≠ L) (nx : dx ≠ x) :
    ∀ {sts : List Stmt} {fs : List (Str × V)}, StOk K C env m x sts fs → ∀ {h : Heap} {t : Nat} {mA : Str → Option Value} {acc : List (Str × V)}, Bh base L m h → h.get? x = some (exR C t1 (some dx)) → h.Ns1 dx mA → (∀ f, RelO (acc.lookup f) (mA f)) → acc.length + fs.length ≤ 900 →
      (∀ h' t' mA', (∀ b o, b ≠ dx → h.get? b = some o → h'.get? b = some o) → h'.Ns1 dx mA' → (∀ f, RelO ((fs.reverse ++ acc).lookup f) (mA' f)) → Q .next ⟨h', g, d, t', os⟩) →
      wpAny (model P w) A (execs sts env) Q E ⟨h, g, d, t, os⟩ := by
  intro sts fs S
  induction S with
  | nil => intro h t mA acc B hx hn hr hl hq; exact wpAny_execs_nil (hq h t mA (fun b o _ e => e) hn hr)
  | cons hks hkp hs hv ry hno hd1 hd2 hsw r ih =>
    intro h t mA acc B hx hn hr hl hq
    refine wpAny_execs_cons (store_old T M B hL hk hks hkp hs hv hno hx hn (within_of hr) (by rw [List.length_map]; omega) hd1 hd2 hsw fun h1 t1' k1 hn1 => ?_)
    refine ih (B.to nb nL k1) (k1 _ _ (Ne.symm nx) hx) hn1 (relO_put ry hr) (by simp only [List.length_cons] at hl ⊢; omega) fun h2 t2 mA2 k2 hn2 hr2 => ?_
    refine hq h2 t2 mA2 (fun b o nb' e => k2 b o nb' (k1 b o nb' e)) hn2 ?_
    rw [List.reverse_cons, List.append_assoc]
    exact hr2
end
/-! ### the __init__ as a def -/
def spInit (C : Addr) (flds : List Str) : Sp := fun vs H Q _ => ∃ (a : Addr) (ys : List V), vs = .ref a :: ys ∧ ys.length = flds.length ∧ ys.length ≤ 100 ∧ H a = some (exo a C none) ∧ ∀ d, H d = none → d ≠ a → Q .non (upd (upd H d (exd d (flds.zip ys).reverse)) a (exo a C (some d)))
/-- behind it: what is tracked -/
theorem ends_un {P : Program} {w : World} {H : Hp} {hp h' : Heap} {fsx : List Addr} {a C dx t2 : Addr} {fs : List (Str × V)} {mA : Str → Option Value} (hok : HOk P w H hp) (e : H a = some (exo a C none)) (dn : hp.objs.size ≤ dx) (dne : dx ≠ a)
    (k : ∀ b o, b ≠ a → hp.get? b = some o → h'.get? b = some o) (hx : h'.get? a = some (exR C t2 (some dx))) (hn : h'.Ns1 dx mA) (hr : ∀ f, RelO (fs.lookup f) (mA f)) :
    Un fsx [] H (upd (upd H dx (exd dx fs)) a (exo a C (some dx))) hp h' ∧ HOk P w (upd (upd H dx (exd dx fs)) a (exo a C (some dx))) h' := by
  have hnd : H dx = none := hok.fresh dn
  have nd : ∀ {b : Addr} {o : Obj}, hp.get? b = some o → b ≠ dx := fun {b o} q => Nat.ne_of_lt (Nat.lt_of_lt_of_le (Heap.lt_size q) dn)
  have na : ∀ {b : Addr}, H b = none → b ≠ a := fun {b} n z => by
    rw [z, e] at n
    cases n
  refine ⟨{
    keep := fun b o q n _ _ => k b o (na n) q
    slot := fun b o q n _ _ => ⟨o.slots, k b o (na n) q⟩
    free := fun b o q n _ => by rw [upd_ne (na n), upd_ne (nd q)]; exact n
    there := fun b o q _ => by
      by_cases hb : b = a
      · exact ⟨_, by rw [hb]; exact hx⟩
      · exact ⟨o, k b o hb q⟩
    tups := fun b xs q => by rw [upd_ne (at_ne e q exo_tup), upd_ne (ne_of_none q hnd)]; exact q
    frzs := fun b o v q => by rw [upd_ne (at_ne e q exo_frz), upd_ne (ne_of_none q hnd)]; exact q
    tbls := fun b ps q => ⟨#[], by rw [upd_ne (at_ne e q exo_tbl), upd_ne (ne_of_none q hnd), q]; simp⟩ }, fun b o q => ?_⟩
  by_cases hb : b = a
  · subst hb
    rw [upd_same] at q
    cases q
    exact exo_ok hx
  · rw [upd_ne hb] at q
    by_cases hd : b = dx
    · subst hd
      rw [upd_same] at q
      cases q
      exact exd_ok hn hr
    · rw [upd_ne hd] at q
      exact (hok b o q).stay (fun c v hc z => k c v (by
          rcases hc with hc | hc
          · rw [hc]
            exact hb
          · exact at_ne e hc exo_own) z)
        (fun c hc => by rw [upd_ne (at_ne e hc exo_own), upd_ne (ne_of_none hc hnd)]; exact hc) (fun c xs hc => by rw [upd_ne (at_ne e hc exo_tup), upd_ne (ne_of_none hc hnd)]; exact hc)
theorem lookup_mem {β : Type} {x : Str} {u : β} : ∀ {l : List (Str × β)}, (l.map (·.1)).Nodup → (x, u) ∈ l → l.lookup x = some u := by
  intro l
  induction l with
  | nil => intro _ h; cases h
  | cons p r ih =>
    intro hn hm
    obtain ⟨a, b⟩ := p
    rw [List.map_cons, List.nodup_cons] at hn
    rcases List.mem_cons.mp hm with h | h
    · cases h
      simp [List.lookup]
    · have hne : (x == a) = false := by
        apply beq_false_of_ne
        intro z
        subst z
        exact hn.1 (List.mem_map.mpr ⟨_, h, rfl⟩)
      simp only [List.lookup, hne]
      exact ih hn.2 h
section
variable {P : Program} {w : World} {K : Frag} {mg : Str → Option Value} {base : Heap} {C f cc cda : Addr}
theorem init_ok {name qual sf pn fl : Str} {pns fls : List Str} {params : Arguments} {scope : Scope} {dV kV doc pm ct oc : Value} {an od : Option Addr} {osl : Array (Option Value)} {e : Expr} {es : List Expr} {sts : List Stmt} {p0 p1 p2 p3 p4 q1 q2 q3 q4 : Pos} {ar : Arg}
    (T : ErT P K C f cc cda (ksFn name qual params (.Expr (.Call (.Attribute (.Call (.Name "super" p0) [] [] p1) "__init__" p2) (e :: es) [] p3) p4 :: .Assign [.Attribute (.Name sf q1) fl q2] (.Name pn q3) q4 :: sts) scope dV kV doc pm an (.ref cda) ct cc))
    (lk : K.lookup f = some ⟨oc, od, .func (ksFn name qual params (.Expr (.Call (.Attribute (.Call (.Name "super" p0) [] [] p1) "__init__" p2) (e :: es) [] p3) p4 :: .Assign [.Attribute (.Name sf q1) fl q2] (.Name pn q3) q4 :: sts) scope dV kV doc pm an (.ref cda) ct cc), osl⟩)
    (hcd : codeIn K (.ref cda) qual = true) (hsup : mg "super" = none) (hp : (params.posonlyargs ++ params.args).head? = some ar) (har : ar.arg = sf)
    (hks : scope.names.lookup ("super" : Str) = some .globalImplicit) (hkc : scope.names.lookup ("__class__" : Str) = some .free) (hk : scope.kind = .function) (hco : scope.isCoroutine = false) (hgen : scope.isGenerator = false)
    (hcell : ∀ x ∈ scope.names, x.2 ≠ .cell) (hloc : ∀ x ∈ sf :: pn :: pns, scope.names.lookup x = some .local) (hnd : (sf :: pn :: pns).Nodup) (hfl : fls.length = pns.length)
    (hno : findIn K (.ref C) fl = some none) (hd1 : (sf == ("__debug__" : Str)) = false) (hd2 : (pn == ("__debug__" : Str)) = false)
    (hsw : ∀ L, swapsWith (.Name pn q3) (some (.Attribute (.Name sf q1) fl q2)) q4.line (ksEnv qual scope L f (.ref cda) cc) = pure false)
    (hi : ∀ L, interactive (ksEnv qual scope L f (.ref cda) cc) = false)
    (he : ∀ L, eval (.Call (.Attribute (.Call (.Name "super" p0) [] [] p1) "__init__" p2) (e :: es) [] p3) (ksEnv qual scope L f (.ref cda) cc) = (do
      let ov ← attributeBase (.Call (.Name "super" p0) [] [] p1) "__init__" (ksEnv qual scope L f (.ref cda) cc) (eval (.Call (.Name "super" p0) [] [] p1) (ksEnv qual scope L f (.ref cda) cc))
      standAt p2.atName
      let (f', first) ← holding [ov] (getMethod ov "__init__" (pure false))
      callWith p3 f' first (backTo p3 (starEach (e :: es) (ksEnv qual scope L f (.ref cda) cc))) []))
    (hee : ∀ L, starEach (e :: es) (ksEnv qual scope L f (.ref cda) cc) = (false, eval e (ksEnv qual scope L f (.ref cda) cc)) :: starEach es (ksEnv qual scope L f (.ref cda) cc))
    (hpl : ∀ L, (backTo p3 (starEach es (ksEnv qual scope L f (.ref cda) cc))).any (·.1) = false)
    (hargs : ∀ (L : Addr) (m : Str → Option Value) (us : List Value) (A : Around) (E : Value → Shared → Prop) (s : Shared), us.length = (pn :: pns).length → (∀ (i : Nat) x u, (pn :: pns)[i]? = some x → us[i]? = some u → m x = some u) → s.heap.Ns L m → ∀ {Q' : List Value → Shared → Prop}, Q' us s →
      wpAny (model P w) A (spliced (backTo p3 (starEach (e :: es) (ksEnv qual scope L f (.ref cda) cc)))) Q' E s)
    (hsts : ∀ (L x : Addr) (m : Str → Option Value) (us : List Value) (ys : List V), us.length = pns.length → Vals ys us → m sf = some (.ref x) → (∀ (i : Nat) z u, pns[i]? = some z → us[i]? = some u → m z = some u) → StOk K C (ksEnv qual scope L f (.ref cda) cc) m x sts (fls.zip ys)) :
    FnOk P w K mg base CX0 1 f (ksFn name qual params (.Expr (.Call (.Attribute (.Call (.Name "super" p0) [] [] p1) "__init__" p2) (e :: es) [] p3) p4 :: .Assign [.Attribute (.Name sf q1) fl q2] (.Name pn q3) q4 :: sts) scope dV kV doc pm an (.ref cda) ct cc) (sf :: pn :: pns) (spInit C (fl :: fls)) := by
  refine ⟨fun vs H Q E ⟨a, ys, e, hl, _⟩ => ?_, fun A outer s H args us vs Q E hr e0 hb r ⟨a, ys, ev, hyl, hyz, ha, hq⟩ => ?_⟩
  · rw [e, List.length_cons, hl, List.length_cons, hfl]; rfl
  subst ev
  cases r with
  | @cons _ u0 _ uys ra rys =>
  obtain rfl : u0 = Value.ref a := ra
  cases ys with
  | nil => simp at hyl
  | cons y ys =>
  cases rys with
  | @cons _ u1 _ uys ry rys =>
  have KX : K.In s.heap := e0.mod.kin.keeps fun b o e => (e0.bs b o e).1
  have lim : s.heap.NoLimit := e0.mod.nolimit.keeps fun b o e => (e0.bs b o e).1
  have hl2 : uys.length = pns.length := by
    rw [← rys.length]
    simp only [List.length_cons] at hyl
    omega
  obtain ⟨t1, hx0⟩ := exo_at e0.hok ha
  have nbx : base.get? a = none := by
    cases z : base.get? a with
    | none => rfl
    | some o => have := (e0.bs a o z).2; rw [ha] at this; cases this
  refine ks_codeAny_call_defAt (binds := (sf :: pn :: pns).zip (Value.ref a :: u1 :: uys)) hr.depth (KX _ _ lk) rfl lim (codeRec_of KX hcd) rfl hb hcell (fun x hx => hloc _ (List.of_mem_zip hx).1) (fun h1 hns hk1 => ?_) hco hgen hk
  obtain ⟨hp0, g, dr, tk, os⟩ := s
  have nLx : a ≠ hp0.objs.size := Nat.ne_of_lt (Heap.lt_size hx0)
  have hm : ∀ (i : Nat) x u, (sf :: pn :: pns)[i]? = some x → (Value.ref a :: u1 :: uys)[i]? = some u → ((sf :: pn :: pns).zip (Value.ref a :: u1 :: uys)).reverse.lookup x = some u := fun i x u h1 h2 => by
    have hmem : (x, u) ∈ (sf :: pn :: pns).zip (Value.ref a :: u1 :: uys) := List.mem_of_getElem? (i := i) (by rw [List.getElem?_zip_eq_some]; exact ⟨h1, h2⟩)
    refine lookup_mem ?_ (List.mem_reverse.mpr hmem)
    rw [List.map_reverse, List.map_fst_zip (by simp [hl2])]
    exact (List.reverse_perm _).nodup_iff.mpr hnd
  have B0 : Bh base hp0.objs.size (fun x => ((sf :: pn :: pns).zip (Value.ref a :: u1 :: uys)).reverse.lookup x) h1 := ⟨fun b o e => hk1 b o (e0.bs b o e).1, hns⟩
  have hm0 := hm 0 sf (.ref a) rfl rfl
  have hm1 := hm 1 pn u1 rfl rfl
  refine ks_wpAt_execs_cons (super_stmt (us := u1 :: uys) (t1 := t1) (x := a) T e0.mod hsup lk hp (by rw [har]; exact hm0) hks hkc (by rw [har]; exact hloc _ List.mem_cons_self) hk ?_ (fun h' t' ns Q' hQ => hargs _ _ _ _ _ ⟨h', g, dr, t', os⟩ (by simp [hl2]) (fun i x u h1 h2 => hm (i + 1) x u h1 h2) ns (hQ t')) B0 (hk1 _ _ hx0) (fun h2 t2 t' k2 e2 => ?_) (hi _) (he _) (hee _) (hpl _))
  · simp only [List.length_cons] at hyz ⊢
    rw [← rys.length, sizeLine_eq]
    omega
  have B2 := B0.to nbx nLx k2
  refine wpAt_of_wpAny (wpAny_execs_cons (store_new (x := a) T.oex e0.mod B2 rfl hk (hloc _ List.mem_cons_self) (hloc _ (List.mem_cons_of_mem _ List.mem_cons_self)) hm0 hm1 hno e2 hd1 hd2 (hsw _) fun h3 dx t3 k3 dn dne hx3 hn3 => ?_))
  have B3 := B2.to nbx nLx k3
  have hLl : hp0.objs.size < h2.objs.size := B2.ns.lt
  have nLd : dx ≠ hp0.objs.size := Nat.ne_of_gt (Nat.lt_of_lt_of_le hLl dn)
  have dn0 : hp0.objs.size ≤ dx := Nat.le_of_lt (Nat.lt_of_lt_of_le hLl dn)
  have nbd : base.get? dx = none := by
    cases z : base.get? dx with
    | none => rfl
    | some o => exact absurd (Heap.lt_size (e0.bs dx o z).1) (Nat.not_lt.mpr dn0)
  refine run_stores (x := a) (t1 := t2) T.oex e0.mod rfl hk nbd nLd dne (hsts _ a _ uys ys hl2 rys hm0 fun i z u h1 h2 => hm (i + 2) z u h1 h2) B3 hx3 hn3 (acc := [(fl, y)]) (relO_put (fs := []) ry fun g => True.intro) (by
    rw [List.length_zip, List.length_singleton]
    simp only [List.length_cons] at hyz
    omega) fun h4 t4 mA k4 hn4 hr4 => ?_
  have kk : ∀ b o, b ≠ a → hp0.get? b = some o → h4.get? b = some o := fun b o nb e => k4 b o (fun z => by
    rw [z] at e
    exact absurd (Heap.lt_size e) (Nat.not_lt.mpr dn0)) (k3 b o nb (k2 b o nb (hk1 b o e)))
  have hz : (fls.zip ys).reverse ++ [(fl, y)] = ((fl :: fls).zip (y :: ys)).reverse := by rw [List.zip_cons_cons, List.reverse_cons]
  rw [hz] at hr4
  obtain ⟨un, hok⟩ := ends_un (fsx := frs outer) e0.hok ha dn0 dne kk (k4 _ _ (Ne.symm dne) hx3) hn4 hr4
  exact ⟨.non, _, rfl, e0.bare, un, hok, rfl, hq dx (e0.hok.fresh dn0) dne⟩
end
/-- the program's file; super is no name of its top -/
class PF (P : Program) : Prop where
  file : ((P.main.file : Str) == ("/claim/cut.py" : Str)) = true
  top : (P.main.scope.names.lookup ("super" : Str)).isSome = false
theorem er_mk {P : Program} {K : Frag} {C f cc cda : Addr} {fd : FuncData} {cl ccl : Value} {cld cdd : Option Addr} {csl ccs : Array (Option Value)} {vs : Array Value} {tf : Tok} (hP : PF P) (o : OexC K C) (ce : K.lookup cc = some ⟨cl, cld, .cell (some (.ref C)), csl⟩) (co : K.lookup cda = some ⟨ccl, cdd, .fields vs, ccs⟩)
    (fi : vs[2]? = some (.str "/claim/cut.py" tf)) (su : ks_superIn K C C "__init__" = some (some (.builtin "ValueError.__init__"))) (ic : mroIn K C (.ref C) = some true) (iv : subIn K (.ref C) (.type "ValueError") = some true) (oq : nsIn K cStatics "thirdparty.any" = some none) : ErT P K C f cc cda fd :=
  ⟨o, ⟨cl, cld, csl, ce⟩, ⟨ccl, cdd, vs, ccs, _, tf, co, fi, hP.file⟩, su, ic, iv, oq, hP.top⟩
section
variable {P : Program} {w : World} {A : Around} {E : Value → Shared → Prop} {s : Shared} {env : Env} {pn pn2 pn3 : Str} {q q2 q3 p3 : Pos} {m : Str → Option Value} {u u2 u3 : Value} {Q' : List Value → Shared → Prop}
theorem args1 (hk : env.scope.kind = .function) (hl : env.kindOf pn = some .local) (hd : (pn == ("__debug__" : Str)) = false) (ns : s.heap.Ns env.locals m) (hv : m pn = some u) (hQ : Q' [u] s) :
    wpAny (model P w) A (spliced (backTo p3 [(false, eval (.Name pn q) env)])) Q' E s :=
  Calls.spliced_cons (wpAny_Name (wpAny_loadName_local hk hl ns hv (Calls.spliced_nil hQ)) hd)
theorem args2 (hk : env.scope.kind = .function) (hl : env.kindOf pn = some .local) (hd : (pn == ("__debug__" : Str)) = false) (hl2 : env.kindOf pn2 = some .local) (hd2 : (pn2 == ("__debug__" : Str)) = false) (ns : s.heap.Ns env.locals m) (hv : m pn = some u) (hv2 : m pn2 = some u2) (hQ : Q' [u, u2] s) :
    wpAny (model P w) A (spliced (backTo p3 [(false, eval (.Name pn q) env), (false, eval (.Name pn2 q2) env)])) Q' E s :=
  Calls.spliced_cons (wpAny_Name (wpAny_loadName_local hk hl ns hv (args1 (Q' := fun vs s => Q' (u :: vs) s) hk hl2 hd2 ns hv2 hQ)) hd)
theorem args3 (hk : env.scope.kind = .function) (hl : env.kindOf pn = some .local) (hd : (pn == ("__debug__" : Str)) = false) (hl2 : env.kindOf pn2 = some .local) (hd2 : (pn2 == ("__debug__" : Str)) = false) (hl3 : env.kindOf pn3 = some .local) (hd3 : (pn3 == ("__debug__" : Str)) = false) (ns : s.heap.Ns env.locals m) (hv : m pn = some u) (hv2 : m pn2 = some u2) (hv3 : m pn3 = some u3) (hQ : Q' [u, u2, u3] s) :
    wpAny (model P w) A (spliced (backTo p3 [(false, eval (.Name pn q) env), (false, eval (.Name pn2 q2) env), (false, eval (.Name pn3 q3) env)])) Q' E s :=
  Calls.spliced_cons (wpAny_Name (wpAny_loadName_local hk hl ns hv (args2 (Q' := fun vs s => Q' (u :: vs) s) hk hl2 hd2 hl3 hd3 ns hv2 hv3 hQ)) hd)
end
end ErX

/-! X2: defs over data that may raise an own error; raise; their calls. -/
namespace B
open PySem PySem.Spec PyProof.Rows L2 ErX
/-- the fields of an error as data -/
inductive DtF (G : Hp) : List (Str × V) → List (Str × PyData) → Prop
  | nil : DtF G [] []
  | cons {f : Str} {v : V} {d : PyData} {fs : List (Str × V)} {es : List (Str × PyData)} : Dt G v d → DtF G fs es → DtF G ((f, v) :: fs) ((f, d) :: es)
theorem DtF.mono {G G' : Hp} (e : Same G G') : ∀ {fs : List (Str × V)} {es : List (Str × PyData)}, DtF G fs es → DtF G' fs es
  | _, _, .nil => .nil
  | _, _, .cons h r => .cons (h.mono e) (DtF.mono e r)
theorem DtF.snoc {G : Hp} {f : Str} {v : V} {d : PyData} (h : Dt G v d) : ∀ {fs : List (Str × V)} {es : List (Str × PyData)}, DtF G fs es → DtF G (fs ++ [(f, v)]) (es ++ [(f, d)])
  | _, _, .nil => .cons h .nil
  | _, _, .cons h' r => .cons h' (DtF.snoc h r)
theorem DtF.zip {G : Hp} : ∀ (fl : List Str) {vs : List V} {ds : List PyData}, DtA G vs ds → DtF G (fl.zip vs).reverse (fl.zip ds).reverse
  | [], _, _, _ => by simp; exact .nil
  | _ :: _, _, _, .nil => by simp; exact .nil
  | f :: fl, _, _, .cons h r => by
    rw [List.zip_cons_cons, List.zip_cons_cons, List.reverse_cons, List.reverse_cons]
    exact DtF.snoc h (DtF.zip fl r)
theorem DtF.get {G : Hp} {f : Str} {d : PyData} : ∀ {fs : List (Str × V)} {es : List (Str × PyData)}, DtF G fs es → es.lookup f = some d → ∃ v, fs.lookup f = some v ∧ Dt G v d
  | _, _, .nil, h => by cases h
  | _, _, @DtF.cons _ g v d' fs es h r, e => by
    simp only [List.lookup] at e ⊢
    by_cases q : (f == g) = true
    · rw [q] at e ⊢
      cases e
      exact ⟨v, rfl, h⟩
    · rw [Bool.not_eq_true] at q
      rw [q] at e ⊢
      exact DtF.get r e
/-- what may be raised, from the entry's state -/
def XEn (μ : Mu) (E : XK) (xp : Addr → List (Str × PyData) → Nat → Prop) (G0 H0 : Hp) : Prop := ∀ (C : Addr) (es : List (Str × PyData)) (d : Addr) (fs : List (Str × V)) (G' H' : Hp) (c : Nat), xp C es c → Stt μ G0 H0 G' [] c [] H' → H0 d = none → G' d = none → H' d = some (.xd fs) → DtF G' fs es → E (.ref C) (some d) H'
/-- a def that changes nothing and may raise: xp tells the class and the fields -/
def spX (pre : List PyData → Prop) (post : List PyData → PyData → Prop) (xp : List PyData → Addr → List (Str × PyData) → Prop) : Sp := fun vs H Q E => ∃ G ds, Same G H ∧ DtA G vs ds ∧ pre ds ∧
  (∀ d v G' H', post ds d → Nw G H G' → Same G' H' → Same H H' → Dt G' v d → Q v H') ∧
  ∀ (C : Addr) (es : List (Str × PyData)) (d : Addr) (fs : List (Str × V)) (G' H' : Hp), xp ds C es → Nw G H G' → Same G' H' → Same H H' → H d = none → G' d = none → H' d = some (.xd fs) → DtF G' fs es → E (.ref C) (some d) H'
section
variable {μ : Mu} {Γ : List Sl} {n c : Nat} {R : Po} {ta : TA} {te : TE} {E : XK} {P : PyData → Prop} {i : Nat} {C : Addr} {xp : Addr → List (Str × PyData) → Nat → Prop}
/-- raise C(..) -/
theorem go_raise {flds : List Str} {xs : List PyData} (ha : EvA μ ta Γ n (Eq xs)) (hl : xs.length = flds.length) (hz : xs.length ≤ 100) (hc : c + n ≤ CM) (hx : ∀ G0 H0, R.en G0 H0 → XEn μ E xp G0 H0) (hp : xp C (flds.zip xs).reverse (c + n)) :
    Go μ (fun _ σ H => tMkO C (spInit C flds) [] ta σ H fun cls d H' => E cls d H') Γ c R := fun G0 H0 Gs G σ H D S gs L =>
  ha G0 H0 G c σ H _ S hc fun ds vs G1 H1 p S1 e1 d1 => by
    cases p
    have hvl := d1.length
    refine ⟨by rw [hvl]; omega, fun a na => ⟨a, vs, by rw [List.append_nil], by rw [hvl]; exact hl, by rw [hvl]; exact hz, upd_same, fun d hd dne => ⟨rfl, d, _, upd_same, by rw [upd_ne dne]; exact upd_same, ?_, ?_⟩⟩⟩
    · rw [upd_ne dne] at hd; exact hd
    · rw [upd_ne dne] at hd
      have eH : upd (del (upd (upd (upd H1 a (exo a C none)) d (exd d (flds.zip vs).reverse)) a (exo a C (some d))) a) d (.xd (flds.zip vs).reverse) = upd H1 d (.xd (flds.zip vs).reverse) := by
        funext b
        by_cases hb : b = d
        · rw [hb, upd_same, upd_same]
        · rw [upd_ne hb, upd_ne hb]
          by_cases hba : b = a
          · rw [hba, del_same, na]
          · rw [del_ne hba, upd_ne hba, upd_ne hb, upd_ne hba]
      rw [eH]
      have gd : G1 d = none := Same.free S1.sub hd
      exact hx G0 H0 L.en C _ d _ G1 _ _ hp (S1.junk gd (S1.h0 hd) (S1.notOwn hd)).nil (S1.h0 hd) gd upd_same (DtF.zip flds d1)
/-- a reading that may raise -/
def EvX (μ : Mu) (en : Hp → Hp → Prop) (te : TE) (Γ : List Sl) (n : Nat) (P : PyData → Prop) : Prop :=
  ∀ (G0 H0 G : Hp) (c : Nat) (σ : L2.St) (H : Hp) (Q : VK), en G0 H0 → Stt μ G0 H0 G Γ c σ H → c + n ≤ CM →
    (∀ d v G' H', P d → Stt μ G0 H0 G' Γ (c + n) σ H' → Ext μ.M G H G' H' → Dt G' v d → Q v H') → te σ H Q
theorem EvX.imp {en : Hp → Hp → Prop} {P' : PyData → Prop} (h : EvX μ en te Γ n P) (k : ∀ d, P d → P' d) : EvX μ en te Γ n P' := fun G0 H0 G c σ H Q hen S l q => h G0 H0 G c σ H Q hen S l fun d v G' H' p => q d v G' H' (k d p)
theorem Ev.x {en : Hp → Hp → Prop} (h : Ev μ te Γ n P) : EvX μ en te Γ n P := fun G0 H0 G c σ H Q _ S l q => h G0 H0 G c σ H Q S l q
theorem evx_call {pre : List PyData → Prop} {post : List PyData → PyData → Prop} {xq : List PyData → Addr → List (Str × PyData) → Prop} {xs : List PyData} {en : Hp → Hp → Prop} (ha : EvA μ ta Γ n (Eq xs)) (hp : pre xs) (hen : ∀ G0 H0, en G0 H0 → XEn μ E xp G0 H0) (hx : ∀ C es c, xq xs C es → xp C es c) :
    EvX μ en (tCall (spX pre post xq) [] E ta) Γ n (post xs) := fun G0 H0 G c σ H Q he S l q =>
  ha G0 H0 G c σ H _ S l fun ds vs G1 H1 p S1 e1 d1 => by
    cases p
    refine ⟨G1, xs, S1.sub, by rw [List.append_nil]; exact d1, hp, fun d v G' H' po nw s s' hd => q d v G' H' po (S1.same nw s s') (e1.trans (.same nw s')) hd, fun C es d fs G' H' hxq nw s s' hd gd hd' hf => ?_⟩
    exact hen G0 H0 he C es d fs G' H' (c + n) (hx C es _ hxq) (S1.same nw s s').nil (S1.h0 hd) gd hd' hf
theorem go_setX (h : EvX μ R.en te Γ n P) (hc : c + n ≤ CM) (k : ∀ d, P d → R.nx (Γ.set i (.dat d)) (c + n)) : Go μ (tAsg te (gName i)) Γ c R := fun G0 H0 Gs G σ H D S gs L =>
  h G0 H0 G c σ H _ L.en S hc fun d v G1 H1 p S1 e1 d1 => L.nx _ _ G1 _ H1 (k d p) (S1.setD d1) (gs.trans e1.gg)
theorem go_dropX (h : EvX μ R.en te Γ n P) (hc : c + n ≤ CM) (k : R.nx Γ (c + n)) : Go μ (tDrop te) Γ c R := fun G0 H0 Gs G σ H D S gs L =>
  h G0 H0 G c σ H _ L.en S hc fun d v G1 H1 p S1 e1 d1 => L.nx _ _ G1 _ H1 k S1 (gs.trans e1.gg)
theorem go_dropXP (h : EvX μ R.en te Γ n P) (hc : c + n ≤ CM) (k : ∀ d, P d → R.nx Γ (c + n)) : Go μ (tDrop te) Γ c R := fun G0 H0 Gs G σ H D S gs L =>
  h G0 H0 G c σ H _ L.en S hc fun d v G1 H1 p S1 e1 d1 => L.nx _ _ G1 _ H1 (k d p) S1 (gs.trans e1.gg)
theorem go_retX (h : EvX μ R.en te Γ n P) (hc : c + n ≤ CM) (k : ∀ d, P d → R.rt d (c + n)) (hg : R.rg Γ := by trivial) : Go μ (tRet te) Γ c R := fun G0 H0 Gs G σ H D S gs L =>
  h G0 H0 G c σ H _ L.en S hc fun d v G1 H1 p S1 e1 d1 => L.rt Γ σ d _ v G1 H1 (k d p) hg S1 d1
end
section
variable {P : Program} {w : World} {K : PySem.W.Frag} {mg : Str → Option Value} {base : Heap}
/-- a pure def that may raise -/
theorem ok_raise {x qual : Str} {st : Stmt} {f : Addr} {fd : FuncData} {N ps : List Str} {k : Nat} {pre : List PyData → Prop} {post : List PyData → PyData → Prop} {xp : List PyData → Addr → List (Str × PyData) → Prop} (F : Fun K x qual st f fd) (S : FnScope N ps (defScope st)) (hlen : ∀ ds, pre ds → ds.length = ps.length)
    (body : ∀ (cdv : Value) (A : Around) (fs : List Env) (s : Shared) (H : Hp) (E : XK), A.guards = some [] → Room k (A.deeper (envOfC qual (defScope st) s.heap.objs.size f cdv)) →
      ∃ t, PSs (cxOf (L2.CX P w) P w K mg base N qual (defScope st) f cdv A fs s H E) (defBody st) t ∧ ∀ ds, pre ds → Go pureMu t (ds.map .dat ++ List.replicate (N.length - ps.length) .un) 0 { nx := fun _ _ => post ds .none, rt := fun d _ => post ds d, en := XEn pureMu E fun C es _ => xp ds C es }) :
    FnG P w K mg base (L2.CX P w) (k + 1) f fd ps (spX pre post xp) := by
  refine Fun.okG F S (fun vs H Q E ⟨G, ds, _, hd, hp, _⟩ => hd.length.trans (hlen ds hp)) fun cdv A fs s H vs Q E hg hr ⟨G, ds, sG, hd, hp, q, qx⟩ => ?_
  obtain ⟨t, ht, go⟩ := body cdv A fs s H E hg hr
  refine ⟨t, ht, ?_⟩
  have S0 := start_ok (μ := pureMu) (N := N) (c := 0) [] [] rfl (by simp) sG (fun a m => m.elim) trivial hd
  simp only [List.nil_append] at S0
  rw [hd.length, hlen ds hp] at S0
  refine go ds hp G H G G _ H _ S0 (Same.refl _) ⟨fun Γ c G' σ H' po S' _ => ?_, fun Γ σ d c v G' H' po _ S' hd' => ?_, fun _ _ _ _ _ z => z.elim, fun _ _ _ _ _ z => z.elim, fun C es d fs G' H' c hx S' h0 gd hd' hf => ?_⟩
  · exact q .none .non G' H' po S'.new S'.sub (fun a o e => S'.fr a o (fun z => z) e) .non
  · exact q d v G' H' po S'.new S'.sub (fun a o e => S'.fr a o (fun z => z) e) hd'
  · exact qx C es d fs G' H' hx S'.new S'.sub (fun a o e => S'.fr a o (fun z => z) e) h0 gd hd' hf
end
end B

/-! S16: sorted of a tuple of tuples. -/
namespace B
open PySem PySem.Spec PyProof.Rows L2 PyProof PySem.Calls
section
variable {prog : Program} {w : World} {A : Around} {E : Value → Shared → Prop} {s : Shared}
theorem collect_tup {l : Addr} {vs : List Value} {Q : List Value → Shared → Prop} (hl : IsTup s.heap l vs.toArray) (hz : vs.length ≤ sizeLine)
    (h : Q vs { s with heap := (s.heap.push (seqObj "list" #[] 0)).update s.heap.objs.size (Obj.mapSeq (· ++ vs.toArray)) }) : wpAny (model prog w) A (collect (.ref l)) Q E s := by
  obtain ⟨⟨c, dd, dt, sl⟩, ho, hc, n, hd⟩ := hl
  simp only at hc hd
  subst hc hd
  obtain ⟨hp, g, d, tk, os⟩ := s
  have up : (hp.push (seqObj "list" #[] 0)).get? l = some { cls := .type "tuple", dict := dd, data := .seq vs.toArray n, slots := sl } := Heap.get?_push_of_some _ ho
  have nw : (hp.push (seqObj "list" #[] 0)).get? hp.objs.size = some { cls := .type "list", dict := none, data := .seq #[] 0, slots := #[] } := Heap.get?_push_size _ rfl
  have f2 := AutoSeq1.sub_tuple_tuple
  have f3 := AutoSeq1.sub_list_list
  have f4 := AutoSeq1.sub_tuple_list
  have f5 := AutoSeq1.sub_list_tuple
  have hz' : ((#[] : Array Value) ++ vs.toArray).size ≤ sizeLine + 1 := by rw [Array.size_append]; simp; omega
  unfold collect
  refine wpAny_bind (wpAny_runValue (codeAny_builtin entry_proto_collect' ?_))
  refine wpAny_bind (wpAny_newList ?_)
  refine wpAny_pure ⟨Code.quiet_builtin _ (by decide +kernel), codeAny_builtin entry_list_iadd' ?_⟩
  have key : Meets (Builtin.«list.__iadd__» ⟨[.ref hp.objs.size, .ref l], []⟩) (fun _ R s => s.heap.get? hp.objs.size = some { cls := .type "list", dict := none, data := .seq #[] 0, slots := #[] } ∧ s.heap.get? l = some { cls := .type "tuple", dict := dd, data := .seq vs.toArray n, slots := sl } ∧ R (.ok (.ret (Value.ref hp.objs.size))) { s with heap := s.heap.update hp.objs.size (Obj.mapSeq fun x => x ++ vs.toArray), toks := s.toks }) :=
    .of_wp fun prog w A R s h => by
      obtain ⟨hp2, g2, d2, tk2, os2⟩ := s; obtain ⟨hl, hb, h⟩ := h
      wp_walk using (wpAny_updateSeq hl rfl (hz := by simp) (_hz' := hz')), wpAny_loadPart' hl, wpAny_loadPart' hb; exact ⟨_, rfl, h⟩
  refine key prog w A (fun r s' => match r with
    | .ok (.ret v) => wpAny (model prog w) A (match v with
      | Value.ref a => do
        let o ← load a
        match o.data with
          | Data.seq xs epoch => pure xs.toList
          | x => unsupported "internal:collect"
      | x => unsupported "internal:collect") Q E s'
    | .ok _ => False
    | .error e => E e s') ⟨hp.push (seqObj "list" #[] 0), g, d, tk, os⟩ ⟨nw, up, ?_⟩
  have hg := get?_update_seq (h := hp.push (seqObj "list" #[] 0)) (a := hp.objs.size) (c := "list") (xs := #[]) (n := 0) nw (fun x => x ++ vs.toArray)
  refine wpAny_bind (wpAny_load hg ?_)
  show wpAny _ _ (pure ((#[] : Array Value) ++ vs.toArray).toList) Q E _
  have e : ((#[] : Array Value) ++ vs.toArray).toList = vs := by simp
  rw [e]
  exact wpAny_pure h
open SrtO in
theorem sorted_ordT {l : Addr} {vs : List Value} {ltv : Value → Value → Bool} {Q : Value → Shared → Prop} (O : Swo ltv) (hl : IsTup s.heap l vs.toArray) (hz : vs.length ≤ sizeLine)
    (hS : 2 ≤ vs.length → ∀ (h₁ : Heap) (a : Addr), h₁.get? a = some (seqObj "list" vs.toArray 0) → (∀ b o, s.heap.get? b = some o → b ≠ a ∧ h₁.get? b = some o) → SortableO prog w A.in1.in1 { s with heap := h₁ } a vs ltv)
    (h : ∀ out : List Value, Srtd ltv out → Stb ltv out vs → Q (.ref (s.heap.objs.size + 1)) { s with heap := sortedAll s.heap vs out.toArray }) : wpAny (model prog w) A (call (.builtin "sorted") [.ref l]) Q E s := by
  refine Calls.call_function_entry kind_sorted plain_sorted entry_sorted (args_sorted1 _) ?_
  unfold Builtin.«sorted»
  refine wpAny_bind (m := checkCount "sorted" 1 1 _) (wpAny_pure (wpAny_bind (collect_tup hl hz (wpAny_bind (wpAny_newList ?_ hz)))))
  have size1 : ((s.heap.push (seqObj "list" #[] 0)).update s.heap.objs.size (Obj.mapSeq (· ++ vs.toArray))).objs.size = s.heap.objs.size + 1 := by rw [Heap.size_update, size_push']
  have new1 : (((s.heap.push (seqObj "list" #[] 0)).update s.heap.objs.size (Obj.mapSeq (· ++ vs.toArray))).push (seqObj "list" vs.toArray 0)).get? (s.heap.objs.size + 1) = some (seqObj "list" vs.toArray 0) := size1 ▸ Heap.get?_push_size _ rfl
  have old1 : ∀ b o, s.heap.get? b = some o → b ≠ s.heap.objs.size + 1 ∧ (((s.heap.push (seqObj "list" #[] 0)).update s.heap.objs.size (Obj.mapSeq (· ++ vs.toArray))).push (seqObj "list" vs.toArray 0)).get? b = some o := fun b o q => ⟨Nat.ne_of_lt (Nat.lt_succ_of_lt (Heap.lt_size q)), Heap.get?_push_of_some _ (by rw [Heap.get?_update_ne _ _ _ _ (Nat.ne_of_lt (Heap.lt_size q))]; exact Heap.get?_push_of_some _ q)⟩
  show wpAny _ _ _ _ _ { s with heap := ((s.heap.push (seqObj "list" #[] 0)).update s.heap.objs.size (Obj.mapSeq (· ++ vs.toArray))).push (seqObj "list" vs.toArray 0) }
  rw [size1]
  refine wpAny_bind (wpAny_holding (wpAny_call_entry slot_list_sort ⟨_, new1, rfl⟩ entry_list_sort (list_sort_ord O new1 hz (fun h2 => hS h2 _ _ new1 old1) fun out hs hb => ⟨_, rfl, wpAny_pure ⟨_, rfl, h out hs hb⟩⟩) (args_list_sort _)))
end
def rSortedU (K : PySem.W.Frag) : List V → Hp → VK → Prop := fun vs H Q => ∃ (a : Addr) (xs : List V) (ds : List PyData) (k : PyData → Kk), vs = [V.ref a] ∧ SqT K H a xs ∧ DtA H xs ds ∧ (∀ d ∈ ds, SeqAt.shaped d = true) ∧ TupOk ds ∧
  (∀ xs ys, .tuple xs ∈ ds → .tuple ys ∈ ds → xs.length = ys.length ∧ LtA xs ys (ltK (k (.tuple xs)) (k (.tuple ys)))) ∧
  ∀ ys es p, ys.Perm xs → DtA H ys es → es.Perm ds → es.Pairwise (fun x y => ltK (k y) (k x) = false) → H p = none → Q (.ref p) (upd H p (.lst ys))
section
variable {X : Cx} {pins : List (Addr × Obj)} {σ : L2.St} {H : Hp} {s : Shared}
theorem cr_sortedU (hu : X.A.units + 70 < cLine) : CallR X (.builtin "sorted") (rSortedU X.K) := by
  intro pins s σ H vs us Q I r h
  obtain ⟨a, xs, ds, k, rfl, hs, hx, hsh, hfo, hlt, q⟩ := h
  obtain ⟨its, rv, hl, hz⟩ := I.tuple hs
  obtain ⟨u, rfl, ru⟩ := vals1 r
  obtain rfl : u = Value.ref a := ru
  have tup : ∀ x ∈ xs, ∃ cs, .tuple cs ∈ ds ∧ Dt H x (.tuple cs) := fun x hm => by
    obtain ⟨d, hd, hxd⟩ := hx.mem hm
    rcases hfo with hfo | hfo
    · obtain ⟨i, cs, rfl⟩ := hfo d hd; exact ⟨_, hd, hxd⟩
    · obtain ⟨i, cs, rfl⟩ := hfo d hd; exact ⟨_, hd, hxd⟩
  obtain ⟨e1, e2⟩ := refs_back rv fun x m => by
    obtain ⟨cs, _, h⟩ := tup x m
    cases h with | tup h _ => exact ⟨_, rfl⟩
  have dat : ∀ v ∈ its, ∃ cs, .tuple cs ∈ ds ∧ partsOf (datOf H (backV v)) = cs ∧ Dt H (backV v) (.tuple cs) ∧ RelV (backV v) v := fun v hv => by
    obtain ⟨t, rfl⟩ := e2 v hv
    have hm : V.ref t ∈ xs := by rw [e1]; exact List.mem_map.mpr ⟨_, hv, rfl⟩
    obtain ⟨cs, h1, h2⟩ := tup _ hm
    exact ⟨cs, h1, by show partsOf (datOf H (.ref t)) = cs; rw [datOf_eq h2]; rfl, h2, rfl⟩
  refine sorted_ordT (ltv := fun v u => ltK (k (.tuple (partsOf (datOf H (backV v))))) (k (.tuple (partsOf (datOf H (backV u)))))) (ltK_swo fun v => k (.tuple (partsOf (datOf H (backV v))))) hl (by rw [← rv.length]; exact hz) (fun h2 h₁ b hb kk => ?_) fun out hsrt hstb => ?_
  · refine tups_sortable (T := fun v => partsOf (datOf H (backV v))) (by show X.A.units + 1 + 1 + 64 < cLine; omega) (by omega) (fun v hv => ?_) (fun v hv d hd => ?_) ?_ h₁ kk fun v hv u hu' => ?_
    · obtain ⟨cs, h1, e, h2, h3⟩ := dat v hv
      rw [e]
      exact Dt.reads I h2 h3 (hsh _ h1)
    · obtain ⟨cs, h1, e, h2, h3⟩ := dat v hv
      rw [e] at hd
      exact shaped_tup (hsh _ h1) hd
    · rcases hfo with hfo | hfo
      · refine .inl fun v hv => ?_
        obtain ⟨cs, h1, e, _⟩ := dat v hv
        obtain ⟨i, r, e'⟩ := hfo _ h1
        cases e'
        exact ⟨i, r, e⟩
      · refine .inr fun v hv => ?_
        obtain ⟨cs, h1, e, _⟩ := dat v hv
        obtain ⟨i, r, e'⟩ := hfo _ h1
        cases e'
        exact ⟨i, r, e⟩
    · obtain ⟨cs, h1, e, _⟩ := dat v hv
      obtain ⟨cs', h1', e', _⟩ := dat u hu'
      rw [e, e']
      exact hlt cs cs' h1 h1'
  · obtain ⟨n, hn⟩ := sortedAll_at s.heap its out.toArray
    have h3 : ∀ u ∈ out, ∃ a, u = Value.ref a := fun u hu => e2 u (hstb.perm.mem_iff.mp hu)
    have hout : ∀ u ∈ out, ∃ cs, .tuple cs ∈ ds ∧ partsOf (datOf H (backV u)) = cs ∧ Dt H (backV u) (.tuple cs) ∧ RelV (backV u) u := fun u hu => dat u (hstb.perm.mem_iff.mp hu)
    have hmap : xs.map (datOf H) = ds := hx.map_of fun x d h => datOf_eq h
    have hy : DtA H (out.map backV) ((out.map backV).map (datOf H)) := DtA.of_map fun x hm => by
      obtain ⟨u, hu, rfl⟩ := List.mem_map.mp hm
      obtain ⟨cs, _, _, h2, _⟩ := hout u hu
      rw [datOf_eq h2]; exact h2
    have hperm : ((out.map backV).map (datOf H)).Perm ds := by
      rw [← hmap, e1]
      exact ((hstb.perm.map backV).map (datOf H))
    have hpw : ((out.map backV).map (datOf H)).Pairwise (fun x y => ltK (k y) (k x) = false) := by
      rw [List.map_map, List.pairwise_map]
      refine List.Pairwise.imp_of_mem (fun {u v} hu hv h => ?_) hsrt
      obtain ⟨cs, _, e, h2, _⟩ := hout u hu
      obtain ⟨cs', _, e', h2', _⟩ := hout v hv
      have h' : ltK (k (.tuple (partsOf (datOf H (backV v))))) (k (.tuple (partsOf (datOf H (backV u))))) = false := h
      rw [e, e'] at h'
      show ltK (k (datOf H (backV v))) (k (datOf H (backV u))) = false
      rw [datOf_eq h2, datOf_eq h2']
      exact h'
    have hle : s.heap.objs.size ≤ s.heap.objs.size + 1 := Nat.le_succ _
    refine ⟨.ref (s.heap.objs.size + 1), upd H (s.heap.objs.size + 1) (.lst (out.map backV)), I.laid (t' := s.toks) (fun b o e => sortedAll_old e) hle ⟨?_, out, n, vals_back h3, hn⟩, rfl, q _ _ _ (by rw [e1]; exact hstb.perm.map backV) hy hperm hpw (I.hok.fresh hle)⟩
    rw [List.length_map, hstb.perm.length_eq, ← rv.length]
    exact hz
theorem crK_sortedU {K : PySem.W.Frag} (h : X.K = K) (hu : X.A.units + 70 < cLine) : CallR X (.builtin "sorted") (rSortedU K) := h ▸ cr_sortedU hu
end
section
variable {μ : Mu} {Γ : List Sl} {n : Nat} {te : TE} {K : PySem.W.Frag} {ds : List PyData}
theorem ev_sortKU {key : PyData → Kk} (h : Ev μ te Γ n (Eq (.tuple ds))) (hs : Sortable key ds) : Ev μ (tCB (rSortedU K) (tCons te tNil)) Γ n (Eq (.list (sortK key ds))) := fun G0 H0 G c σ H Q S l q =>
  h G0 H0 G c σ H _ S l fun d v G1 H1 e S1 e1 d1 => by
    cases e
    cases d1 with
    | tup hp hd =>
      rename_i p vs
      refine ⟨p, vs, ds, key, rfl, hp.sq S1.sub, hd.mono S1.sub, hs.sh, hs.tp, hs.lt, fun ys es a pv hy pe pw ha => ?_⟩
      have hy' : DtA G1 ys es := DtA.of_mem S1.sub hy fun y hm => by
        obtain ⟨d, _, h⟩ := hd.mem (pv.mem_iff.mp hm)
        exact ⟨d, h⟩
      have he := sortK_eq hs.inj pe pw
      subst he
      exact q _ _ _ _ rfl (S1.laid ha) (e1.trans (.same (Nw.upd ha S1.sub) (Same.new ha))) (.lst upd_same (hy'.mono (Nw.upd ha S1.sub).1))
end
end B

/-! X3: an error that is kept behind its except suite: tracked as an .ext from there on. -/
namespace ErX
open PySem PySem.Spec PyProof.Rows L2
/-- the object of a kept error: its class, its dict -/
def ExK (cls : Value) (d : Option Addr) (a : Addr) : Heap → Prop := fun h => ∃ (o : Obj) (vs : Array Value), h.get? a = some o ∧ o.cls = cls ∧ o.dict = d ∧ o.data = .fields vs
theorem ExK.ok {P : Program} {w : World} {H : Hp} {h : Heap} {a : Addr} {cls : Value} {d : Option Addr} (k : ExK cls d a h) : ObjOk P w H h a (.ext (ExK cls d a)) := by
  obtain ⟨o, vs, e, r⟩ := k
  exact ⟨⟨o, vs, e, r⟩, ⟨o, e⟩, fun h1 h2 ⟨o1, v1, e1, r1⟩ q => ⟨o1, v1, q _ e1, r1⟩⟩
/-- an object that was not there at the entry is tracked -/
theorem hold {X : Cx} {pins : List (Addr × Obj)} {σ : L2.St} {H : Hp} {s : Shared} {a : Addr} {u : HO} (I : Inv X pins σ H s) (na : H a = none) (nL : a ≠ X.env.locals) (n0 : a ∉ X.ex → X.s_0.heap.get? a = none)
    (nc : ∀ x c, X.env.cells.lookup x = some c → c ≠ a) (np : ∀ p ∈ X.pn ++ pins, p.1 ≠ a) (new : ObjOk X.prog X.w (upd H a u) s.heap a u) : Inv X pins σ (upd H a u) s := by
  have ne : ∀ {b : Addr} {y : HO}, H b = some y → b ≠ a := fun {b y} e z => by rw [z, na] at e; cases e
  have up : ∀ {b : Addr} {y : HO}, H b = some y → upd H a u b = some y := fun {b y} e => by rw [upd_ne (ne e)]; exact e
  have dn : ∀ {b : Addr}, b ≠ a → H b = none → upd H a u b = none := fun {b} z e => by rw [upd_ne z]; exact e
  refine { I with base := { I.base with free := ?_, tups := ?_, frzs := ?_, tbls := ?_ }, free := dn (Ne.symm nL) I.free, freeC := fun x c e => dn (nc x c e) (I.freeC x c e), pin := ?_, hok := ?_ }
  · intro b o e h0 hx
    exact dn (fun z => by subst z; rw [n0 hx] at e; cases e) (I.base.free b o e h0 hx)
  · exact fun b xs e => up (I.base.tups b xs e)
  · exact fun b o v e => up (I.base.frzs b o v e)
  · intro b ps e
    obtain ⟨m, q⟩ := I.base.tbls b ps e
    exact ⟨m, up q⟩
  · intro p hp
    obtain ⟨h1, h2, h3⟩ := I.pin p hp
    exact ⟨h1, dn (np p hp) h2, h3⟩
  · intro b y e
    by_cases hb : b = a
    · subst hb
      rw [upd_same] at e
      cases e
      exact new
    · rw [upd_ne hb] at e
      exact (I.hok b y e).stay (fun _ _ _ q => q) (fun c q => up q) fun c _ q => up q
/-- the ends of a suite whose error is kept: slot i is the name's -/
def keepEnds (i : Nat) (u : Addr) (y : HO) (D : Ends) : Ends where
  nx := fun σ H => D.nx (σ.set i none) (upd H u y)
  rt := fun v H => D.rt v (upd H u y)
  bk := fun σ H => D.bk (σ.set i none) (upd H u y)
  ct := fun σ H => D.ct (σ.set i none) (upd H u y)
/-- what the clause wishes of an error of the body -/
def wKeep (K : PySem.W.Frag) (c : Value) (i : Nat) (ts : Addr → Value → Option Addr → TS) (W : WX) (D : Ends) : WX := fun cls d σ H =>
  ∃ b, PySem.W.exmOne K cls c = some b ∧ (b = true → ∀ a, H a = none → ts a cls d (keepEnds i a (.ext (ExK cls d a)) D) (σ.set i (some (.ref a))) H) ∧ (b = false → W cls d σ H)
/-- what is known of the error when it is caught -/
structure Caught (X : Cx) (pins : List (Addr × Obj)) (a : Addr) : Prop where
  nl : a ≠ X.env.locals
  nf : a ∉ X.fs
  n0 : a ∉ X.ex → X.s_0.heap.get? a = none
  nc : ∀ x c, X.env.cells.lookup x = some c → c ≠ a
  np : ∀ p ∈ X.pn ++ pins, p.1 ≠ a
section
variable {X : Cx} {x n : Str} {c : Value} {i : Nat} {body suite : List Stmt} {b₀ : Stmt} {np pos pos' : Pos} {tb : WX → TS} {ts : Addr → Value → Option Addr → TS} {W : WX}
/-- behind the suite: the name goes, the error stays known -/
theorem keep_end {pins : List (Addr × Obj)} {a : Addr} {oe : Obj} {vs : Array Value} {cls : Value} {d : Option Addr} {σ : L2.St} {H : Hp} {s : Shared} {Q : Shared → Prop} (ok : X.Ok) (hN : X.N.Nodup) (hi : X.N[i]? = some n) (hln : X.env.kindOf n = some .local)
    (k : Caught X pins a) (hz : Zc cls d oe) (hd : oe.data = .fields vs) (S : Inv (X.suite a ((a, oe) :: (X.pn ++ pins))) [] σ H s) (q : ∀ s', Inv X pins (σ.set i none) (upd H a (.ext (ExK cls d a))) s' → Q s') :
    wpAny (model X.prog X.w) X.A (do bindName X.env n .none; unbindBehindTheSuite X.env n pos') (fun _ s' => Q s') X.xe s := by
  have hmem : ∀ p, p ∈ X.pn ++ (a, oe) :: pins → p ∈ ((a, oe) :: (X.pn ++ pins)) ++ [] := fun p hp => by
    simp only [List.mem_append, List.mem_cons, List.append_nil] at hp ⊢
    rcases hp with h | h | h
    · exact .inr (.inl h)
    · exact .inl h
    · exact .inr (.inr h)
  have J : Inv X ((a, oe) :: pins) σ H s := ⟨ok, S.os, S.bare, S.base, S.loc, S.cell, S.free, S.freeC, fun p hp => S.pin p (hmem p hp), S.hok, S.len⟩
  refine gone_ok J hN hi hln fun s' J' => q s' ?_
  obtain ⟨ha, na, _⟩ := J'.pin (a, oe) (List.mem_append_right _ List.mem_cons_self)
  have J2 : Inv X pins (σ.set i none) H s' := { J' with pin := fun p hp => J'.pin p (by
    rcases List.mem_append.mp hp with h | h
    · exact List.mem_append_left _ h
    · exact List.mem_append_right _ (List.mem_cons_of_mem _ h)) }
  exact hold J2 na k.nl k.n0 k.nc k.np (ExK.ok ⟨oe, vs, ha, hz.1, hz.2, hd⟩)
theorem ps_try_keep (hs : X.stack = X.env :: X.outer) (hf : X.env.frame = some X.env.locals) (hN : X.N.Nodup) (hi : X.N[i]? = some n) (hln : X.env.kindOf n = some .local) (hc : Names X x c) (tk : Takes X W)
    (hb : ∀ (V : WX) (pn : List (Addr × Obj)) (xe : Value → Shared → Prop), Takes (X.tr pn xe) V → PassesOwn (model X.prog X.w) X.A X.env xe → PSs (X.tr pn xe) body (tb V))
    (hsu : ∀ (a : Addr) (oe : Obj) (cls : Value) (d : Option Addr) (pn : List (Addr × Obj)), Zc cls d oe → (∃ vs, oe.data = .fields vs) → PSs (X.suite a ((a, oe) :: pn)) (b₀ :: suite) (ts a cls d)) :
    PS X (.Try body [.ExceptHandler (some (.Name x np)) (some n) (b₀ :: suite) pos'] [] [] pos) (fun D σ H => tb (wKeep X.K c i ts W D) D σ H) := by
  refine ⟨fun pins s σ H D I h => ?_⟩
  have ok := I.ok
  have hfr : X.A.frames = some (X.env :: X.outer) := ok.frames.trans (congrArg some hs)
  refine wpAny_Try_except ?_
  let hand := [ExceptHandler.ExceptHandler (some (.Name x np)) (some n) (b₀ :: suite) pos']
  let catch_ : Value → Shared → Prop := fun e s₁ => wpAny (model X.prog X.w) X.A (noteFrame e X.env) (fun _ s₂ => wpAny (model X.prog X.w) X.A (setFlight e none) (fun _ s₃ => wpAny (model X.prog X.w) X.A (handleBy e X.env hand) (SP X pins D) X.xe s₃) X.xe s₂) X.xe s₁
  have tkB : Takes (X.tr (X.pn ++ pins) catch_) (wKeep X.K c i ts W D) := by
    rintro u s' ⟨a, B, sI, _, σ', H', cls, d, rfl, J', nb, up, sky, na, os, ag, b, hb1, hyes, hno⟩
    have J : Inv X pins σ' H' sI := J'.ofTry ok
    have sky' : Sky B (X.env :: X.outer) a (Zc cls d) X.env.locals s'.heap := by rw [← hs]; exact sky
    show wpAny (model X.prog X.w) X.A (noteFrame (.ref a) X.env) _ _ _
    refine Sky.land Zc.steady hfr hf sky' fun h3 fl3 up3 => ?_
    obtain ⟨oe3, vs3, he3, hz3, hd3⟩ := fl3.there
    have J3 : Inv X pins σ' H' { s' with heap := h3 } := J.landed nb fl3.1 (up.trans up3) os ag
    have nfr : a ∉ frs (X.env :: X.outer) := fun hm => by
      obtain ⟨_, o', e', hnf⟩ := fl3.2.2.1.mem hm
      exact hnf _ (by rw [← Option.some.inj (he3.symm.trans e')]; exact hd3)
    have gone : sI.heap.get? a = none := by
      cases e : sI.heap.get? a with
      | none => rfl
      | some o => exact absurd ((nb a o e (by rw [hs]; exact nfr)).symm.trans fl3.2.1) (by intro z; cases z)
    have C : Caught X pins a := by
      refine ⟨fun z => ?_, fun hm => ?_, fun hx => ?_, fun y r e z => ?_, fun p hp z => ?_⟩
      · exact nfr (List.mem_filterMap.mpr ⟨X.env, List.mem_cons_self, by rw [hf, z]⟩)
      · obtain ⟨e, he, q⟩ := List.mem_filterMap.mp hm
        exact nfr (List.mem_filterMap.mpr ⟨e, List.mem_cons_of_mem _ he, q⟩)
      · cases e : X.s_0.heap.get? a with
        | none => rfl
        | some o =>
          obtain ⟨o', e'⟩ := J.base.there a o e hx
          rw [gone] at e'; cases e'
      · obtain ⟨v, o, e', _⟩ := J.cell y r e
        rw [z, gone] at e'; cases e'
      · have e' := (J.pin p hp).1
        rw [z, gone] at e'; cases e'
    have S3 := J3.suite he3 hd3 na C.nl C.nf
    have LT : PySem.W.Looks (model X.prog X.w) h3 (typeOf (.ref a)) cls := fun A Q E s k q => wpAny_typeOf_ref (k _ _ he3) (by rw [hz3.1]; exact q)
    have LM := PySem.W.exm_one (M := model X.prog X.w) (J3.kIn) LT hb1
    have named : ∀ {Q E : _}, Q c { s' with heap := h3 } → wpAny (model X.prog X.w) (X.A.mark (some (.ref a))) (eval (.Name x np) X.env) Q E { s' with heap := h3 } := fun {Q E} q => by
      rcases hc with ⟨hg, hdbg, hm | ⟨hm, hv, hnn⟩⟩
      · exact ld_glob (X := X.suite a ((a, oe3) :: (X.pn ++ pins))) S3 hg hm q hdbg
      · exact ld_blt (X := X.suite a ((a, oe3) :: (X.pn ++ pins))) S3 hg hm hv q hnn hdbg
    refine wpAny_handleBy_cons (codeAny_handlers_test (named (LM.here ?_))) (by intro q; cases q)
    cases b with
    | true =>
      refine codeAny_handlers_suite_as (HandSPX.lands_againZ fl3 fun h4 fl4 up4 => ?_)
      obtain ⟨oe4, vs4, he4, hz4, hd4⟩ := fl4.there
      have S4 := (J.landed (s' := { s' with heap := h4 }) nb fl4.1 ((up.trans up3).trans up4) os ag).suite he4 hd4 na C.nl C.nf
      refine store_ok (X := X.suite a ((a, oe4) :: (X.pn ++ pins))) (v := .ref a) S4 hN hi (.inl hln) rfl (fun s5 S5 => ?_) (.inr hln)
      refine wpAny_mono ((hsu a oe4 cls d (X.pn ++ pins) hz4 ⟨_, hd4⟩).run [] s5 _ H' _ S5 (hyes rfl a na)) (fun f s6 hsp => ?_) (fun _ _ z => False.elim z)
      cases f with
      | ret u =>
        obtain ⟨v6, σ6, H6, S6, r6, q6⟩ := hsp
        exact keep_end ok hN hi hln C hz4 hd4 S6 fun s7 J7 => ⟨_, _, _, J7, r6, q6⟩
      | _ =>
        obtain ⟨σ6, H6, S6, q6⟩ := hsp
        exact keep_end ok hN hi hln C hz4 hd4 S6 fun s7 J7 => ⟨_, _, J7, q6⟩
    | false =>
      show wpAny _ X.A (handleBy (.ref a) X.env []) _ _ _
      refine wpAny_handleBy_nil ?_
      obtain ⟨_, _, _, oe, vs, T, _, _, he, _, hd, h1, _⟩ := id fl3
      unfold PySem.passOn
      refine wpAny_bind (wpAny_field he hd h1 ?_)
      rw [if_neg (show ¬ ((Value.ref T == Value.none) = true) from by simp)]
      have fin : wpAny (model X.prog X.w) X.A (setFlight (.ref a) X.env.frame) (fun _ s4 => wpAny (model X.prog X.w) X.A (throw (.ref a) : Sem Flow) (SP X pins D) X.xe s4) X.xe { s' with heap := h3 } := by
        rw [hf]
        refine HandSPX.setFlight_upZ fl3 fun h4 hh4 up4 => wpAny_throw (tk _ _ ?_)
        exact ⟨a, B, sI, pins, σ', H', cls, d, rfl, J, nb, (up.trans up3).trans up4, .inr (.inr (by rw [hs]; exact hh4)), na, os, ag, hno rfl⟩
      first
        | exact wpAny_bind (wpAny_pure (wpAny_bind fin))
        | exact wpAny_bind fin
  refine wpAny_mono ((hb _ (X.pn ++ pins) catch_ tkB PassesOwn.looking).run [] s σ H D (I.toTry _) h) (fun f s1 hsp => ?_) (fun e s1 he => he)
  cases f with
  | next =>
    obtain ⟨σ', H', J', q⟩ := hsp
    exact wpAny_execs_nil ⟨σ', H', J'.ofTry ok, q⟩
  | ret u =>
    obtain ⟨v, σ', H', J', r, q⟩ := hsp
    exact ⟨v, σ', H', J'.ofTry ok, r, q⟩
  | _ =>
    obtain ⟨σ', H', J', q⟩ := hsp
    exact ⟨σ', H', J'.ofTry ok, q⟩
end
section
variable {X : Cx}
/-- a kept error of the own class C with its fields -/
def Kept (H : Hp) (a C : Addr) (fs : List (Str × V)) : Prop := ∃ dd : Addr, H a = some (.ext (ExK (.ref C) (some dd) a)) ∧ H dd = some (.xd fs)
theorem Kept.inst {pins : List (Addr × Obj)} {σ : L2.St} {H : Hp} {s : Shared} {a C : Addr} {fs : List (Str × V)} (I : Inv X pins σ H s) (k : Kept H a C fs) :
    ∃ (oe od : Obj) (m : Str → Option Value), PySem.W.InstAt s.heap a oe C (some od) ∧ (∀ f, PySem.W.lookIn f od = some (m f)) ∧ ∀ f, RelO (fs.lookup f) (m f) := by
  obtain ⟨dd, ha, hd⟩ := k
  obtain ⟨⟨oe, vs, e1, e2, e3, e4⟩, _⟩ := I.hok a _ ha
  obtain ⟨m, hns, hr⟩ := I.hok dd _ hd
  obtain ⟨od, ho, hl⟩ := lookIn_ns hns
  exact ⟨oe, od, m, ⟨e1, e2, by unfold PySem.W.notCls; rw [e4] <;> rfl, by rw [e3]; exact ho⟩, hl, hr⟩
/-- reading a field of a kept error -/
def tXk (K : PySem.W.Frag) (f : Str) (te : TE) : TE := fun σ H Q => te σ H fun x H1 => ∃ (a C : Addr) (fs : List (Str × V)) (v : V), x = .ref a ∧ Kept H1 a C fs ∧ XfC K C ∧ PySem.W.findIn K (.ref C) f = some none ∧ fs.lookup f = some v ∧ Q v H1
theorem pe_xk {e : Expr} {te : TE} {pos : Pos} {n : Str} (he : PE X e te) (hb : attributeBase e n X.env (eval e X.env) = eval e X.env := by rfl) : PE X (.Attribute e n pos) (tXk X.K n te) := by
  refine ⟨fun pins s σ H Q I h => attr_of hb (thn (he.run pins s σ H _ I h) fun u s1 hh => ?_)⟩
  obtain ⟨_, H1, I1, rx, a, C, fs, v, rfl, k, T, hno, l, q⟩ := hh
  obtain rfl : u = Value.ref a := rx
  obtain ⟨oe, od, m, J, hl, hr⟩ := k.inst I1
  obtain ⟨u, hu, ru⟩ := RelO.some_of (v := v) (o := m n) (by rw [← l]; exact hr n)
  exact HandSPX.exc_get I1.kIn J T.ga T.gg T.exC (PySem.W.findObj_own T.hdC hno rfl (by rw [hl, hu])) (handed_of ru) ⟨v, H1, I1.tok _, ru, q⟩
/-- isinstance(e, c), e a kept error -/
def rIsK (K : PySem.W.Frag) : List V → Hp → VK → Prop := fun xs H Q => ∃ (a D : Addr) (fs : List (Str × V)) (c : V) (cv : Value) (b : Bool), xs = [.ref a, c] ∧ Kept H a D fs ∧ ExcC K D ∧ (∀ u, RelV c u → u = cv) ∧ PySem.W.kitOne K (.ref D) cv = some b ∧ Q (.bl b) H
theorem call_isK : CallR X (.builtin "isinstance") (rIsK X.K) := by
  intro pins s σ H xs us Q I r h
  obtain ⟨a, D, fs, c, cv, b, rfl, k, C, hcv, e, q⟩ := h
  rcases r with _ | ⟨rx, _ | ⟨rt, _ | _⟩⟩
  cases rx
  have ec := hcv _ rt
  subst ec
  obtain ⟨oe, od, m, J, _⟩ := k.inst I
  have hc : (PySem.W.clsIn X.K D).isSome = true := by
    obtain ⟨cd, hc, _⟩ := PySem.W.any_some C.hd
    rw [hc]; rfl
  exact PySem.W.kia_one (PySem.W.kitx_exc hc C.hg C.hk C.hs C.ha C.hn C.ht C.hm) I.kIn J e (fun z => nomatch z) fun tk => ⟨.bl b, H, I.kept (t' := tk) fun _ _ z => z, rfl, q⟩
end
end ErX

/-! X4: try over data: told = f(..) / except C as error: caught = error. -/
namespace B
open PySem PySem.Spec PyProof.Rows L2 ErX
theorem takes0 {X : Cx} : Takes X (fun _ _ _ _ => False) := fun _ _ ⟨_, _, _, _, _, _, _, _, _, _, _, _, _, _, _, _, z⟩ => z.elim
/-- a call whose wish at what it raises knows the slots -/
def tCallW (sp : Sp) (E : L2.St → XK) (t : TA) : TE := fun σ H Q => t σ H fun vs H1 => sp vs H1 Q (E σ)
section
variable {X : Cx} {CX : CXT} {k : Nat} {f : Addr} {fd : FuncData} {ps : List Str} {sp : Sp} {E : L2.St → XK} {x : Str} {p pos : Pos} {e : Expr} {es : List Expr} {t : TA}
theorem pc_callW (F : FnG X.prog X.w X.K X.mg X.base CX k f fd ps sp) (hG : X.A.guards = some []) (hr : Room k X.A) (hg : Gl X x) (hm : X.mg x = some (.ref f)) (hk : PySem.W.keepIn X.K (.ref f) = true) (hb : L2.Binds X.K fd ps []) (hx : ∀ σ, PassesAt CX X σ (E σ))
    (ha : PA X (e :: es) t) (hdb : (x == ("__debug__" : Str)) = false := by decide) (he : starEach (e :: es) X.env = (false, eval e X.env) :: starEach es X.env := by rfl) (hpl : (backTo pos (starEach es X.env)).any (·.1) = false := by rfl) :
    PE X (.Call (.Name x p) (e :: es) [] pos) (tCallW sp E t) := ⟨fun pins s σ H Q I h => by
  refine wpAny_Call_Name_kw (ld_glob I hg hm (PySem.W.callWith_K (h₀ := X.base) I.mod.kin hk (thn (ha.run pos pins s σ H _ I h) fun us s1 ⟨vs, H1, I1, r, q⟩ => ⟨I1.kIn, ?_⟩) he hpl) hdb)
  have many := F.many _ _ _ _ q
  rw [r.length] at many
  have b := hb s1 us I1.kIn (by rw [List.append_nil]; exact many)
  rw [List.append_nil] at b
  refine wpAny_call (codeAny_mono (F.runs X.A X.stack s1 H1 ⟨us, []⟩ us vs Q (E σ) hG hr I1.env0 b r q) fun res s' z => ?_)
  cases res with
  | error e => exact hx σ pins H1 s1 e s' I1 z
  | ok fl => cases fl <;> first | exact I1.after z | exact False.elim z⟩
end
/-- a slot that holds a kept error of the class C with its fields -/
@[reducible] def Sl.err (C : Addr) (es : List (Str × PyData)) : Sl := .fz fun G v => ∃ (a dd : Addr) (fs : List (Str × V)), v = .ref a ∧ G a = some (.ext (ExK (.ref C) (some dd) a)) ∧ G dd = some (.xd fs) ∧ DtF G fs es
section
variable {μ : Mu} {G0 H0 G : Hp} {Γ : List Sl} {c n : Nat} {σ : L2.St} {H : Hp} {R : Po} {ta : TA} {i j m : Nat}
theorem Stt.setF (S : Stt μ G0 H0 G Γ c σ H) {i : Nat} {v : V} {φ : Hp → V → Prop} (h : ∀ G', Same G G' → φ G' v) : Stt μ G0 H0 G (Γ.set i (.fz φ)) c (σ.set i (some v)) H :=
  S.set ⟨v, rfl, h⟩ fun p o j _ _ => by
    obtain ⟨k, e, _⟩ := o
    rw [List.getElem?_set_self (by simpa using (List.getElem?_eq_some_iff.mp e).1)] at e
    cases e
theorem Stt.setU (S : Stt μ G0 H0 G Γ c σ H) {i : Nat} {o : Option V} : Stt μ G0 H0 G (Γ.set i .un) c (σ.set i o) H := by
  have own : ∀ {a : Nat} {p : Addr}, Owns (Γ.set i .un) (σ.set i o) a p → Owns Γ σ a p := fun {a p} ⟨k, e, q⟩ => by
    by_cases z : i = a
    · subst z
      rw [List.getElem?_set_self (by simpa using (List.getElem?_eq_some_iff.mp e).1)] at e
      cases e
    · rw [List.getElem?_set_ne z] at e q
      exact ⟨k, e, q⟩
  refine ⟨by simpa using S.len, S.new, S.sub, S.fr, S.ent, S.inv, fun a t e => ?_, fun a b p h1 h2 => S.dj a b p (own h1) (own h2)⟩
  by_cases z : i = a
  · subst z
    have hl : i < Γ.length := by simpa using (List.getElem?_eq_some_iff.mp e).1
    rw [List.getElem?_set_self hl] at e
    cases e
    exact ⟨o, List.getElem?_set_self (by rw [S.len]; exact hl), trivial⟩
  · rw [List.getElem?_set_ne z] at e
    obtain ⟨o', h1, h2⟩ := S.sl a t e
    exact ⟨o', by rw [List.getElem?_set_ne z]; exact h1, h2⟩
/-- told = f(..), caught: slot j is told's, i the clause's name, m what keeps the error -/
def tTryK (K : PySem.W.Frag) (cB : Value) (sp : Sp) (ta : TA) (j i m : Nat) (W : WX) : TS := fun D σ H => tAsg (tCallW sp (WE (wKeep K cB i (fun _ _ _ => tAsg (tVar i) (gName m)) W D)) ta) (gName j) D σ H
theorem go_tryK {K : PySem.W.Frag} {cB : Value} {W : WX} {pre : List PyData → Prop} {post : List PyData → PyData → Prop} {xq : List PyData → Addr → List (Str × PyData) → Prop} {xs : List PyData} (ha : EvA μ ta Γ n (Eq xs)) (hp : pre xs) (hc : c + n ≤ CM)
    (hi : i < Γ.length) (hB : ∀ C es, xq xs C es → PySem.W.exmOne K (.ref C) cB = some true)
    (k1 : ∀ d, post xs d → R.nx (Γ.set j (.dat d)) (c + n)) (k2 : ∀ C es, xq xs C es → R.nx (((Γ.set i .un).set m (.err C es)).set i .un) (c + n)) : Go μ (tTryK K cB (spX pre post xq) ta j i m W) Γ c R := fun G0 H0 Gs G σ H D S gs L =>
  ha G0 H0 G c σ H _ S hc fun ds vs G1 H1 p S1 e1 d1 => by
    cases p
    refine ⟨G1, xs, S1.sub, d1, hp, fun d v G' H' po nw s s' hd => L.nx _ _ G' _ H' (k1 d po) ((S1.same nw s s').setD hd) ((gs.trans e1.gg).trans nw.1), fun C es d fs G' H' hxq nw s s' hd gd hd' hf => ?_⟩
    refine ⟨true, hB C es hxq, fun _ a na => ⟨.ref a, List.getElem?_set_self (by rw [S1.len]; exact hi), ?_⟩, fun z => by cases z⟩
    have ga : G' a = none := Same.free s na
    have h1a : H1 a = none := Same.free s' na
    have nda : d ≠ a := fun z => by rw [z, na] at hd'; cases hd'
    let u : HO := .ext (ExK (.ref C) (some d) a)
    let G2 : Hp := upd (upd G' d (.xd fs)) a u
    have gG : Same G' G2 := fun b o e => by
      show upd (upd G' d (.xd fs)) a u b = some o
      rw [upd_ne (fun z => by rw [z, ga] at e; cases e), upd_ne (fun z => by rw [z, gd] at e; cases e)]; exact e
    have n2 : Nw G1 H1 G2 := ⟨nw.1.trans gG, fun b hb => by
      by_cases z : b = a
      · rw [z]; exact .inr h1a
      · by_cases z2 : b = d
        · rw [z2]; exact .inr hd
        · refine nw.2 b (fun e => hb ?_)
          show upd (upd G' d (.xd fs)) a u b = none
          rw [upd_ne z, upd_ne z2]; exact e⟩
    have s2 : Same G2 (upd H' a u) := fun b o e => by
      have e' : upd (upd G' d (.xd fs)) a u b = some o := e
      by_cases z : b = a
      · rw [z, upd_same] at e' ⊢; exact e'
      · rw [upd_ne z] at e' ⊢
        by_cases z2 : b = d
        · rw [z2, upd_same] at e'; rw [z2, ← e']; exact hd'
        · rw [upd_ne z2] at e'; exact s b o e'
    have s3 : Same H1 (upd H' a u) := fun b o e => by
      rw [upd_ne (fun z => by rw [z, h1a] at e; cases e)]; exact s' b o e
    have S2 := S1.same n2 s2 s3
    have gd2 : G2 d = some (.xd fs) := by
      show upd (upd G' d (.xd fs)) a u d = _
      rw [upd_ne nda, upd_same]
    have ga2 : G2 a = some u := upd_same
    refine L.nx _ _ G2 _ _ (k2 C es hxq) (((S2.setU (i := i) (o := some (.ref a))).setF (i := m) (v := .ref a) (fun G3 h3 => ⟨a, d, fs, rfl, h3 _ _ ga2, h3 _ _ gd2, (hf.mono gG).mono h3⟩)).setU (i := i) (o := none)) ((gs.trans e1.gg).trans n2.1)
theorem Stt.err (S : Stt μ G0 H0 G Γ c σ H) {C : Addr} {es : List (Str × PyData)} (h : Γ[i]? = some (.err C es)) : ∃ (a : Addr) (fs : List (Str × V)), σ[i]? = some (some (.ref a)) ∧ Kept H a C fs ∧ DtF G fs es := by
  obtain ⟨o, h1, v, rfl, h2⟩ := S.sl i _ h
  obtain ⟨a, dd, fs, rfl, ga, gd, hf⟩ := h2 G (Same.refl _)
  exact ⟨a, fs, h1, ⟨dd, S.sub _ _ ga, S.sub _ _ gd⟩, hf⟩
section
variable {C : Addr} {es : List (Str × PyData)} {K : PySem.W.Frag}
theorem ev_isNE (h : Γ[i]? = some (.err C es)) : Ev μ (tIsN (tVar i)) Γ 0 (Eq (.bool false)) := fun G0 H0 G c σ H Q S l q => by
  obtain ⟨a, fs, e, _⟩ := S.err h
  exact ⟨_, e, q _ _ G H rfl S (.refl _ _ _) (.bl false)⟩
theorem ev_notNE (h : Γ[i]? = some (.err C es)) : Ev μ (tNotN (tVar i)) Γ 0 (Eq (.bool true)) := fun G0 H0 G c σ H Q S l q => by
  obtain ⟨a, fs, e, _⟩ := S.err h
  exact ⟨_, e, q _ _ G H rfl S (.refl _ _ _) (.bl true)⟩
/-- caught.f -/
theorem ev_fldE {f : Str} {d : PyData} (h : Γ[i]? = some (.err C es)) (T : XfC K C) (hno : PySem.W.findIn K (.ref C) f = some none) (hf : es.lookup f = some d) : Ev μ (tXk K f (tVar i)) Γ 0 (Eq d) := fun G0 H0 G c σ H Q S l q => by
  obtain ⟨a, fs, e, k, df⟩ := S.err h
  obtain ⟨v, e1, hd⟩ := df.get hf
  exact ⟨_, e, a, C, fs, v, rfl, k, T, hno, e1, q _ _ G H rfl S (.refl _ _ _) hd⟩
end
end
end B

/-! S17: `x in xs`, xs an own list of texts. -/
namespace B
open PySem PySem.Spec PyProof.Rows L2
theorem ev_inOS {K : PySem.W.Frag} {μ : Mu} {Γ : List Sl} {ta tb : TE} {a : Str} {zs : List Str} {neg : Bool} (ha : Ev μ ta Γ 0 (Eq (.str a))) (hb : EvL μ tb Γ 0 (Eq (zs.map PyData.str))) :
    Ev μ (tOp (rIn K neg) ta tb) Γ 0 (Eq (.bool (if neg then !zs.any (· == a) else zs.any (· == a)))) := fun G0 H0 G c σ H Q S l q =>
  ha G0 H0 G c σ H _ S (by omega) fun d v G1 H1 p S1 e1 d1 => hb G0 H0 G1 _ σ H1 _ S1 (by omega) fun ds p' vs G2 H2 e S2 e2 hM hp hd => by
    cases e; cases p; cases d1
    have := hd.of_strs; subst this
    exact ⟨_, _, rfl, .inl (SqL.of hp), rfl, flat_strs zs, by rw [inV_strs]; exact q _ _ G2 H2 rfl S2 (e1.trans e2) (.bl _)⟩
/-- a call of what may raise, where it does not -/
theorem ev_callXN {μ : Mu} {Γ : List Sl} {n : Nat} {ta : TA} {E : XK} {pre : List PyData → Prop} {post : List PyData → PyData → Prop} {xq : List PyData → Addr → List (Str × PyData) → Prop} {xs : List PyData} (ha : EvA μ ta Γ n (Eq xs)) (hp : pre xs) (hno : ∀ C es, xq xs C es → False) :
    Ev μ (tCall (spX pre post xq) [] E ta) Γ n (post xs) := fun G0 H0 G c σ H Q S l q =>
  ha G0 H0 G c σ H _ S l fun ds vs G1 H1 p S1 e1 d1 => by
    cases p
    exact ⟨G1, xs, S1.sub, by rw [List.append_nil]; exact d1, hp, fun d v G' H' po nw s s' hd => q d v G' H' po (S1.same nw s s') (e1.trans (.same nw s')) hd, fun C es d fs G' H' hxq => (hno C es hxq).elim⟩
end B

namespace K23
open PySem PySem.Spec PyProof.Rows L2 B
open ErX (PF)
def topS (i : Nat) : Stmt := PySem.Challenge.pw_bothhistories_k23_whole_taken_and_laid.main.body.getD i (.Pass ⟨0, 0, 0, 0⟩)
abbrev s_is_line : Stmt := topS 12
abbrev N_is_line : List Str := ["value", "sign"]
theorem sc_is_line : FnScope N_is_line ["value"] (defScope s_is_line) := ⟨rfl, rfl, rfl, by decide +kernel, rfl, by decide +kernel, by decide +kernel⟩
abbrev s_is_name : Stmt := topS 13
abbrev N_is_name : List Str := ["value", "sign"]
theorem sc_is_name : FnScope N_is_name ["value"] (defScope s_is_name) := ⟨rfl, rfl, rfl, by decide +kernel, rfl, by decide +kernel, by decide +kernel⟩
abbrev s_is_path : Stmt := topS 14
abbrev N_is_path : List Str := ["value", "part"]
theorem sc_is_path : FnScope N_is_path ["value"] (defScope s_is_path) := ⟨rfl, rfl, rfl, by decide +kernel, rfl, by decide +kernel, by decide +kernel⟩
abbrev s_lies_below : Stmt := topS 15
abbrev N_lies_below : List Str := ["path", "folder"]
theorem sc_lies_below : FnScope N_lies_below ["path", "folder"] (defScope s_lies_below) := ⟨rfl, rfl, rfl, by decide +kernel, rfl, by decide +kernel, by decide +kernel⟩
abbrev s_is_file : Stmt := topS 16
abbrev N_is_file : List Str := ["value", "line"]
theorem sc_is_file : FnScope N_is_file ["value"] (defScope s_is_file) := ⟨rfl, rfl, rfl, by decide +kernel, rfl, by decide +kernel, by decide +kernel⟩
abbrev s_is_tree : Stmt := topS 17
abbrev N_is_tree : List Str := ["value", "pair", "neighbours", "one", "other"]
theorem sc_is_tree : FnScope N_is_tree ["value"] (defScope s_is_tree) := ⟨rfl, rfl, rfl, by decide +kernel, rfl, by decide +kernel, by decide +kernel⟩
abbrev s_is_folder : Stmt := topS 19
abbrev N_is_folder : List Str := ["value"]
theorem sc_is_folder : FnScope N_is_folder ["value"] (defScope s_is_folder) := ⟨rfl, rfl, rfl, by decide +kernel, rfl, by decide +kernel, by decide +kernel⟩
abbrev s_is_row : Stmt := topS 20
abbrev N_is_row : List Str := ["value"]
theorem sc_is_row : FnScope N_is_row ["value"] (defScope s_is_row) := ⟨rfl, rfl, rfl, by decide +kernel, rfl, by decide +kernel, by decide +kernel⟩
abbrev s_are_apart : Stmt := topS 21
abbrev N_are_apart : List Str := ["targets", "at", "one", "other"]
theorem sc_are_apart : FnScope N_are_apart ["targets"] (defScope s_are_apart) := ⟨rfl, rfl, rfl, by decide +kernel, rfl, by decide +kernel, by decide +kernel⟩
abbrev s_is_rows : Stmt := topS 22
abbrev N_is_rows : List Str := ["value", "row", "folders", "folder", "target", "one", "other"]
theorem sc_is_rows : FnScope N_is_rows ["value"] (defScope s_is_rows) := ⟨rfl, rfl, rfl, by decide +kernel, rfl, by decide +kernel, by decide +kernel⟩
abbrev s_joined : Stmt := topS 23
abbrev N_joined : List Str := ["folder", "rest"]
theorem sc_joined : FnScope N_joined ["folder", "rest"] (defScope s_joined) := ⟨rfl, rfl, rfl, by decide +kernel, rfl, by decide +kernel, by decide +kernel⟩
abbrev s_rest_of : Stmt := topS 24
abbrev N_rest_of : List Str := ["path", "folder"]
theorem sc_rest_of : FnScope N_rest_of ["path", "folder"] (defScope s_rest_of) := ⟨rfl, rfl, rfl, by decide +kernel, rfl, by decide +kernel, by decide +kernel⟩
abbrev s_row_of : Stmt := topS 25
abbrev N_row_of : List Str := ["rows", "path", "found", "row"]
theorem sc_row_of : FnScope N_row_of ["rows", "path"] (defScope s_row_of) := ⟨rfl, rfl, rfl, by decide +kernel, rfl, by decide +kernel, by decide +kernel⟩
abbrev s_place : Stmt := topS 26
abbrev N_place : List Str := ["rows", "path", "row", "folder", "target"]
theorem sc_place : FnScope N_place ["rows", "path"] (defScope s_place) := ⟨rfl, rfl, rfl, by decide +kernel, rfl, by decide +kernel, by decide +kernel⟩
abbrev s_candidate_of : Stmt := topS 27
abbrev N_candidate_of : List Str := ["rows", "path", "folder", "target"]
theorem sc_candidate_of : FnScope N_candidate_of ["rows", "path"] (defScope s_candidate_of) := ⟨rfl, rfl, rfl, by decide +kernel, rfl, by decide +kernel, by decide +kernel⟩
abbrev s_way_back : Stmt := topS 28
abbrev N_way_back : List Str := ["rows", "path", "found"]
theorem sc_way_back : FnScope N_way_back ["rows", "path"] (defScope s_way_back) := ⟨rfl, rfl, rfl, by decide +kernel, rfl, by decide +kernel, by decide +kernel⟩
abbrev s_taken : Stmt := topS 29
abbrev N_taken : List Str := ["rows", "tree", "found", "path", "lines", "row"]
theorem sc_taken : FnScope N_taken ["rows", "tree"] (defScope s_taken) := ⟨rfl, rfl, rfl, by decide +kernel, rfl, by decide +kernel, by decide +kernel⟩
abbrev s_outside : Stmt := topS 30
abbrev N_outside : List Str := ["rows", "tree", "row"]
theorem sc_outside : FnScope N_outside ["rows", "tree"] (defScope s_outside) := ⟨rfl, rfl, rfl, by decide +kernel, rfl, by decide +kernel, by decide +kernel⟩
abbrev s_check_beside : Stmt := topS 31
abbrev N_check_beside : List Str := ["rows", "beside", "path", "lines"]
theorem sc_check_beside : FnScope N_check_beside ["rows", "beside"] (defScope s_check_beside) := ⟨rfl, rfl, rfl, by decide +kernel, rfl, by decide +kernel, by decide +kernel⟩
abbrev s_led_back : Stmt := topS 32
abbrev N_led_back : List Str := ["rows", "part", "found", "path", "lines", "back"]
theorem sc_led_back : FnScope N_led_back ["rows", "part"] (defScope s_led_back) := ⟨rfl, rfl, rfl, by decide +kernel, rfl, by decide +kernel, by decide +kernel⟩
abbrev s_laid : Stmt := topS 33
abbrev N_laid : List Str := ["rows", "beside", "part", "back", "found", "path", "lines", "other", "more"]
theorem sc_laid : FnScope N_laid ["rows", "beside", "part"] (defScope s_laid) := ⟨rfl, rfl, rfl, by decide +kernel, rfl, by decide +kernel, by decide +kernel⟩
abbrev s_law_box : Stmt := topS 35
abbrev N_law_box : List Str := ["_law_script", "_law_k", "_law_cell", "_law_own"]
theorem sc_law_box : FnScope N_law_box ["_law_script", "_law_k"] (defScope s_law_box) := ⟨rfl, rfl, rfl, by decide +kernel, rfl, by decide +kernel, by decide +kernel⟩
abbrev s_law_take : Stmt := topS 36
abbrev N_law_take : List Str := ["_law_box_here", "_law_many", "_law_digit", "_law_made"]
theorem sc_law_take : FnScope N_law_take ["_law_box_here", "_law_many"] (defScope s_law_take) := ⟨rfl, rfl, rfl, by decide +kernel, rfl, by decide +kernel, by decide +kernel⟩
abbrev s_law_of : Stmt := topS 37
abbrev N_law_of : List Str := ["_law_box_here", "_law_some"]
theorem sc_law_of : FnScope N_law_of ["_law_box_here", "_law_some"] (defScope s_law_of) := ⟨rfl, rfl, rfl, by decide +kernel, rfl, by decide +kernel, by decide +kernel⟩
abbrev s_law_meets : Stmt := topS 38
abbrev N_law_meets : List Str := ["_law_one", "_law_other"]
theorem sc_law_meets : FnScope N_law_meets ["_law_one", "_law_other"] (defScope s_law_meets) := ⟨rfl, rfl, rfl, by decide +kernel, rfl, by decide +kernel, by decide +kernel⟩
abbrev s_law_rows_drawn : Stmt := topS 39
abbrev N_law_rows_drawn : List Str := ["_law_box_here", "_law_folders", "_law_targets", "_law_found", "_law_turn", "_law_folder", "_law_target", "_law_some", "_law_row", "_law_other"]
theorem sc_law_rows_drawn : FnScope N_law_rows_drawn ["_law_box_here"] (defScope s_law_rows_drawn) := ⟨rfl, rfl, rfl, by decide +kernel, rfl, by decide +kernel, by decide +kernel⟩
abbrev s_law_paths : Stmt := topS 40
abbrev N_law_paths : List Str := ["_law_some"]
theorem sc_law_paths : FnScope N_law_paths [] (defScope s_law_paths) := ⟨rfl, rfl, rfl, by decide +kernel, rfl, by decide +kernel, by decide +kernel⟩
abbrev s_law_tree : Stmt := topS 41
abbrev N_law_tree : List Str := ["_law_box_here", "_law_paths_here", "_law_files", "_law_turn", "_law_path", "_law_other", "_law_spot"]
theorem sc_law_tree : FnScope N_law_tree ["_law_box_here", "_law_paths_here"] (defScope s_law_tree) := ⟨rfl, rfl, rfl, by decide +kernel, rfl, by decide +kernel, by decide +kernel⟩
abbrev s_law_paths_right : Stmt := topS 42
abbrev N_law_paths_right : List Str := ["_law_rows", "_law_found", "_law_path", "_law_there", "_law_back"]
theorem sc_law_paths_right : FnScope N_law_paths_right ["_law_rows"] (defScope s_law_paths_right) := ⟨rfl, rfl, rfl, by decide +kernel, rfl, by decide +kernel, by decide +kernel⟩
abbrev s_law_mixed_right : Stmt := topS 43
abbrev N_law_mixed_right : List Str := ["_law_rows", "_law_one", "_law_other", "_law_beside", "_law_part", "_law_caught", "_law_told", "error"]
theorem sc_law_mixed_right : FnScope N_law_mixed_right ["_law_rows", "_law_one", "_law_other"] (defScope s_law_mixed_right) := ⟨rfl, rfl, rfl, by decide +kernel, rfl, by decide +kernel, by decide +kernel⟩
abbrev s_law_right : Stmt := topS 44
abbrev N_law_right : List Str := ["_law_box_here", "_law_rows", "_law_one", "_law_other", "_law_tree_here", "_law_part", "_law_pairs", "_law_first", "_law_second"]
theorem sc_law_right : FnScope N_law_right ["_law_box_here"] (defScope s_law_right) := ⟨rfl, rfl, rfl, by decide +kernel, rfl, by decide +kernel, by decide +kernel⟩
abbrev s_law : Stmt := topS 45
abbrev N_law : List Str := ["_law_script", "_law_k", "_law_box_here", "_law_turn"]
theorem sc_law : FnScope N_law ["_law_script"] (defScope s_law) := ⟨rfl, rfl, rfl, by decide +kernel, rfl, by decide +kernel, by decide +kernel⟩
abbrev s_Inside_init : Stmt := inClass (topS 2) 0
abbrev s_NoPlace_init : Stmt := inClass (topS 3) 0
abbrev s_Covered_init : Stmt := inClass (topS 4) 0
/-- what the top has left -/
structure Tx (K : PySem.W.Frag) (mg : Str → Option Value) where
  m_abs : mg "abs" = none
  m_all : mg "all" = none
  m_any : mg "any" = none
  m_enumerate : mg "enumerate" = none
  m_int : mg "int" = none
  m_isinstance : mg "isinstance" = none
  m_len : mg "len" = none
  m_list : mg "list" = none
  m_max : mg "max" = none
  m_min : mg "min" = none
  m_range : mg "range" = none
  m_sorted : mg "sorted" = none
  m_str : mg "str" = none
  m_tuple : mg "tuple" = none
  m_zip : mg "zip" = none
  t_LETTERS : Tok
  c_LETTERS : mg "LETTERS" = some (.str "0123456789abcdefghijklmnopqrstuvwxyz" t_LETTERS)
  t_BLANK : Tok
  c_BLANK : mg "BLANK" = some (.str " " t_BLANK)
  t_SLASH : Tok
  c_SLASH : mg "SLASH" = some (.str "/" t_SLASH)
  t_MOST_SIGNS : Tok
  c_MOST_SIGNS : mg "MOST_SIGNS" = some (.int 60 t_MOST_SIGNS)
  t_MOST_LETTERS : Tok
  c_MOST_LETTERS : mg "MOST_LETTERS" = some (.int 8 t_MOST_LETTERS)
  t_PAIR : Tok
  c_PAIR : mg "PAIR" = some (.int 2 t_PAIR)
  a_is_line : Addr
  d_is_line : FuncData
  F_is_line : Fun K "is_line" "is_line" s_is_line a_is_line d_is_line
  g_is_line : mg "is_line" = some (.ref a_is_line)
  b_is_line : Binds K d_is_line ["value"] []
  a_is_name : Addr
  d_is_name : FuncData
  F_is_name : Fun K "is_name" "is_name" s_is_name a_is_name d_is_name
  g_is_name : mg "is_name" = some (.ref a_is_name)
  b_is_name : Binds K d_is_name ["value"] []
  a_is_path : Addr
  d_is_path : FuncData
  F_is_path : Fun K "is_path" "is_path" s_is_path a_is_path d_is_path
  g_is_path : mg "is_path" = some (.ref a_is_path)
  b_is_path : Binds K d_is_path ["value"] []
  a_lies_below : Addr
  d_lies_below : FuncData
  F_lies_below : Fun K "lies_below" "lies_below" s_lies_below a_lies_below d_lies_below
  g_lies_below : mg "lies_below" = some (.ref a_lies_below)
  b_lies_below : Binds K d_lies_below ["path", "folder"] []
  a_is_file : Addr
  d_is_file : FuncData
  F_is_file : Fun K "is_file" "is_file" s_is_file a_is_file d_is_file
  g_is_file : mg "is_file" = some (.ref a_is_file)
  b_is_file : Binds K d_is_file ["value"] []
  a_is_tree : Addr
  d_is_tree : FuncData
  F_is_tree : Fun K "is_tree" "is_tree" s_is_tree a_is_tree d_is_tree
  g_is_tree : mg "is_tree" = some (.ref a_is_tree)
  b_is_tree : Binds K d_is_tree ["value"] []
  a_is_folder : Addr
  d_is_folder : FuncData
  F_is_folder : Fun K "is_folder" "is_folder" s_is_folder a_is_folder d_is_folder
  g_is_folder : mg "is_folder" = some (.ref a_is_folder)
  b_is_folder : Binds K d_is_folder ["value"] []
  a_is_row : Addr
  d_is_row : FuncData
  F_is_row : Fun K "is_row" "is_row" s_is_row a_is_row d_is_row
  g_is_row : mg "is_row" = some (.ref a_is_row)
  b_is_row : Binds K d_is_row ["value"] []
  a_are_apart : Addr
  d_are_apart : FuncData
  F_are_apart : Fun K "are_apart" "are_apart" s_are_apart a_are_apart d_are_apart
  g_are_apart : mg "are_apart" = some (.ref a_are_apart)
  b_are_apart : Binds K d_are_apart ["targets"] []
  a_is_rows : Addr
  d_is_rows : FuncData
  F_is_rows : Fun K "is_rows" "is_rows" s_is_rows a_is_rows d_is_rows
  g_is_rows : mg "is_rows" = some (.ref a_is_rows)
  b_is_rows : Binds K d_is_rows ["value"] []
  a_joined : Addr
  d_joined : FuncData
  F_joined : Fun K "joined" "joined" s_joined a_joined d_joined
  g_joined : mg "joined" = some (.ref a_joined)
  b_joined : Binds K d_joined ["folder", "rest"] []
  a_rest_of : Addr
  d_rest_of : FuncData
  F_rest_of : Fun K "rest_of" "rest_of" s_rest_of a_rest_of d_rest_of
  g_rest_of : mg "rest_of" = some (.ref a_rest_of)
  b_rest_of : Binds K d_rest_of ["path", "folder"] []
  a_row_of : Addr
  d_row_of : FuncData
  F_row_of : Fun K "row_of" "row_of" s_row_of a_row_of d_row_of
  g_row_of : mg "row_of" = some (.ref a_row_of)
  b_row_of : Binds K d_row_of ["rows", "path"] []
  a_place : Addr
  d_place : FuncData
  F_place : Fun K "place" "place" s_place a_place d_place
  g_place : mg "place" = some (.ref a_place)
  b_place : Binds K d_place ["rows", "path"] []
  a_candidate_of : Addr
  d_candidate_of : FuncData
  F_candidate_of : Fun K "candidate_of" "candidate_of" s_candidate_of a_candidate_of d_candidate_of
  g_candidate_of : mg "candidate_of" = some (.ref a_candidate_of)
  b_candidate_of : Binds K d_candidate_of ["rows", "path"] []
  a_way_back : Addr
  d_way_back : FuncData
  F_way_back : Fun K "way_back" "way_back" s_way_back a_way_back d_way_back
  g_way_back : mg "way_back" = some (.ref a_way_back)
  b_way_back : Binds K d_way_back ["rows", "path"] []
  a_taken : Addr
  d_taken : FuncData
  F_taken : Fun K "taken" "taken" s_taken a_taken d_taken
  g_taken : mg "taken" = some (.ref a_taken)
  b_taken : Binds K d_taken ["rows", "tree"] []
  a_outside : Addr
  d_outside : FuncData
  F_outside : Fun K "outside" "outside" s_outside a_outside d_outside
  g_outside : mg "outside" = some (.ref a_outside)
  b_outside : Binds K d_outside ["rows", "tree"] []
  a_check_beside : Addr
  d_check_beside : FuncData
  F_check_beside : Fun K "check_beside" "check_beside" s_check_beside a_check_beside d_check_beside
  g_check_beside : mg "check_beside" = some (.ref a_check_beside)
  b_check_beside : Binds K d_check_beside ["rows", "beside"] []
  a_led_back : Addr
  d_led_back : FuncData
  F_led_back : Fun K "led_back" "led_back" s_led_back a_led_back d_led_back
  g_led_back : mg "led_back" = some (.ref a_led_back)
  b_led_back : Binds K d_led_back ["rows", "part"] []
  a_laid : Addr
  d_laid : FuncData
  F_laid : Fun K "laid" "laid" s_laid a_laid d_laid
  g_laid : mg "laid" = some (.ref a_laid)
  b_laid : Binds K d_laid ["rows", "beside", "part"] []
  a_law_box : Addr
  d_law_box : FuncData
  F_law_box : Fun K "_law_box" "_law_box" s_law_box a_law_box d_law_box
  g_law_box : mg "_law_box" = some (.ref a_law_box)
  b_law_box : Binds K d_law_box ["_law_script", "_law_k"] []
  a_law_take : Addr
  d_law_take : FuncData
  F_law_take : Fun K "_law_take" "_law_take" s_law_take a_law_take d_law_take
  g_law_take : mg "_law_take" = some (.ref a_law_take)
  b_law_take : Binds K d_law_take ["_law_box_here", "_law_many"] []
  a_law_of : Addr
  d_law_of : FuncData
  F_law_of : Fun K "_law_of" "_law_of" s_law_of a_law_of d_law_of
  g_law_of : mg "_law_of" = some (.ref a_law_of)
  b_law_of : Binds K d_law_of ["_law_box_here", "_law_some"] []
  a_law_meets : Addr
  d_law_meets : FuncData
  F_law_meets : Fun K "_law_meets" "_law_meets" s_law_meets a_law_meets d_law_meets
  g_law_meets : mg "_law_meets" = some (.ref a_law_meets)
  b_law_meets : Binds K d_law_meets ["_law_one", "_law_other"] []
  a_law_rows_drawn : Addr
  d_law_rows_drawn : FuncData
  F_law_rows_drawn : Fun K "_law_rows_drawn" "_law_rows_drawn" s_law_rows_drawn a_law_rows_drawn d_law_rows_drawn
  g_law_rows_drawn : mg "_law_rows_drawn" = some (.ref a_law_rows_drawn)
  b_law_rows_drawn : Binds K d_law_rows_drawn ["_law_box_here"] []
  a_law_paths : Addr
  d_law_paths : FuncData
  F_law_paths : Fun K "_law_paths" "_law_paths" s_law_paths a_law_paths d_law_paths
  g_law_paths : mg "_law_paths" = some (.ref a_law_paths)
  b_law_paths : Binds K d_law_paths [] []
  a_law_tree : Addr
  d_law_tree : FuncData
  F_law_tree : Fun K "_law_tree" "_law_tree" s_law_tree a_law_tree d_law_tree
  g_law_tree : mg "_law_tree" = some (.ref a_law_tree)
  b_law_tree : Binds K d_law_tree ["_law_box_here", "_law_paths_here"] []
  a_law_paths_right : Addr
  d_law_paths_right : FuncData
  F_law_paths_right : Fun K "_law_paths_right" "_law_paths_right" s_law_paths_right a_law_paths_right d_law_paths_right
  g_law_paths_right : mg "_law_paths_right" = some (.ref a_law_paths_right)
  b_law_paths_right : Binds K d_law_paths_right ["_law_rows"] []
  a_law_mixed_right : Addr
  d_law_mixed_right : FuncData
  F_law_mixed_right : Fun K "_law_mixed_right" "_law_mixed_right" s_law_mixed_right a_law_mixed_right d_law_mixed_right
  g_law_mixed_right : mg "_law_mixed_right" = some (.ref a_law_mixed_right)
  b_law_mixed_right : Binds K d_law_mixed_right ["_law_rows", "_law_one", "_law_other"] []
  a_law_right : Addr
  d_law_right : FuncData
  F_law_right : Fun K "_law_right" "_law_right" s_law_right a_law_right d_law_right
  g_law_right : mg "_law_right" = some (.ref a_law_right)
  b_law_right : Binds K d_law_right ["_law_box_here"] []
  a_law : Addr
  d_law : FuncData
  F_law : Fun K "law" "law" s_law a_law d_law
  g_law : mg "law" = some (.ref a_law)
  b_law : Binds K d_law ["_law_script"] []
  C_BothError : Addr
  g_BothError : mg "BothError" = some (.ref C_BothError)
  C_Inside : Addr
  g_Inside : mg "Inside" = some (.ref C_Inside)
  f_Inside : Addr
  d_Inside : FuncData
  oex_Inside : OexC K C_Inside
  i_Inside : PySem.W.findIn K (.ref C_Inside) "__init__" = some (some (.ref f_Inside))
  t_Inside : PySem.W.typeIn K (.ref f_Inside) = some (.type "function")
  b_Inside : Binds K d_Inside ["self", "path"] []
  in_Inside : ∀ (P : Program) (w : World) (base : Heap), ErX.PF P → FnOk P w K mg base CX0 1 f_Inside d_Inside ["self", "path"] (ErX.spInit C_Inside ["path"])
  ex_Inside : PySem.W.exmOne K (.ref C_Inside) (.ref C_BothError) = some true
  C_NoPlace : Addr
  g_NoPlace : mg "NoPlace" = some (.ref C_NoPlace)
  f_NoPlace : Addr
  d_NoPlace : FuncData
  oex_NoPlace : OexC K C_NoPlace
  i_NoPlace : PySem.W.findIn K (.ref C_NoPlace) "__init__" = some (some (.ref f_NoPlace))
  t_NoPlace : PySem.W.typeIn K (.ref f_NoPlace) = some (.type "function")
  b_NoPlace : Binds K d_NoPlace ["self", "path"] []
  in_NoPlace : ∀ (P : Program) (w : World) (base : Heap), ErX.PF P → FnOk P w K mg base CX0 1 f_NoPlace d_NoPlace ["self", "path"] (ErX.spInit C_NoPlace ["path"])
  ex_NoPlace : PySem.W.exmOne K (.ref C_NoPlace) (.ref C_BothError) = some true
  C_Covered : Addr
  g_Covered : mg "Covered" = some (.ref C_Covered)
  f_Covered : Addr
  d_Covered : FuncData
  oex_Covered : OexC K C_Covered
  i_Covered : PySem.W.findIn K (.ref C_Covered) "__init__" = some (some (.ref f_Covered))
  t_Covered : PySem.W.typeIn K (.ref f_Covered) = some (.type "function")
  b_Covered : Binds K d_Covered ["self", "path", "other"] []
  in_Covered : ∀ (P : Program) (w : World) (base : Heap), ErX.PF P → FnOk P w K mg base CX0 1 f_Covered d_Covered ["self", "path", "other"] (ErX.spInit C_Covered ["path", "other"])
  ex_Covered : PySem.W.exmOne K (.ref C_Covered) (.ref C_BothError) = some true
/-! ### how expressions are read off -/
local macro_rules | `(tactic| walk_at "ev") => `(tactic| first
  | exact ea_nil
  | (apply ea_cons0 <;> walk_at "ev")
  | exact ev_int | exact ev_str | exact ev_bl | exact ev_non | exact ev_var rfl | exact ev_dnew
  | (apply ev_lstE <;> walk_at "ev")
  | (apply ev_tupE <;> walk_at "ev")
  | (apply ev_disp1E <;> walk_at "ev")
  | (apply ev_neg <;> walk_at "ev")
  | (apply ev_add0 <;> walk_at "ev")
  | (apply ev_sub0 <;> walk_at "ev")
  | (apply ev_cmp0 <;> walk_at "ev")
  | (apply ev_pow0 <;> walk_at "ev")
  | (apply ev_isi0 isi_str <;> walk_at "ev")
  | (apply ev_isi0 isi_tuple <;> walk_at "ev")
  | (apply ev_isi0 isi_bool <;> walk_at "ev")
  | (apply ev_isi0 isi_int <;> walk_at "ev")
  | (apply et_B <;> walk_at "ev")
  | (apply et_test <;> walk_at "ev")
  | (apply et_not <;> walk_at "ev")
  | exact Nat.le_of_ble_eq_true rfl
  | exact ⟨by decide, by decide, by decide⟩)
section
variable {P : Program} {w : World} {K : PySem.W.Frag} {mg : Str → Option Value} {base : Heap}
/-! ### the box -/
theorem ok_law_box (T : Tx K mg) : FnG P w K mg base CX0 1 T.a_law_box T.d_law_box ["_law_script", "_law_k"] (spBox K) := by
  refine Fun.okN T.F_law_box sc_law_box (fun vs H Q E ⟨a, ns, j, e, _⟩ => by rw [e]; rfl) fun cdv A fs s H vs Q E hG hr ⟨a, ns, j, e, hS, hl, hj, q⟩ => ?_
  subst e
  refine ⟨_, (pss_cons (ps_set (i := 2) sc_law_box.nd rfl (.inl rfl) (pe_ifExp (pt_cmpR op_lt (pv 1) (pe_callB (callK_len (K := K) rfl) (by rfl) T.m_len bt_len (pa_cons (pv 0) pa_nil)) (nomark _)) (pe_ix (ixK_list (K := K) rfl) (pv 0) (pv 1) (fun _ _ => rfl)) (pe_op op_add (pe_op op_mul pe_int (pv 1)) pe_int)))
        (pss_cons (ps_set (i := 3) sc_law_box.nd rfl (.inl rfl) (pe_op op_mul (pe_op op_mod (pe_callTy call_int1 (by rfl) T.m_int bt_int (pa_cons (pe_callB call_abs (by rfl) T.m_abs bt_abs (pa_cons (pv 2) pa_nil)) pa_nil)) (pe_op op_powW (pe_op op_pow pe_int pe_int) pe_int)) (pe_callTy call_int1 (by rfl) T.m_int bt_int (pa_cons (pe_cmpR op_ge (pe_callB call_abs (by rfl) T.m_abs bt_abs (pa_cons (pv 2) pa_nil)) (pe_op op_pow pe_int pe_int) (nomark _)) pa_nil))))
        (pss_one (ps_ret (pe_lst (pa_cons (pv 3) (pa_cons (pe_op op_mod (pe_callTy call_int1 (by rfl) T.m_int bt_int (pa_cons (pe_op op_add (pe_op op_add (pe_op op_mul (pe_op op_mod (pe_callTy call_int1 (by rfl) T.m_int bt_int (pa_cons (pv 2) pa_nil)) pe_int) pe_int) (pe_op op_mul (pe_op op_mul pe_int (pv 1)) (pv 1))) pe_int) pa_nil)) pe_int) (pa_cons pe_int pa_nil)))))))), ?_⟩
  have hj0 : (0 : Int) ≤ (j : Int) := by omega
  have hj1 : (j : Int) ≤ 10 := by omega
  generalize (j : Int) = jj at hj0 hj1 ⊢
  -- the cell
  refine st_seq (st_setH (PV := fun v H' => H' = H ∧ ∃ cell : Int, v = .int cell) (fun Q k => ?_) fun v H' ⟨e, cell, e2⟩ => ?_)
  · by_cases hlt : jj < (ns.length : Int)
    · refine aB (b := true) (val_var rfl) (vlenL (val_var rfl) hS) (by rw [List.length_map]; exact decide_eq_true hlt) _ ?_
      refine iteT ?_
      obtain ⟨v, hv, hat⟩ := atI_mem (xs := ns.map V.int) hj0 (by rw [List.length_map]; exact hlt)
      obtain ⟨n, _, rfl⟩ := List.mem_map.mp hv
      exact vix (val_var rfl) (val_var rfl) hS hat _ (k _ _ ⟨rfl, n, rfl⟩)
    · refine aB (b := false) (val_var rfl) (vlenL (val_var rfl) hS) (by rw [List.length_map]; exact decide_eq_false hlt) _ ?_
      refine iteF ?_
      exact vI0 (vI val_c (val_var rfl) (.inl ⟨by decide, by decide⟩)) val_c _ (k _ _ ⟨rfl, _, rfl⟩)
  subst e e2
  have habs : (0 : Int) ≤ (if cell < 0 then -cell else cell) := by split <;> omega
  generalize hac : (if cell < 0 then -cell else cell) = ac at habs
  have b1 := emod_lt' (a := ac) (m := ((10 : Int) ^ 60) ^ 5) (by decide)
  have b2 := emod_lt' (a := cell) (m := 2305843009213693951) (by decide)
  dsimp only
  refine st_seq (st_setH (PV := fun v H2 => H2 = H' ∧ ∃ own : Int, v = .int own ∧ 0 ≤ own ∧ own < 10 ^ 300) (fun Q k => ?_) fun v H2 ⟨e, own, e2, o0, o1⟩ => ?_)
  · have e1 := vabs (val_var (σ := [some (V.ref a), some (V.int jj), some (V.int cell), none]) (H := H') (i := 2) rfl)
    rw [hac] at e1
    have e2 : Val _ _ H' _ := vI (C := CMul) (g := fun i j => .int (i * j)) (vI (C := fun _ j => 0 < j) (g := fun i j => .int (i % j)) (vint e1) (vI (C := CPowW) (g := fun i j => .int (i ^ j.toNat)) (vI (C := CPow) (g := fun i j => .int (i ^ j.toNat)) (val_c (v := .int 10)) (val_c (v := .int 60)) (show CPow 10 60 from ⟨by decide, by decide, by decide⟩)) (val_c (v := .int 5)) (show CPowW (10 ^ 60) 5 from ⟨by decide, by decide +kernel⟩)) (show (0 : Int) < (10 ^ 60) ^ 5 by decide +kernel))
      (vintB (vI0 (g := fun i j => .bl (decide (j ≤ i))) e1 (vI (C := CPow) (g := fun i j => .int (i ^ j.toNat)) (val_c (v := .int 10)) (val_c (v := .int 18)) (show CPow 10 18 from ⟨by decide, by decide, by decide⟩)) )) (.inr (by split <;> decide))
    refine e2 Q (k _ _ ⟨rfl, _, rfl, ?_⟩)
    have e3 : ((10 : Int) ^ (60 : Int).toNat) ^ (5 : Int).toNat = (10 ^ 60) ^ 5 := by decide +kernel
    rw [e3]
    have e4 : ((10 : Int) ^ 60) ^ 5 = 10 ^ 300 := by decide +kernel
    rw [e4] at b1 ⊢
    split
    · rw [Int.mul_one]; exact b1
    · rw [Int.mul_zero]; exact ⟨by decide, by decide +kernel⟩
  subst e e2
  dsimp only
  refine v_ret3 (val_var rfl) (vI (C := fun _ j => 0 < j) (vint (vI0 (vI0 (vI (C := CMul) (vI (C := fun _ j => 0 < j) (vint (val_var rfl)) val_c (show (0 : Int) < 2305843009213693951 by decide)) val_c (.inr ⟨by decide, by decide⟩)) (vI (C := CMul) (vI (C := CMul) val_c (val_var rfl) (.inl ⟨by decide, by decide⟩)) (val_var rfl) (.inr ⟨by omega, by omega⟩))) val_c)) val_c (show (0 : Int) < 2305843009213693921 by decide)) val_c fun p hp => q p _ hp (Same.new hp) ⟨_, _, 0, upd_same, o0, o1, ?_⟩
  have b3 := emod_lt' (a := cell % 2305843009213693951 * 70321 + 6491 * jj * jj + 83) (m := 2305843009213693921) (by decide)
  exact ⟨b3.1, by omega, by decide, by decide⟩
theorem ok_law_take (T : Tx K mg) : FnG P w K mg base CX0 1 T.a_law_take T.d_law_take ["_law_box_here", "_law_many"] (spB 1 takePre takePost) := by
  refine Fun.okN T.F_law_take sc_law_take (fun vs H Q E ⟨b, ws, c, G, ds, e, _, _, _, _, hd, ⟨m, e2, _⟩, _⟩ => by subst e2; rw [e, List.length_cons, hd.length]; rfl) fun cdv A fs s H vs Q E hG hr ⟨b, ws, c, G, ds, e, sG, gb, bx, hc, hd, ⟨m, e2, h1, h2⟩, q⟩ => ?_
  subst e e2
  obtain ⟨f, sd, n, hb, f0, f1, s0, s1, n0, n1⟩ := bx
  cases hd with
  | cons hm hr0 =>
  cases hm
  cases hr0
  have hcm : c + 1 ≤ 1000000 := hc
  refine ⟨_, (pss_cons (ps_if (pt_cmpR op_gt (pe_ix (ixK_list (K := K) rfl) (pv 0) pe_int (fun _ _ => rfl)) pe_int (nomark _)) (pss_cons (ps_set (i := 2) sc_law_take.nd rfl (.inl rfl) (pe_op op_mod (pe_callTy call_int1 (by rfl) T.m_int bt_int (pa_cons (pe_ix (ixK_list (K := K) rfl) (pv 0) pe_int (fun _ _ => rfl)) pa_nil)) (pv 1)))
        (pss_cons (ps_asg (pe_op op_fdiv (pe_ix (ixK_list (K := K) rfl) (pv 0) pe_int (fun _ _ => rfl)) (pv 1)) (pg_sub (pv 0) pe_int set_list))
        (pss_one (ps_ret (pv 2))))) pss_nil)
        (pss_cons (ps_asg (pe_op op_add (pe_ix (ixK_list (K := K) rfl) (pv 0) pe_int (fun _ _ => rfl)) pe_int) (pg_sub (pv 0) pe_int set_list))
        (pss_cons (ps_set (i := 3) sc_law_take.nd rfl (.inl rfl) (pe_op op_mod (pe_callTy call_int1 (by rfl) T.m_int bt_int (pa_cons (pe_op op_mul (pe_op op_add (pe_op op_add (pe_ix (ixK_list (K := K) rfl) (pv 0) pe_int (fun _ _ => rfl)) (pe_op op_mul (pe_op op_mul pe_int (pe_ix (ixK_list (K := K) rfl) (pv 0) pe_int (fun _ _ => rfl))) (pe_ix (ixK_list (K := K) rfl) (pv 0) pe_int (fun _ _ => rfl)))) pe_int) pe_int) pa_nil)) pe_int))
        (pss_cons (ps_set (i := 3) sc_law_take.nd rfl (.inl rfl) (pe_op op_mod (pe_callTy call_int1 (by rfl) T.m_int bt_int (pa_cons (pe_op op_mul (pv 3) (pe_op op_add (pe_op op_mod (pe_callTy call_int1 (by rfl) T.m_int bt_int (pa_cons (pv 3) pa_nil)) pe_int) (pe_op op_mul pe_int (pe_ix (ixK_list (K := K) rfl) (pv 0) pe_int (fun _ _ => rfl))))) pa_nil)) pe_int))
        (pss_one (ps_ret (pe_op op_mod (pe_callTy call_int1 (by rfl) T.m_int bt_int (pa_cons (pe_op op_add (pe_op op_fdiv (pv 3) pe_int) (pe_op op_fdiv (pv 3) pe_int)) pa_nil)) (pv 1)))))))), ?_⟩
  have fin : ∀ (f' n' i : Int), 0 ≤ f' → f' < 10 ^ 300 → 0 ≤ n' → n' ≤ c + 1 → 0 ≤ i → i < m → Q (.int i) (upd H b (.lst [.int f', .int sd, .int n'])) := fun f' n' i a1 a2 a3 a4 a5 a6 => by
    refine q (.int i) _ G _ ⟨m, i, rfl, rfl, a5, a6⟩ ⟨Nw.refl _ _, fun a o na ha => by rw [upd_ne na]; exact ha, fun a ha => ?_⟩ (fun a o ha => ?_) ⟨f', sd, n', upd_same, a1, a2, s0, s1, a3, by omega⟩ (.int i)
    · by_cases z : a = b
      · subst z; rw [upd_same] at ha; cases ha
      · rw [upd_ne z] at ha; exact ha
    · rw [upd_ne (fun z => by subst z; rw [gb] at ha; cases ha)]; exact sG a o ha
  by_cases hf : 0 < f
  · refine st_seq (st_yes (aB (vix (val_var rfl) val_c (SqL.of hb) (atI_nat (j := 0) rfl)) val_c (decide_eq_true hf)) ?_)
    refine st_seq (st_set (vI (vint (vix (val_var rfl) val_c (SqL.of hb) (atI_nat (j := 0) rfl))) (val_var rfl) (show (0 : Int) < m by omega)) ?_)
    refine st_seq ?_
    refine vI (vix (val_var rfl) val_c (SqL.of hb) (atI_nat (j := 0) rfl)) (val_var rfl) ⟨by omega, by omega⟩ _ ?_
    refine ⟨_, rfl, b, _, _, 0, rfl, rfl, hb, rfl, ?_⟩
    refine val_var rfl _ ?_
    have d0 : 0 ≤ f / m := Int.ediv_nonneg f0 (by omega)
    have d1 : f / m ≤ f := Int.ediv_le_self _ f0
    have d2 := emod_lt' (a := f) (m := m) (by omega)
    exact fin _ _ _ d0 (by omega) n0 (by omega) d2.1 d2.2
  · refine st_seq (st_no (aB (vix (val_var rfl) val_c (SqL.of hb) (atI_nat (j := 0) rfl)) val_c (decide_eq_false hf)) ?_)
    refine st_next (st_seq ?_)
    refine vI0 (vix (val_var rfl) val_c (SqL.of hb) (atI_nat (j := 2) rfl)) val_c _ ?_
    refine ⟨_, rfl, b, _, _, 2, rfl, rfl, hb, rfl, ?_⟩
    have hb' : (upd H b (.lst ([V.int f, .int sd, .int n].set 2 (.int (n + 1))))) b = some (.lst [.int f, .int sd, .int (n + 1)]) := upd_same
    have fin1 : ∀ i : Int, 0 ≤ i → i < m → Q (.int i) (upd H b (.lst ([V.int f, .int sd, .int n].set 2 (.int (n + 1))))) := fun i a5 a6 => fin f (n + 1) i f0 f1 (by omega) (by omega) a5 a6
    generalize upd H b (.lst ([V.int f, .int sd, .int n].set 2 (.int (n + 1)))) = H1 at hb' fin1 ⊢
    have i1 : ∀ σ : L2.St, σ[0]? = some (some (V.ref b)) → Val (tOp (rIxL K) (tVar 0) (tC (.int 1))) σ H1 (.int sd) := fun σ h => vix (val_var h) val_c (SqL.of hb') (atI_nat (j := 1) rfl)
    have i2 : ∀ σ : L2.St, σ[0]? = some (some (V.ref b)) → Val (tOp (rIxL K) (tVar 0) (tC (.int 2))) σ H1 (.int (n + 1)) := fun σ h => vix (val_var h) val_c (SqL.of hb') (atI_nat (j := 2) rfl)
    have hn1 : n + 1 ≤ 1000000 := by omega
    dsimp only
    refine st_seq (st_set (vI (C := fun _ j => 0 < j) (vint (vI (C := CMul) (vI0 (vI0 (i1 _ rfl) (vI (C := CMul) (vI (C := CMul) val_c (i2 _ rfl) (.inl ⟨by decide, by decide⟩)) (i2 _ rfl) (.inr ⟨by omega, by omega⟩))) val_c) val_c (.inr ⟨by decide, by decide⟩))) val_c (show (0 : Int) < 2305843009213693921 by decide)) ?_)
    have m1 := emod_lt' (a := (sd + 65537 * (n + 1) * (n + 1) + 41) * 48271) (m := 2305843009213693921) (by decide)
    generalize (sd + 65537 * (n + 1) * (n + 1) + 41) * 48271 % 2305843009213693921 = made at m1 ⊢
    dsimp only
    refine st_seq (st_set (vI (C := fun _ j => 0 < j) (vint (vI (C := CMul) (val_var rfl) (vI0 (vI (C := fun _ j => 0 < j) (vint (val_var rfl)) val_c (show (0 : Int) < 1000003 by decide)) (vI (C := CMul) val_c (i2 _ rfl) (.inl ⟨by decide, by decide⟩))) (.inl ⟨by omega, by omega⟩))) val_c (show (0 : Int) < 2305843009213693907 by decide)) ?_)
    have m2 := emod_lt' (a := made * (made % 1000003 + 99991 * (n + 1))) (m := 2305843009213693907) (by decide)
    generalize made * (made % 1000003 + 99991 * (n + 1)) % 2305843009213693907 = made2 at m2 ⊢
    dsimp only
    refine v_ret (vI (C := fun _ j => 0 < j) (vint (vI0 (vI (C := CDiv) (val_var rfl) val_c ⟨by decide, by decide⟩) (vI (C := CDiv) (val_var rfl) val_c ⟨by decide, by decide⟩))) (val_var rfl) (show (0 : Int) < m by omega)) ?_
    have m3 := emod_lt' (a := made2 / 107 + made2 / 1000033) (m := m) (by omega)
    exact fin1 _ m3.1 m3.2
theorem ok_law_of (T : Tx K mg) : FnG P w K mg base CX0 2 T.a_law_of T.d_law_of ["_law_box_here", "_law_some"] (spB 1 ofPre ofPost) := by
  have G_law_take := ok_law_take (P := P) (w := w) (base := base) T
  refine ok_draw T.F_law_of sc_law_of (fun ds ⟨x, e, _⟩ => by rw [e]; rfl) fun cdv A fs s H E hG hr => ⟨_, (pss_one (ps_ret (pe_ix (ixK_seq (K := K) rfl) (pv 1) (pc_call G_law_take hG (hr.mono (by first | decide | omega)) (by rfl) T.g_law_take T.F_law_take.kp T.b_law_take .nil pass0 (pa_cons (pv 0) (pa_cons (pe_callB (callK_len (K := K) rfl) (by rfl) T.m_len bt_len (pa_cons (pv 1) pa_nil)) pa_nil))) (fun _ _ => rfl)))), fun b c ds hc ⟨x, e, hx⟩ => ?_⟩
  subst e
  rcases hx with ⟨xs, rfl, h1, h2⟩ | ⟨z, rfl, h1, h2⟩
  · refine go_ret (n := 0 + (0 + 1)) (ev_opP (ev_var rfl) (ev_callB rfl (ea_cons (ev_lenL (ev_var rfl)) ea_nil) (fun ys e => ⟨_, e.symm, by omega, by omega⟩)) ?_) (by omega) fun d p => ⟨Nat.le_refl _, p⟩
    rintro x y rfl ⟨ys, rfl, m, i, e1, rfl, hi0, hi1⟩
    cases e1
    obtain ⟨d, hd, hat⟩ := atI_mem (xs := xs) hi0 hi1
    exact ⟨d, rd_ixsL hat, _, rfl, .inl ⟨xs, rfl, hd⟩⟩
  · refine go_ret (n := 0 + (0 + 1)) (ev_opP (ev_var rfl) (ev_callB rfl (ea_cons (ev_lenS (ev_var rfl) (by omega)) ea_nil) (fun ys e => ⟨_, e.symm, by omega, by omega⟩)) ?_) (by omega) fun d p => ⟨Nat.le_refl _, p⟩
    rintro x y rfl ⟨ys, rfl, m, i, e1, rfl, hi0, hi1⟩
    cases e1
    have hl : z.length = z.cps.toList.length := by simp [Str.length]
    obtain ⟨ch, hd, hat⟩ := atI_mem (xs := z.cps.toList) hi0 (by omega)
    exact ⟨_, rd_ixsS (by omega) hat, _, rfl, .inr ⟨z, rfl, List.mem_map.mpr ⟨ch, hd, rfl⟩⟩⟩
end
section
variable {P : Program} {w : World} {K : PySem.W.Frag} {mg : Str → Option Value} {base : Heap}
def LET : Str := "0123456789abcdefghijklmnopqrstuvwxyz"
def LETB : Str := " 0123456789abcdefghijklmnopqrstuvwxyz"
def inS (z : Str) (c : Nat) : Bool := decide (c ∈ z.cps.toList)
def szD : PyData → Prop
  | .str z => z.length ≤ 1000
  | _ => True
def lineD : PyData → Bool
  | .str z => decide ((z.length : Int) ≤ 60) && z.cps.toList.all (inS LETB)
  | _ => false
def nameS (z : Str) : Bool := (decide (1 ≤ (z.length : Int)) && decide ((z.length : Int) ≤ 8)) && z.cps.toList.all (inS LET)
def pathD : PyData → Bool
  | .str z => (Txt.split z "/").all nameS
  | _ => false
abbrev pre1 : List PyData → Prop := fun ds => ∃ d, ds = [d] ∧ szD d
abbrev post1 (f : PyData → Bool) : List PyData → PyData → Prop := fun ds e => ∃ d, ds = [d] ∧ e = .bool (f d)
theorem isD_ss {z : Str} : isD "str" (.str z) = true := rfl
theorem isD_str {d : PyData} (h : ∀ z, d ≠ .str z) : isD "str" d = false := by
  cases d <;> first | rfl | exact absurd rfl (h _)
theorem one_eq {c k : Nat} : ((⟨#[c]⟩ : Str) == (⟨#[k]⟩ : Str)) = decide (c = k) := by
  rw [Bool.eq_iff_iff, beq_iff_eq, decide_eq_true_eq]
  constructor
  · intro e
    have e2 := congrArg (fun z : Str => z.cps.toList) e
    simpa using e2
  · intro e; rw [e]
theorem blank_in {c : Nat} : PyData.bool (((⟨#[c]⟩ : Str) == (Str.ofString " ")) || decide (c ∈ (Str.ofString "0123456789abcdefghijklmnopqrstuvwxyz").cps.toList)) = .bool (inS LETB c) := by
  have e1 : (Str.ofString " ") = ⟨#[32]⟩ := by decide +kernel
  have e2 : LETB.cps.toList = 32 :: (Str.ofString "0123456789abcdefghijklmnopqrstuvwxyz").cps.toList := by decide +kernel
  unfold inS
  rw [e1, one_eq, e2]
  congr 1
  rw [Bool.eq_iff_iff]
  simp
theorem all_chars {μ : Mu} {Γ : List Sl} {te ti : TE} {z : Str} {i : Nat} {vs : List Nat} (f : Nat → Bool) (hz : z.length ≤ 1000) (hv : i ∈ vs) (h : Ev μ ti Γ 0 (Eq (.str z)))
    (he : ∀ c, Ev μ te ((wipeG Γ vs).set i (.dat (.str ⟨#[c]⟩))) 0 (Eq (.bool (f c)))) : Ev μ (tCB (rAll K) (tCons (tLc (iStr ti) (gName i) tYes te vs) tNil)) Γ 0 (Eq (.bool (z.cps.toList.all f))) := by
  have hl : (chD z).length ≤ 50000 := by unfold chD; rw [List.length_map, Array.length_toList]; exact Nat.le_trans hz (by decide)
  have key := ev_lcM (is := [i]) (vs := vs) (g := gName i) (te := te) (ew_str h).i hl (by simp [hv]) (fun d => match d with | .str x => .bool (f (x.cps.toList.headD 0)) | _ => .none) (fun d hd => by
    obtain ⟨c, hc, rfl⟩ := mem_chD hd
    exact ⟨_, eg_name, he c⟩)
  have e : (chD z).map (fun d => match d with | .str x => PyData.bool (f (x.cps.toList.headD 0)) | _ => .none) = (z.cps.toList.map f).map PyData.bool := by
    unfold chD
    rw [List.map_map, List.map_map]
    rfl
  rw [e] at key
  have k2 := ev_all (K := K) key
  rw [List.all_map] at k2
  exact k2
theorem ok_is_name (T : Tx K mg) : FnG P w K mg base CX0 1 T.a_is_name T.d_is_name ["value"] (spP (fun ds => ∃ z : Str, ds = [.str z] ∧ z.length ≤ 1000) (fun ds e => ∃ z : Str, ds = [.str z] ∧ e = .bool (nameS z))) := by
  refine ok_pure T.F_is_name sc_is_name (fun ds ⟨x, e, _⟩ => by rw [e]; rfl) fun cdv A fs s H E hG hr => ⟨_, (pss_cons (ps_if (PW.pt (pw_or (pt_not (pt_val (pe_callB (callK_isi (K := K) rfl) (by rfl) T.m_isinstance bt_isinstance (pa_cons (pv 0) (pa_cons (pe_bltn (v := .ty "str") (by rfl) T.m_str bt_str rfl) pa_nil))))) (pw_or1 (pt_not (pt_chain op_le op_le pe_int (pe_callB (callK_len (K := K) rfl) (by rfl) T.m_len bt_len (pa_cons (pv 0) pa_nil)) (pe_glob (v := .int 8) (by rfl) T.c_MOST_LETTERS ⟨_, rfl⟩)))))) (pss_one (ps_ret pe_bl)) pss_nil)
        (pss_one (ps_ret (pe_callB (crK_all (K := K) rfl rfl) (by rfl) T.m_all bt_all (pa_cons (pe_lc (own := [("sign", 1)]) (g := (gName 1)) (by rfl) sc_is_name.nd (pi_str (pv 0)) (blkOk_by (own := [("sign", 1)]) (N := N_is_name) (sc := defScope s_is_name) (by decide +kernel)) (fun _ _ _ _ _ => (pg_name (i := 1) sc_is_name.nd rfl (.inl rfl))) (fun _ _ _ _ _ => pts_nil) (fun _ _ _ _ _ => (pe_cmpR op_in_sign (pv 1) (pe_glob (v := .str "0123456789abcdefghijklmnopqrstuvwxyz") (by rfl) T.c_LETTERS ⟨_, rfl⟩) (by rfl)))) pa_nil))))), fun ds ⟨z, e, hz⟩ => ?_⟩
  subst e
  show Go _ _ [.dat (.str z), .un] _ _
  refine gs_when (et_or0 (et_not (et_B (ev_isi0 isi_str (ev_var rfl)))) (fun _ => et_not (et_test (ev_chain0 ev_int (ev_lenS (ev_var rfl) (by omega)) ev_int rd_B0 (fun _ => rd_B0))))) (by decide) (fun h => ?_) fun h => ?_
  · refine gs_ret (go_retE ev_bl (by decide) ⟨_, rfl, ?_⟩)
    rw [isD_ss] at h
    have h' : (decide (1 ≤ (z.length : Int)) && decide ((z.length : Int) ≤ 8)) = false := by
      cases q : (decide (1 ≤ (z.length : Int)) && decide ((z.length : Int) ≤ 8)) with
      | false => rfl
      | true => rw [q] at h; cases h
    simp only [nameS, h', Bool.false_and]
  · refine go_retE (all_chars (inS LET) hz (by simp) (ev_var rfl) fun c => ev_inSg (ev_var rfl) ev_str) (by decide) ⟨_, rfl, ?_⟩
    rw [isD_ss] at h
    have h' : (decide (1 ≤ (z.length : Int)) && decide ((z.length : Int) ≤ 8)) = true := by
      cases q : (decide (1 ≤ (z.length : Int)) && decide ((z.length : Int) ≤ 8)) with
      | true => rfl
      | false => rw [q] at h; cases h
    simp only [nameS, h', Bool.true_and]
/-- all([f(part) for part in text.split('/')]) -/
theorem all_parts {μ : Mu} {Γ : List Sl} {te ti : TE} {z : Str} {i : Nat} {vs : List Nat} (hz : z.length ≤ 1000) (hv : i ∈ vs) (h : Ev μ ti Γ 0 (Eq (.list ((Txt.split z "/").map .str)))) 
    (he : ∀ p : Str, p.length ≤ 1000 → Ev μ te ((wipeG Γ vs).set i (.dat (.str p))) 0 (Eq (.bool (nameS p)))) : Ev μ (tCB (rAll K) (tCons (tLc (iList K ti) (gName i) tYes te vs) tNil)) Γ 0 (Eq (.bool ((Txt.split z "/").all nameS))) := by
  have key := ev_lcM (is := [i]) (vs := vs) (g := gName i) (te := te) (ew_listE (K := K) h).i (by have := split_many (s := z); rw [List.length_map]; omega) (by simp [hv]) (fun d => match d with | .str x => .bool (nameS x) | _ => .none) (fun d hd => by
    obtain ⟨p, hp, rfl⟩ := mem_strs hd
    exact ⟨_, eg_name, he p (Nat.le_trans (split_len hp) hz)⟩)
  have e : ((Txt.split z "/").map PyData.str).map (fun d => match d with | .str x => PyData.bool (nameS x) | _ => .none) = ((Txt.split z "/").map nameS).map PyData.bool := by
    rw [List.map_map, List.map_map]
    rfl
  rw [e] at key
  have k2 := ev_all (K := K) key
  rw [List.all_map] at k2
  exact k2
theorem ok_is_path (T : Tx K mg) : FnG P w K mg base CX0 2 T.a_is_path T.d_is_path ["value"] (spP pre1 (post1 pathD)) := by
  have G_is_name := ok_is_name (P := P) (w := w) (base := base) T
  refine ok_pure T.F_is_path sc_is_path (fun ds ⟨x, e, _⟩ => by rw [e]; rfl) fun cdv A fs s H E hG hr => ⟨_, (pss_one (ps_ret (pe_and (pe_callB (callK_isi (K := K) rfl) (by rfl) T.m_isinstance bt_isinstance (pa_cons (pv 0) (pa_cons (pe_bltn (v := .ty "str") (by rfl) T.m_str bt_str rfl) pa_nil))) (pe_one (pe_callB (crK_all (K := K) rfl rfl) (by rfl) T.m_all bt_all (pa_cons (pe_lc (own := [("part", 1)]) (g := (gName 1)) (by rfl) sc_is_path.nd (piK_list (K := K) rfl (pe_split (pv 0) (pe_glob (v := .str "/") (by rfl) T.c_SLASH ⟨_, rfl⟩))) (blkOk_by (own := [("part", 1)]) (N := N_is_path) (sc := defScope s_is_path) (by decide +kernel)) (fun _ _ _ _ _ => (pg_name (i := 1) sc_is_path.nd rfl (.inl rfl))) (fun _ _ _ _ _ => pts_nil) (fun _ _ _ _ _ => (pc_call G_is_name hG (hr.mono (by first | decide | omega)) (by rfl) T.g_is_name T.F_is_name.kp T.b_is_name .nil pass0 (pa_cons (pv 1) pa_nil)))) pa_nil)))))), fun ds ⟨d, e, hd⟩ => ?_⟩
  subst e
  show Go _ _ [.dat d, .un] _ _
  by_cases hs : ∃ z, d = .str z
  · obtain ⟨z, rfl⟩ := hs
    have hz : z.length ≤ 1000 := hd
    refine go_retE (ev_andV0 (ev_isi0 isi_str (ev_var rfl)) (fun _ => all_parts hz (by simp) (ev_split (ev_var rfl) ev_str (by decide +kernel) (by omega)) fun p hp => (ev_callP (ea_cons0 (ev_var rfl) ea_nil) ⟨p, rfl, hp⟩).imp fun d ⟨z', e, e2⟩ => by cases e; exact e2.symm)) (by decide) ⟨_, rfl, ?_⟩
    rw [isD_ss]; rfl
  · have hn : isD "str" d = false := isD_str fun z e => hs ⟨z, e⟩
    refine go_retE (ev_andV0 (b := false) ((ev_isi0 isi_str (ev_var rfl)).is (by rw [hn])) (fun h => by cases h)) (by decide) ⟨_, rfl, ?_⟩
    cases d <;> first | rfl | exact absurd ⟨_, rfl⟩ hs
end
section
variable {P : Program} {w : World} {K : PySem.W.Frag} {mg : Str → Option Value} {base : Heap}
theorem ok_is_line (T : Tx K mg) : FnG P w K mg base CX0 1 T.a_is_line T.d_is_line ["value"] (spP pre1 (post1 lineD)) := by
  refine ok_pure T.F_is_line sc_is_line (fun ds ⟨x, e, _⟩ => by rw [e]; rfl) fun cdv A fs s H E hG hr => ⟨_, (pss_cons (ps_if (PW.pt (pw_or (pt_not (pt_val (pe_callB (callK_isi (K := K) rfl) (by rfl) T.m_isinstance bt_isinstance (pa_cons (pv 0) (pa_cons (pe_bltn (v := .ty "str") (by rfl) T.m_str bt_str rfl) pa_nil))))) (pw_or1 (pt_cmpR op_gt (pe_callB (callK_len (K := K) rfl) (by rfl) T.m_len bt_len (pa_cons (pv 0) pa_nil)) (pe_glob (v := .int 60) (by rfl) T.c_MOST_SIGNS ⟨_, rfl⟩) (nomark _))))) (pss_one (ps_ret pe_bl)) pss_nil)
        (pss_one (ps_ret (pe_callB (crK_all (K := K) rfl rfl) (by rfl) T.m_all bt_all (pa_cons (pe_lc (own := [("sign", 1)]) (g := (gName 1)) (by rfl) sc_is_line.nd (pi_str (pv 0)) (blkOk_by (own := [("sign", 1)]) (N := N_is_line) (sc := defScope s_is_line) (by decide +kernel)) (fun _ _ _ _ _ => (pg_name (i := 1) sc_is_line.nd rfl (.inl rfl))) (fun _ _ _ _ _ => pts_nil) (fun _ _ _ _ _ => (pe_or (pe_cmpR op_eq (pv 1) (pe_glob (v := .str " ") (by rfl) T.c_BLANK ⟨_, rfl⟩) (nomark _)) (pe_one (pe_cmpR op_in_sign (pv 1) (pe_glob (v := .str "0123456789abcdefghijklmnopqrstuvwxyz") (by rfl) T.c_LETTERS ⟨_, rfl⟩) (by rfl)))))) pa_nil))))), fun ds ⟨d, e, hd⟩ => ?_⟩
  subst e
  show Go _ _ [.dat d, .un] _ _
  by_cases hs : ∃ z, d = .str z
  · obtain ⟨z, rfl⟩ := hs
    have hz : z.length ≤ 1000 := hd
    refine gs_when (et_or0 (et_not (et_B (ev_isi0 isi_str (ev_var rfl)))) (fun _ => et_test (ev_cmp0 (ev_lenS (ev_var rfl) (by omega)) ev_int))) (by decide) (fun h => ?_) fun h => ?_
    · refine gs_ret (go_retE ev_bl (by decide) ⟨_, rfl, ?_⟩)
      have h' : decide ((60 : Int) < (z.length : Int)) = true := by rw [isD_ss] at h; simpa using h
      have h2 : ¬ ((z.length : Int) ≤ 60) := by have := of_decide_eq_true h'; omega
      simp only [lineD, decide_eq_false h2, Bool.false_and]
    · refine go_retE (all_chars (inS LETB) hz (by simp) (ev_var rfl) fun c => ?_) (by decide) ⟨_, rfl, ?_⟩
      · refine (ev_orV0 (ev_op0 (ev_var rfl) ev_str rd_eqS) (fun _ => ev_inSg (ev_var rfl) ev_str)).imp fun d e => e ▸ ?_
        rw [blank_in]
      · have h' : decide ((60 : Int) < (z.length : Int)) = false := by rw [isD_ss] at h; simpa using h
        have h2 : ((z.length : Int) ≤ 60) := by have := of_decide_eq_false h'; omega
        simp only [lineD, decide_eq_true h2, Bool.true_and]
  · have hn : isD "str" d = false := isD_str fun z e => hs ⟨z, e⟩
    refine gs_when (et_or0 (b := false) ((et_not (et_B (ev_isi0 isi_str (ev_var rfl)))).is (by rw [hn])) (fun h => by cases h)) (by decide) (fun h => ?_) (fun h => by cases h)
    refine gs_ret (go_retE ev_bl (by decide) ⟨_, rfl, ?_⟩)
    cases d <;> first | rfl | exact absurd ⟨_, rfl⟩ hs
theorem ev_c1 {μ : Mu} {Γ : List Sl} {ta : TA} {E : XK} {f : PyData → Bool} {x : PyData} (ha : EvA μ ta Γ 0 (Eq [x])) (hx : szD x) : Ev μ (tCall (spP pre1 (post1 f)) [] E ta) Γ 0 (Eq (.bool (f x))) :=
  (ev_callP ha ⟨x, rfl, hx⟩).imp fun d ⟨x', e, e2⟩ => by cases e; exact e2.symm
end
/-! ### rows and places, by plain functions -/
abbrev Row := Str × Option Str
def encO : Option Str → PyData
  | none => .none
  | some z => .str z
def encR (r : Row) : PyData := .tuple [.str r.1, encO r.2]
def encRs (rs : List Row) : PyData := .tuple (rs.map encR)
def okS (z : Str) : Prop := PyData.strOk z = true ∧ z.length ≤ 100
def okO : Option Str → Prop
  | none => True
  | some z => okS z
def okR (r : Row) : Prop := okS r.1 ∧ okO r.2
def okRs (rs : List Row) : Prop := rs.length ≤ 100 ∧ ∀ r ∈ rs, okR r
def okP (z : Str) : Prop := PyData.strOk z = true ∧ z.length ≤ 400
def lbelow (path folder : Str) : Bool := (folder == "") || Txt.startswith path (folder ++ "/")
def joinedS (folder rest : Str) : Str := if (folder == "") = true then rest else folder ++ "/" ++ rest
def restS (path folder : Str) : Str := if (folder == "") = true then path else cutS path (some ((folder.length : Int) + 1)) none
def fits (path : Str) (r : Row) : Bool := (r.1 == path) || lbelow path r.1
def rowStep (path : Str) (found : Option Row) (r : Row) : Option Row := if fits path r = true then (match found with | none => some r | some f => if decide ((f.1.length : Int) < (r.1.length : Int)) = true then some r else found) else found
def rowOf (rs : List Row) (path : Str) : Option Row := rs.foldl (rowStep path) none
def placeS (rs : List Row) (path : Str) : Option Str := match rowOf rs path with
  | none => none
  | some (_, none) => none
  | some (f, some t) => if (f == path) = true then (if (t == "") = true then none else some t) else some (joinedS t (restS path f))
def encOR : Option Row → PyData
  | none => .none
  | some r => encR r
theorem slash_ok : okS (Str.ofString "/") := ⟨by decide +kernel, by decide +kernel⟩
theorem slash_len : (Str.ofString "/").length = 1 := by decide +kernel
theorem restS_len (p f : Str) : (restS p f).length ≤ p.length := by
  unfold restS
  split
  · exact Nat.le_refl _
  · exact cut_len
section
variable {P : Program} {w : World} {K : PySem.W.Frag} {mg : Str → Option Value} {base : Heap}
theorem ok_lies_below (T : Tx K mg) : FnG P w K mg base CX0 1 T.a_lies_below T.d_lies_below ["path", "folder"] (spP (fun ds => ∃ p f : Str, ds = [.str p, .str f] ∧ p.length ≤ 1000 ∧ f.length ≤ 1000) (fun ds e => ∃ p f : Str, ds = [.str p, .str f] ∧ e = .bool (lbelow p f))) := by
  refine ok_pure T.F_lies_below sc_lies_below (fun ds ⟨p, f, e, _⟩ => by rw [e]; rfl) fun cdv A fs s H E hG hr => ⟨_, (pss_one (ps_ret (pe_or (pe_cmpR op_eq (pv 1) pe_str (nomark _)) (pe_one (pe_m1 PySem.F.slot_str_startswith PySem.F.type_str_startswith mt_startswith (pv 0) (pe_op op_add_str (pv 1) (pe_glob (v := .str "/") (by rfl) T.c_SLASH ⟨_, rfl⟩))))))), fun ds ⟨p, f, e, h1, h2⟩ => ?_⟩
  subst e
  show Go _ _ [.dat (.str p), .dat (.str f)] _ _
  refine go_retE (ev_orV0 (ev_op0 (ev_var rfl) ev_str rd_eqS) (fun _ => ev_starts (ev_var rfl) (ev_addS (ev_var rfl) ev_str (by rw [slash_len]; omega)))) (by decide) ⟨p, f, rfl, rfl⟩
theorem ev_lb {μ : Mu} {Γ : List Sl} {ta tb : TE} {E : XK} {p f : Str} (ha : Ev μ ta Γ 0 (Eq (.str p))) (hb : Ev μ tb Γ 0 (Eq (.str f))) (h1 : p.length ≤ 1000) (h2 : f.length ≤ 1000) :
    Ev μ (tCall (spP (fun ds => ∃ p f : Str, ds = [.str p, .str f] ∧ p.length ≤ 1000 ∧ f.length ≤ 1000) (fun ds e => ∃ p f : Str, ds = [.str p, .str f] ∧ e = .bool (lbelow p f))) [] E (tCons ta (tCons tb tNil))) Γ 0 (Eq (.bool (lbelow p f))) :=
  (ev_callP (ea_cons0 ha (ea_cons0 hb ea_nil)) ⟨p, f, rfl, h1, h2⟩).imp fun d ⟨p', f', e, e2⟩ => by cases e; exact e2.symm
abbrev preRP : List PyData → Prop := fun ds => ∃ (rs : List Row) (p : Str), ds = [encRs rs, .str p] ∧ okRs rs ∧ okP p
abbrev postRP (f : List Row → Str → PyData) : List PyData → PyData → Prop := fun ds e => ∃ (rs : List Row) (p : Str), ds = [encRs rs, .str p] ∧ e = f rs p
theorem encO_inj : ∀ {a b : Option Str}, encO a = encO b → a = b
  | none, none, _ => rfl
  | none, some _, h => by cases h
  | some _, none, h => by cases h
  | some _, some _, h => by cases h; rfl
theorem encR_inj {r s : Row} (h : encR r = encR s) : r = s := by
  obtain ⟨a, b⟩ := r
  obtain ⟨c, d⟩ := s
  unfold encR at h
  simp only [PyData.tuple.injEq, List.cons.injEq, PyData.str.injEq, and_true] at h
  rw [h.1, encO_inj h.2]
theorem map_inj' {α : Type} {f : α → PyData} (hf : ∀ a b, f a = f b → a = b) : ∀ {xs ys : List α}, xs.map f = ys.map f → xs = ys
  | [], [], _ => rfl
  | [], _ :: _, h => by simp at h
  | _ :: _, [], h => by simp at h
  | x :: xs, y :: ys, h => by
    simp only [List.map_cons, List.cons.injEq] at h
    rw [hf _ _ h.1, map_inj' hf h.2]
theorem encRs_inj {r s : List Row} (h : encRs r = encRs s) : r = s := by
  unfold encRs at h
  exact map_inj' (fun _ _ e => encR_inj e) (PyData.tuple.inj h)
theorem ev_rp {μ : Mu} {Γ : List Sl} {ta tb : TE} {E : XK} {rs : List Row} {p : Str} {f : List Row → Str → PyData} (ha : Ev μ ta Γ 0 (Eq (encRs rs))) (hb : Ev μ tb Γ 0 (Eq (.str p))) (h1 : okRs rs) (h2 : okP p) :
    Ev μ (tCall (spP preRP (postRP f)) [] E (tCons ta (tCons tb tNil))) Γ 0 (Eq (f rs p)) :=
  (ev_callP (ea_cons0 ha (ea_cons0 hb ea_nil)) ⟨rs, p, rfl, h1, h2⟩).imp fun d ⟨rs', p', e, e2⟩ => by
    simp only [List.cons.injEq, PyData.str.injEq, and_true] at e
    rw [e2, encRs_inj e.1, e.2]
theorem shP {z : Str} (h : okP z) : SeqAt.shaped (.str z) = true := (shp_str h.1).shaped
theorem shS {z : Str} (h : okS z) : SeqAt.shaped (.str z) = true := (shp_str h.1).shaped
end
section
variable {P : Program} {w : World} {K : PySem.W.Frag} {mg : Str → Option Value} {base : Heap}
theorem ok_joined (T : Tx K mg) : FnG P w K mg base CX0 1 T.a_joined T.d_joined ["folder", "rest"] (spP (fun ds => ∃ p f : Str, ds = [.str p, .str f] ∧ p.length ≤ 1000 ∧ f.length ≤ 1000) (fun ds e => ∃ p f : Str, ds = [.str p, .str f] ∧ e = .str (joinedS p f))) := by
  refine ok_pure T.F_joined sc_joined (fun ds ⟨p, f, e, _⟩ => by rw [e]; rfl) fun cdv A fs s H E hG hr => ⟨_, (pss_one (ps_ret (pe_ifExp (pt_cmpR op_eq (pv 0) pe_str (nomark _)) (pv 1) (pe_op op_add_str (pe_op op_add_str (pv 0) pe_str) (pv 1))))), fun ds ⟨p, f, e, h1, h2⟩ => ?_⟩
  subst e
  show Go _ _ [.dat (.str p), .dat (.str f)] _ _
  refine go_retE (ev_if0 (et_test (ev_op0 (ev_var rfl) ev_str rd_eqS)) (fun _ => ev_var rfl) (fun _ => ev_addS (ev_addS (ev_var rfl) ev_str (by rw [slash_len]; omega)) (ev_var rfl) (by rw [len_app, slash_len]; omega))) (by decide) ⟨p, f, rfl, ?_⟩
  unfold joinedS
  split <;> rfl
theorem ok_rest_of (T : Tx K mg) : FnG P w K mg base CX0 1 T.a_rest_of T.d_rest_of ["path", "folder"] (spP (fun ds => ∃ p f : Str, ds = [.str p, .str f] ∧ p.length ≤ 1000 ∧ f.length ≤ 1000) (fun ds e => ∃ p f : Str, ds = [.str p, .str f] ∧ e = .str (restS p f))) := by
  refine ok_pure T.F_rest_of sc_rest_of (fun ds ⟨p, f, e, _⟩ => by rw [e]; rfl) fun cdv A fs s H E hG hr => ⟨_, (pss_one (ps_ret (pe_ifExp (pt_cmpR op_eq (pv 1) pe_str (nomark _)) (pv 0) (pe_slice sl_str (pv 0) (po_some (pe_op op_add (pe_callB (callK_len (K := K) rfl) (by rfl) T.m_len bt_len (pa_cons (pv 1) pa_nil)) pe_int)) po_none)))), fun ds ⟨p, f, e, h1, h2⟩ => ?_⟩
  subst e
  show Go _ _ [.dat (.str p), .dat (.str f)] _ _
  refine go_retE (ev_if0 (et_test (ev_op0 (ev_var rfl) ev_str rd_eqS)) (fun _ => ev_var rfl) (fun _ => ev_slS (ev_var rfl) (eo_some (ev_add0 (ev_lenS (ev_var rfl) (by omega)) ev_int)) eo_none (by omega))) (by decide) ⟨p, f, rfl, ?_⟩
  unfold restS
  split <;> rfl
theorem ev_ss {μ : Mu} {Γ : List Sl} {ta tb : TE} {E : XK} {p f : Str} {g : Str → Str → Str} (ha : Ev μ ta Γ 0 (Eq (.str p))) (hb : Ev μ tb Γ 0 (Eq (.str f))) (h1 : p.length ≤ 1000) (h2 : f.length ≤ 1000) :
    Ev μ (tCall (spP (fun ds => ∃ p f : Str, ds = [.str p, .str f] ∧ p.length ≤ 1000 ∧ f.length ≤ 1000) (fun ds e => ∃ p f : Str, ds = [.str p, .str f] ∧ e = .str (g p f))) [] E (tCons ta (tCons tb tNil))) Γ 0 (Eq (.str (g p f))) :=
  (ev_callP (ea_cons0 ha (ea_cons0 hb ea_nil)) ⟨p, f, rfl, h1, h2⟩).imp fun d ⟨p', f', e, e2⟩ => by cases e; exact e2.symm
theorem rowOf_mem {rs : List Row} {p : Str} : ∀ {r : Row}, rowOf rs p = some r → r ∈ rs := by
  have gen : ∀ (l : List Row) (f : Option Row) (r : Row), l.foldl (rowStep p) f = some r → (∀ x, f = some x → x ∈ rs) → (∀ x ∈ l, x ∈ rs) → r ∈ rs := by
    intro l
    induction l with
    | nil => intro f r h hf _; exact hf r h
    | cons x l ih =>
      intro f r h hf hl
      refine ih (rowStep p f x) r h (fun y hy => ?_) fun y hy => hl y (List.mem_cons_of_mem _ hy)
      unfold rowStep at hy
      split at hy
      · split at hy
        · cases hy; exact hl _ List.mem_cons_self
        · split at hy
          · cases hy; exact hl _ List.mem_cons_self
          · exact hf y hy
      · exact hf y hy
  intro r h
  exact gen rs none r h (fun x e => by cases e) fun x hx => hx
theorem foldl_take {α β : Type} {f : β → α → β} {b : β} {xs : List α} {i : Nat} {x : α} (h : xs[i]? = some x) : (xs.take (i + 1)).foldl f b = f ((xs.take i).foldl f b) x := by
  rw [List.take_add_one, h, List.foldl_append]; rfl
theorem ok_row_of (T : Tx K mg) : FnG P w K mg base CX0 2 T.a_row_of T.d_row_of ["rows", "path"] (spP preRP (postRP fun rs p => encOR (rowOf rs p))) := by
  have G_lies_below := ok_lies_below (P := P) (w := w) (base := base) T
  refine ok_pure T.F_row_of sc_row_of (fun ds ⟨rs, p, e, _⟩ => by rw [e]; rfl) fun cdv A fs s H E hG hr => ⟨_, (pss_cons (ps_set (i := 2) sc_row_of.nd rfl (.inl rfl) pe_non)
        (pss_cons (ps_for PassesOwn.never rfl (piK_tup (K := K) rfl (pv 0)) (pg_name (i := 3) sc_row_of.nd rfl (.inl rfl)) (pss_one (ps_if (PW.pt (pw_and (PW.pt (pw_or (pt_cmpR (opK_eqD (K := K) rfl hr.units) (pe_ix (ixK_seq (K := K) rfl) (pv 3) pe_int (fun _ _ => rfl)) (pv 1) (nomark _)) (pw_or1 (pt_val (pc_call G_lies_below hG (hr.mono (by first | decide | omega)) (by rfl) T.g_lies_below T.F_lies_below.kp T.b_lies_below .nil pass0 (pa_cons (pv 1) (pa_cons (pe_ix (ixK_seq (K := K) rfl) (pv 3) pe_int (fun _ _ => rfl)) pa_nil))))))) (pw_and1 (PW.pt (pw_or (pt_cmp (pc_isN (pv 2))) (pw_or1 (pt_cmpR op_gt (pe_callB (callK_len (K := K) rfl) (by rfl) T.m_len bt_len (pa_cons (pe_ix (ixK_seq (K := K) rfl) (pv 3) pe_int (fun _ _ => rfl)) pa_nil)) (pe_callB (callK_len (K := K) rfl) (by rfl) T.m_len bt_len (pa_cons (pe_ix (ixK_seq (K := K) rfl) (pv 2) pe_int (fun _ _ => rfl)) pa_nil)) (nomark _)))))))) (pss_one (ps_set (i := 2) sc_row_of.nd rfl (.inl rfl) (pv 3))) pss_nil)))
        (pss_one (ps_ret (pv 2))))), fun ds ⟨rs, p, e, hrs, hp⟩ => ?_⟩
  subst e
  show Go _ _ [.dat (encRs rs), .dat (.str p), .un, .un] _ _
  refine gs_setE ev_non (by decide) ?_
  refine go_seq (go_forP (n := 0) (enc := encR) rs (fun pre Γ' c' => ∃ s3, Γ' = [.dat (encRs rs), .dat (.str p), .dat (encOR (rowOf pre p)), s3] ∧ c' = 0) (ew_tupE (ev_var rfl)) (by decide) ⟨_, rfl, rfl⟩ ?_ ?_)
  · rintro pre ⟨f, t⟩ post Γ' c' hsp ⟨s3, rfl, rfl⟩
    have hin : (f, t) ∈ rs := by rw [hsp]; simp
    have hf1 : okS f := (hrs.2 _ hin).1
    refine ⟨_, _, eg_name, ?_⟩
    have step : rowOf (pre ++ [(f, t)]) p = rowStep p (rowOf pre p) (f, t) := by unfold rowOf; rw [List.foldl_append]; rfl
    have hmem : ∀ y, rowOf pre p = some y → okR y := fun y hy => hrs.2 y (by rw [hsp]; exact List.mem_append_left _ (rowOf_mem hy))
    dsimp only
    rw [step]
    generalize rowOf pre p = F at hmem ⊢
    show Go _ _ [.dat (encRs rs), .dat (.str p), .dat (encOR F), .dat (encR (f, t))] _ _
    have e0 : ∀ {Γ : List Sl}, Γ[3]? = some (.dat (encR (f, t))) → Ev pureMu (tOp (rIx K) (tVar 3) (tC (.int 0))) Γ 0 (Eq (.str f)) := fun h => ev_op0 (ev_var h) ev_int (rd_ixsT (atI_nat (j := 0) rfl))
    cases F with
    | none =>
      refine go_if (et_and0 (et_or0 (et_test (ev_eqD0 (e0 rfl) (ev_var rfl) (shS hf1) (shP hp))) (fun _ => et_B (ev_lb (p := p) (f := f) (ev_var rfl) (e0 rfl) (by have := hp.2; omega) (by have := hf1.2; omega)))) (fun _ => et_or0 (b := false) (et_B (ev_isN (ev_var rfl))) (fun h => by cases h))) (by decide) (fun h => ?_) fun h => ?_
      · refine go_set (n := 0) (ev_var rfl) (by decide) fun d e => ?_
        subst e
        rw [eqv_str] at h
        have hfit : fits p (f, t) = true := by simpa [isN, encOR, fits] using h
        have e1 : rowStep p none (f, t) = some (f, t) := by simp only [rowStep, hfit, if_true]
        rw [e1]
        exact ⟨_, rfl, rfl⟩
      · rw [eqv_str] at h
        have hfit : fits p (f, t) = false := by
          cases q : fits p (f, t) with
          | false => rfl
          | true =>
            have q' : (f == p || lbelow p f) = true := q
            rw [q'] at h; cases h
        have e1 : rowStep p none (f, t) = none := by simp [rowStep, hfit]
        refine go_next ?_
        dsimp only
        rw [e1]
        exact ⟨_, rfl, rfl⟩
    | some g =>
      obtain ⟨gf, gt⟩ := g
      have hg : okS gf := (hmem _ rfl).1
      have eB : Ev pureMu (tOp (rIx K) (tVar 2) (tC (.int 0))) [.dat (encRs rs), .dat (.str p), .dat (encOR (some (gf, gt))), .dat (encR (f, t))] 0 (Eq (.str gf)) := ev_op0 (ev_var rfl) ev_int (rd_ixsT (atI_nat (j := 0) rfl))
      refine go_if (et_and0 (et_or0 (et_test (ev_eqD0 (e0 rfl) (ev_var rfl) (shS hf1) (shP hp))) (fun _ => et_B (ev_lb (p := p) (f := f) (ev_var rfl) (e0 rfl) (by have := hp.2; omega) (by have := hf1.2; omega)))) (fun _ => et_or0 (et_B (ev_isN (ev_var rfl))) (fun _ => et_test (ev_cmp0 (ev_lenS (e0 rfl) (by have := hf1.2; omega)) (ev_lenS eB (Nat.le_trans hg.2 (by decide))))))) (by decide) (fun h => ?_) fun h => ?_
      · refine go_set (n := 0) (ev_var rfl) (by decide) fun d e => ?_
        subst e
        rw [eqv_str] at h
        have h' : (fits p (f, t) && decide ((gf.length : Int) < (f.length : Int))) = true := h
        rw [Bool.and_eq_true] at h'
        have e1 : rowStep p (some (gf, gt)) (f, t) = some (f, t) := by simp only [rowStep, h'.1, h'.2, if_true]
        rw [e1]
        exact ⟨_, rfl, rfl⟩
      · rw [eqv_str] at h
        have h' : (fits p (f, t) && decide ((gf.length : Int) < (f.length : Int))) = false := h
        have e1 : rowStep p (some (gf, gt)) (f, t) = some (gf, gt) := by
          unfold rowStep
          cases q : fits p (f, t) with
          | false => rfl
          | true =>
            rw [q, Bool.true_and] at h'
            have h2 := of_decide_eq_false h'
            simp
            intro h3
            omega
        refine go_next ?_
        dsimp only
        rw [e1]
        exact ⟨_, rfl, rfl⟩
  · rintro Γ' c' ⟨s3, rfl, rfl⟩
    exact go_retE (ev_var rfl) (by decide) ⟨rs, p, rfl, rfl⟩
theorem ok_place (T : Tx K mg) : FnG P w K mg base CX0 3 T.a_place T.d_place ["rows", "path"] (spP preRP (postRP fun rs p => encO (placeS rs p))) := by
  have G_row_of := ok_row_of (P := P) (w := w) (base := base) T
  have G_joined := ok_joined (P := P) (w := w) (base := base) T
  have G_rest_of := ok_rest_of (P := P) (w := w) (base := base) T
  refine ok_pure T.F_place sc_place (fun ds ⟨rs, p, e, _⟩ => by rw [e]; rfl) fun cdv A fs s H E hG hr => ⟨_, (pss_cons (ps_set (i := 2) sc_place.nd rfl (.inl rfl) (pc_call G_row_of hG (hr.mono (by first | decide | omega)) (by rfl) T.g_row_of T.F_row_of.kp T.b_row_of .nil pass0 (pa_cons (pv 0) (pa_cons (pv 1) pa_nil))))
        (pss_cons (ps_if (PW.pt (pw_or (pt_cmp (pc_isN (pv 2))) (pw_or1 (pt_cmp (pc_isN (pe_ix (ixK_seq (K := K) rfl) (pv 2) pe_int (fun _ _ => rfl))))))) (pss_one (ps_ret pe_non)) pss_nil)
        (pss_cons (ps_asg (pv 2) (pg_tup (by rfl) (pgs_cons (pg_name (i := 3) sc_place.nd rfl (.inl rfl)) (pgs_cons (pg_name (i := 4) sc_place.nd rfl (.inl rfl)) pgs_nil))))
        (pss_cons (ps_if (pt_cmpR (opK_eqD (K := K) rfl hr.units) (pv 3) (pv 1) (nomark _)) (pss_one (ps_ret (pe_ifExp (pt_cmpR (opK_eqD (K := K) rfl hr.units) (pv 4) pe_str (nomark _)) pe_non (pv 4)))) pss_nil)
        (pss_one (ps_ret (pc_call G_joined hG (hr.mono (by first | decide | omega)) (by rfl) T.g_joined T.F_joined.kp T.b_joined .nil pass0 (pa_cons (pv 4) (pa_cons (pc_call G_rest_of hG (hr.mono (by first | decide | omega)) (by rfl) T.g_rest_of T.F_rest_of.kp T.b_rest_of .nil pass0 (pa_cons (pv 1) (pa_cons (pv 3) pa_nil))) pa_nil))))))))), fun ds ⟨rs, p, e, hrs, hp⟩ => ?_⟩
  subst e
  show Go _ _ [.dat (encRs rs), .dat (.str p), .un, .un, .un] _ _
  refine gs_setE (ev_rp (ev_var rfl) (ev_var rfl) hrs hp) (by decide) ?_
  show Go _ _ [.dat (encRs rs), .dat (.str p), .dat (encOR (rowOf rs p)), .un, .un] _ _
  cases hq : rowOf rs p with
  | none =>
    refine gs_when (et_or0 (b := false) (et_B (ev_isN (ev_var rfl))) (fun h => by cases h)) (by decide) (fun h => ?_) fun h => by cases h
    refine gs_ret (go_retE ev_non (by decide) ⟨rs, p, rfl, ?_⟩)
    show _ = encO (placeS rs p); unfold placeS; rw [hq]; rfl
  | some r =>
    obtain ⟨f, t⟩ := r
    have hok := hrs.2 _ (rowOf_mem hq)
    have hf1 : okS f := hok.1
    refine gs_when (et_or0 (et_B (ev_isN (ev_var rfl))) (fun _ => et_B (ev_isN (ev_op0 (z := encO t) (ev_var rfl) ev_int (rd_ixsT (atI_nat (j := 1) rfl)))))) (by decide) (fun h => ?_) fun h => ?_
    · cases t with
      | some t => cases h
      | none =>
        refine gs_ret (go_retE ev_non (by decide) ⟨rs, p, rfl, ?_⟩)
        show _ = encO (placeS rs p); unfold placeS; rw [hq]; rfl
    · cases t with
      | none => cases h
      | some t =>
        have ht : okS t := hok.2
        refine gs_asgE (ev_var rfl) (by decide) (eg_tup (egs_cons eg_name (egs_cons eg_name egs_nil)) rfl) ?_
        show Go _ _ [.dat (encRs rs), .dat (.str p), .dat (encOR (some (f, some t))), .dat (.str f), .dat (.str t)] _ _
        refine gs_when (et_test (ev_eqD0 (ev_var rfl) (ev_var rfl) (shS hf1) (shP hp))) (by decide) (fun h => ?_) fun h => ?_
        · rw [eqv_str] at h
          refine gs_ret (go_retE (ev_if0 (et_test (ev_eqD0 (ev_var rfl) ev_str (shS ht) (by decide +kernel))) (fun _ => ev_non) (fun _ => ev_var rfl)) (by decide) ⟨rs, p, rfl, ?_⟩)
          show _ = encO (placeS rs p)
          unfold placeS
          rw [hq, eqv_str]
          dsimp only
          rw [if_pos h]
          split <;> rfl
        · rw [eqv_str] at h
          refine go_retE (ev_ss (g := joinedS) (ev_var rfl) (ev_ss (g := restS) (ev_var rfl) (ev_var rfl) (Nat.le_trans hp.2 (by decide)) (Nat.le_trans hf1.2 (by decide))) (Nat.le_trans ht.2 (by decide)) (Nat.le_trans (restS_len p f) (Nat.le_trans hp.2 (by decide)))) (by decide) ⟨rs, p, rfl, ?_⟩
          show _ = encO (placeS rs p)
          unfold placeS
          rw [hq]
          dsimp only
          rw [h]
          rfl
/-! ### sizes -/
theorem joinedS_ok {a b : Str} {m n : Nat} (ha : PyData.strOk a = true ∧ a.length ≤ m) (hb : PyData.strOk b = true ∧ b.length ≤ n) : PyData.strOk (joinedS a b) = true ∧ (joinedS a b).length ≤ m + 1 + n := by
  unfold joinedS
  split
  · exact ⟨hb.1, by have := hb.2; omega⟩
  · refine ⟨strOk_app (strOk_app ha.1 slash_ok.1) hb.1, ?_⟩
    rw [len_app, len_app, slash_len]
    have := ha.2
    have := hb.2
    omega
theorem restS_ok {p f : Str} {n : Nat} (h : PyData.strOk p = true ∧ p.length ≤ n) : PyData.strOk (restS p f) = true ∧ (restS p f).length ≤ n := by
  refine ⟨?_, Nat.le_trans (restS_len p f) h.2⟩
  unfold restS
  split
  · exact h.1
  · exact strOk_cut h.1 _ _
theorem placeS_ok {rs : List Row} {p z : Str} (hrs : okRs rs) (hp : okP p) (h : placeS rs p = some z) : PyData.strOk z = true ∧ z.length ≤ 501 := by
  unfold placeS at h
  cases hq : rowOf rs p with
  | none => rw [hq] at h; cases h
  | some r =>
    obtain ⟨f, t⟩ := r
    have hok := hrs.2 _ (rowOf_mem hq)
    rw [hq] at h
    cases t with
    | none => cases h
    | some t =>
      have ht : okS t := hok.2
      dsimp only at h
      split at h
      · split at h
        · cases h
        · cases h; exact ⟨ht.1, Nat.le_trans ht.2 (by decide)⟩
      · cases h; exact joinedS_ok ht (restS_ok hp)
theorem okP_of {z : Str} (h : okS z) : okP z := ⟨h.1, Nat.le_trans h.2 (by decide)⟩
theorem shO {rs : List Row} {p : Str} (hrs : okRs rs) (hp : okP p) : SeqAt.shaped (encO (placeS rs p)) = true := by
  cases h : placeS rs p with
  | none => exact shp_none.shaped
  | some z => exact (shp_str (placeS_ok hrs hp h).1).shaped
theorem eqv_O {o : Option Str} {p : Str} : PyData.eqv (encO o) (.str p) = (o == some p) := by
  cases o with
  | none => rw [show encO none = .none from rfl, eqv_ns]; rfl
  | some z => rw [show encO (some z) = .str z from rfl, eqv_str]; rfl
end
end K23

namespace K23
open PySem PySem.Spec PyProof.Rows L2 B
/-! ### how expressions are read off -/
local macro_rules | `(tactic| walk_at "ev") => `(tactic| first
  | exact ea_nil
  | (apply ea_cons0 <;> walk_at "ev")
  | exact ev_int | exact ev_str | exact ev_bl | exact ev_non | exact ev_var rfl | exact ev_dnew
  | (apply ev_lstE <;> walk_at "ev")
  | (apply ev_tupE <;> walk_at "ev")
  | (apply ev_disp1E <;> walk_at "ev")
  | (apply ev_neg <;> walk_at "ev")
  | (apply ev_add0 <;> walk_at "ev")
  | (apply ev_sub0 <;> walk_at "ev")
  | (apply ev_cmp0 <;> walk_at "ev")
  | (apply ev_pow0 <;> walk_at "ev")
  | (apply ev_isi0 isi_str <;> walk_at "ev")
  | (apply ev_isi0 isi_tuple <;> walk_at "ev")
  | (apply ev_isi0 isi_bool <;> walk_at "ev")
  | (apply ev_isi0 isi_int <;> walk_at "ev")
  | (apply et_B <;> walk_at "ev")
  | (apply et_test <;> walk_at "ev")
  | (apply et_not <;> walk_at "ev")
  | exact Nat.le_of_ble_eq_true rfl
  | exact ⟨by decide, by decide, by decide⟩)
/-! ### paths in order -/
theorem join_codes {sep : Str} : ∀ {ts : List Str} {c : Nat}, c ∈ TL.tl (Str.join sep ts) → c ∈ TL.tl sep ∨ ∃ t ∈ ts, c ∈ TL.tl t
  | [], c, h => by
    have h' : c ∈ ([] : List Nat) := h
    cases h'
  | [x], c, h => .inr ⟨x, List.mem_cons_self, h⟩
  | x :: y :: r, c, h => by
    have h' : c ∈ TL.tl (x ++ sep ++ Str.join sep (y :: r)) := h
    rw [TL.tl_append, TL.tl_append] at h'
    simp only [List.mem_append] at h'
    rcases h' with (h1 | h1) | h1
    · exact .inr ⟨x, List.mem_cons_self, h1⟩
    · exact .inl h1
    · rcases join_codes h1 with h2 | ⟨t, h2, h3⟩
      · exact .inl h2
      · exact .inr ⟨t, List.mem_cons_of_mem _ h2, h3⟩
theorem let_codes : ∀ c ∈ LET.cps.toList, 47 ≤ c := by decide +kernel
theorem path_codes {p : Str} (h : pathD (.str p) = true) : ∀ c ∈ TL.tl p, 47 ≤ c := fun c hc => by
  have e := PySem.StrLaws.join_split p "/"
  rw [← e] at hc
  rcases join_codes hc with h1 | ⟨t, ht, h1⟩
  · have h2 : c ∈ TL.tl (Str.ofString "/") := h1
    rw [tl_slash, List.mem_singleton] at h2
    omega
  · have h3 := List.all_eq_true.mp (show (Txt.split p "/").all nameS = true from h) t ht
    unfold nameS at h3
    rw [Bool.and_eq_true] at h3
    exact let_codes c (of_decide_eq_true (List.all_eq_true.mp h3.2 c h1))
theorem path_ne {p : Str} (h : pathD (.str p) = true) : (p == "") = false := by
  rw [beq_eq_false_iff_ne]
  rintro rfl
  revert h
  decide +kernel
theorem pre_lt : ∀ {a c : List Nat} {x : Nat}, (a ++ [x]) <+: c → a < c
  | [], c, x, ⟨t, e⟩ => by rw [← e]; exact List.Lex.nil
  | y :: a, c, x, ⟨t, e⟩ => by
    rw [← e]
    exact List.cons_lt_cons_iff.mpr (.inr ⟨rfl, pre_lt ⟨t, rfl⟩⟩)
theorem between : ∀ {a b c : List Nat}, a < b → ¬ c < b → (a ++ [47]) <+: c → (∀ x ∈ b, 47 ≤ x) → (a ++ [47]) <+: b
  | [], [], c, h, _, _, _ => absurd h (List.lt_irrefl _)
  | [], x :: b, c, _, h2, ⟨t, e⟩, h4 => by
    subst e
    have hx := h4 x List.mem_cons_self
    have h5 : ¬ 47 < x := fun q => h2 (List.cons_lt_cons_iff.mpr (.inl q))
    have h6 : x = 47 := by omega
    subst h6
    exact ⟨b, rfl⟩
  | y :: a, [], c, h, _, _, _ => absurd h (List.not_lt_nil _)
  | y :: a, x :: b, c, h1, h2, ⟨t, e⟩, h4 => by
    subst e
    have h5 : ¬ y < x := fun q => h2 (List.cons_lt_cons_iff.mpr (.inl q))
    rcases List.cons_lt_cons_iff.mp h1 with q | ⟨q1, q2⟩
    · exact absurd q h5
    · subst q1
      obtain ⟨u, hu⟩ := between q2 (fun q => h2 (List.cons_lt_cons_iff.mpr (.inr ⟨rfl, q⟩))) ⟨t, rfl⟩ fun z hz => h4 z (List.mem_cons_of_mem _ hz)
      exact ⟨u, by rw [← hu]; rfl⟩
def liesB (p f : Str) : Bool := Txt.startswith p (f ++ "/")
theorem lies_iff {p f : Str} : liesB p f = true ↔ (TL.tl f ++ [47]) <+: TL.tl p := by
  unfold liesB
  rw [starts_iff, TL.tl_append]
  exact Iff.of_eq (by rw [show TL.tl ("/" : Str) = [47] from tl_slash])
theorem lies_lt {p f : Str} (h : liesB p f = true) : ltS f p := pre_lt (lies_iff.mp h)
def adjB (ps : List Str) : Bool := (ps.zip (ps.drop 1)).all fun q => decide (ltS q.1 q.2) && !lbelow q.2 q.1
def lieB (ps : List Str) : Bool := ps.any fun a => ps.any fun b => liesB a b
theorem adj_cons (x y : Str) (r : List Str) : adjB (x :: y :: r) = ((decide (ltS x y) && !lbelow y x) && adjB (y :: r)) := by
  unfold adjB
  simp only [List.drop_succ_cons, List.drop_zero, List.zip_cons_cons, List.all_cons]
theorem adj_iff : ∀ (ps : List Str), (∀ p ∈ ps, pathD (.str p) = true) → (adjB ps = true ↔ ps.Pairwise ltS ∧ ∀ a ∈ ps, ∀ b ∈ ps, liesB a b = false)
  | [], _ => by simp [adjB]
  | [x], _ => by
    refine ⟨fun _ => ⟨List.pairwise_singleton _ _, fun a ha b hb => ?_⟩, fun _ => by simp [adjB]⟩
    rw [List.mem_singleton] at ha hb
    subst ha hb
    cases q : liesB b b with
    | false => rfl
    | true => exact absurd (lies_lt q) (ltS_irrefl _)
  | x :: y :: r, hv => by
    have ih := adj_iff (y :: r) fun p hp => hv p (List.mem_cons_of_mem _ hp)
    rw [adj_cons, Bool.and_eq_true, Bool.and_eq_true, decide_eq_true_eq, Bool.not_eq_true', ih, List.pairwise_cons (a := x)]
    have hx := path_ne (hv x List.mem_cons_self)
    have lb : lbelow y x = liesB y x := by unfold lbelow liesB; rw [hx]; rfl
    rw [lb]
    constructor
    · rintro ⟨⟨h1, h2⟩, h3, h4⟩
      have hxr : ∀ z ∈ y :: r, ltS x z := fun z hz => by
        rcases List.mem_cons.mp hz with e | e
        · rw [e]; exact h1
        · exact ltS_trans h1 ((List.pairwise_cons.mp h3).1 z e)
      refine ⟨⟨hxr, h3⟩, fun a ha b hb => ?_⟩
      cases q : liesB a b with
      | false => rfl
      | true =>
        exfalso
        rcases List.mem_cons.mp hb with e | hb2
        · subst e
          rcases List.mem_cons.mp ha with e | ha
          · subst e; exact ltS_irrefl _ (lies_lt q)
          · have hay : ¬ ltS a y := by
              rcases List.mem_cons.mp ha with e | e
              · rw [e]; exact ltS_irrefl _
              · exact ltS_asym ((List.pairwise_cons.mp h3).1 a e)
            have := lies_iff.mpr (between (a := TL.tl b) (b := TL.tl y) (c := TL.tl a) h1 hay (lies_iff.mp q) (path_codes (hv y (by simp))))
            rw [this] at h2; cases h2
        · rcases List.mem_cons.mp ha with e | ha
          · subst e
            exact ltS_asym (hxr b hb2) (lies_lt q)
          · rw [h4 a ha b hb2] at q; cases q
    · rintro ⟨⟨h1, h2⟩, h3⟩
      exact ⟨⟨h1 y List.mem_cons_self, h3 y (by simp) x List.mem_cons_self⟩, h2, fun a ha b hb => h3 a (List.mem_cons_of_mem _ ha) b (List.mem_cons_of_mem _ hb)⟩
theorem lie_false {ps : List Str} : lieB ps = false ↔ ∀ a ∈ ps, ∀ b ∈ ps, liesB a b = false := by
  unfold lieB
  rw [List.any_eq_false]
  constructor
  · intro h a ha b hb
    have h1 := h a ha
    cases q : liesB a b with
    | false => rfl
    | true => exact absurd (List.any_eq_true.mpr ⟨b, hb, q⟩) h1
  · intro h a ha q
    obtain ⟨b, hb, q2⟩ := List.any_eq_true.mp q
    rw [h a ha b hb] at q2; cases q2
theorem adj_law {ps : List Str} (hv : ∀ p ∈ ps, pathD (.str p) = true) : adjB ps = (decide (ps.Pairwise ltS) && !lieB ps) := by
  rw [Bool.eq_iff_iff, adj_iff ps hv, Bool.and_eq_true, decide_eq_true_eq, Bool.not_eq_true', lie_false]
/-! ### trees or not -/
def sz1 : PyData → Bool
  | .str z => decide (z.length ≤ 1000) && PyData.strOk z
  | _ => true
def szLs : PyData → Bool
  | .tuple xs => decide (xs.length ≤ 1000) && xs.all sz1
  | d => sz1 d
def szFl : PyData → Bool
  | .tuple xs => xs.all szLs
  | _ => true
def szTr : PyData → Bool
  | .tuple xs => decide (xs.length ≤ 1000) && xs.all szFl
  | _ => true
theorem sz1_D {d : PyData} (h : sz1 d = true) : szD d := by
  cases d <;> first | trivial | (simp [sz1] at h; exact h.1)
theorem sz1_ok {z : Str} (h : sz1 (.str z) = true) : z.length ≤ 1000 ∧ PyData.strOk z = true := by simpa [sz1] using h
theorem szLs_1 {d : PyData} (h : szLs d = true) : sz1 d = true := by
  cases d <;> first | exact h | rfl
def fileD : PyData → Bool
  | .tuple [a, .tuple ls] => pathD a && ls.all lineD
  | _ => false
def pOf : PyData → Str
  | .tuple (.str p :: _) => p
  | _ => ""
def isTreeD : PyData → Bool
  | .tuple ds => ds.all fileD && adjB (ds.map pOf)
  | _ => false
abbrev encP (f : Str × PyData) : PyData := .tuple [.str f.1, f.2]
def okE (f : Str × PyData) : Prop := f.1.length ≤ 1000 ∧ PyData.strOk f.1 = true ∧ pathD (.str f.1) = true
theorem path_str {d : PyData} (h : pathD d = true) : ∃ z, d = .str z := by
  cases d <;> first | exact ⟨_, rfl⟩ | cases h
theorem file_enc {d : PyData} (h : fileD d = true) (hs : szFl d = true) : ∃ f, okE f ∧ d = encP f := by
  unfold fileD at h
  split at h
  · rename_i a ls
    rw [Bool.and_eq_true] at h
    obtain ⟨z, rfl⟩ := path_str h.1
    simp only [szFl, List.all_cons, Bool.and_eq_true] at hs
    have hz := sz1_ok (szLs_1 hs.1)
    exact ⟨(z, .tuple ls), ⟨hz.1, hz.2, h.1⟩, rfl⟩
  · cases h
theorem files_of {ds : List PyData} (h : ds.all fileD = true) (hs : ds.all szFl = true) : ∃ fs : List (Str × PyData), ds = fs.map encP ∧ ∀ f ∈ fs, okE f :=
  all_map (S := okE) fun e he => file_enc (List.all_eq_true.mp h e he) (List.all_eq_true.mp hs e he)
theorem pOf_map (fs : List (Str × PyData)) : (fs.map encP).map pOf = fs.map (·.1) := by
  rw [List.map_map]; rfl
theorem isTree_enc (fs : List (Str × PyData)) : isTreeD (.tuple (fs.map encP)) = ((fs.map encP).all fileD && adjB (fs.map (·.1))) := by
  show (_ && adjB ((fs.map encP).map pOf)) = _
  rw [pOf_map]
theorem tree_false {ds : List PyData} (h : ds.all fileD = false) : isTreeD (.tuple ds) = false := by show (ds.all fileD && _) = false; rw [h]; rfl
theorem isD_tup {d : PyData} (h : ∀ z, d ≠ .tuple z) : isD "tuple" d = false := by
  cases d <;> first | rfl | exact absurd rfl (h _)
abbrev preZ (f : PyData → Bool) : List PyData → Prop := fun ds => ∃ d, ds = [d] ∧ f d = true
theorem ev_z1 {μ : Mu} {Γ : List Sl} {ta : TA} {E : XK} {f g : PyData → Bool} {x : PyData} (ha : EvA μ ta Γ 0 (Eq [x])) (hx : g x = true) : Ev μ (tCall (spP (preZ g) (post1 f)) [] E ta) Γ 0 (Eq (.bool (f x))) :=
  (ev_callP ha ⟨x, rfl, hx⟩).imp fun d ⟨y, e, e2⟩ => by cases e; exact e2.symm
theorem not_pair {xs : List PyData} (h2 : ¬ ∃ a b, xs = [a, b]) : ¬ xs.length = 2 := fun e => by
  match xs, e with
  | [a, b], _ => exact h2 ⟨a, b, rfl⟩
theorem file_no {xs : List PyData} (h2 : ¬ ∃ a b, xs = [a, b]) : fileD (.tuple xs) = false := by
  unfold fileD
  split
  · rename_i a b e; cases e; exact absurd ⟨_, _, rfl⟩ h2
  · rfl
theorem zip_adj (fs : List (Str × PyData)) : (fs.zip (fs.drop 1)).all (fun q => decide (ltS q.1.1 q.2.1) && !lbelow q.2.1 q.1.1) = adjB (fs.map (·.1)) := by
  unfold adjB
  rw [← List.map_drop, List.zip_map, List.all_map]
  rfl
section
variable {P : Program} {w : World} {K : PySem.W.Frag} {mg : Str → Option Value} {base : Heap}
theorem ok_is_file (T : Tx K mg) : FnG P w K mg base CX0 3 T.a_is_file T.d_is_file ["value"] (spP (preZ szFl) (post1 fileD)) := by
  have G_is_path := ok_is_path (P := P) (w := w) (base := base) T
  have G_is_line := ok_is_line (P := P) (w := w) (base := base) T
  refine ok_pure T.F_is_file sc_is_file (fun ds ⟨x, e, _⟩ => by rw [e]; rfl) fun cdv A fs s H E hG hr => ⟨_, (pss_cons (ps_if (PW.pt (pw_or (pt_not (pt_val (pe_callB (callK_isi (K := K) rfl) (by rfl) T.m_isinstance bt_isinstance (pa_cons (pv 0) (pa_cons (pe_bltn (v := .ty "tuple") (by rfl) T.m_tuple bt_tuple rfl) pa_nil))))) (pw_or (pt_cmpR op_ne (pe_callB (callK_len (K := K) rfl) (by rfl) T.m_len bt_len (pa_cons (pv 0) pa_nil)) (pe_glob (v := .int 2) (by rfl) T.c_PAIR ⟨_, rfl⟩) (nomark _)) (pw_or1 (pt_not (pt_val (pc_call G_is_path hG (hr.mono (by first | decide | omega)) (by rfl) T.g_is_path T.F_is_path.kp T.b_is_path .nil pass0 (pa_cons (pe_ix (ixK_tup (K := K) rfl) (pv 0) pe_int (fun _ _ => rfl)) pa_nil)))))))) (pss_one (ps_ret pe_bl)) pss_nil)
        (pss_one (ps_ret (pe_and (pe_callB (callK_isi (K := K) rfl) (by rfl) T.m_isinstance bt_isinstance (pa_cons (pe_ix (ixK_tup (K := K) rfl) (pv 0) pe_int (fun _ _ => rfl)) (pa_cons (pe_bltn (v := .ty "tuple") (by rfl) T.m_tuple bt_tuple rfl) pa_nil))) (pe_one (pe_callB (crK_all (K := K) rfl rfl) (by rfl) T.m_all bt_all (pa_cons (pe_lc (own := [("line", 1)]) (g := (gName 1)) (by rfl) sc_is_file.nd (piK_tup (K := K) rfl (pe_ix (ixK_tup (K := K) rfl) (pv 0) pe_int (fun _ _ => rfl))) (blkOk_by (own := [("line", 1)]) (N := N_is_file) (sc := defScope s_is_file) (by decide +kernel)) (fun _ _ _ _ _ => (pg_name (i := 1) sc_is_file.nd rfl (.inl rfl))) (fun _ _ _ _ _ => pts_nil) (fun _ _ _ _ _ => (pc_call G_is_line hG (hr.mono (by first | decide | omega)) (by rfl) T.g_is_line T.F_is_line.kp T.b_is_line .nil pass0 (pa_cons (pv 1) pa_nil)))) pa_nil))))))), fun ds ⟨d, e, hd⟩ => ?_⟩
  subst e
  show Go _ _ [.dat d, .un] _ _
  by_cases ht : ∃ xs, d = .tuple xs
  · obtain ⟨xs, rfl⟩ := ht
    by_cases h2 : ∃ a b, xs = [a, b]
    · obtain ⟨a, b, rfl⟩ := h2
      simp only [szFl, List.all_cons, List.all_nil, Bool.and_eq_true, Bool.and_true] at hd
      refine gs_when (n := 0) (et_or0 (et_not (et_B (ev_isi0 isi_tuple (ev_var rfl)))) fun _ => et_or0 (et_test (ev_op0 (ev_lenT (ds := [a, b]) (ev_var rfl)) ev_int rd_neI)) fun _ => et_not (et_B (ev_c1 (x := a) (ea_cons0 (ev_op0 (ev_var rfl) ev_int (rd_ixT (ds := [a, b]) (atI_nat (j := 0) rfl))) ea_nil) (sz1_D (szLs_1 hd.1))))) (by decide) (fun h => ?_) fun h => ?_
      · refine gs_ret (go_retE ev_bl (by decide) ⟨_, rfl, ?_⟩)
        have : pathD a = false := by
          cases q : pathD a with
          | false => rfl
          | true => rw [q] at h; cases h
        unfold fileD
        split
        · rename_i a' ls e; cases e; rw [this]; rfl
        · rfl
      · have hp : pathD a = true := by
          cases q : pathD a with
          | true => rfl
          | false => rw [q] at h; cases h
        by_cases hb : ∃ ls, b = .tuple ls
        · obtain ⟨ls, rfl⟩ := hb
          have hls := hd.2
          simp only [szLs, Bool.and_eq_true, decide_eq_true_eq] at hls
          have x1 : ∀ {Γ : List Sl}, Γ[0]? = some (.dat (.tuple [a, .tuple ls])) → Ev pureMu (tOp (rIxT K) (tVar 0) (tC (.int 1))) Γ 0 (Eq (.tuple ls)) := fun h => ev_op0 (ev_var h) ev_int (rd_ixT (ds := [a, .tuple ls]) (atI_nat (j := 1) rfl))
          refine go_retE (ev_andV0 (ev_isi0 isi_tuple (x1 rfl)) fun _ => ev_all (bs := ls.map lineD) (Ev.is (ev_lcM (ds := ls) (is := [1]) (ew_tupE (x1 rfl)).i (by omega) (by simp) (fun d => .bool (lineD d)) fun d hd => ⟨_, eg_name, ev_c1 (ea_cons0 (ev_var rfl) ea_nil) (sz1_D (List.all_eq_true.mp hls.2 d hd))⟩) (by rw [List.map_map]; rfl))) (by decide) ⟨_, rfl, ?_⟩
          simp only [fileD, hp, Bool.true_and, List.all_map]
          rfl
        · have hn : isD "tuple" b = false := isD_tup fun z e => hb ⟨z, e⟩
          refine go_retE (ev_andV0 (b := false) ((ev_isi0 isi_tuple (ev_op0 (ev_var rfl) ev_int (rd_ixT (ds := [a, b]) (atI_nat (j := 1) rfl)))).is (by rw [hn])) (fun h => by cases h)) (by decide) ⟨_, rfl, ?_⟩
          unfold fileD
          split
          · rename_i a' ls e; cases e; exact absurd ⟨_, rfl⟩ hb
          · rfl
    · have hl := not_pair h2
      refine gs_when (n := 0) (et_or0 (et_not (et_B (ev_isi0 isi_tuple (ev_var rfl)))) fun _ => et_or0 (b := false) (et_test (ev_op0 (ev_lenT (ds := xs) (ev_var rfl)) ev_int rd_neI)) fun h => ?_) (by decide) (fun h => ?_) fun h => ?_
      · exfalso
        have : ((xs.length : Int) == 2) = true := by simpa using h
        rw [beq_iff_eq] at this
        omega
      · refine gs_ret (go_retE ev_bl (by decide) ⟨_, rfl, ?_⟩)
        rw [file_no h2]
      · exfalso
        have : ¬ ((xs.length : Int) = 2) := by omega
        rw [beq_eq_false_iff_ne.mpr this] at h
        cases h
  · have hn : isD "tuple" d = false := isD_tup fun z e => ht ⟨z, e⟩
    refine gs_when (n := 0) (et_or0 (b := false) ((et_not (et_B (ev_isi0 isi_tuple (ev_var rfl)))).is (by rw [hn])) (fun h => by cases h)) (by decide) (fun h => ?_) (fun h => by cases h)
    refine gs_ret (go_retE ev_bl (by decide) ⟨_, rfl, ?_⟩)
    cases d <;> first | rfl | exact absurd ⟨_, rfl⟩ ht
theorem ok_is_tree (T : Tx K mg) : FnG P w K mg base CX0 4 T.a_is_tree T.d_is_tree ["value"] (spP (preZ szTr) (post1 isTreeD)) := by
  have G_is_file := ok_is_file (P := P) (w := w) (base := base) T
  have G_lies_below := ok_lies_below (P := P) (w := w) (base := base) T
  refine ok_pure T.F_is_tree sc_is_tree (fun ds ⟨x, e, _⟩ => by rw [e]; rfl) fun cdv A fs s H E hG hr => ⟨_, (pss_cons (ps_if (PW.pt (pw_or (pt_not (pt_val (pe_callB (callK_isi (K := K) rfl) (by rfl) T.m_isinstance bt_isinstance (pa_cons (pv 0) (pa_cons (pe_bltn (v := .ty "tuple") (by rfl) T.m_tuple bt_tuple rfl) pa_nil))))) (pw_or1 (pt_not (pt_val (pe_callB (crK_all (K := K) rfl rfl) (by rfl) T.m_all bt_all (pa_cons (pe_lc (own := [("pair", 1)]) (g := (gName 1)) (by rfl) sc_is_tree.nd (piK_tup (K := K) rfl (pv 0)) (blkOk_by (own := [("pair", 1)]) (N := N_is_tree) (sc := defScope s_is_tree) (by decide +kernel)) (fun _ _ _ _ _ => (pg_name (i := 1) sc_is_tree.nd rfl (.inl rfl))) (fun _ _ _ _ _ => pts_nil) (fun _ _ _ _ _ => (pc_call G_is_file hG (hr.mono (by first | decide | omega)) (by rfl) T.g_is_file T.F_is_file.kp T.b_is_file .nil pass0 (pa_cons (pv 1) pa_nil)))) pa_nil))))))) (pss_one (ps_ret pe_bl)) pss_nil)
        (pss_cons (ps_set (i := 2) sc_is_tree.nd rfl (.inl rfl) (peK_listZip (K := K) rfl rfl (pa_cons (pv 0) (pa_cons (pe_slice (slK_tupA (K := K) rfl) (pv 0) (po_some pe_int) po_none) pa_nil)) (by rfl) T.m_list (by rfl) T.m_zip))
        (pss_one (ps_ret (pe_callB (crK_all (K := K) rfl rfl) (by rfl) T.m_all bt_all (pa_cons (pe_lc (own := [("one", 3), ("other", 4)]) (g := (gTup K 2 (gCons (gName 3) (gCons (gName 4) gNil)))) (by rfl) sc_is_tree.nd (piK_list (K := K) rfl (pv 2)) (blkOk_by (own := [("one", 3), ("other", 4)]) (N := N_is_tree) (sc := defScope s_is_tree) (by decide +kernel)) (fun _ _ _ _ _ => (pg_tup (by rfl) (pgs_cons (pg_name (i := 3) sc_is_tree.nd rfl (.inl rfl)) (pgs_cons (pg_name (i := 4) sc_is_tree.nd rfl (.inl rfl)) pgs_nil)))) (fun _ _ _ _ _ => pts_nil) (fun _ _ _ _ _ => (pe_and (pe_cmpR op_lt_str (pe_ix (ixK_tup (K := K) rfl) (pv 3) pe_int (fun _ _ => rfl)) (pe_ix (ixK_tup (K := K) rfl) (pv 4) pe_int (fun _ _ => rfl)) (nomark _)) (pe_one (pe_not (pc_call G_lies_below hG (hr.mono (by first | decide | omega)) (by rfl) T.g_lies_below T.F_lies_below.kp T.b_lies_below .nil pass0 (pa_cons (pe_ix (ixK_tup (K := K) rfl) (pv 4) pe_int (fun _ _ => rfl)) (pa_cons (pe_ix (ixK_tup (K := K) rfl) (pv 3) pe_int (fun _ _ => rfl)) pa_nil)))))))) pa_nil)))))), fun ds ⟨d, e, hd⟩ => ?_⟩
  subst e
  show Go _ _ [.dat d, .un, .un, .un, .un] _ _
  by_cases ht : ∃ xs, d = .tuple xs
  · obtain ⟨xs, rfl⟩ := ht
    simp only [szTr, Bool.and_eq_true, decide_eq_true_eq] at hd
    obtain ⟨hl, hz⟩ := hd
    refine gs_when (n := 0) (et_or0 (et_not (et_B (ev_isi0 isi_tuple (ev_var rfl)))) fun _ => et_not (et_B (ev_all (bs := xs.map fileD) (Ev.is (ev_lcM (ds := xs) (ew_tupE (ev_var rfl)).i (by omega) (by simp) (fun d => .bool (fileD d)) fun d hd => ⟨_, eg_name, ev_z1 (ea_cons0 (ev_var rfl) ea_nil) (List.all_eq_true.mp hz d hd)⟩) (by rw [List.map_map]; rfl))))) (by decide) (fun h => ?_) fun h => ?_
    · refine gs_ret (go_retE ev_bl (by decide) ⟨_, rfl, ?_⟩)
      rw [tree_false]
      cases q : xs.all fileD with
      | false => rfl
      | true => rw [List.all_map, show (id ∘ fileD) = fileD from rfl, q] at h; cases h
    have hall : xs.all fileD = true := by
      cases q : xs.all fileD with
      | true => rfl
      | false => rw [List.all_map, show (id ∘ fileD) = fileD from rfl, q] at h; cases h
    obtain ⟨fs, rfl, hfs⟩ := files_of hall hz
    have hrl : fs.length ≤ 1000 := by rw [List.length_map] at hl; exact hl
    refine gs_setE (d := .list ((fs.zip (fs.drop 1)).map fun q => .tuple [encP q.1, encP q.2])) (Ev.is (ev_listZip (ds := fs.map encP) (es := (fs.drop 1).map encP) (ea_cons0 (ev_var rfl) (ea_cons0 (Ev.is (ev_slT (ds := fs.map encP) (ev_var rfl) (eo_some (j := ((1 : Nat) : Int)) ev_int) eo_none) (by rw [cutD_from, List.map_drop])) ea_nil)) (by rw [List.length_map]; omega)) (by unfold zipD; rw [List.zip_map, List.map_map]; rfl)) (by decide) ?_
    have mz : ∀ q ∈ fs.zip (fs.drop 1), okE q.1 ∧ okE q.2 := fun q hq => ⟨hfs _ (List.of_mem_zip hq).1, hfs _ (List.mem_of_mem_drop (List.of_mem_zip hq).2)⟩
    have x0 : ∀ {Γ : List Sl} {i : Nat} {f : Str × PyData}, Γ[i]? = some (.dat (encP f)) → Ev pureMu (tOp (rIxT K) (tVar i) (tC (.int 0))) Γ 0 (Eq (.str f.1)) := fun h => ev_op0 (ev_var h) ev_int (rd_ixT (atI_nat (j := 0) rfl))
    refine go_retE (ev_all (bs := (fs.zip (fs.drop 1)).map fun q => decide (ltS q.1.1 q.2.1) && !lbelow q.2.1 q.1.1) (Ev.is (ev_lcTM (enc := fun q : (Str × PyData) × (Str × PyData) => .tuple [encP q.1, encP q.2]) (as := fs.zip (fs.drop 1)) (ew_listE (ev_var rfl)).i (by rw [List.length_zip]; omega) (by simp) (fun q => .bool (decide (ltS q.1.1 q.2.1) && !lbelow q.2.1 q.1.1)) fun q hq => ⟨_, eg_tup (egs_cons eg_name (egs_cons eg_name egs_nil)) rfl, ev_andV0 (ev_op0 (x0 rfl) (x0 rfl) rd_ltS) fun _ => ev_notV (ev_lb (x0 rfl) (x0 rfl) (mz q hq).2.1 (mz q hq).1.1)⟩) (by rw [List.map_map]; rfl))) (by decide) ⟨_, rfl, ?_⟩
    rw [isTree_enc, hall, Bool.true_and, List.all_map, ← zip_adj]
    rfl
  · have hn : isD "tuple" d = false := isD_tup fun z e => ht ⟨z, e⟩
    refine gs_when (n := 0) (et_or0 (b := false) ((et_not (et_B (ev_isi0 isi_tuple (ev_var rfl)))).is (by rw [hn])) (fun h => by cases h)) (by decide) (fun h => ?_) (fun h => by cases h)
    refine gs_ret (go_retE ev_bl (by decide) ⟨_, rfl, ?_⟩)
    cases d <;> first | rfl | exact absurd ⟨_, rfl⟩ ht
end
end K23

namespace K23
open PySem PySem.Spec PyProof.Rows L2 B
/-! ### how expressions are read off -/
local macro_rules | `(tactic| walk_at "ev") => `(tactic| first
  | exact ea_nil
  | (apply ea_cons0 <;> walk_at "ev")
  | exact ev_int | exact ev_str | exact ev_bl | exact ev_non | exact ev_var rfl | exact ev_dnew
  | (apply ev_lstE <;> walk_at "ev")
  | (apply ev_tupE <;> walk_at "ev")
  | (apply ev_disp1E <;> walk_at "ev")
  | (apply ev_neg <;> walk_at "ev")
  | (apply ev_add0 <;> walk_at "ev")
  | (apply ev_sub0 <;> walk_at "ev")
  | (apply ev_cmp0 <;> walk_at "ev")
  | (apply ev_pow0 <;> walk_at "ev")
  | (apply ev_isi0 isi_str <;> walk_at "ev")
  | (apply ev_isi0 isi_tuple <;> walk_at "ev")
  | (apply ev_isi0 isi_bool <;> walk_at "ev")
  | (apply ev_isi0 isi_int <;> walk_at "ev")
  | (apply et_B <;> walk_at "ev")
  | (apply et_test <;> walk_at "ev")
  | (apply et_not <;> walk_at "ev")
  | exact Nat.le_of_ble_eq_true rfl
  | exact ⟨by decide, by decide, by decide⟩)
/-! ### the law's own look at rows -/
def Uniq (rs : List Row) : Prop := ∀ r ∈ rs, ∀ s ∈ rs, r.1 = s.1 → r = s
theorem fits_pre {p : Str} {r : Row} (h : fits p r = true) : TL.tl r.1 <+: TL.tl p := by
  unfold fits lbelow at h
  simp only [Bool.or_eq_true, beq_iff_eq] at h
  rcases h with h | h | h
  · rw [h]; exact List.prefix_rfl
  · rw [h, tl_empty]; exact List.nil_prefix
  · rw [starts_iff, TL.tl_append, tl_slash] at h
    exact (List.prefix_append _ _).trans h
theorem fits_len {p : Str} {r s : Row} (hr : fits p r = true) (hs : fits p s = true) (e : r.1.length = s.1.length) : r.1 = s.1 := by
  have h1 := List.prefix_iff_eq_take.mp (fits_pre hr)
  have h2 := List.prefix_iff_eq_take.mp (fits_pre hs)
  rw [TL.len_tl, TL.len_tl] at e
  apply TL.ext_tl
  rw [h1, h2, e]
structure Best (rs : List Row) (p : Str) (r : Row) : Prop where
  mem : r ∈ rs
  fit : fits p r = true
  top : ∀ s ∈ rs, fits p s = true → s.1.length ≤ r.1.length
def RowInv (rs : List Row) (p : Str) : Option Row → Prop
  | none => ∀ r ∈ rs, fits p r = false
  | some r => Best rs p r
theorem rowInv_step {rs : List Row} {p : Str} {o : Option Row} {x : Row} (h : RowInv rs p o) : RowInv (rs ++ [x]) p (rowStep p o x) := by
  unfold rowStep
  have cs : ∀ s, s ∈ rs ++ [x] → s ∈ rs ∨ s = x := fun s hs => by simpa using hs
  cases hf : fits p x with
  | false =>
    simp only [Bool.false_eq_true, if_false]
    cases o with
    | none =>
      intro r hr
      rcases cs r hr with hr | hr
      · exact h r hr
      · rw [hr]; exact hf
    | some g =>
      refine ⟨List.mem_append_left _ h.mem, h.fit, fun s hs fs => ?_⟩
      rcases cs s hs with hs | hs
      · exact h.top s hs fs
      · rw [hs, hf] at fs; cases fs
  | true =>
    simp only [if_true]
    cases o with
    | none =>
      refine ⟨by simp, hf, fun s hs fs => ?_⟩
      rcases cs s hs with hs | hs
      · rw [h s hs] at fs; cases fs
      · rw [hs]; exact Nat.le_refl _
    | some g =>
      dsimp only
      split
      · rename_i hlt
        have hlt' := of_decide_eq_true hlt
        refine ⟨by simp, hf, fun s hs fs => ?_⟩
        rcases cs s hs with hs | hs
        · have := h.top s hs fs; omega
        · rw [hs]; exact Nat.le_refl _
      · rename_i hlt
        refine ⟨List.mem_append_left _ h.mem, h.fit, fun s hs fs => ?_⟩
        rcases cs s hs with hs | hs
        · exact h.top s hs fs
        · rw [hs]
          have : ¬ ((g.1.length : Int) < (x.1.length : Int)) := fun z => hlt (decide_eq_true z)
          omega
theorem rowOf_inv (rs : List Row) (p : Str) : RowInv rs p (rowOf rs p) := by
  have gen : ∀ (l done : List Row) (o : Option Row), RowInv done p o → RowInv (done ++ l) p (l.foldl (rowStep p) o) := by
    intro l
    induction l with
    | nil => intro done o h; rw [List.append_nil]; exact h
    | cons x l ih =>
      intro done o h
      have := ih (done ++ [x]) (rowStep p o x) (rowInv_step h)
      rw [List.append_assoc] at this
      exact this
  exact gen rs [] none (fun r hr => by cases hr)
theorem rowOf_best {rs : List Row} {p : Str} {r : Row} (hu : Uniq rs) (h : Best rs p r) : rowOf rs p = some r := by
  have hi := rowOf_inv rs p
  cases e : rowOf rs p with
  | none => rw [e] at hi; have := hi r h.mem; rw [h.fit] at this; cases this
  | some s =>
    rw [e] at hi
    have h1 := h.top s hi.mem hi.fit
    have h2 := hi.top r h.mem h.fit
    rw [hu s hi.mem r h.mem (fits_len hi.fit h.fit (by omega))]
/-! ### .. by sorting -/
def lfits (p : Str) (r : Row) : Bool := (r.1 == "") || (p == r.1)
def lfits2 (p : Str) (r : Row) : Bool := Txt.startswith p (r.1 ++ "/")
def trip (r : Row) : PyData := .tuple [.int (r.1.length : Int), .str r.1, encO r.2]
def keyT : PyData → Kk
  | .tuple (.int n :: .str f :: _) => (n, TL.tl f)
  | .tuple (.str f :: _) => (0, TL.tl f)
  | _ => (0, [])
theorem lfits_iff {p : Str} {r : Row} : fits p r = true ↔ lfits p r = true ∨ lfits2 p r = true := by
  unfold fits lbelow lfits lfits2
  simp only [Bool.or_eq_true, beq_iff_eq]
  constructor
  · rintro (h | h | h)
    · exact .inl (.inr h.symm)
    · exact .inl (.inl h)
    · exact .inr h
  · rintro ((h | h) | h)
    · exact .inr (.inl h)
    · exact .inl h.symm
    · exact .inr (.inr h)
def lsome (rs : List Row) (p : Str) : List Row := rs.filter (lfits p) ++ rs.filter (lfits2 p)
theorem mem_lsome {rs : List Row} {p : Str} {r : Row} : r ∈ lsome rs p ↔ r ∈ rs ∧ fits p r = true := by
  unfold lsome
  rw [List.mem_append, List.mem_filter, List.mem_filter, lfits_iff]
  constructor
  · rintro (⟨a, b⟩ | ⟨a, b⟩)
    · exact ⟨a, .inl b⟩
    · exact ⟨a, .inr b⟩
  · rintro ⟨a, b | b⟩
    · exact .inl ⟨a, b⟩
    · exact .inr ⟨a, b⟩
theorem ltK_self (k : Kk) : ltK k k = false := by
  rw [ltK_no]
  rintro (h | ⟨_, h⟩)
  · omega
  · exact (List.lt_irrefl _) h
theorem last_max {key : PyData → Kk} : ∀ {es : List PyData}, es.Pairwise (fun x y => ltK (key y) (key x) = false) → es ≠ [] → ∃ init m, es = init ++ [m] ∧ ∀ e ∈ es, ltK (key m) (key e) = false := by
  intro es hp hne
  obtain ⟨init, m, rfl⟩ : ∃ init m, es = init ++ [m] := ⟨es.dropLast, es.getLast hne, (List.dropLast_concat_getLast hne).symm⟩
  refine ⟨init, m, rfl, fun e he => ?_⟩
  rcases List.mem_append.mp he with h | h
  · exact (List.pairwise_append.mp hp).2.2 e h m (by simp)
  · rw [List.mem_singleton.mp h]; exact ltK_self _
theorem trip_sh {r : Row} (h : okR r) : SeqAt.shaped (trip r) = true := by
  refine Shp.shaped (n := 1) (shp_tup fun d hd => ?_)
  simp only [List.mem_cons, List.not_mem_nil, or_false] at hd
  rcases hd with rfl | rfl | rfl
  · exact shp_int
  · exact shp_str h.1.1
  · cases e : r.2 with
    | none => exact shp_none
    | some z => have := h.2; rw [e] at this; exact shp_str this.1
theorem lt_trip {r s : Row} (h : r.1 = s.1 → r = s) : LtA [.int (r.1.length : Int), .str r.1, encO r.2] [.int (s.1.length : Int), .str s.1, encO s.2] (ltK (keyT (trip r)) (keyT (trip s))) := by
  show LtA _ _ (ltK ((r.1.length : Int), TL.tl r.1) ((s.1.length : Int), TL.tl s.1))
  by_cases e : r.1 = s.1
  · have := h e
    subst this
    rw [ltK_self]
    refine .eq (by simp [PyData.eqv]) (.eq (by rw [eqv_str]; exact beq_self_eq_true _) (.eq ?_ .nil))
    cases r.2 with
    | none => exact eqv_none
    | some z => show PyData.eqv (.str z) (.str z) = true; rw [eqv_str]; exact beq_self_eq_true _
  · by_cases e2 : (r.1.length : Int) = (s.1.length : Int)
    · rw [e2]
      have e3 : ltK ((s.1.length : Int), TL.tl r.1) ((s.1.length : Int), TL.tl s.1) = decide (r.1.cps.toList < s.1.cps.toList) := by
        unfold ltK
        simp
      rw [e3]
      exact .eq (by simp [PyData.eqv]) (.str e)
    · have e3 : ltK ((r.1.length : Int), TL.tl r.1) ((s.1.length : Int), TL.tl s.1) = decide ((r.1.length : Int) < (s.1.length : Int)) := by
        unfold ltK
        simp only
        rw [decide_eq_false e2]
        simp
      rw [e3]
      exact .int e2
theorem lt_pair {r s : Row} (h : r.1 = s.1 → r = s) : LtA [.str r.1, encO r.2] [.str s.1, encO s.2] (ltK (keyT (encR r)) (keyT (encR s))) := by
  show LtA _ _ (ltK (0, TL.tl r.1) (0, TL.tl s.1))
  by_cases e : r.1 = s.1
  · have := h e
    subst this
    rw [ltK_self]
    refine .eq (by rw [eqv_str]; exact beq_self_eq_true _) (.eq ?_ .nil)
    cases r.2 with
    | none => exact eqv_none
    | some z => show PyData.eqv (.str z) (.str z) = true; rw [eqv_str]; exact beq_self_eq_true _
  · have e3 : ltK ((0 : Int), TL.tl r.1) ((0 : Int), TL.tl s.1) = decide (r.1.cps.toList < s.1.cps.toList) := by
      unfold ltK
      simp
    rw [e3]
    exact .str e
theorem encR_sh {r : Row} (h : okR r) : Shp 1 (encR r) := by
  refine shp_tup fun d hd => ?_
  simp only [List.mem_cons, List.not_mem_nil, or_false] at hd
  rcases hd with rfl | rfl
  · exact shp_str h.1.1
  · cases e : r.2 with
    | none => exact shp_none
    | some z => have := h.2; rw [e] at this; exact shp_str this.1
section
variable {P : Program} {w : World} {K : PySem.W.Frag} {mg : Str → Option Value} {base : Heap}
theorem ev_r0 {μ : Mu} {Γ : List Sl} {te : TE} {r : Row} (h : Ev μ te Γ 0 (Eq (encR r))) : Ev μ (tOp (rIx K) te (tC (.int 0))) Γ 0 (Eq (.str r.1)) := ev_op0 h ev_int (rd_ixsT (atI_nat (j := 0) rfl))
theorem ev_r1 {μ : Mu} {Γ : List Sl} {te : TE} {r : Row} (h : Ev μ te Γ 0 (Eq (encR r))) : Ev μ (tOp (rIx K) te (tC (.int 1))) Γ 0 (Eq (encO r.2)) := ev_op0 h ev_int (rd_ixsT (atI_nat (j := 1) rfl))
end
section
variable {P : Program} {w : World} {K : PySem.W.Frag} {mg : Str → Option Value} {base : Heap}
/-! ### rows are drawn -/
def meetsB (a b : Str) : Bool := [a, b].any (· == "") || ((a == b) || (Txt.startswith a (b ++ "/") || Txt.startswith b (a ++ "/")))
theorem ok_law_meets (T : Tx K mg) : FnG P w K mg base CX0 1 T.a_law_meets T.d_law_meets ["_law_one", "_law_other"] (spP (fun ds => ∃ p f : Str, ds = [.str p, .str f] ∧ p.length ≤ 1000 ∧ f.length ≤ 1000) (fun ds e => ∃ p f : Str, ds = [.str p, .str f] ∧ e = .bool (meetsB p f))) := by
  refine ok_pure T.F_law_meets sc_law_meets (fun ds ⟨p, f, e, _⟩ => by rw [e]; rfl) fun cdv A fs s H E hG hr => ⟨_, (pss_one (ps_ret (pe_or (pe_cmpR (opK_in (K := K) rfl) pe_str (pe_tupP (pa_cons (pv 0) (pa_cons (pv 1) pa_nil))) (by rfl)) (pe_or (pe_cmpR op_eq (pv 0) (pv 1) (nomark _)) (pe_or (pe_m1 PySem.F.slot_str_startswith PySem.F.type_str_startswith mt_startswith (pv 0) (pe_op op_add_str (pv 1) pe_str)) (pe_one (pe_m1 PySem.F.slot_str_startswith PySem.F.type_str_startswith mt_startswith (pv 1) (pe_op op_add_str (pv 0) pe_str)))))))), fun ds ⟨p, f, e, h1, h2⟩ => ?_⟩
  subst e
  show Go _ _ [.dat (.str p), .dat (.str f)] _ _
  refine go_retE (ev_orV0 (ev_op0 ev_str (ev_tupE (ea_cons0 (ev_var rfl) (ea_cons0 (ev_var rfl) ea_nil)) (Nat.le_of_ble_eq_true rfl)) (rd_inT (zs := [p, f]) (neg := false))) (fun _ => ev_orV0 (ev_op0 (ev_var rfl) (ev_var rfl) rd_eqS) (fun _ => ev_orV0 (ev_starts (ev_var rfl) (ev_addS (ev_var rfl) ev_str (by rw [slash_len]; omega))) (fun _ => ev_starts (ev_var rfl) (ev_addS (ev_var rfl) ev_str (by rw [slash_len]; omega)))))) (by decide) ⟨p, f, rfl, rfl⟩
theorem ev_meets {μ : Mu} {Γ : List Sl} {ta tb : TE} {E : XK} {p f : Str} (ha : Ev μ ta Γ 0 (Eq (.str p))) (hb : Ev μ tb Γ 0 (Eq (.str f))) (h1 : p.length ≤ 1000) (h2 : f.length ≤ 1000) :
    Ev μ (tCall (spP (fun ds => ∃ p f : Str, ds = [.str p, .str f] ∧ p.length ≤ 1000 ∧ f.length ≤ 1000) (fun ds e => ∃ p f : Str, ds = [.str p, .str f] ∧ e = .bool (meetsB p f))) [] E (tCons ta (tCons tb tNil))) Γ 0 (Eq (.bool (meetsB p f))) :=
  (ev_callP (ea_cons0 ha (ea_cons0 hb ea_nil)) ⟨p, f, rfl, h1, h2⟩).imp fun d ⟨p', f', e, e2⟩ => by cases e; exact e2.symm
def FOLD : List Str := ["", "a", "a/b", "b", "a/b/c", "c/d", "lib"]
def TARG : List Str := ["p", "q", "p/r", "q1", "s", "a", ""]
def Apart (rs : List Row) : Prop := ∀ r ∈ rs, ∀ s ∈ rs, r.1 ≠ s.1 → ∀ t u, r.2 = some t → s.2 = some u → meetsB t u = false
structure Drawn (rs : List Row) : Prop where
  len : rs.length ≤ 5
  fold : ∀ r ∈ rs, r.1 ∈ FOLD
  targ : ∀ r ∈ rs, ∀ t, r.2 = some t → t ∈ TARG
  uniq : Uniq rs
  apart : Apart rs
  fresh : rs.Pairwise (fun r s => r.1 ≠ s.1)
theorem fold_ok : ∀ f ∈ FOLD, okS f := by
  have h : ∀ f ∈ FOLD, PyData.strOk f = true ∧ f.length ≤ 100 := by decide +kernel
  exact h
theorem targ_ok : ∀ f ∈ TARG, okS f := by
  have h : ∀ f ∈ TARG, PyData.strOk f = true ∧ f.length ≤ 100 := by decide +kernel
  exact h
theorem Drawn.ok {rs : List Row} (h : Drawn rs) : okRs rs := by
  refine ⟨Nat.le_trans h.len (by decide), fun r hr => ⟨fold_ok _ (h.fold r hr), ?_⟩⟩
  cases e : r.2 with
  | none => trivial
  | some t => exact targ_ok _ (h.targ r hr t e)
theorem meetsB_comm (a b : Str) : meetsB a b = meetsB b a := by
  unfold meetsB
  have h1 : (a == b) = (b == a) := by rw [Bool.eq_iff_iff, beq_iff_eq, beq_iff_eq]; exact eq_comm
  rw [h1, Bool.or_comm (Txt.startswith a (b ++ "/"))]
  simp only [List.any_cons, List.any_nil, Bool.or_false]
  rw [Bool.or_comm (a == "")]
theorem Drawn.perm {rs qs : List Row} (h : Drawn rs) (p : qs.Perm rs) : Drawn qs :=
  ⟨by rw [p.length_eq]; exact h.len, fun r hr => h.fold r (p.mem_iff.mp hr), fun r hr => h.targ r (p.mem_iff.mp hr), fun r hr s hs => h.uniq r (p.mem_iff.mp hr) s (p.mem_iff.mp hs), fun r hr s hs => h.apart r (p.mem_iff.mp hr) s (p.mem_iff.mp hs), (p.pairwise_iff fun {a b} (z : a.1 ≠ b.1) e => z e.symm).mpr h.fresh⟩
theorem tgts_eq : ∀ rs : List Row, ((rs.filter (fun r => !isN (encO r.2))).map fun r => encO r.2) = (rs.filterMap (·.2)).map PyData.str
  | [] => rfl
  | (f, none) :: rs => by
    have := tgts_eq rs
    simpa [encO, isN] using this
  | (f, some t) :: rs => by
    have := tgts_eq rs
    simpa [encO, isN] using this
theorem Drawn.add {rs : List Row} {f : Str} {o : Option Str} (h : Drawn rs) (hl : rs.length ≤ 4) (hf : f ∈ FOLD) (ho : ∀ t, o = some t → t ∈ TARG) (hnew : ∀ r ∈ rs, r.1 ≠ f) (hm : ∀ t, o = some t → ∀ u ∈ rs.filterMap (·.2), meetsB t u = false) : Drawn (rs ++ [(f, o)]) := by
  have cs : ∀ s, s ∈ rs ++ [(f, o)] → s ∈ rs ∨ s = (f, o) := fun s hs => by simpa using hs
  have hm' : ∀ r ∈ rs, ∀ t u, o = some t → r.2 = some u → meetsB t u = false := fun r hr t u e e2 => hm t e u (List.mem_filterMap.mpr ⟨r, hr, e2⟩)
  refine ⟨by rw [List.length_append]; simp; omega, fun r hr => ?_, fun r hr t e => ?_, fun r hr s hs e => ?_, fun r hr s hs ne t u e1 e2 => ?_, List.pairwise_append.mpr ⟨h.fresh, by simp, fun r hr s hs => by rw [List.mem_singleton.mp hs]; exact hnew r hr⟩⟩
  · rcases cs r hr with z | z
    · exact h.fold r z
    · rw [z]; exact hf
  · rcases cs r hr with z | z
    · exact h.targ r z t e
    · rw [z] at e; exact ho t e
  · rcases cs r hr with z | z
    · rcases cs s hs with y | y
      · exact h.uniq r z s y e
      · rw [y] at e; exact absurd e (hnew r z)
    · rcases cs s hs with y | y
      · rw [z] at e; exact absurd e.symm (hnew s y)
      · rw [z, y]
  · rcases cs r hr with z | z
    · rcases cs s hs with y | y
      · exact h.apart r z s y ne t u e1 e2
      · rw [y] at e2; rw [meetsB_comm]; exact hm' r z u t e2 e1
    · rcases cs s hs with y | y
      · rw [z] at e1; exact hm' s y t u e1 e2
      · rw [z, y] at ne; exact absurd rfl ne
def Asc (rs : List Row) : Prop := (rs.map (·.1)).Pairwise ltS
theorem asc_of {rs : List Row} (h : Drawn rs) (pw : (rs.map encR).Pairwise (fun x y => ltK (keyT y) (keyT x) = false)) : Asc rs := by
  unfold Asc
  rw [List.pairwise_map] at pw ⊢
  refine (pw.and h.fresh).imp fun {r s} ⟨h1, h2⟩ => ?_
  have h3 := ltK_no.mp h1
  rcases ltS_or h2 with z | z
  · exact z
  · exact absurd (.inr ⟨rfl, z⟩) h3
theorem ok_law_rows_drawn (T : Tx K mg) : FnG P w K mg base CX0 3 T.a_law_rows_drawn T.d_law_rows_drawn ["_law_box_here"] (spB 11 (fun ds => ds = []) (fun _ d => ∃ rs, d = encRs rs ∧ Drawn rs ∧ Asc rs)) := by
  have G_law_of := ok_law_of (P := P) (w := w) (base := base) T
  have G_law_take := ok_law_take (P := P) (w := w) (base := base) T
  have G_law_meets := ok_law_meets (P := P) (w := w) (base := base) T
  refine ok_draw T.F_law_rows_drawn sc_law_rows_drawn (fun ds e => by rw [e]; rfl) fun cdv A fs s H E hG hr => ⟨_, (pss_cons (ps_par3 (i := 1) (j := 2) (l := 3) (by rfl) sc_law_rows_drawn.nd rfl rfl rfl (by decide) (by decide) (by decide) rfl rfl rfl (pa_cons (pe_lst (pa_cons pe_str (pa_cons pe_str (pa_cons pe_str (pa_cons pe_str (pa_cons pe_str (pa_cons pe_str (pa_cons pe_str pa_nil)))))))) (pa_cons (pe_lst (pa_cons pe_str (pa_cons pe_str (pa_cons pe_str (pa_cons pe_str (pa_cons pe_str (pa_cons pe_str (pa_cons pe_str pa_nil)))))))) (pa_cons (pe_lst pa_nil) pa_nil))) (by rfl))
        (pss_cons (ps_for PassesOwn.never rfl (pi_range1 (by rfl) T.m_range (pa_cons (pc_call G_law_take hG (hr.mono (by first | decide | omega)) (by rfl) T.g_law_take T.F_law_take.kp T.b_law_take .nil pass0 (pa_cons (pv 0) (pa_cons pe_int pa_nil))) pa_nil)) (pg_name (i := 4) sc_law_rows_drawn.nd rfl (.inl rfl)) (pss_cons (ps_asg (pe_tupP (pa_cons (pc_call G_law_of hG (hr.mono (by first | decide | omega)) (by rfl) T.g_law_of T.F_law_of.kp T.b_law_of .nil pass0 (pa_cons (pv 0) (pa_cons (pv 1) pa_nil))) (pa_cons (pc_call G_law_of hG (hr.mono (by first | decide | omega)) (by rfl) T.g_law_of T.F_law_of.kp T.b_law_of .nil pass0 (pa_cons (pv 0) (pa_cons (pe_op op_cat (pe_lst (pa_cons pe_non pa_nil)) (pv 2)) pa_nil))) pa_nil))) (pg_tup (by rfl) (pgs_cons (pg_name (i := 5) sc_law_rows_drawn.nd rfl (.inl rfl)) (pgs_cons (pg_name (i := 6) sc_law_rows_drawn.nd rfl (.inr rfl)) pgs_nil))))
        (pss_cons (ps_setLc (i := 7) (own := [("_law_row", 8)]) (g := (gName 8)) (by rfl) sc_law_rows_drawn.nd rfl rfl (sw_true rfl rfl rfl (by decide +kernel)) (piK_list (K := K) rfl (pv 3)) (blkOk_by (own := [("_law_row", 8)]) (N := N_law_rows_drawn) (sc := defScope s_law_rows_drawn) (by decide +kernel)) (fun _ _ _ _ _ => (pg_name (i := 8) sc_law_rows_drawn.nd rfl (.inl rfl))) (fun _ _ _ _ _ => (pts_one (pt_cmp (pc_notN (pe_ix (ixK_seq (K := K) rfl) (pv 8) pe_int (fun _ _ => rfl)))))) (fun _ _ _ _ _ => (pe_ix (ixK_seq (K := K) rfl) (pv 8) pe_int (fun _ _ => rfl))))
        (pss_one (ps_if (pt_cmpR (opK_notIn (K := K) rfl) (pv 5) (pe_lc (own := [("_law_row", 8)]) (g := (gName 8)) (by rfl) sc_law_rows_drawn.nd (piK_list (K := K) rfl (pv 3)) (blkOk_by (own := [("_law_row", 8)]) (N := N_law_rows_drawn) (sc := defScope s_law_rows_drawn) (by decide +kernel)) (fun _ _ _ _ _ => (pg_name (i := 8) sc_law_rows_drawn.nd rfl (.inl rfl))) (fun _ _ _ _ _ => pts_nil) (fun _ _ _ _ _ => (pe_ix (ixK_seq (K := K) rfl) (pv 8) pe_int (fun _ _ => rfl)))) (by rfl)) (pss_cons (ps_if (PW.pt (pw_and (pt_cmp (pc_notN (pv 6))) (pw_and1 (pt_val (pe_callB (crK_any (K := K) rfl rfl) (by rfl) T.m_any bt_any (pa_cons (pe_lc (own := [("_law_other", 9)]) (g := (gName 9)) (by rfl) sc_law_rows_drawn.nd (piK_list (K := K) rfl (pv 7)) (blkOk_by (own := [("_law_other", 9)]) (N := N_law_rows_drawn) (sc := defScope s_law_rows_drawn) (by decide +kernel)) (fun _ _ _ _ _ => (pg_name (i := 9) sc_law_rows_drawn.nd rfl (.inl rfl))) (fun _ _ _ _ _ => pts_nil) (fun _ _ _ _ _ => (pc_call G_law_meets hG (hr.mono (by first | decide | omega)) (by rfl) T.g_law_meets T.F_law_meets.kp T.b_law_meets .nil pass0 (pa_cons (pv 6) (pa_cons (pv 9) pa_nil))))) pa_nil)))))) (pss_one (ps_set (i := 6) sc_law_rows_drawn.nd rfl (.inr rfl) pe_non)) pss_nil)
        (pss_one (ps_expr (pe_bm PySem.F.plainAttrs_list PySem.F.slot_list_append PySem.F.type_list_append mt_append (pv 3) (pa_cons (pe_tupP (pa_cons (pv 5) (pa_cons (pv 6) pa_nil))) pa_nil))))) pss_nil)))))
        (pss_one (ps_ret (pe_callTy (callK_tuple (K := K) rfl) (by rfl) T.m_tuple bt_tuple (pa_cons (pe_callB (crK_sortedT (K := K) rfl (u70 hr)) (by rfl) T.m_sorted bt_sorted (pa_cons (pv 3) pa_nil)) pa_nil)))))), fun b c ds hc e => ?_⟩
  subst e
  have hc' : c + 11 ≤ 1000000 := hc
  show Go _ _ [.raw (.ref b), .un, .un, .un, .un, .un, .un, .un, .un, .un] _ _
  refine go_seq (go_par3o (n1 := 0) (n2 := 0) (P1 := Eq (.list (FOLD.map .str))) (P2 := Eq (.list (TARG.map .str))) (Ev.is (by walk_at "ev") rfl) (Ev.is (by walk_at "ev") rfl) (show c + 0 ≤ 1000000 by omega) fun x y ex ey => ?_)
  subst ex; subst ey
  show Go _ _ [.raw (.ref b), .dat (.list (FOLD.map .str)), .dat (.list (TARG.map .str)), .own [], .un, .un, .un, .un, .un, .un] c _
  refine go_seq (go_for (n := 1) (ew_rng1 (P := fun ds => ∃ m : Int, ds = [.int m] ∧ 0 ≤ m ∧ m ≤ 5) (ea_consP (P := fun ds => ∃ m : Int, ds = [.int m] ∧ 0 ≤ m ∧ m ≤ 5) (ev_take (m := 6) rfl ev_int) ea_nil ?_) fun d ⟨m, e, h1, h2⟩ => ⟨m, e, by omega, by omega⟩) (show c + 1 ≤ 1000000 by omega) ?_)
  · rintro x y ⟨i, rfl, h1, h2⟩ rfl
    exact ⟨i, rfl, h1, by omega⟩
  rintro ds ⟨m, ⟨m', e, h1, h2⟩, rfl⟩
  cases e
  refine ⟨fun i Γ' c' => ∃ (rs : List Row) (s4 s5 s6 s7 s8 s9 : Sl), Γ' = [.raw (.ref b), .dat (.list (FOLD.map .str)), .dat (.list (TARG.map .str)), .own (rs.map encR), s4, s5, s6, s7, s8, s9] ∧ Drawn rs ∧ rs.length ≤ i ∧ c' ≤ c + 1 + 2 * i, ⟨[], _, _, _, _, _, _, rfl, ⟨by decide, by simp, by simp, (fun r hr => by cases hr), (fun r hr => by cases hr), .nil⟩, by decide, by omega⟩, ?_, ?_⟩
  · rintro i x Γ' c' hx ⟨rs, s4, s5, s6, s7, s8, s9, rfl, hD, hlen, hc2⟩
    have hi : i < 5 := by
      have := (List.getElem?_eq_some_iff.mp hx).1
      rw [rngD_len] at this; omega
    refine ⟨_, _, eg_name, ?_⟩
    refine go_seq (go_asg (n := 1 + (1 + 0)) (P := fun d => ∃ f o, d = .tuple [.str f, encO o] ∧ f ∈ FOLD ∧ ∀ t, o = some t → t ∈ TARG) (Ev.imp (ev_tup (P1 := fun xs => ∃ f o, xs = [.str f, encO o] ∧ f ∈ FOLD ∧ ∀ t, o = some t → t ∈ TARG) (ea_consP (ev_ofL rfl (ev_var rfl)) (ea_consP (P := fun xs => ∃ o, xs = [encO o] ∧ ∀ t, o = some t → t ∈ TARG) (ev_ofL (xs := .none :: TARG.map .str) rfl (ev_op0 (by walk_at "ev") (ev_var rfl) (rd_cat (xs := [.none]) (ys := TARG.map .str) (by decide)))) ea_nil ?_) ?_) ?_) ?_) (show c' + (1 + (1 + 0)) ≤ 1000000 by omega) ?_)
    · rintro x y hx rfl
      rcases List.mem_cons.mp hx with rfl | hx
      · exact ⟨none, rfl, fun t e => by cases e⟩
      · obtain ⟨z, hz, rfl⟩ := mem_strs hx
        exact ⟨some z, rfl, fun t e => by cases e; exact hz⟩
    · rintro x y hx ⟨o, rfl, ho⟩
      obtain ⟨z, hz, rfl⟩ := mem_strs hx
      exact ⟨z, o, rfl, hz, ho⟩
    · rintro xs ⟨f, o, rfl, _⟩
      exact Nat.le_of_ble_eq_true rfl
    · rintro d ⟨xs, ⟨f, o, rfl, h⟩, rfl⟩
      exact ⟨f, o, rfl, h⟩
    rintro d ⟨f, o, rfl, hf, ho⟩
    refine ⟨_, _, eg_tup (egs_cons eg_name (egs_cons eg_name egs_nil)) rfl, ?_⟩
    show Go _ _ [.raw (.ref b), .dat (.list (FOLD.map .str)), .dat (.list (TARG.map .str)), .own (rs.map encR), .dat x, .dat (.str f), .dat (encO o), s7, s8, s9] (c' + 2) _
    refine gs_setE (d := .list ((rs.filterMap (·.2)).map PyData.str)) (Ev.is (ev_lcT (enc := encR) (as := rs) (is := [8]) (ei_list (el_own rfl)) (Nat.le_trans hD.len (by decide)) (by simp) (fun r => !isN (encO r.2)) (fun r => encO r.2) fun r hr => ⟨_, eg_name, et_B (ev_notN (ev_r1 (ev_var rfl))), fun _ => ev_r1 (ev_var rfl)⟩) (by rw [tgts_eq])) (show c' + 2 ≤ 1000000 by omega) ?_
    show Go _ _ [.raw (.ref b), .dat (.list (FOLD.map .str)), .dat (.list (TARG.map .str)), .own (rs.map encR), .dat x, .dat (.str f), .dat (encO o), .dat (.list ((rs.filterMap (·.2)).map PyData.str)), s8, s9] (c' + 2) _
    refine go_if (n := 0) (et_test (ev_op0 (ev_var rfl) (Ev.is (y := .list ((rs.map (·.1)).map PyData.str)) (ev_lcTM (enc := encR) (as := rs) (is := [8]) (ei_list (el_own rfl)) (Nat.le_trans hD.len (by decide)) (by simp) (fun r => .str r.1) fun r hr => ⟨_, eg_name, ev_r0 (ev_var rfl)⟩) (by rw [List.map_map]; rfl)) (rd_inL (neg := true)))) (show c' + 2 + 0 ≤ 1000000 by omega) (fun h => ?_) fun h => ?_
    · have hnew : ∀ r ∈ rs, r.1 ≠ f := fun r hr e => by
        have h' : (!(rs.map (·.1)).any (· == f)) = true := h
        have : ((rs.map (·.1)).any (· == f)) = true := List.any_eq_true.mpr ⟨r.1, List.mem_map_of_mem hr, by rw [e]; exact beq_self_eq_true _⟩
        rw [this] at h'; cases h'
      refine go_mid (fun Γ' c'' => ∃ o', Γ' = [.raw (.ref b), .dat (.list (FOLD.map .str)), .dat (.list (TARG.map .str)), .own (rs.map encR), .dat x, .dat (.str f), .dat (encO o'), .dat (.list ((rs.filterMap (·.2)).map PyData.str)), s8, s9] ∧ c'' = c' + 2 ∧ (∀ t, o' = some t → t ∈ TARG) ∧ ∀ t, o' = some t → ∀ u ∈ rs.filterMap (·.2), meetsB t u = false) ?_ ?_
      · cases o with
        | none =>
          refine go_if (n := 0) (et_and0 (b := false) (et_B (ev_notN (ev_var rfl))) (fun h => by cases h)) (show c' + 2 + 0 ≤ 1000000 by omega) (fun h => by cases h) fun _ => ?_
          exact go_next ⟨none, rfl, rfl, ho, fun t e => by cases e⟩
        | some t =>
          have htl : t.length ≤ 1000 := Nat.le_trans (targ_ok t (ho t rfl)).2 (by decide)
          refine go_if (n := 0) (et_and0 (et_B (ev_notN (ev_var rfl))) (fun _ => et_B (ev_any (bs := (rs.filterMap (·.2)).map (meetsB t)) (Ev.is (ev_lcTM (enc := PyData.str) (as := rs.filterMap (·.2)) (is := [9]) (ew_listE (ev_var rfl)).i (Nat.le_trans (Nat.le_trans (List.length_filterMap_le _ _) hD.len) (by decide)) (by simp) (fun u => .bool (meetsB t u)) fun u hu => ⟨_, eg_name, ev_meets (ev_var rfl) (ev_var rfl) htl ?_⟩) (by rw [List.map_map]; rfl))))) (show c' + 2 + 0 ≤ 1000000 by omega) (fun h => ?_) fun h => ?_
          · obtain ⟨r, hr, e⟩ := List.mem_filterMap.mp hu
            exact Nat.le_trans (targ_ok u (hD.targ r hr u e)).2 (by decide)
          · refine go_set (n := 0) ev_non (show c' + 2 + 0 ≤ 1000000 by omega) fun d e => ?_
            subst e
            exact ⟨none, rfl, rfl, (fun t e => by cases e), fun t e => by cases e⟩
          · refine go_next ⟨some t, rfl, rfl, ho, fun t' e u hu => ?_⟩
            cases e
            have h' : (((rs.filterMap (·.2)).map (meetsB t)).any id) = false := by simpa [isN, encO] using h
            cases q : meetsB t u with
            | false => rfl
            | true =>
              have : (((rs.filterMap (·.2)).map (meetsB t)).any id) = true := List.any_eq_true.mpr ⟨true, List.mem_map.mpr ⟨u, hu, q⟩, rfl⟩
              rw [this] at h'; cases h'
      · rintro Γ' c'' ⟨o', rfl, rfl, ho', hm⟩
        refine go_app (n := 0) (ds := rs.map encR) (P := Eq (encR (f, o'))) rfl (ev_tupE (ea_cons0 (ev_var rfl) (ea_cons0 (ev_var rfl) ea_nil)) (Nat.le_of_ble_eq_true rfl)) (by rw [List.length_map]; exact Nat.le_trans hD.len (by decide)) (show c' + 2 + 0 ≤ 1000000 by omega) fun d e => ?_
        subst e
        have em : (rs ++ [(f, o')]).map encR = rs.map encR ++ [encR (f, o')] := by rw [List.map_append]; rfl
        refine ⟨rs ++ [(f, o')], _, _, _, _, _, _, by rw [em]; exact rfl, hD.add (by omega) hf ho' hnew hm, ?_, ?_⟩
        · rw [List.length_append]; simp; omega
        · omega
    · exact go_next ⟨rs, _, _, _, _, _, _, rfl, hD, by omega, by omega⟩
  · rintro Γ' c' ⟨rs, s4, s5, s6, s7, s8, s9, rfl, hD, hlen, hc2⟩
    rw [rngD_len] at hc2
    refine go_ret (n := 0) (ev_tupleO (ev_sortT keyT (el_own rfl) ?_) ?_) (show c' + 0 ≤ 1000000 by omega) ?_
    · rintro ds rfl
      refine ⟨fun d hd => ?_, .inr fun d hd => ?_, fun xs ys hx hy => ?_⟩
      · obtain ⟨r, hr, rfl⟩ := List.mem_map.mp hd
        exact (encR_sh (hD.ok.2 r hr)).shaped
      · obtain ⟨r, hr, rfl⟩ := List.mem_map.mp hd
        exact ⟨_, _, rfl⟩
      · obtain ⟨r, hr, e⟩ := List.mem_map.mp hx
        obtain ⟨s, hs, e2⟩ := List.mem_map.mp hy
        cases e; cases e2
        exact ⟨rfl, lt_pair (hD.uniq r hr s hs)⟩
    · rintro es ⟨ds, rfl, pm, _⟩
      rw [pm.length_eq, List.length_map]
      exact Nat.le_trans hD.len (by decide)
    · rintro d ⟨es, ⟨ds, rfl, pm, pw⟩, rfl⟩
      obtain ⟨qs, hq, rfl⟩ := perm_map pm
      exact ⟨by omega, qs, rfl, hD.perm hq, asc_of (hD.perm hq) pw⟩
end
namespace Rw
/-! ### rows or not -/
def sz1 : PyData → Bool
  | .str z => decide (z.length ≤ 1000) && PyData.strOk z
  | _ => true
def sz2 : PyData → Bool
  | .tuple xs => xs.all sz1
  | _ => true
def sz3 : PyData → Bool
  | .tuple xs => decide (xs.length ≤ 1000) && xs.all sz2
  | _ => true
theorem sz1_D {d : PyData} (h : sz1 d = true) : szD d := by
  cases d <;> first | trivial | (simp [sz1] at h; exact h.1)
theorem sz1_ok {z : Str} (h : sz1 (.str z) = true) : z.length ≤ 1000 ∧ PyData.strOk z = true := by simpa [sz1] using h
def folderD : PyData → Bool
  | .str z => (z == "") || (Txt.split z "/").all nameS
  | _ => false
def rowD : PyData → Bool
  | .tuple [a, b] => folderD a && (isN b || folderD b)
  | _ => false
def decR : PyData → Row
  | .tuple [.str a, .str b] => (a, some b)
  | .tuple [.str a, _] => (a, none)
  | _ => ("", none)
theorem decR_enc (r : Row) : decR (encR r) = r := by
  obtain ⟨a, b⟩ := r
  cases b <;> rfl
def apartB (ts : List Str) : Bool := decide (ts.Pairwise fun a b => meetsB a b = false)
def ascB (fs : List Str) : Bool := decide (fs.Pairwise ltS)
def isRowsD : PyData → Bool
  | .tuple ds => ds.all rowD && (ascB ((ds.map decR).map (·.1)) && apartB ((ds.map decR).filterMap (·.2)))
  | _ => false
theorem folderD_str {d : PyData} (h : folderD d = true) : ∃ z, d = .str z := by
  cases d <;> first | exact ⟨_, rfl⟩ | cases h
theorem rowD_enc {d : PyData} (h : rowD d = true) (hs : sz2 d = true) : ∃ r : Row, (r.1.length ≤ 1000 ∧ PyData.strOk r.1 = true ∧ ∀ t, r.2 = some t → t.length ≤ 1000 ∧ PyData.strOk t = true) ∧ d = encR r := by
  unfold rowD at h
  split at h
  · rename_i a b
    rw [Bool.and_eq_true, Bool.or_eq_true] at h
    obtain ⟨z, rfl⟩ := folderD_str h.1
    simp [sz2] at hs
    have hz := sz1_ok hs.1
    rcases h.2 with h2 | h2
    · have : b = .none := by cases b <;> first | rfl | cases h2
      subst this
      exact ⟨(z, none), ⟨hz.1, hz.2, fun t e => by cases e⟩, rfl⟩
    · obtain ⟨y, rfl⟩ := folderD_str h2
      have hy := sz1_ok hs.2
      exact ⟨(z, some y), ⟨hz.1, hz.2, fun t e => by cases e; exact hy⟩, rfl⟩
  · cases h
/-- all rows: which rows -/
theorem rows_of {ds : List PyData} (h : ds.all rowD = true) (hs : ds.all sz2 = true) : ∃ rs : List Row, ds = rs.map encR ∧ ∀ r ∈ rs, r.1.length ≤ 1000 ∧ PyData.strOk r.1 = true ∧ ∀ t, r.2 = some t → t.length ≤ 1000 ∧ PyData.strOk t = true :=
  all_map (S := fun r : Row => r.1.length ≤ 1000 ∧ PyData.strOk r.1 = true ∧ ∀ t, r.2 = some t → t.length ≤ 1000 ∧ PyData.strOk t = true) fun e he => rowD_enc (List.all_eq_true.mp h e he) (List.all_eq_true.mp hs e he)
theorem isRows_enc (rs : List Row) : isRowsD (.tuple (rs.map encR)) = ((rs.map encR).all rowD && (ascB (rs.map (·.1)) && apartB (rs.filterMap (·.2)))) := by
  have e : (rs.map encR).map decR = rs := by
    rw [List.map_map]
    conv => rhs; rw [← List.map_id rs]
    exact List.map_congr_left fun r _ => decR_enc r
  show (_ && (ascB (((rs.map encR).map decR).map (·.1)) && apartB (((rs.map encR).map decR).filterMap (·.2)))) = _
  rw [e]
theorem tgt_ok {rs : List Row} (h : ∀ r ∈ rs, r.1.length ≤ 1000 ∧ PyData.strOk r.1 = true ∧ ∀ t, r.2 = some t → t.length ≤ 1000 ∧ PyData.strOk t = true) : ∀ t ∈ rs.filterMap (·.2), t.length ≤ 1000 := fun t ht => by
  obtain ⟨r, hr, e⟩ := List.mem_filterMap.mp ht
  exact ((h r hr).2.2 t e).1
theorem meets_lb (a b : Str) : ((a == b) || (lbelow a b || lbelow b a)) = meetsB a b := by
  unfold meetsB lbelow
  rw [Bool.eq_iff_iff]
  simp only [Bool.or_eq_true, List.any_cons, List.any_nil, Bool.or_false]
  constructor
  · rintro (h | (h | h) | h | h)
    · exact .inr (.inl h)
    · exact .inl (.inr h)
    · exact .inr (.inr (.inl h))
    · exact .inl (.inl h)
    · exact .inr (.inr (.inr h))
  · rintro ((h | h) | h | h | h)
    · exact .inr (.inr (.inl h))
    · exact .inr (.inl (.inl h))
    · exact .inl h
    · exact .inr (.inl (.inr h))
    · exact .inr (.inr (.inr h))
theorem apart_bad {ts : List Str} {i j : Nat} {x y : Str} (hij : i < j) (hx : ts[i]? = some x) (hy : ts[j]? = some y) (h : meetsB x y = true) : apartB ts = false := by
  refine decide_eq_false fun p => ?_
  obtain ⟨h1, rfl⟩ := List.getElem?_eq_some_iff.mp hx
  obtain ⟨h2, rfl⟩ := List.getElem?_eq_some_iff.mp hy
  have := List.pairwise_iff_getElem.mp p i j h1 h2 hij
  rw [h] at this; cases this
theorem apart_good {ts : List Str} (h : ∀ (i j : Nat) x y, i < j → ts[i]? = some x → ts[j]? = some y → meetsB x y = false) : apartB ts = true :=
  decide_eq_true (List.pairwise_iff_getElem.mpr fun i j h1 h2 hij => h i j _ _ hij (List.getElem?_eq_getElem h1) (List.getElem?_eq_getElem h2))
theorem adj_asc : ∀ fs : List Str, ((fs.zip (fs.drop 1)).map fun q => decide (ltS q.1 q.2)).all id = ascB fs
  | [] => by simp [ascB]
  | [x] => by simp [ascB]
  | x :: y :: r => by
    have ih := adj_asc (y :: r)
    unfold ascB at ih ⊢
    rw [Bool.eq_iff_iff] at ih ⊢
    simp only [List.drop_succ_cons, List.drop_zero, List.zip_cons_cons, List.map_cons, List.all_cons, Bool.and_eq_true, id, decide_eq_true_eq] at ih ⊢
    rw [List.pairwise_cons]
    constructor
    · rintro ⟨h1, h2⟩
      have h3 := ih.mp h2
      refine ⟨fun z hz => ?_, h3⟩
      rcases List.mem_cons.mp hz with e | e
      · rw [e]; exact h1
      · exact ltS_trans h1 ((List.pairwise_cons.mp h3).1 z e)
    · rintro ⟨h1, h2⟩
      exact ⟨h1 y List.mem_cons_self, ih.mpr h2⟩
theorem eqvAll_strs : ∀ xs ys : List Str, PyData.eqvAll (xs.map .str) (ys.map .str) = decide (xs = ys)
  | [], [] => by simp [PyData.eqvAll]
  | [], _ :: _ => by simp [PyData.eqvAll]
  | _ :: _, [] => by simp [PyData.eqvAll]
  | x :: xs, y :: ys => by
    rw [List.map_cons, List.map_cons, PyData.eqvAll, eqvAll_strs xs ys, eqv_str, Bool.eq_iff_iff]
    simp
theorem eqv_lstS {xs ys : List Str} : PyData.eqv (.list (xs.map .str)) (.list (ys.map .str)) = decide (xs = ys) := by rw [PyData.eqv, eqvAll_strs]
theorem shp_strs {xs : List Str} (h : ∀ x ∈ xs, PyData.strOk x = true) : Shp 1 (.list (xs.map .str)) := shp_lst fun d hd => by
  obtain ⟨x, hx, rfl⟩ := mem_strs hd
  exact shp_str (h x hx)
theorem isD_tup {d : PyData} (h : ∀ z, d ≠ .tuple z) : isD "tuple" d = false := by
  cases d <;> first | rfl | exact absurd rfl (h _)
abbrev preZ (f : PyData → Bool) : List PyData → Prop := fun ds => ∃ d, ds = [d] ∧ f d = true
theorem ev_z1 {μ : Mu} {Γ : List Sl} {ta : TA} {E : XK} {f g : PyData → Bool} {x : PyData} (ha : EvA μ ta Γ 0 (Eq [x])) (hx : g x = true) : Ev μ (tCall (spP (preZ g) (post1 f)) [] E ta) Γ 0 (Eq (.bool (f x))) :=
  (ev_callP ha ⟨x, rfl, hx⟩).imp fun d ⟨y, e, e2⟩ => by cases e; exact e2.symm
section
variable {P : Program} {w : World} {K : PySem.W.Frag} {mg : Str → Option Value} {base : Heap}
theorem folder_body {d : PyData} (hd : szD d) {Γ : List Sl} (e : Γ[0]? = some (.dat d)) {te : TE} (h : ∀ z, d = .str z → Ev pureMu te Γ 0 (Eq (.bool (pathD d)))) :
    Ev pureMu (tAndV (tCB (rIsi K) (tCons (tVar 0) (tCons (tC (.ty "str")) tNil))) (tOrV (tOp rEq (tVar 0) (tC (.str "")) ) te)) Γ 0 (Eq (.bool (folderD d))) := by
  by_cases hs : ∃ z, d = .str z
  · obtain ⟨z, rfl⟩ := hs
    refine Ev.is (ev_andV0 (ev_isi0 isi_str (ev_var e)) fun _ => ev_orV0 (ev_op0 (ev_var e) ev_str rd_eqS) fun _ => h z rfl) ?_
    rw [isD_ss]; rfl
  · have hn : isD "str" d = false := isD_str fun z e => hs ⟨z, e⟩
    refine Ev.is (ev_andV0 (b := false) ((ev_isi0 isi_str (ev_var e)).is (by rw [hn])) (fun h => by cases h)) ?_
    cases d <;> first | rfl | exact absurd ⟨_, rfl⟩ hs
theorem ok_is_folder (T : Tx K mg) : FnG P w K mg base CX0 3 T.a_is_folder T.d_is_folder ["value"] (spP (preZ sz1) (post1 folderD)) := by
  have G_is_path := ok_is_path (P := P) (w := w) (base := base) T
  refine ok_pure T.F_is_folder sc_is_folder (fun ds ⟨x, e, _⟩ => by rw [e]; rfl) fun cdv A fs s H E hG hr => ⟨_, (pss_one (ps_ret (pe_and (pe_callB (callK_isi (K := K) rfl) (by rfl) T.m_isinstance bt_isinstance (pa_cons (pv 0) (pa_cons (pe_bltn (v := .ty "str") (by rfl) T.m_str bt_str rfl) pa_nil))) (pe_one (pe_or (pe_cmpR op_eq (pv 0) pe_str (nomark _)) (pe_one (pc_call G_is_path hG (hr.mono (by first | decide | omega)) (by rfl) T.g_is_path T.F_is_path.kp T.b_is_path .nil pass0 (pa_cons (pv 0) pa_nil)))))))), fun ds ⟨d, e, hd⟩ => ?_⟩
  subst e
  show Go _ _ [.dat d] _ _
  refine go_retE (folder_body (sz1_D hd) rfl fun z e => (ev_callP (ea_cons0 (ev_var rfl) ea_nil) ⟨d, rfl, sz1_D hd⟩).imp fun d' ⟨y, e, e2⟩ => by cases e; exact e2.symm) (by decide) ⟨_, rfl, rfl⟩
theorem ok_is_row (T : Tx K mg) : FnG P w K mg base CX0 4 T.a_is_row T.d_is_row ["value"] (spP (preZ sz2) (post1 rowD)) := by
  have G_is_folder := ok_is_folder (P := P) (w := w) (base := base) T
  refine ok_pure T.F_is_row sc_is_row (fun ds ⟨x, e, _⟩ => by rw [e]; rfl) fun cdv A fs s H E hG hr => ⟨_, (pss_cons (ps_if (PW.pt (pw_or (pt_not (pt_val (pe_callB (callK_isi (K := K) rfl) (by rfl) T.m_isinstance bt_isinstance (pa_cons (pv 0) (pa_cons (pe_bltn (v := .ty "tuple") (by rfl) T.m_tuple bt_tuple rfl) pa_nil))))) (pw_or (pt_cmpR op_ne (pe_callB (callK_len (K := K) rfl) (by rfl) T.m_len bt_len (pa_cons (pv 0) pa_nil)) pe_int (nomark _)) (pw_or1 (pt_not (pt_val (pc_call G_is_folder hG (hr.mono (by first | decide | omega)) (by rfl) T.g_is_folder T.F_is_folder.kp T.b_is_folder .nil pass0 (pa_cons (pe_ix (ixK_tup (K := K) rfl) (pv 0) pe_int (fun _ _ => rfl)) pa_nil)))))))) (pss_one (ps_ret pe_bl)) pss_nil)
        (pss_one (ps_ret (pe_or (pe_cmp (pc_isN (pe_ix (ixK_tup (K := K) rfl) (pv 0) pe_int (fun _ _ => rfl)))) (pe_one (pc_call G_is_folder hG (hr.mono (by first | decide | omega)) (by rfl) T.g_is_folder T.F_is_folder.kp T.b_is_folder .nil pass0 (pa_cons (pe_ix (ixK_tup (K := K) rfl) (pv 0) pe_int (fun _ _ => rfl)) pa_nil))))))), fun ds ⟨d, e, hd⟩ => ?_⟩
  subst e
  show Go _ _ [.dat d] _ _
  by_cases ht : ∃ xs, d = .tuple xs
  · obtain ⟨xs, rfl⟩ := ht
    by_cases h2 : ∃ a b, xs = [a, b]
    · obtain ⟨a, b, rfl⟩ := h2
      simp [sz2] at hd
      refine gs_when (n := 0) (et_or0 (et_not (et_B (ev_isi0 isi_tuple (ev_var rfl)))) fun _ => et_or0 (et_test (ev_op0 (ev_lenT (ds := [a, b]) (ev_var rfl)) ev_int rd_neI)) fun _ => et_not (et_B (ev_z1 (x := a) (ea_cons0 (ev_op0 (ev_var rfl) ev_int (rd_ixT (ds := [a, b]) (atI_nat (j := 0) rfl))) ea_nil) hd.1))) (by decide) (fun h => ?_) fun h => ?_
      · refine gs_ret (go_retE ev_bl (by decide) ⟨_, rfl, ?_⟩)
        have : folderD a = false := by
          cases q : folderD a with
          | false => rfl
          | true => rw [q] at h; cases h
        simp [rowD, this]
      · refine go_retE (ev_orV0 (ev_isN (ev_op0 (ev_var rfl) ev_int (rd_ixT (ds := [a, b]) (atI_nat (j := 1) rfl)))) fun _ => ev_z1 (x := b) (ea_cons0 (ev_op0 (ev_var rfl) ev_int (rd_ixT (ds := [a, b]) (atI_nat (j := 1) rfl))) ea_nil) hd.2) (by decide) ⟨_, rfl, ?_⟩
        have : folderD a = true := by
          cases q : folderD a with
          | true => rfl
          | false => rw [q] at h; cases h
        simp [rowD, this]
    · have hl : ¬ xs.length = 2 := fun e => by
        match xs, e with
        | [a, b], _ => exact h2 ⟨a, b, rfl⟩
      refine gs_when (n := 0) (et_or0 (et_not (et_B (ev_isi0 isi_tuple (ev_var rfl)))) fun _ => et_or0 (b := false) (et_test (ev_op0 (ev_lenT (ds := xs) (ev_var rfl)) ev_int rd_neI)) fun h => ?_) (by decide) (fun h => ?_) fun h => ?_
      · exfalso
        have : ((xs.length : Int) == 2) = true := by simpa using h
        rw [beq_iff_eq] at this
        omega
      · refine gs_ret (go_retE ev_bl (by decide) ⟨_, rfl, ?_⟩)
        unfold rowD
        split
        · rename_i a b e; cases e; exact absurd ⟨_, _, rfl⟩ h2
        · rfl
      · exfalso
        have : ¬ ((xs.length : Int) = 2) := by omega
        rw [beq_eq_false_iff_ne.mpr this] at h
        cases h
  · have hn : isD "tuple" d = false := isD_tup fun z e => ht ⟨z, e⟩
    refine gs_when (n := 0) (et_or0 (b := false) ((et_not (et_B (ev_isi0 isi_tuple (ev_var rfl)))).is (by rw [hn])) (fun h => by cases h)) (by decide) (fun h => ?_) (fun h => by cases h)
    refine gs_ret (go_retE ev_bl (by decide) ⟨_, rfl, ?_⟩)
    cases d <;> first | rfl | exact absurd ⟨_, rfl⟩ ht
abbrev preTs : List PyData → Prop := fun ds => ∃ ts : List Str, ds = [.list (ts.map .str)] ∧ ts.length ≤ 1000 ∧ ∀ t ∈ ts, t.length ≤ 1000
theorem strsL_inj {a b : List Str} (h : PyData.list (a.map .str) = PyData.list (b.map .str)) : a = b := map_inj' (fun _ _ e => PyData.str.inj e) (PyData.list.inj h)
theorem ok_are_apart (T : Tx K mg) : FnG P w K mg base CX0 2 T.a_are_apart T.d_are_apart ["targets"] (spP preTs (fun ds e => ∃ ts : List Str, ds = [.list (ts.map .str)] ∧ e = .bool (apartB ts))) := by
  have G_lies_below := ok_lies_below (P := P) (w := w) (base := base) T
  refine ok_pure T.F_are_apart sc_are_apart (fun ds ⟨x, e, _⟩ => by rw [e]; rfl) fun cdv A fs s H E hG hr => ⟨_, (pss_cons (ps_for PassesOwn.never rfl (piK_enum (K := K) rfl (by rfl) T.m_enumerate (pa_cons (pv 0) pa_nil)) (pg_tup (by rfl) (pgs_cons (pg_name (i := 1) sc_are_apart.nd rfl (.inl rfl)) (pgs_cons (pg_name (i := 2) sc_are_apart.nd rfl (.inl rfl)) pgs_nil))) (pss_one (ps_for PassesOwn.never rfl (piK_list (K := K) rfl (pe_slice (slK_list (K := K) rfl) (pv 0) (po_some (pe_op op_add (pv 1) pe_int)) po_none)) (pg_name (i := 3) sc_are_apart.nd rfl (.inl rfl)) (pss_one (ps_if (PW.pt (pw_or (pt_cmpR op_eq (pv 2) (pv 3) (nomark _)) (pw_or (pt_val (pc_call G_lies_below hG (hr.mono (by first | decide | omega)) (by rfl) T.g_lies_below T.F_lies_below.kp T.b_lies_below .nil pass0 (pa_cons (pv 2) (pa_cons (pv 3) pa_nil)))) (pw_or1 (pt_val (pc_call G_lies_below hG (hr.mono (by first | decide | omega)) (by rfl) T.g_lies_below T.F_lies_below.kp T.b_lies_below .nil pass0 (pa_cons (pv 3) (pa_cons (pv 2) pa_nil)))))))) (pss_one (ps_ret pe_bl)) pss_nil)))))
        (pss_one (ps_ret pe_bl))), fun ds ⟨ts, e, hlen, hts⟩ => ?_⟩
  subst e
  show Go _ _ [.dat (.list (ts.map .str)), .un, .un, .un] _ _
  refine go_seq (go_for (n := 0) (ew_enum (ev_var rfl)) (by decide) fun ds e => ?_)
  subst e
  refine ⟨fun k Γ' c' => ∃ (s1 s2 s3 : Sl), Γ' = [.dat (.list (ts.map .str)), s1, s2, s3] ∧ c' = 0 ∧ ∀ (i j : Nat) x y, i < k → i < j → ts[i]? = some x → ts[j]? = some y → meetsB x y = false, ⟨_, _, _, rfl, rfl, fun i j x y h => by omega⟩, ?_, ?_⟩
  · rintro k d Γ' c' hkx ⟨s1, s2, s3, rfl, rfl, hno⟩
    have hk : k < ts.length := by
      have := (List.getElem?_eq_some_iff.mp hkx).1
      rw [enumD_len, List.length_map] at this; exact this
    obtain ⟨x, hx⟩ : ∃ x, ts[k]? = some x := ⟨_, List.getElem?_eq_getElem hk⟩
    have hx' := enumD_get (ds := ts.map PyData.str) (i := k) (d := .str x) (by rw [List.getElem?_map, hx]; rfl)
    rw [hx'] at hkx
    have hkx := Option.some.inj hkx
    subst hkx
    have hxl := hts x (List.mem_of_getElem? hx)
    refine ⟨_, _, eg_tup (egs_cons eg_name (egs_cons eg_name egs_nil)) rfl, ?_⟩
    show Go _ _ [.dat (.list (ts.map .str)), .dat (.int (k : Int)), .dat (.str x), s3] _ _
    refine go_forP (n := 0) (enc := PyData.str) (ts.drop (k + 1)) (fun pre Γ' c' => ∃ (s3 : Sl), Γ' = [.dat (.list (ts.map .str)), .dat (.int (k : Int)), .dat (.str x), s3] ∧ c' = 0 ∧ ∀ y ∈ pre, meetsB x y = false) (ew_listE (Ev.is (ev_slL (ds := ts.map PyData.str) (el_datE (ev_var rfl)) (eo_some (j := ((k + 1 : Nat) : Int)) (Ev.is (ev_add0 (ev_var rfl) ev_int) (by rw [Int.natCast_add]; rfl))) eo_none) (by rw [cutD_from, List.map_drop]))) (by decide) ⟨_, rfl, rfl, by simp⟩ ?_ ?_
    · rintro pre y post Γ' c' hsp ⟨s3, rfl, rfl, hpre⟩
      have hy : y ∈ ts := List.mem_of_mem_drop (by rw [hsp]; simp)
      have hyl := hts y hy
      refine ⟨_, _, eg_name, ?_⟩
      refine go_if (n := 0) (EvT.is (et_or0 (et_test (ev_op0 (ev_var rfl) (ev_var rfl) rd_eqS)) fun _ => et_or0 (et_B (ev_lb (ev_var rfl) (ev_var rfl) hxl hyl)) fun _ => et_B (ev_lb (ev_var rfl) (ev_var rfl) hyl hxl)) (meets_lb x y)) (by decide) (fun h => ?_) fun h => ?_
      · refine go_retE ev_bl (by decide) ⟨ts, rfl, ?_⟩
        have hd : (ts.drop (k + 1))[pre.length]? = some y := by rw [hsp, List.getElem?_append_right (Nat.le_refl _)]; simp
        rw [List.getElem?_drop] at hd
        rw [apart_bad (show k < k + 1 + pre.length by omega) hx hd h]
      · refine go_next ⟨_, rfl, rfl, fun z hz => ?_⟩
        rcases List.mem_append.mp hz with q | q
        · exact hpre z q
        · rw [List.mem_singleton.mp q]; exact h
    · rintro Γ' c' ⟨s3, rfl, rfl, hpre⟩
      refine ⟨_, _, _, rfl, rfl, fun i j u v h1 h2 h3 h4 => ?_⟩
      by_cases e : i = k
      · subst e
        rw [hx] at h3
        cases h3
        refine hpre v (List.mem_of_getElem? (i := j - (i + 1)) ?_)
        rw [List.getElem?_drop, show i + 1 + (j - (i + 1)) = j by omega]; exact h4
      · exact hno i j u v (by omega) h2 h3 h4
  · rintro Γ' c' ⟨s1, s2, s3, rfl, rfl, hno⟩
    refine go_retE ev_bl (by decide) ⟨ts, rfl, ?_⟩
    rw [enumD_len, List.length_map] at hno
    rw [apart_good fun i j x y h h1 h2 => hno i j x y (List.getElem?_eq_some_iff.mp h1).1 h h1 h2]
theorem ev_apart {μ : Mu} {Γ : List Sl} {te : TE} {E : XK} {ts : List Str} (h : Ev μ te Γ 0 (Eq (.list (ts.map .str)))) (hl : ts.length ≤ 1000) (ht : ∀ t ∈ ts, t.length ≤ 1000) : Ev μ (tCall (spP preTs (fun ds e => ∃ ts : List Str, ds = [.list (ts.map .str)] ∧ e = .bool (apartB ts))) [] E (tCons te tNil)) Γ 0 (Eq (.bool (apartB ts))) :=
  (ev_callP (ea_cons0 h ea_nil) ⟨ts, rfl, hl, ht⟩).imp fun d ⟨y, e, e2⟩ => by
    simp only [List.cons.injEq, and_true] at e
    rw [e2, strsL_inj e]
theorem rows_false {ds : List PyData} (h : ds.all rowD = false) : isRowsD (.tuple ds) = false := by show (ds.all rowD && _) = false; rw [h]; rfl
theorem ok_is_rows (T : Tx K mg) : FnG P w K mg base CX0 5 T.a_is_rows T.d_is_rows ["value"] (spP (preZ sz3) (post1 isRowsD)) := by
  have G_is_row := ok_is_row (P := P) (w := w) (base := base) T
  have G_are_apart := ok_are_apart (P := P) (w := w) (base := base) T
  refine ok_pure T.F_is_rows sc_is_rows (fun ds ⟨x, e, _⟩ => by rw [e]; rfl) fun cdv A fs s H E hG hr => ⟨_, (pss_cons (ps_if (PW.pt (pw_or (pt_not (pt_val (pe_callB (callK_isi (K := K) rfl) (by rfl) T.m_isinstance bt_isinstance (pa_cons (pv 0) (pa_cons (pe_bltn (v := .ty "tuple") (by rfl) T.m_tuple bt_tuple rfl) pa_nil))))) (pw_or1 (pt_not (pt_val (pe_callB (crK_all (K := K) rfl rfl) (by rfl) T.m_all bt_all (pa_cons (pe_lc (own := [("row", 1)]) (g := (gName 1)) (by rfl) sc_is_rows.nd (piK_tup (K := K) rfl (pv 0)) (blkOk_by (own := [("row", 1)]) (N := N_is_rows) (sc := defScope s_is_rows) (by decide +kernel)) (fun _ _ _ _ _ => (pg_name (i := 1) sc_is_rows.nd rfl (.inl rfl))) (fun _ _ _ _ _ => pts_nil) (fun _ _ _ _ _ => (pc_call G_is_row hG (hr.mono (by first | decide | omega)) (by rfl) T.g_is_row T.F_is_row.kp T.b_is_row .nil pass0 (pa_cons (pv 1) pa_nil)))) pa_nil))))))) (pss_one (ps_ret pe_bl)) pss_nil)
        (pss_cons (ps_setLc (i := 2) (own := [("folder", 3), ("target", 4)]) (g := (gTup K 2 (gCons (gName 3) (gCons (gName 4) gNil)))) (by rfl) sc_is_rows.nd rfl rfl (sw_true rfl rfl rfl (by decide +kernel)) (piK_tup (K := K) rfl (pv 0)) (blkOk_by (own := [("folder", 3), ("target", 4)]) (N := N_is_rows) (sc := defScope s_is_rows) (by decide +kernel)) (fun _ _ _ _ _ => (pg_tup (by rfl) (pgs_cons (pg_name (i := 3) sc_is_rows.nd rfl (.inl rfl)) (pgs_cons (pg_name (i := 4) sc_is_rows.nd rfl (.inl rfl)) pgs_nil)))) (fun _ _ _ _ _ => pts_nil) (fun _ _ _ _ _ => (pv 3)))
        (pss_cons (ps_if (pt_not (pt_val (pe_callB (crK_all (K := K) rfl rfl) (by rfl) T.m_all bt_all (pa_cons (pe_lc (own := [("one", 5), ("other", 6)]) (g := (gTup K 2 (gCons (gName 5) (gCons (gName 6) gNil)))) (by rfl) sc_is_rows.nd (piK_zipA (K := K) rfl (by rfl) T.m_zip (pa_cons (pv 2) (pa_cons (pe_slice (slK_list (K := K) rfl) (pv 2) (po_some pe_int) po_none) pa_nil))) (blkOk_by (own := [("one", 5), ("other", 6)]) (N := N_is_rows) (sc := defScope s_is_rows) (by decide +kernel)) (fun _ _ _ _ _ => (pg_tup (by rfl) (pgs_cons (pg_name (i := 5) sc_is_rows.nd rfl (.inl rfl)) (pgs_cons (pg_name (i := 6) sc_is_rows.nd rfl (.inl rfl)) pgs_nil)))) (fun _ _ _ _ _ => pts_nil) (fun _ _ _ _ _ => (pe_cmpR op_lt_str (pv 5) (pv 6) (nomark _)))) pa_nil)))) (pss_one (ps_ret pe_bl)) pss_nil)
        (pss_one (ps_ret (pc_call G_are_apart hG (hr.mono (by first | decide | omega)) (by rfl) T.g_are_apart T.F_are_apart.kp T.b_are_apart .nil pass0 (pa_cons (pe_lc (own := [("folder", 3), ("target", 4)]) (g := (gTup K 2 (gCons (gName 3) (gCons (gName 4) gNil)))) (by rfl) sc_is_rows.nd (piK_tup (K := K) rfl (pv 0)) (blkOk_by (own := [("folder", 3), ("target", 4)]) (N := N_is_rows) (sc := defScope s_is_rows) (by decide +kernel)) (fun _ _ _ _ _ => (pg_tup (by rfl) (pgs_cons (pg_name (i := 3) sc_is_rows.nd rfl (.inl rfl)) (pgs_cons (pg_name (i := 4) sc_is_rows.nd rfl (.inl rfl)) pgs_nil)))) (fun _ _ _ _ _ => (pts_one (pt_cmp (pc_notN (pv 4))))) (fun _ _ _ _ _ => (pv 4))) pa_nil))))))), fun ds ⟨d, e, hd⟩ => ?_⟩
  subst e
  show Go _ _ [.dat d, .un, .un, .un, .un, .un, .un] _ _
  by_cases ht : ∃ xs, d = .tuple xs
  · obtain ⟨xs, rfl⟩ := ht
    simp only [sz3, Bool.and_eq_true, decide_eq_true_eq] at hd
    obtain ⟨hl, hz⟩ := hd
    refine gs_when (n := 0) (et_or0 (et_not (et_B (ev_isi0 isi_tuple (ev_var rfl)))) fun _ => et_not (et_B (ev_all (bs := xs.map rowD) (Ev.is (ev_lcM (ds := xs) (is := [1]) (ew_tupE (ev_var rfl)).i (by omega) (by simp) (fun d => .bool (rowD d)) fun d hd => ⟨_, eg_name, ev_z1 (ea_cons0 (ev_var rfl) ea_nil) (List.all_eq_true.mp hz d hd)⟩) (by rw [List.map_map]; rfl))))) (by decide) (fun h => ?_) fun h => ?_
    · refine gs_ret (go_retE ev_bl (by decide) ⟨_, rfl, ?_⟩)
      rw [rows_false]
      cases q : xs.all rowD with
      | false => rfl
      | true => rw [List.all_map, show (id ∘ rowD) = rowD from rfl, q] at h; cases h
    have hall : xs.all rowD = true := by
      cases q : xs.all rowD with
      | true => rfl
      | false => rw [List.all_map, show (id ∘ rowD) = rowD from rfl, q] at h; cases h
    obtain ⟨rs, rfl, hrs⟩ := rows_of hall hz
    have hrl : rs.length ≤ 1000 := by rw [List.length_map] at hl; exact hl
    refine gs_setE (d := .list ((rs.map (·.1)).map .str)) (Ev.is (ev_lcTM (enc := encR) (as := rs) (ew_tupE (ev_var rfl)).i (by omega) (by simp) (fun r => .str r.1) fun r hr => ⟨_, eg_tup (egs_cons eg_name (egs_cons eg_name egs_nil)) rfl, ev_var rfl⟩) (by rw [List.map_map]; rfl)) (by decide) ?_
    show Go _ _ [.dat (.tuple (rs.map encR)), .un, .dat (.list ((rs.map (·.1)).map .str)), .un, .un, .un, .un] _ _
    generalize hfs : rs.map (·.1) = fs
    have hfl : fs.length ≤ 1000 := by rw [← hfs, List.length_map]; exact hrl
    refine gs_when (n := 0) (et_not (EvT.is (et_B (ev_all (bs := (fs.zip (fs.drop 1)).map fun q => decide (ltS q.1 q.2)) (Ev.is (ev_lcTM (enc := fun q : Str × Str => .tuple [.str q.1, .str q.2]) (as := fs.zip (fs.drop 1)) (EvW.imp (ew_zipL (xs := fs.map .str) (ys := (fs.drop 1).map .str) (ea_cons0 (ev_var rfl) (ea_cons0 (Ev.is (ev_slL (ds := fs.map .str) (el_datE (ev_var rfl)) (eo_some (j := ((1 : Nat) : Int)) ev_int) eo_none) (by rw [cutD_from, List.map_drop])) ea_nil)) fun d hd => by obtain ⟨x, _, rfl⟩ := mem_strs hd; rfl) (fun d e => by rw [← e]; unfold zipD; rw [List.zip_map, List.map_map]; rfl)).i (by rw [List.length_zip]; omega) (by simp) (fun q => .bool (decide (ltS q.1 q.2))) fun q hq => ⟨_, eg_tup (egs_cons eg_name (egs_cons eg_name egs_nil)) rfl, ev_op0 (ev_var rfl) (ev_var rfl) rd_ltS⟩) (by rw [List.map_map]; rfl)))) (adj_asc fs))) (by decide) (fun h => ?_) fun h => ?_
    · refine gs_ret (go_retE ev_bl (by decide) ⟨_, rfl, ?_⟩)
      have : ascB fs = false := by
        cases q : ascB fs with
        | false => rfl
        | true => rw [q] at h; cases h
      rw [isRows_enc, hfs, this]
      simp
    · have : ascB fs = true := by
        cases q : ascB fs with
        | true => rfl
        | false => rw [q] at h; cases h
      refine go_retE (ev_apart (ts := rs.filterMap (·.2)) (Ev.is (ev_lcT (enc := encR) (as := rs) (ew_tupE (ev_var rfl)).i (by omega) (by simp) (fun r => !isN (encO r.2)) (fun r => encO r.2) fun r hr => ⟨_, eg_tup (egs_cons eg_name (egs_cons eg_name egs_nil)) rfl, et_B (ev_notN (ev_var rfl)), fun _ => ev_var rfl⟩) (by rw [tgts_eq])) (Nat.le_trans (List.length_filterMap_le _ _) hrl) (tgt_ok hrs)) (by decide) ⟨_, rfl, ?_⟩
      rw [isRows_enc, hfs, this, hall]
      simp
  · have hn : isD "tuple" d = false := isD_tup fun z e => ht ⟨z, e⟩
    refine gs_when (n := 0) (et_or0 (b := false) ((et_not (et_B (ev_isi0 isi_tuple (ev_var rfl)))).is (by rw [hn])) (fun h => by cases h)) (by decide) (fun h => ?_) (fun h => by cases h)
    refine gs_ret (go_retE ev_bl (by decide) ⟨_, rfl, ?_⟩)
    cases d <;> first | rfl | exact absurd ⟨_, rfl⟩ ht
end
end Rw
/-! ### the way back -/
def tfits (path : Str) (t : Str) : Bool := (t == path) || lbelow path t
def candS (path : Str) (f t : Str) : Option Str := if (t == path) = true then (if (f == "") = true then none else some f) else some (joinedS f (restS path t))
def candOf (path : Str) : List Row → Option Str
  | [] => none
  | (f, some t) :: r => if tfits path t = true then candS path f t else candOf path r
  | (_, none) :: r => candOf path r
def wayS (rs : List Row) (path : Str) : Option Str := match candOf path rs with
  | none => none
  | some c => if (placeS rs c == some path) = true then some c else none
theorem candOf_skip {path : Str} : ∀ {pre post : List Row}, (∀ r ∈ pre, ∀ t, r.2 = some t → tfits path t = false) → candOf path (pre ++ post) = candOf path post
  | [], _, _ => rfl
  | (f, none) :: pre, post, h => by
    show candOf path (pre ++ post) = _
    exact candOf_skip fun r hr => h r (List.mem_cons_of_mem _ hr)
  | (f, some t) :: pre, post, h => by
    show (if tfits path t = true then candS path f t else candOf path (pre ++ post)) = _
    rw [h _ List.mem_cons_self t rfl]
    exact candOf_skip fun r hr => h r (List.mem_cons_of_mem _ hr)
theorem candOf_ok {p z : Str} : ∀ {rs : List Row}, (∀ r ∈ rs, okR r) → okS p → candOf p rs = some z → okP z
  | [], _, _, h => by cases h
  | (f, none) :: rs, hrs, hp, h => candOf_ok (rs := rs) (fun r hr => hrs r (List.mem_cons_of_mem _ hr)) hp h
  | (f, some t) :: rs, hrs, hp, h => by
    have hok := hrs _ List.mem_cons_self
    have h' : (if tfits p t = true then candS p f t else candOf p rs) = some z := h
    split at h'
    · unfold candS at h'
      split at h'
      · split at h'
        · cases h'
        · cases h'; exact ⟨hok.1.1, Nat.le_trans hok.1.2 (by decide)⟩
      · cases h'
        have := joinedS_ok hok.1 (restS_ok (f := t) hp)
        exact ⟨this.1, Nat.le_trans this.2 (by decide)⟩
    · exact candOf_ok (rs := rs) (fun r hr => hrs r (List.mem_cons_of_mem _ hr)) hp h'
/-! ### the law's way back -/
def restO (p t : Str) : Option Str := if (t == "") = true then some p else if Txt.startswith p (t ++ "/") = true then some (cutS p (some ((t.length : Int) + 1)) none) else none
def lcands (p f t : Str) : List Str := (match restO p t with | none => [] | some r => [joinedS f r]) ++ (if ((p == t) && !(f == "")) = true then [f] else [])
theorem no_self (p : Str) : Txt.startswith p (p ++ "/") = false := by
  rw [starts_false, TL.tl_append, tl_slash]
  intro h
  have := h.length_le
  simp at this
  omega
theorem lcands_iff {p f t c : Str} (hp : p ≠ "") : c ∈ lcands p f t ↔ tfits p t = true ∧ candS p f t = some c := by
  unfold lcands restO tfits lbelow candS
  by_cases ht : t = ""
  · subst ht
    have h1 : ((Str.ofString "" : Str) == p) = false := by
      cases q : ((Str.ofString "" : Str) == p) with
      | false => rfl
      | true => exact absurd (beq_iff_eq.mp q).symm hp
    have h2 : (p == (Str.ofString "" : Str)) = false := by
      cases q : (p == (Str.ofString "" : Str)) with
      | false => rfl
      | true => exact absurd (beq_iff_eq.mp q) hp
    have h3 : restS p "" = p := by unfold restS; rw [if_pos (by decide +kernel)]
    rw [if_pos (by decide +kernel), h1, h2, h3]
    simp
    exact eq_comm
  · have h0 : (t == (Str.ofString "" : Str)) = false := by
      cases q : (t == (Str.ofString "" : Str)) with
      | false => rfl
      | true => exact absurd (beq_iff_eq.mp q) ht
    rw [h0]
    simp only [Bool.false_eq_true, if_false, Bool.false_or]
    by_cases hpt : p = t
    · subst hpt
      rw [no_self, beq_self_eq_true]
      simp only [Bool.false_eq_true, if_false, if_true, Bool.true_and, Bool.true_or, List.nil_append, true_and]
      cases (f == (Str.ofString "" : Str))
      · simp [eq_comm]
      · simp
    · have h1 : (p == t) = false := by
        cases q : (p == t) with
        | false => rfl
        | true => exact absurd (beq_iff_eq.mp q) hpt
      have h2 : (t == p) = false := by
        cases q : (t == p) with
        | false => rfl
        | true => exact absurd (beq_iff_eq.mp q).symm hpt
      have h3 : restS p t = cutS p (some ((t.length : Int) + 1)) none := by unfold restS; rw [h0]; rfl
      rw [h1, h2, h3]
      cases Txt.startswith p (t ++ "/")
      · simp
      · simp [eq_comm]
theorem lcands_ok {p f t c : Str} (hp : okS p) (hf : okS f) (h : c ∈ lcands p f t) : okP c := by
  unfold lcands at h
  rcases List.mem_append.mp h with h | h
  · unfold restO at h
    have key : ∀ r, PyData.strOk r = true ∧ r.length ≤ 100 → okP (joinedS f r) := fun r hr => by
      have := joinedS_ok hf hr
      exact ⟨this.1, Nat.le_trans this.2 (by decide)⟩
    split at h
    · cases h
    · rename_i r hr
      rw [List.mem_singleton.mp h]
      apply key
      split at hr
      · cases hr; exact hp
      · split at hr
        · cases hr; exact ⟨strOk_cut hp.1 _ _, Nat.le_trans cut_len hp.2⟩
        · cases hr
  · split at h
    · rw [List.mem_singleton.mp h]; exact okP_of hf
    · cases h
theorem tfits_meets {p t u : Str} (ht : tfits p t = true) (hu : tfits p u = true) : meetsB t u = true := by
  unfold tfits lbelow at ht hu
  unfold meetsB
  simp only [Bool.or_eq_true, beq_iff_eq, List.any_cons, List.any_nil, Bool.or_false] at ht hu ⊢
  rcases ht with ht | ht | ht
  · rcases hu with hu | hu | hu
    · exact .inr (.inl (ht.trans hu.symm))
    · exact .inl (.inr hu)
    · subst ht; exact .inr (.inr (.inl hu))
  · exact .inl (.inl ht)
  · rcases hu with hu | hu | hu
    · subst hu; exact .inr (.inr (.inr ht))
    · exact .inl (.inr hu)
    · rw [starts_iff, TL.tl_append, tl_slash] at ht hu
      by_cases e : (TL.tl t).length = (TL.tl u).length
      · refine .inr (.inl (TL.ext_tl ?_))
        have h1 := List.prefix_iff_eq_take.mp ((List.prefix_append _ _).trans ht)
        have h2 := List.prefix_iff_eq_take.mp ((List.prefix_append _ _).trans hu)
        rw [h1, h2, e]
      · by_cases l : (TL.tl t).length < (TL.tl u).length
        · refine .inr (.inr (.inr ?_))
          rw [starts_iff, TL.tl_append, tl_slash]
          exact List.prefix_of_prefix_length_le ht ((List.prefix_append _ _).trans hu) (by rw [List.length_append]; exact l)
        · refine .inr (.inr (.inl ?_))
          rw [starts_iff, TL.tl_append, tl_slash]
          exact List.prefix_of_prefix_length_le hu ((List.prefix_append _ _).trans ht) (by rw [List.length_append]; show (TL.tl u).length + 1 ≤ _; omega)
theorem tfits_one {rs : List Row} {p t u : Str} {r s : Row} (hu : Uniq rs) (ha : Apart rs) (hr : r ∈ rs) (hs : s ∈ rs) (er : r.2 = some t) (es : s.2 = some u) (ft : tfits p t = true) (fu : tfits p u = true) : r = s := by
  by_cases e : r.1 = s.1
  · exact hu r hr s hs e
  · have := ha r hr s hs e t u er es
    rw [tfits_meets ft fu] at this
    cases this
theorem candOf_cases (p : Str) : ∀ rs : List Row, ((∀ r ∈ rs, ∀ t, r.2 = some t → tfits p t = false) ∧ candOf p rs = none) ∨ ∃ r ∈ rs, ∃ t, r.2 = some t ∧ tfits p t = true ∧ candOf p rs = candS p r.1 t
  | [] => .inl ⟨by simp, rfl⟩
  | (f, none) :: rs => by
    rcases candOf_cases p rs with ⟨h1, h2⟩ | ⟨r, hr, t, h1, h2, h3⟩
    · refine .inl ⟨fun r hr t e => ?_, h2⟩
      rcases List.mem_cons.mp hr with z | z
      · rw [z] at e; cases e
      · exact h1 r z t e
    · exact .inr ⟨r, List.mem_cons_of_mem _ hr, t, h1, h2, h3⟩
  | (f, some t) :: rs => by
    cases q : tfits p t with
    | true => exact .inr ⟨_, List.mem_cons_self, t, rfl, q, by show (if tfits p t = true then _ else _) = _; rw [if_pos q]⟩
    | false =>
      have e0 : candOf p ((f, some t) :: rs) = candOf p rs := by show (if tfits p t = true then _ else _) = _; rw [q]; rfl
      rw [e0]
      rcases candOf_cases p rs with ⟨h1, h2⟩ | ⟨r, hr, t', h1, h2, h3⟩
      · refine .inl ⟨fun r hr t' e => ?_, h2⟩
        rcases List.mem_cons.mp hr with z | z
        · rw [z] at e; cases e; exact q
        · exact h1 r z t' e
      · exact .inr ⟨r, List.mem_cons_of_mem _ hr, t', h1, h2, h3⟩
theorem way_yes {rs : List Row} {p c t : Str} {r : Row} (hu : Uniq rs) (ha : Apart rs) (hp : p ≠ "") (hr : r ∈ rs) (er : r.2 = some t) (hc : c ∈ lcands p r.1 t) (hpl : placeS rs c = some p) : wayS rs p = some c := by
  obtain ⟨h1, h2⟩ := (lcands_iff hp).mp hc
  have hcand : candOf p rs = some c := by
    rcases candOf_cases p rs with ⟨h3, _⟩ | ⟨s, hs, u, h3, h4, h5⟩
    · rw [h3 r hr t er] at h1; cases h1
    · have := tfits_one hu ha hr hs er h3 h1 h4
      subst this
      rw [er] at h3
      cases h3
      rw [h5, h2]
  unfold wayS
  rw [hcand]
  dsimp only
  rw [hpl, if_pos (beq_self_eq_true _)]
theorem way_no {rs : List Row} {p : Str} (hp : p ≠ "") (h : ∀ r ∈ rs, ∀ t, r.2 = some t → ∀ c ∈ lcands p r.1 t, placeS rs c ≠ some p) : wayS rs p = none := by
  unfold wayS
  rcases candOf_cases p rs with ⟨_, h3⟩ | ⟨s, hs, u, h3, h4, h5⟩
  · rw [h3]
  · rw [h5]
    cases hc : candS p s.1 u with
    | none => rfl
    | some c =>
      dsimp only
      have := h s hs u h3 c ((lcands_iff hp).mpr ⟨h4, hc⟩)
      rw [if_neg]
      simpa using this
theorem wayS_ok {rs : List Row} {p z : Str} (hrs : okRs rs) (hp : okS p) (h : wayS rs p = some z) : okP z := by
  unfold wayS at h
  cases hc : candOf p rs with
  | none => rw [hc] at h; cases h
  | some c =>
    rw [hc] at h
    dsimp only at h
    split at h
    · cases h; exact candOf_ok hrs.2 hp hc
    · cases h
theorem rp_O {o : Option Str} {n : Nat} (h : ∀ z, o = some z → PyData.strOk z = true ∧ z.length ≤ n) : Rp 0 (10 * n + 4) (encO o) := by
  cases o with
  | none => exact rp_none.mono (Nat.le_refl _) (by omega)
  | some z => exact (rp_str (h z rfl).1 (h z rfl).2).mono (Nat.le_refl _) (by omega)
section
variable {P : Program} {w : World} {K : PySem.W.Frag} {mg : Str → Option Value} {base : Heap}
theorem ok_candidate_of (T : Tx K mg) : FnG P w K mg base CX0 2 T.a_candidate_of T.d_candidate_of ["rows", "path"] (spP preRP (postRP fun rs p => encO (candOf p rs))) := by
  have G_lies_below := ok_lies_below (P := P) (w := w) (base := base) T
  have G_joined := ok_joined (P := P) (w := w) (base := base) T
  have G_rest_of := ok_rest_of (P := P) (w := w) (base := base) T
  refine ok_pure T.F_candidate_of sc_candidate_of (fun ds ⟨rs, p, e, _⟩ => by rw [e]; rfl) fun cdv A fs s H E hG hr => ⟨_, (pss_cons (ps_for PassesOwn.never rfl (piK_tup (K := K) rfl (pv 0)) (pg_tup (by rfl) (pgs_cons (pg_name (i := 2) sc_candidate_of.nd rfl (.inl rfl)) (pgs_cons (pg_name (i := 3) sc_candidate_of.nd rfl (.inl rfl)) pgs_nil))) (pss_cons (ps_if (PW.pt (pw_and (pt_cmp (pc_notN (pv 3))) (pw_and1 (pt_cmpR (opK_eqD (K := K) rfl hr.units) (pv 3) (pv 1) (nomark _))))) (pss_one (ps_ret (pe_ifExp (pt_cmpR (opK_eqD (K := K) rfl hr.units) (pv 2) pe_str (nomark _)) pe_non (pv 2)))) pss_nil)
        (pss_one (ps_if (PW.pt (pw_and (pt_cmp (pc_notN (pv 3))) (pw_and1 (pt_val (pc_call G_lies_below hG (hr.mono (by first | decide | omega)) (by rfl) T.g_lies_below T.F_lies_below.kp T.b_lies_below .nil pass0 (pa_cons (pv 1) (pa_cons (pv 3) pa_nil))))))) (pss_one (ps_ret (pc_call G_joined hG (hr.mono (by first | decide | omega)) (by rfl) T.g_joined T.F_joined.kp T.b_joined .nil pass0 (pa_cons (pv 2) (pa_cons (pc_call G_rest_of hG (hr.mono (by first | decide | omega)) (by rfl) T.g_rest_of T.F_rest_of.kp T.b_rest_of .nil pass0 (pa_cons (pv 1) (pa_cons (pv 3) pa_nil))) pa_nil))))) pss_nil))))
        (pss_one (ps_ret pe_non))), fun ds ⟨rs, p, e, hrs, hp⟩ => ?_⟩
  subst e
  show Go _ _ [.dat (encRs rs), .dat (.str p), .un, .un] _ _
  refine go_seq (go_forP (n := 0) (enc := encR) rs (fun pre Γ' c' => ∃ s2 s3, Γ' = [.dat (encRs rs), .dat (.str p), s2, s3] ∧ c' = 0 ∧ ∀ r ∈ pre, ∀ t, r.2 = some t → tfits p t = false) (ew_tupE (ev_var rfl)) (by decide) ⟨_, _, rfl, rfl, by simp⟩ ?_ ?_)
  · rintro pre ⟨f, t⟩ post Γ' c' hsp ⟨s2, s3, rfl, rfl, hno⟩
    have hin : (f, t) ∈ rs := by rw [hsp]; simp
    have hf1 : okS f := (hrs.2 _ hin).1
    have hcand : candOf p rs = candOf p ((f, t) :: post) := by rw [hsp]; exact candOf_skip hno
    refine ⟨_, _, eg_tup (egs_cons eg_name (egs_cons eg_name egs_nil)) rfl, ?_⟩
    show Go _ _ [.dat (encRs rs), .dat (.str p), .dat (.str f), .dat (encO t)] _ _
    cases t with
    | none =>
      refine gs_when (et_and0 (b := false) (et_B (ev_notN (ev_var rfl))) (fun h => by cases h)) (by decide) (fun h => by cases h) fun h => ?_
      refine go_if (et_and0 (b := false) (et_B (ev_notN (ev_var rfl))) (fun h => by cases h)) (by decide) (fun h => by cases h) fun h => ?_
      refine go_next ⟨_, _, rfl, rfl, fun r hr t ht => ?_⟩
      rcases List.mem_append.mp hr with h1 | h1
      · exact hno r h1 t ht
      · rw [List.mem_singleton.mp h1] at ht; cases ht
    | some t =>
      have ht : okS t := (hrs.2 _ hin).2
      refine gs_when (et_and0 (et_B (ev_notN (ev_var rfl))) (fun _ => et_test (ev_eqD0 (x := .str t) (ev_var rfl) (ev_var rfl) (shS ht) (shP hp)))) (by decide) (fun h => ?_) fun h => ?_
      · have h1 : (t == p) = true := by rw [eqv_str] at h; simpa [isN, encO] using h
        refine gs_ret (go_retE (ev_if0 (et_test (ev_eqD0 (ev_var rfl) ev_str (shS hf1) (by decide +kernel))) (fun _ => ev_non) (fun _ => ev_var rfl)) (by decide) ⟨rs, p, rfl, ?_⟩)
        dsimp only
        rw [hcand]
        show _ = encO (if tfits p t = true then candS p f t else candOf p post)
        have h2 : tfits p t = true := by unfold tfits; rw [h1]; rfl
        rw [if_pos h2, eqv_str]
        unfold candS
        rw [if_pos h1]
        split <;> rfl
      · have h1 : (t == p) = false := by rw [eqv_str] at h; simpa [isN, encO] using h
        refine go_if (et_and0 (et_B (ev_notN (ev_var rfl))) (fun _ => et_B (ev_lb (p := p) (f := t) (ev_var rfl) (ev_var rfl) (by have := hp.2; omega) (by have := ht.2; omega)))) (by decide) (fun h => ?_) fun h => ?_
        · have h2 : lbelow p t = true := by simpa [isN, encO] using h
          refine go_retE (ev_ss (g := joinedS) (ev_var rfl) (ev_ss (g := restS) (p := p) (f := t) (ev_var rfl) (ev_var rfl) (Nat.le_trans hp.2 (by decide)) (Nat.le_trans ht.2 (by decide))) (Nat.le_trans hf1.2 (by decide)) (Nat.le_trans (restS_len p t) (Nat.le_trans hp.2 (by decide)))) (by decide) ⟨rs, p, rfl, ?_⟩
          dsimp only
          rw [hcand]
          show _ = encO (if tfits p t = true then candS p f t else candOf p post)
          have h3 : tfits p t = true := by unfold tfits; rw [h1, h2]; rfl
          rw [if_pos h3]
          unfold candS
          rw [h1]
          rfl
        · have h2 : lbelow p t = false := by simpa [isN, encO] using h
          refine go_next ⟨_, _, rfl, rfl, fun r hr t' ht' => ?_⟩
          rcases List.mem_append.mp hr with h3 | h3
          · exact hno r h3 t' ht'
          · rw [List.mem_singleton.mp h3] at ht'
            cases ht'
            unfold tfits; rw [h1, h2]; rfl
  · rintro Γ' c' ⟨s2, s3, rfl, rfl, hno⟩
    refine go_retE ev_non (by decide) ⟨rs, p, rfl, ?_⟩
    have := candOf_skip (post := []) hno
    rw [List.append_nil] at this
    dsimp only
    rw [this]; rfl
abbrev preRS : List PyData → Prop := fun ds => ∃ (rs : List Row) (p : Str), ds = [encRs rs, .str p] ∧ okRs rs ∧ okS p
theorem ok_way_back (T : Tx K mg) : FnG P w K mg base CX0 4 T.a_way_back T.d_way_back ["rows", "path"] (spP preRS (postRP fun rs p => encO (wayS rs p))) := by
  have G_candidate_of := ok_candidate_of (P := P) (w := w) (base := base) T
  have G_place := ok_place (P := P) (w := w) (base := base) T
  refine ok_pure T.F_way_back sc_way_back (fun ds ⟨rs, p, e, _⟩ => by rw [e]; rfl) fun cdv A fs s H E hG hr => ⟨_, (pss_cons (ps_set (i := 2) sc_way_back.nd rfl (.inl rfl) (pc_call G_candidate_of hG (hr.mono (by first | decide | omega)) (by rfl) T.g_candidate_of T.F_candidate_of.kp T.b_candidate_of .nil pass0 (pa_cons (pv 0) (pa_cons (pv 1) pa_nil))))
        (pss_one (ps_ret (pe_ifExp (PW.pt (pw_and (pt_cmp (pc_notN (pv 2))) (pw_and1 (pt_cmpR (opK_eqD (K := K) rfl hr.units) (pc_call G_place hG (hr.mono (by first | decide | omega)) (by rfl) T.g_place T.F_place.kp T.b_place .nil pass0 (pa_cons (pv 0) (pa_cons (pv 2) pa_nil))) (pv 1) (nomark _))))) (pv 2) pe_non)))), fun ds ⟨rs, p, e, hrs, hp⟩ => ?_⟩
  subst e
  show Go _ _ [.dat (encRs rs), .dat (.str p), .un] _ _
  refine gs_setE (ev_rp (ev_var rfl) (ev_var rfl) hrs (okP_of hp)) (by decide) ?_
  show Go _ _ [.dat (encRs rs), .dat (.str p), .dat (encO (candOf p rs))] _ _
  cases hq : candOf p rs with
  | none =>
    refine go_retE (ev_if0 (x := .none) (et_and0 (b := false) (et_B (ev_notN (ev_var rfl))) (fun h => by cases h)) (fun h => by cases h) (fun _ => ev_non)) (by decide) ⟨rs, p, rfl, ?_⟩
    show _ = encO (wayS rs p)
    unfold wayS
    rw [hq]
    rfl
  | some z =>
    have hz := candOf_ok hrs.2 hp hq
    refine go_retE (ev_if0 (et_and0 (et_B (ev_notN (ev_var rfl))) (fun _ => et_test (ev_eqD0 (ev_rp (rs := rs) (p := z) (ev_var rfl) (ev_var rfl) hrs hz) (ev_var rfl) (shO hrs hz) (shS hp)))) (fun _ => ev_var rfl) (fun _ => ev_non)) (by decide) ⟨rs, p, rfl, ?_⟩
    show _ = encO (wayS rs p)
    unfold wayS
    rw [hq, eqv_O]
    show (if (placeS rs z == some p) = true then _ else _) = _
    dsimp only
    split <;> rfl
theorem ev_ws {μ : Mu} {Γ : List Sl} {ta tb : TE} {E : XK} {rs : List Row} {p : Str} {f : List Row → Str → PyData} (ha : Ev μ ta Γ 0 (Eq (encRs rs))) (hb : Ev μ tb Γ 0 (Eq (.str p))) (h1 : okRs rs) (h2 : okS p) :
    Ev μ (tCall (spP preRS (postRP f)) [] E (tCons ta (tCons tb tNil))) Γ 0 (Eq (f rs p)) :=
  (ev_callP (ea_cons0 ha (ea_cons0 hb ea_nil)) ⟨rs, p, rfl, h1, h2⟩).imp fun d ⟨rs', p', e, e2⟩ => by
    simp only [List.cons.injEq, PyData.str.injEq, and_true] at e
    rw [e2, encRs_inj e.1, e.2]
end
end K23

namespace K23
open PySem PySem.Spec PyProof.Rows L2 B
/-! ### how expressions are read off -/
local macro_rules | `(tactic| walk_at "ev") => `(tactic| first
  | exact ea_nil
  | (apply ea_cons0 <;> walk_at "ev")
  | exact ev_int | exact ev_str | exact ev_bl | exact ev_non | exact ev_var rfl | exact ev_dnew
  | (apply ev_lstE <;> walk_at "ev")
  | (apply ev_tupE <;> walk_at "ev")
  | (apply ev_disp1E <;> walk_at "ev")
  | (apply ev_neg <;> walk_at "ev")
  | (apply ev_add0 <;> walk_at "ev")
  | (apply ev_sub0 <;> walk_at "ev")
  | (apply ev_cmp0 <;> walk_at "ev")
  | (apply ev_pow0 <;> walk_at "ev")
  | (apply ev_isi0 isi_str <;> walk_at "ev")
  | (apply ev_isi0 isi_tuple <;> walk_at "ev")
  | (apply ev_isi0 isi_bool <;> walk_at "ev")
  | (apply ev_isi0 isi_int <;> walk_at "ev")
  | (apply et_B <;> walk_at "ev")
  | (apply et_test <;> walk_at "ev")
  | (apply et_not <;> walk_at "ev")
  | exact Nat.le_of_ble_eq_true rfl
  | exact ⟨by decide, by decide, by decide⟩)
/-! ### the paths -/
section
variable {P : Program} {w : World} {K : PySem.W.Frag} {mg : Str → Option Value} {base : Heap}
def PATHS : List Str := ["a", "a/b", "a/b/c", "a/b/c/d", "a/x", "b", "b/a", "c/d", "c/d/e", "c", "lib", "lib/a", "p", "p/r", "p/x", "q", "q1/z", "s", "s/b", "x/y", "r", "a/p", "a/b/q", "lib/p/r", "p/r/a"]
theorem paths_ok : ∀ p ∈ PATHS, okS p ∧ p ≠ "" := by
  have h : ∀ f ∈ PATHS, (PyData.strOk f = true ∧ f.length ≤ 100) ∧ f ≠ "" := by decide +kernel
  exact h
theorem ok_law_paths (T : Tx K mg) : FnG P w K mg base CX0 1 T.a_law_paths T.d_law_paths [] (spP (fun ds => ds = []) (fun _ e => e = .list (PATHS.map .str))) := by
  refine ok_pure T.F_law_paths sc_law_paths (fun ds e => by rw [e]; rfl) fun cdv A fs s H E hG hr => ⟨_, (pss_cons (ps_set (i := 0) sc_law_paths.nd rfl (.inl rfl) (pe_lst (pa_cons pe_str (pa_cons pe_str (pa_cons pe_str (pa_cons pe_str (pa_cons pe_str (pa_cons pe_str (pa_cons pe_str (pa_cons pe_str (pa_cons pe_str (pa_cons pe_str (pa_cons pe_str (pa_cons pe_str (pa_cons pe_str (pa_cons pe_str (pa_cons pe_str pa_nil)))))))))))))))))
        (pss_one (ps_ret (pe_op op_cat (pv 0) (pe_lst (pa_cons pe_str (pa_cons pe_str (pa_cons pe_str (pa_cons pe_str (pa_cons pe_str (pa_cons pe_str (pa_cons pe_str (pa_cons pe_str (pa_cons pe_str (pa_cons pe_str pa_nil))))))))))))))), fun ds e => ?_⟩
  subst e
  show Go _ _ [.un] _ _
  refine gs_setE (d := .list ((PATHS.take 15).map .str)) (Ev.is (by walk_at "ev") rfl) (by decide) ?_
  refine go_retE (ev_op0 (ev_var rfl) (Ev.is (y := .list ((PATHS.drop 15).map .str)) (by walk_at "ev") rfl) (rd_cat (by decide))) (by decide) rfl
end
/-! ### trees -/
abbrev File := Str × List Str
def linesD (ls : List Str) : PyData := .tuple (ls.map .str)
def encF (f : File) : PyData := .tuple [.str f.1, linesD f.2]
def encT (fs : List File) : PyData := .tuple (fs.map encF)
def okQ (z : Str) : Prop := PyData.strOk z = true ∧ z.length ≤ 501
def LNS : List Str := ["x", "y", "", "a b", "7"]
theorem lns_ok : ∀ l ∈ LNS, PyData.strOk l = true ∧ l.length ≤ 100 := by decide +kernel
structure okF (f : File) : Prop where
  path : okQ f.1
  many : f.2.length ≤ 3
  lines : ∀ l ∈ f.2, PyData.strOk l = true ∧ l.length ≤ 100
structure Wood (ps : List Str) (fs : List File) : Prop where
  len : fs.length ≤ 8
  path : ∀ f ∈ fs, f.1 ∈ ps
  many : ∀ f ∈ fs, f.2.length ≤ 3
  lines : ∀ f ∈ fs, ∀ l ∈ f.2, l ∈ LNS
  uniq : ∀ f ∈ fs, ∀ g ∈ fs, f.1 = g.1 → f = g
  apart : ∀ f ∈ fs, ∀ g ∈ fs, Txt.startswith f.1 (g.1 ++ "/") = false
  fresh : fs.Pairwise (fun f g => f.1 ≠ g.1)
theorem Wood.ok {ps : List Str} {fs : List File} (h : Wood ps fs) (hp : ∀ p ∈ ps, okQ p) : ∀ f ∈ fs, okF f := fun f hf => ⟨hp _ (h.path f hf), h.many f hf, fun l hl => lns_ok l (h.lines f hf l hl)⟩
theorem Wood.perm {ps : List Str} {fs gs : List File} (h : Wood ps fs) (p : gs.Perm fs) : Wood ps gs :=
  ⟨by rw [p.length_eq]; exact h.len, fun f hf => h.path f (p.mem_iff.mp hf), fun f hf => h.many f (p.mem_iff.mp hf), fun f hf => h.lines f (p.mem_iff.mp hf), fun f hf g hg => h.uniq f (p.mem_iff.mp hf) g (p.mem_iff.mp hg), fun f hf g hg => h.apart f (p.mem_iff.mp hf) g (p.mem_iff.mp hg), (p.pairwise_iff fun {a b} (z : a.1 ≠ b.1) e => z e.symm).mpr h.fresh⟩
theorem lines_shp {ls : List Str} (h : ∀ l ∈ ls, PyData.strOk l = true ∧ l.length ≤ 100) : Shp 1 (linesD ls) := shp_tup fun d hd => by
  obtain ⟨l, hl, rfl⟩ := List.mem_map.mp hd
  exact shp_str (h l hl).1
theorem encF_shp {f : File} (h : okF f) : Shp 2 (encF f) := shp_tup fun d hd => by
  simp only [List.mem_cons, List.not_mem_nil, or_false] at hd
  rcases hd with rfl | rfl
  · exact (shp_str h.path.1).mono (by decide)
  · exact lines_shp h.lines
theorem encF_inj {f g : File} (h : encF f = encF g) : f = g := by
  obtain ⟨a, b⟩ := f
  obtain ⟨c, d⟩ := g
  unfold encF linesD at h
  simp only [PyData.tuple.injEq, List.cons.injEq, PyData.str.injEq, and_true] at h
  rw [h.1, map_inj' (fun _ _ e => PyData.str.inj e) h.2]
theorem encT_inj {f g : List File} (h : encT f = encT g) : f = g := map_inj' (fun _ _ e => encF_inj e) (PyData.tuple.inj h)
theorem sortable {fs : List File} (hok : ∀ f ∈ fs, okF f) (hu : ∀ f ∈ fs, ∀ g ∈ fs, f.1 = g.1 → f = g) : Sortable keyT (fs.map encF) := by
  refine ⟨fun d hd => ?_, .inr fun d hd => ?_, fun xs ys hx hy => ?_, fun x hx y hy e => ?_⟩
  · obtain ⟨f, hf, rfl⟩ := List.mem_map.mp hd
    exact (encF_shp (hok f hf)).shaped
  · obtain ⟨f, hf, rfl⟩ := List.mem_map.mp hd
    exact ⟨_, _, rfl⟩
  · obtain ⟨f, hf, e⟩ := List.mem_map.mp hx
    obtain ⟨g, hg, e2⟩ := List.mem_map.mp hy
    cases e; cases e2
    refine ⟨rfl, ?_⟩
    show LtA _ _ (ltK (0, TL.tl f.1) (0, TL.tl g.1))
    by_cases e : f.1 = g.1
    · have := hu f hf g hg e
      subst this
      rw [ltK_self]
      exact .eq (by rw [eqv_str]; exact beq_self_eq_true _) (.eq (lines_shp (hok f hf).lines).eqv .nil)
    · have e3 : ltK ((0 : Int), TL.tl f.1) ((0 : Int), TL.tl g.1) = decide (f.1.cps.toList < g.1.cps.toList) := by
        unfold ltK
        simp
      rw [e3]
      exact .str e
  · obtain ⟨f, hf, rfl⟩ := List.mem_map.mp hx
    obtain ⟨g, hg, rfl⟩ := List.mem_map.mp hy
    have e' : ((0 : Int), TL.tl f.1) = (0, TL.tl g.1) := e
    rw [hu f hf g hg (TL.ext_tl (Prod.mk.inj e').2)]
/-! ### drawing a tree -/
def mkE (f : File) : Key × PyData := (.inr f.1, linesD f.2)
def putF (fs : List File) (p : Str) (ls : List Str) : List File := if (fs.any fun f => decide (f.1 = p)) = true then fs.map (fun f => if f.1 = p then (f.1, ls) else f) else fs ++ [(p, ls)]
theorem put_mk (fs : List File) (p : Str) (ls : List Str) : putM (fs.map mkE) (.inr p) (linesD ls) = (putF fs p ls).map mkE := by
  unfold putM putF
  have e1 : ((fs.map mkE).any fun e => decide (e.1 = .inr p)) = (fs.any fun f => decide (f.1 = p)) := by
    rw [List.any_map]
    congr 1
    funext f
    simp [mkE]
  rw [e1]
  split
  · rw [List.map_map, List.map_map]
    congr 1
    funext f
    simp only [Function.comp, mkE]
    by_cases h : f.1 = p
    · simp [h]
    · have : ¬ (Sum.inr f.1 : Key) = Sum.inr p := fun z => h (Sum.inr.inj z)
      simp [h]
  · rw [List.map_append]; rfl
theorem mem_putF {fs : List File} {p : Str} {ls : List Str} {f : File} (h : f ∈ putF fs p ls) : f = (p, ls) ∨ (f ∈ fs ∧ f.1 ≠ p) := by
  unfold putF at h
  split at h
  · obtain ⟨g, hg, rfl⟩ := List.mem_map.mp h
    by_cases e : g.1 = p
    · rw [if_pos e, e]; exact .inl rfl
    · rw [if_neg e]; exact .inr ⟨hg, e⟩
  · rename_i hn
    rcases List.mem_append.mp h with h | h
    · refine .inr ⟨h, fun e => hn (List.any_eq_true.mpr ⟨f, h, decide_eq_true e⟩)⟩
    · exact .inl (List.mem_singleton.mp h)
theorem len_putF (fs : List File) (p : Str) (ls : List Str) : (putF fs p ls).length ≤ fs.length + 1 := by
  unfold putF
  split
  · rw [List.length_map]; omega
  · rw [List.length_append]; exact Nat.le_refl _
theorem fresh_putF {fs : List File} {p : Str} {ls : List Str} (h : fs.Pairwise (fun f g => f.1 ≠ g.1)) : (putF fs p ls).Pairwise (fun f g => f.1 ≠ g.1) := by
  unfold putF
  split
  · rw [List.pairwise_map]
    refine h.imp fun {a b} z => ?_
    have e : ∀ f : File, (if f.1 = p then (f.1, ls) else f).1 = f.1 := fun f => by split <;> rfl
    rw [e, e]; exact z
  · rename_i hn
    rw [List.pairwise_append]
    refine ⟨h, List.pairwise_singleton _ _, fun a ha b hb e => ?_⟩
    rw [List.mem_singleton.mp hb] at e
    exact hn (List.any_eq_true.mpr ⟨a, ha, decide_eq_true e⟩)
theorem no_self' (p : Str) : Txt.startswith p (p ++ "/") = false := by
  rw [starts_false, TL.tl_append, tl_slash]
  intro h
  have := h.length_le
  simp at this
  omega
theorem Wood.add {ps : List Str} {fs : List File} {p : Str} {ls : List Str} (h : Wood ps fs) (hl : fs.length ≤ 7) (hp : p ∈ ps) (hm : ls.length ≤ 3) (hls : ∀ l ∈ ls, l ∈ LNS) (hap : ∀ f ∈ fs, (Txt.startswith p (f.1 ++ "/") || Txt.startswith f.1 (p ++ "/")) = false) : Wood ps (putF fs p ls) := by
  refine ⟨by have := len_putF fs p ls; omega, fun f hf => ?_, fun f hf => ?_, fun f hf => ?_, fun f hf g hg e => ?_, fun f hf g hg => ?_, fresh_putF h.fresh⟩
  · rcases mem_putF hf with rfl | ⟨h1, _⟩
    · exact hp
    · exact h.path f h1
  · rcases mem_putF hf with rfl | ⟨h1, _⟩
    · exact hm
    · exact h.many f h1
  · rcases mem_putF hf with rfl | ⟨h1, _⟩
    · exact hls
    · exact h.lines f h1
  · rcases mem_putF hf with rfl | ⟨h1, n1⟩
    · rcases mem_putF hg with rfl | ⟨h2, n2⟩
      · rfl
      · exact absurd e.symm n2
    · rcases mem_putF hg with rfl | ⟨h2, n2⟩
      · exact absurd e n1
      · exact h.uniq f h1 g h2 e
  · rcases mem_putF hf with rfl | ⟨h1, n1⟩
    · rcases mem_putF hg with rfl | ⟨h2, n2⟩
      · exact no_self' p
      · have := hap g h2; rw [Bool.or_eq_false_iff] at this; exact this.1
    · rcases mem_putF hg with rfl | ⟨h2, n2⟩
      · have := hap f h1; rw [Bool.or_eq_false_iff] at this; exact this.2
      · exact h.apart f h1 g h2
section
variable {P : Program} {w : World} {K : PySem.W.Frag} {mg : Str → Option Value} {base : Heap}
theorem spB_imp {k : Nat} {pre : List PyData → Prop} {post post' : List PyData → PyData → Prop} {vs : List V} {H : Hp} {Q : VK} {E : XK} (h : ∀ ds d, post' ds d → post ds d) : spB k pre post vs H Q E → spB k pre post' vs H Q E := fun ⟨b, ws, c, G, ds, e1, e2, e3, e4, e5, e6, e7, q⟩ =>
  ⟨b, ws, c, G, ds, e1, e2, e3, e4, e5, e6, e7, fun d v G' H' p => q d v G' H' (h ds d p)⟩
def AscF (fs : List File) : Prop := (fs.map encF).Pairwise (fun x y => ltK (keyT y) (keyT x) = false)
theorem ok_law_treeS (T : Tx K mg) : FnG P w K mg base CX0 3 T.a_law_tree T.d_law_tree ["_law_box_here", "_law_paths_here"] (spB 41 (fun ds => ∃ ps : List Str, ds = [.list (ps.map .str)] ∧ 1 ≤ ps.length ∧ ps.length ≤ 1000 ∧ ∀ p ∈ ps, okQ p) (fun ds d => ∃ (ps : List Str) (fs : List File), ds = [.list (ps.map .str)] ∧ d = encT fs ∧ Wood ps fs ∧ AscF fs)) := by
  have G_law_of := ok_law_of (P := P) (w := w) (base := base) T
  have G_law_take := ok_law_take (P := P) (w := w) (base := base) T
  refine ok_draw T.F_law_tree sc_law_tree (fun ds ⟨ps, e, _⟩ => by rw [e]; rfl) fun cdv A fs s H E hG hr => ⟨_, (pss_cons (ps_set (i := 2) sc_law_tree.nd rfl (.inl rfl) pe_dnewK)
        (pss_cons (ps_for PassesOwn.never rfl (pi_range1 (by rfl) T.m_range (pa_cons (pc_call G_law_take hG (hr.mono (by first | decide | omega)) (by rfl) T.g_law_take T.F_law_take.kp T.b_law_take .nil pass0 (pa_cons (pv 0) (pa_cons pe_int pa_nil))) pa_nil)) (pg_name (i := 3) sc_law_tree.nd rfl (.inl rfl)) (pss_cons (ps_set (i := 4) sc_law_tree.nd rfl (.inr rfl) (pc_call G_law_of hG (hr.mono (by first | decide | omega)) (by rfl) T.g_law_of T.F_law_of.kp T.b_law_of .nil pass0 (pa_cons (pv 0) (pa_cons (pv 1) pa_nil))))
        (pss_one (ps_if (pt_not (pt_val (pe_callB (crK_any (K := K) rfl rfl) (by rfl) T.m_any bt_any (pa_cons (pe_lock (pe_lc (own := [("_law_other", 5)]) (g := (gName 5)) (by rfl) sc_law_tree.nd (pi_keys (pv 2)) (blkOk_by (own := [("_law_other", 5)]) (N := N_law_tree) (sc := defScope s_law_tree) (by decide +kernel)) (fun _ _ _ _ _ => (pg_name (i := 5) sc_law_tree.nd rfl (.inl rfl))) (fun _ _ _ _ _ => pts_nil) (fun _ _ _ _ _ => (pe_or (pe_m1 PySem.F.slot_str_startswith PySem.F.type_str_startswith mt_startswith (pv 4) (pe_op op_add_str (pv 5) pe_str)) (pe_one (pe_m1 PySem.F.slot_str_startswith PySem.F.type_str_startswith mt_startswith (pv 5) (pe_op op_add_str (pv 4) pe_str))))))) pa_nil)))) (pss_one (ps_dput (u1 hr) (pv 2) (pv 4) (pe_callTy (callK_tuple (K := K) rfl) (by rfl) T.m_tuple bt_tuple (pa_cons (pe_lc (own := [("_law_spot", 6)]) (g := (gName 6)) (by rfl) sc_law_tree.nd (pi_range1 (by rfl) T.m_range (pa_cons (pc_call G_law_take hG (hr.mono (by first | decide | omega)) (by rfl) T.g_law_take T.F_law_take.kp T.b_law_take .nil pass0 (pa_cons (pv 0) (pa_cons pe_int pa_nil))) pa_nil)) (blkOk_by (own := [("_law_spot", 6)]) (N := N_law_tree) (sc := defScope s_law_tree) (by decide +kernel)) (fun _ _ _ _ _ => (pg_name (i := 6) sc_law_tree.nd rfl (.inl rfl))) (fun _ _ _ _ _ => pts_nil) (fun _ _ _ _ _ => (pc_call G_law_of hG (hr.mono (by first | decide | omega)) (by rfl) T.g_law_of T.F_law_of.kp T.b_law_of .nil pass0 (pa_cons (pv 0) (pa_cons (pe_lst (pa_cons pe_str (pa_cons pe_str (pa_cons pe_str (pa_cons pe_str (pa_cons pe_str pa_nil)))))) pa_nil))))) pa_nil)) (by rfl))) pss_nil))))
        (pss_one (ps_ret (pe_callTy (callK_tuple (K := K) rfl) (by rfl) T.m_tuple bt_tuple (pa_cons (pe_callB (crK_sortedT (K := K) rfl (u70 hr)) (by rfl) T.m_sorted bt_sorted (pa_cons (LiI.pe_listItems rfl (pv 2) (by rfl) T.m_list bt_list) pa_nil)) pa_nil)))))), fun b c ds hc ⟨ps, e, hps1, hps2, hpo⟩ => ?_⟩
  subst e
  have hc' : c + 41 ≤ 1000000 := hc
  show Go _ _ [.raw (.ref b), .dat (.list (ps.map .str)), .un, .un, .un, .un, .un] _ _
  refine go_seq (go_map0 ?_)
  show Go _ _ [.raw (.ref b), .dat (.list (ps.map .str)), .map [], .un, .un, .un, .un] _ _
  refine go_seq (go_for (n := 1) (ew_rng1 (P := fun ds => ∃ m : Int, ds = [.int m] ∧ 0 ≤ m ∧ m ≤ 8) (ea_consP (P := fun ds => ∃ m : Int, ds = [.int m] ∧ 0 ≤ m ∧ m ≤ 8) (ev_take (m := 9) rfl ev_int) ea_nil ?_) fun d ⟨m, e, h1, h2⟩ => ⟨m, e, by omega, by omega⟩) (show c + 1 ≤ 1000000 by omega) ?_)
  · rintro x y ⟨i, rfl, h1, h2⟩ rfl
    exact ⟨i, rfl, h1, by omega⟩
  rintro ds ⟨m, ⟨m', e, h1, h2⟩, rfl⟩
  cases e
  refine ⟨fun i Γ' c' => ∃ (fs : List File) (s3 s4 s5 s6 : Sl), Γ' = [.raw (.ref b), .dat (.list (ps.map .str)), .map (fs.map mkE), s3, s4, s5, s6] ∧ Wood ps fs ∧ fs.length ≤ i ∧ c' ≤ c + 1 + 5 * i, ⟨[], _, _, _, _, rfl, ⟨by decide, by simp, by simp, by simp, (fun r hr => by cases hr), (fun r hr => by cases hr), .nil⟩, by decide, by omega⟩, ?_, ?_⟩
  · rintro i x Γ' c' hx ⟨fs, s3, s4, s5, s6, rfl, hW, hlen, hc2⟩
    have hi : i < 8 := by
      have := (List.getElem?_eq_some_iff.mp hx).1
      rw [rngD_len] at this; omega
    refine ⟨_, _, eg_name, ?_⟩
    refine gs_set (n := 1) (ev_ofL (xs := ps.map PyData.str) rfl (ev_var rfl) (by rw [List.length_map]; exact hps1) (by rw [List.length_map]; omega)) (show c' + 1 ≤ 1000000 by omega) fun d hd => ?_
    obtain ⟨p, hp, rfl⟩ := mem_strs hd
    have hpq := hpo p hp
    show Go _ _ [.raw (.ref b), .dat (.list (ps.map .str)), .map (fs.map mkE), .dat x, .dat (.str p), s5, s6] (c' + 1) _
    refine go_if (n := 0) (et_not (et_B (ev_any (bs := fs.map fun f => Txt.startswith p (f.1 ++ "/") || Txt.startswith f.1 (p ++ "/")) (ev_lock (i := 2) rfl fun q od kvs => Ev.is (ev_lcTM (enc := fun f : File => PyData.str f.1) (as := fs) (is := [5]) (EvI.imp (wl_keys rfl).ei fun d e => by rw [← e, List.map_map]; rfl) (Nat.le_trans hW.len (by decide)) (by simp) (fun f => .bool (Txt.startswith p (f.1 ++ "/") || Txt.startswith f.1 (p ++ "/"))) fun f hf => ⟨_, eg_name, ev_orV0 (ev_starts (ev_var rfl) (ev_addS (ev_var rfl) ev_str ?_)) (fun _ => ev_starts (ev_var rfl) (ev_addS (ev_var rfl) ev_str ?_))⟩) (by rw [List.map_map]; rfl))))) (show c' + 1 + 0 ≤ 1000000 by omega) (fun h => ?_) fun h => ?_
    · rw [slash_len]; have := (hpo f.1 (hW.path f hf)).2; omega
    · rw [slash_len]; have := hpq.2; omega
    · have hap : ∀ f ∈ fs, (Txt.startswith p (f.1 ++ "/") || Txt.startswith f.1 (p ++ "/")) = false := fun f hf => by
        have h' : ((fs.map fun f => Txt.startswith p (f.1 ++ "/") || Txt.startswith f.1 (p ++ "/")).any id) = false := by simpa using h
        cases q : (Txt.startswith p (f.1 ++ "/") || Txt.startswith f.1 (p ++ "/")) with
        | false => rfl
        | true =>
          have : ((fs.map fun f => Txt.startswith p (f.1 ++ "/") || Txt.startswith f.1 (p ++ "/")).any id) = true := List.any_eq_true.mpr ⟨true, List.mem_map.mpr ⟨f, hf, q⟩, rfl⟩
          rw [this] at h'; cases h'
      refine go_dput (n1 := 1 + 3 * 1) (n2 := 0) (es := fs.map mkE) (k := .inr p) (P := fun d => ∃ ls : List Str, d = linesD ls ∧ ls.length ≤ 3 ∧ ∀ l ∈ ls, l ∈ LNS) rfl ?_ (ev_var rfl) (by rw [List.length_map]; exact Nat.le_trans hW.len (by decide)) (show c' + 1 + 0 + (1 + 3 * 1 + 0) ≤ 1000000 by omega) fun d hd => ?_
      · refine Ev.imp (ev_tupleO (PL := fun es => ∃ ls : List Str, es = ls.map PyData.str ∧ ls.length ≤ 3 ∧ ∀ l ∈ ls, l ∈ LNS) (EvL.imp (el_dat (ev_lcP (P := fun d => d ∈ LNS.map PyData.str) (m := 3) (k := 1) (is := [6]) (ew_rng1 (P := fun ds => ∃ m : Int, ds = [.int m] ∧ 0 ≤ m ∧ m ≤ 3) (ea_consP (P := fun ds => ∃ m : Int, ds = [.int m] ∧ 0 ≤ m ∧ m ≤ 3) (ev_take (m := 4) rfl ev_int) ea_nil ?_) ?_).i ?_ (by decide) (by simp) fun ds d p hd => ⟨_, eg_name, by exact ev_ofL rfl (Ev.is (by walk_at "ev") rfl) (by decide) (by decide)⟩) ?_) ?_) ?_) ?_
        · rintro x y ⟨i, rfl, h1, h2⟩ rfl
          exact ⟨i, rfl, h1, by omega⟩
        · rintro d ⟨m, e, h1, h2⟩
          exact ⟨m, e, by omega, by omega⟩
        · rintro ds ⟨m, ⟨m', e, h1, h2⟩, rfl⟩
          cases e
          rw [rngD_len]; omega
        · rintro d ⟨es, ds, rfl, _⟩
          exact ⟨es, rfl⟩
        · rintro es ⟨es', ds, e, ⟨m, ⟨m', e2, h1, h2⟩, rfl⟩, hlen, hall⟩
          cases e
          cases e2
          rw [rngD_len] at hlen
          have key : ∀ es : List PyData, (∀ e ∈ es, e ∈ LNS.map PyData.str) → ∃ ls : List Str, es = ls.map PyData.str ∧ ∀ l ∈ ls, l ∈ LNS := by
            intro es
            induction es with
            | nil => exact fun _ => ⟨[], rfl, by simp⟩
            | cons x r ih =>
              intro h
              obtain ⟨ls, e1, e2⟩ := ih fun y hy => h y (List.mem_cons_of_mem _ hy)
              obtain ⟨z, hz, rfl⟩ := mem_strs (h x List.mem_cons_self)
              exact ⟨z :: ls, by rw [e1]; rfl, fun y hy => by
                rcases List.mem_cons.mp hy with q | q
                · rw [q]; exact hz
                · exact e2 y q⟩
          obtain ⟨ls, rfl, hls⟩ := key _ hall
          rw [List.length_map] at hlen
          exact ⟨ls, rfl, by omega, hls⟩
        · rintro es ⟨ls, rfl, h1, _⟩
          rw [List.length_map]; omega
        · rintro d ⟨es, ⟨ls, rfl, h1, h2⟩, rfl⟩
          exact ⟨ls, rfl, h1, h2⟩
      · obtain ⟨ls, rfl, hl1, hl2⟩ := hd
        refine ⟨putF fs p ls, _, _, _, _, by rw [put_mk]; exact rfl, hW.add (by omega) hp hl1 hl2 hap, ?_, ?_⟩
        · have := len_putF fs p ls; omega
        · omega
    · exact go_next ⟨fs, _, _, _, _, rfl, hW, by omega, by omega⟩
  · rintro Γ' c' ⟨fs, s3, s4, s5, s6, rfl, hW, hlen, hc2⟩
    rw [rngD_len] at hc2
    have hit : itemsD (fs.map mkE) = fs.map encF := by unfold itemsD; rw [List.map_map]; rfl
    have hso := sortable (hW.ok hpo) hW.uniq
    refine go_retE (ev_tupleE (el_datE (ev_sortK (key := keyT) (ds := fs.map encF) (el_datE (Ev.is (ev_items (ed_map rfl)) (by rw [hit]))) hso))) (show c' ≤ 1000000 by omega) ?_
    obtain ⟨qs, hq, e⟩ := perm_map (sortK_perm keyT (fs.map encF))
    exact ⟨by omega, ps, qs, rfl, by rw [e]; rfl, hW.perm hq, by unfold AscF; rw [← e]; exact sortK_pw _ _⟩
theorem ok_law_tree (T : Tx K mg) : FnG P w K mg base CX0 3 T.a_law_tree T.d_law_tree ["_law_box_here", "_law_paths_here"] (spB 41 (fun ds => ∃ ps : List Str, ds = [.list (ps.map .str)] ∧ 1 ≤ ps.length ∧ ps.length ≤ 1000 ∧ ∀ p ∈ ps, okQ p) (fun ds d => ∃ (ps : List Str) (fs : List File), ds = [.list (ps.map .str)] ∧ d = encT fs ∧ Wood ps fs)) :=
  (ok_law_treeS T).imp fun vs H Q E h => spB_imp (fun _ _ ⟨ps, fs, e1, e2, e3, _⟩ => ⟨ps, fs, e1, e2, e3⟩) h
end
/-! ### places are unlike -/
theorem tl_join {f r : Str} : TL.tl (f ++ "/" ++ r) = TL.tl f ++ 47 :: TL.tl r := by
  rw [TL.tl_append, TL.tl_append, tl_slash, List.append_assoc]; rfl
theorem join_rest {p : Str} {r : Row} (h : fits p r = true) (hne : p ≠ r.1) : p = joinedS r.1 (restS p r.1) := by
  unfold joinedS restS
  by_cases e : r.1 = ""
  · rw [if_pos (beq_iff_eq.mpr e), if_pos (beq_iff_eq.mpr e)]
  · have e' : ¬ (r.1 == ("" : Str)) = true := fun z => e (beq_iff_eq.mp z)
    rw [if_neg e', if_neg e']
    have hs : Txt.startswith p (r.1 ++ "/") = true := by
      unfold fits lbelow at h
      simp only [Bool.or_eq_true, beq_iff_eq] at h
      rcases h with h | h | h
      · exact absurd h.symm hne
      · exact absurd h e
      · exact h
    rw [starts_iff, TL.tl_append, tl_slash] at hs
    obtain ⟨s, hs⟩ := hs
    apply TL.ext_tl
    rw [tl_join]
    have hk : TL.tl (cutS p (some ((r.1.length : Int) + 1)) none) = (TL.tl p).drop (r.1.length + 1) := tl_cut (z := p) (k := r.1.length + 1)
    rw [hk, ← hs]
    have hl : (TL.tl r.1 ++ [47]).length = r.1.length + 1 := by rw [List.length_append, ← TL.len_tl]; rfl
    rw [← hl, List.drop_left, List.append_assoc]
    rfl
theorem joinedS_inj {t a b : Str} (h : joinedS t a = joinedS t b) : a = b := by
  unfold joinedS at h
  split at h
  · exact h
  · have := congrArg TL.tl h
    rw [tl_join, tl_join] at this
    exact TL.ext_tl (List.cons.inj (List.append_cancel_left this)).2
theorem join_ne {t a : Str} (h : t ≠ "") : t ≠ joinedS t a := by
  unfold joinedS
  rw [if_neg fun z => h (beq_iff_eq.mp z)]
  intro e
  have := congrArg (List.length ∘ TL.tl) e
  simp only [Function.comp, tl_join, List.length_append, List.length_cons] at this
  omega
theorem tfits_join (t a : Str) : tfits (joinedS t a) t = true := by
  unfold tfits lbelow joinedS
  by_cases e : t = ""
  · rw [if_pos (beq_iff_eq.mpr e), beq_iff_eq.mpr e]; simp
  · have e' : ¬ (t == ("" : Str)) = true := fun z => e (beq_iff_eq.mp z)
    rw [if_neg e']
    have : Txt.startswith (t ++ "/" ++ a) (t ++ "/") = true := by
      rw [starts_iff, TL.tl_append (t ++ "/")]
      exact List.prefix_append _ _
    rw [this]; simp
theorem place_cases {rs : List Row} {p z : Str} (h : placeS rs p = some z) : ∃ r t, rowOf rs p = some r ∧ r ∈ rs ∧ r.2 = some t ∧ fits p r = true ∧ tfits z t = true ∧ ((p = r.1 ∧ t ≠ "" ∧ z = t) ∨ (p ≠ r.1 ∧ z = joinedS t (restS p r.1))) := by
  unfold placeS at h
  have hi := rowOf_inv rs p
  cases hq : rowOf rs p with
  | none => rw [hq] at h; cases h
  | some r =>
    obtain ⟨f, t⟩ := r
    rw [hq] at h hi
    cases t with
    | none => cases h
    | some t =>
      refine ⟨(f, some t), t, rfl, hi.mem, rfl, hi.fit, ?_⟩
      dsimp only at h
      split at h
      · rename_i hf
        split at h
        · cases h
        · rename_i ht
          cases h
          refine ⟨by unfold tfits; simp, .inl ⟨(beq_iff_eq.mp hf).symm, fun e => ht (beq_iff_eq.mpr e), rfl⟩⟩
      · rename_i hf
        cases h
        exact ⟨tfits_join _ _, .inr ⟨fun e => hf (beq_iff_eq.mpr e.symm), rfl⟩⟩
theorem place_inj {rs : List Row} {p q z : Str} (hu : Uniq rs) (ha : Apart rs) (hp : placeS rs p = some z) (hq : placeS rs q = some z) : p = q := by
  obtain ⟨r, t, _, hr, et, fr, tr, cr⟩ := place_cases hp
  obtain ⟨s, u, _, hs, eu, fs, ts, cs⟩ := place_cases hq
  have e := tfits_one hu ha hr hs et eu tr ts
  subst e
  rw [et] at eu
  cases eu
  rcases cr with ⟨h1, h2, h3⟩ | ⟨h1, h2⟩
  · rcases cs with ⟨k1, k2, k3⟩ | ⟨k1, k2⟩
    · rw [h1, k1]
    · rw [h3] at k2; exact absurd k2 (join_ne h2)
  · rcases cs with ⟨k1, k2, k3⟩ | ⟨k1, k2⟩
    · rw [k3] at h2; exact absurd h2 (join_ne k2)
    · rw [join_rest fr h1, join_rest fs k1, joinedS_inj (h2.symm.trans k2)]
/-! ### what is taken -/
def pairD (rs : List Row) (f : File) : PyData := .tuple [encO (placeS rs f.1), linesD f.2]
def tk (rs : List Row) (fs : List File) : List File := fs.filterMap fun f => (placeS rs f.1).map fun z => (z, f.2)
def outS (rs : List Row) (fs : List File) : List File := fs.filter fun f => isN (encO (placeS rs f.1))
theorem tk_eq (rs : List Row) : ∀ fs : List File, (fs.filter fun f => !isN (encO (placeS rs f.1))).map (pairD rs) = (tk rs fs).map encF
  | [] => rfl
  | f :: fs => by
    have ih := tk_eq rs fs
    unfold tk at ih ⊢
    cases h : placeS rs f.1 with
    | none =>
      rw [List.filter_cons_of_neg (by rw [h]; decide), List.filterMap_cons_none (by rw [h]; rfl)]
      exact ih
    | some z =>
      rw [List.filter_cons_of_pos (by rw [h]; rfl), List.filterMap_cons_some (b := (z, f.2)) (by rw [h]; rfl), List.map_cons, List.map_cons, ih]
      congr 1
      unfold pairD
      rw [h]
      rfl
structure okT (fs : List File) : Prop where
  len : fs.length ≤ 20
  ok : ∀ f ∈ fs, okF f ∧ okP f.1
  uniq : ∀ f ∈ fs, ∀ g ∈ fs, f.1 = g.1 → f = g
theorem tk_mem {rs : List Row} {fs : List File} {g : File} (h : g ∈ tk rs fs) : ∃ f ∈ fs, placeS rs f.1 = some g.1 ∧ g.2 = f.2 := by
  obtain ⟨f, hf, e⟩ := List.mem_filterMap.mp h
  cases hq : placeS rs f.1 with
  | none => rw [hq] at e; cases e
  | some z => rw [hq] at e; cases e; exact ⟨f, hf, hq, rfl⟩
theorem tk_ok {rs : List Row} {fs : List File} (hrs : okRs rs) (h : okT fs) : ∀ g ∈ tk rs fs, okF g := fun g hg => by
  obtain ⟨f, hf, e1, e2⟩ := tk_mem hg
  refine ⟨placeS_ok hrs (h.ok f hf).2 e1, by rw [e2]; exact (h.ok f hf).1.many, by rw [e2]; exact (h.ok f hf).1.lines⟩
theorem tk_uniq {rs : List Row} {fs : List File} (hu : Uniq rs) (ha : Apart rs) (h : okT fs) : ∀ f ∈ tk rs fs, ∀ g ∈ tk rs fs, f.1 = g.1 → f = g := fun f hf g hg e => by
  obtain ⟨f', hf', e1, e2⟩ := tk_mem hf
  obtain ⟨g', hg', k1, k2⟩ := tk_mem hg
  rw [e] at e1
  have := h.uniq f' hf' g' hg' (place_inj hu ha e1 k1)
  subst this
  exact Prod.ext e (e2.trans k2.symm)
def takenD (rs : List Row) (fs : List File) : PyData := .tuple (sortK keyT ((tk rs fs).map encF))
def outD (rs : List Row) (fs : List File) : PyData := encT (outS rs fs)
abbrev preRT : List PyData → Prop := fun ds => ∃ (rs : List Row) (fs : List File), ds = [encRs rs, encT fs] ∧ Drawn rs ∧ okT fs
abbrev postRT (f : List Row → List File → PyData) : List PyData → PyData → Prop := fun ds e => ∃ (rs : List Row) (fs : List File), ds = [encRs rs, encT fs] ∧ e = f rs fs
theorem ev_rt {μ : Mu} {Γ : List Sl} {ta tb : TE} {E : XK} {rs : List Row} {fs : List File} {f : List Row → List File → PyData} (ha : Ev μ ta Γ 0 (Eq (encRs rs))) (hb : Ev μ tb Γ 0 (Eq (encT fs))) (h1 : Drawn rs) (h2 : okT fs) :
    Ev μ (tCall (spP preRT (postRT f)) [] E (tCons ta (tCons tb tNil))) Γ 0 (Eq (f rs fs)) :=
  (ev_callP (ea_cons0 ha (ea_cons0 hb ea_nil)) ⟨rs, fs, rfl, h1, h2⟩).imp fun d ⟨rs', p', e, e2⟩ => by
    simp only [List.cons.injEq, and_true] at e
    rw [e2, encRs_inj e.1, encT_inj e.2]
theorem ev_rtK {μ : Mu} {Γ : List Sl} {ta tb : TE} {E : XK} {rs : List Row} {fs : List File} {f : List Row → List File → PyData} {gV : List V → List V → List V} (hg : ∀ v w, gV [] [v, w] = [w, v]) (hb : Ev μ tb Γ 0 (Eq (encT fs))) (ha : Ev μ ta Γ 0 (Eq (encRs rs))) (h1 : Drawn rs) (h2 : okT fs) :
    Ev μ (tCallK (spP preRT (postRT f)) gV E tNil (tCons tb (tCons ta tNil))) Γ 0 (Eq (f rs fs)) :=
  (ev_callKE (ea_cons0 hb (ea_cons0 ha ea_nil)) (dt2 hg) ⟨rs, fs, rfl, h1, h2⟩).imp fun d ⟨rs', p', e, e2⟩ => by
    simp only [List.cons.injEq, and_true] at e
    rw [e2, encRs_inj e.1, encT_inj e.2]
section
variable {P : Program} {w : World} {K : PySem.W.Frag} {mg : Str → Option Value} {base : Heap}
theorem ok_taken (T : Tx K mg) : FnG P w K mg base CX0 4 T.a_taken T.d_taken ["rows", "tree"] (spP preRT (postRT takenD)) := by
  have G_place := ok_place (P := P) (w := w) (base := base) T
  refine ok_pure T.F_taken sc_taken (fun ds ⟨rs, p, e, _⟩ => by rw [e]; rfl) fun cdv A fs s H E hG hr => ⟨_, (pss_cons (ps_setLc (i := 2) (own := [("path", 3), ("lines", 4)]) (g := (gTup K 2 (gCons (gName 3) (gCons (gName 4) gNil)))) (by rfl) sc_taken.nd rfl rfl (sw_true rfl rfl rfl (by decide +kernel)) (piK_tup (K := K) rfl (pv 1)) (blkOk_by (own := [("path", 3), ("lines", 4)]) (N := N_taken) (sc := defScope s_taken) (by decide +kernel)) (fun _ _ _ _ _ => (pg_tup (by rfl) (pgs_cons (pg_name (i := 3) sc_taken.nd rfl (.inl rfl)) (pgs_cons (pg_name (i := 4) sc_taken.nd rfl (.inl rfl)) pgs_nil)))) (fun _ _ _ _ _ => pts_nil) (fun _ _ _ _ _ => (pe_tupP (pa_cons (pc_call G_place hG (hr.mono (by first | decide | omega)) (by rfl) T.g_place T.F_place.kp T.b_place .nil pass0 (pa_cons (pv 0) (pa_cons (pv 3) pa_nil))) (pa_cons (pv 4) pa_nil)))))
        (pss_one (ps_ret (pe_callTy (callK_tuple (K := K) rfl) (by rfl) T.m_tuple bt_tuple (pa_cons (pe_callB (crK_sortedT (K := K) rfl (u70 hr)) (by rfl) T.m_sorted bt_sorted (pa_cons (pe_lc (own := [("row", 5)]) (g := (gName 5)) (by rfl) sc_taken.nd (piK_list (K := K) rfl (pv 2)) (blkOk_by (own := [("row", 5)]) (N := N_taken) (sc := defScope s_taken) (by decide +kernel)) (fun _ _ _ _ _ => (pg_name (i := 5) sc_taken.nd rfl (.inl rfl))) (fun _ _ _ _ _ => (pts_one (pt_cmp (pc_notN (pe_ix (ixK_seq (K := K) rfl) (pv 5) pe_int (fun _ _ => rfl)))))) (fun _ _ _ _ _ => (pv 5))) pa_nil)) pa_nil))))), fun ds ⟨rs, fs, e, hD, hT⟩ => ?_⟩
  subst e
  have hrs := hD.ok
  show Go _ _ [.dat (encRs rs), .dat (encT fs), .un, .un, .un, .un] _ _
  refine gs_setE (ev_lcTM (enc := encF) (as := fs) (ew_tupE (ev_var rfl)).i (Nat.le_trans hT.len (by decide)) (by simp) (pairD rs) fun f hf => ⟨_, eg_tup (egs_cons eg_name (egs_cons eg_name egs_nil)) rfl, ev_tupE (ea_cons0 (ev_rp (rs := rs) (p := f.1) (ev_var rfl) (ev_var rfl) hrs (hT.ok f hf).2) (ea_cons0 (ev_var rfl) ea_nil)) (Nat.le_of_ble_eq_true rfl)⟩) (by decide) ?_
  refine go_retE (ev_tupleE (el_datE (ev_sortK (key := keyT) (ds := (tk rs fs).map encF) (el_datE (Ev.is (ev_lcT (enc := pairD rs) (as := fs) (is := [5]) (ew_listE (ev_var rfl)).i (Nat.le_trans hT.len (by decide)) (by simp) (fun f => !isN (encO (placeS rs f.1))) (pairD rs) fun f hf => ⟨_, eg_name, et_B (ev_notN (ev_op0 (ev_var rfl) ev_int (rd_ixsT (atI_nat (j := 0) rfl)))), fun _ => ev_var rfl⟩) (by rw [tk_eq]))) (sortable (tk_ok hrs hT) (tk_uniq hD.uniq hD.apart hT))))) (by decide) ⟨rs, fs, rfl, rfl⟩
theorem ok_outside (T : Tx K mg) : FnG P w K mg base CX0 4 T.a_outside T.d_outside ["rows", "tree"] (spP preRT (postRT outD)) := by
  have G_place := ok_place (P := P) (w := w) (base := base) T
  refine ok_pure T.F_outside sc_outside (fun ds ⟨rs, p, e, _⟩ => by rw [e]; rfl) fun cdv A fs s H E hG hr => ⟨_, (pss_one (ps_ret (pe_callTy (callK_tuple (K := K) rfl) (by rfl) T.m_tuple bt_tuple (pa_cons (pe_lc (own := [("row", 2)]) (g := (gName 2)) (by rfl) sc_outside.nd (piK_tup (K := K) rfl (pv 1)) (blkOk_by (own := [("row", 2)]) (N := N_outside) (sc := defScope s_outside) (by decide +kernel)) (fun _ _ _ _ _ => (pg_name (i := 2) sc_outside.nd rfl (.inl rfl))) (fun _ _ _ _ _ => (pts_one (pt_cmp (pc_isN (pc_call G_place hG (hr.mono (by first | decide | omega)) (by rfl) T.g_place T.F_place.kp T.b_place .nil pass0 (pa_cons (pv 0) (pa_cons (pe_ix (ixK_seq (K := K) rfl) (pv 2) pe_int (fun _ _ => rfl)) pa_nil))))))) (fun _ _ _ _ _ => (pv 2))) pa_nil)))), fun ds ⟨rs, fs, e, hD, hT⟩ => ?_⟩
  subst e
  have hrs := hD.ok
  show Go _ _ [.dat (encRs rs), .dat (encT fs), .un] _ _
  refine go_retE (ev_tupleE (el_datE (ev_lcT (enc := encF) (as := fs) (is := [2]) (ew_tupE (ev_var rfl)).i (Nat.le_trans hT.len (by decide)) (by simp) (fun f => isN (encO (placeS rs f.1))) encF fun f hf => ⟨_, eg_name, et_B (ev_isN (ev_rp (rs := rs) (p := f.1) (ev_var rfl) (ev_op0 (ev_var rfl) ev_int (rd_ixsT (atI_nat (j := 0) rfl))) hrs (hT.ok f hf).2)), fun _ => ev_var rfl⟩))) (by decide) ⟨rs, fs, rfl, rfl⟩
end
/-! ### a place leads back -/
theorem rest_join {t a : Str} (h : joinedS t a ≠ t) : restS (joinedS t a) t = a := (joinedS_inj (join_rest (r := (t, none)) (tfits_join t a) h)).symm
theorem place_way {rs : List Row} {p z : Str} (hu : Uniq rs) (ha : Apart rs) (hp : p ≠ "") (hz : z ≠ "") (h : placeS rs p = some z) : wayS rs z = some p := by
  obtain ⟨r, t, _, hr, et, fr, tr, cr⟩ := place_cases h
  have hc : candOf z rs = some p := by
    rcases candOf_cases z rs with ⟨h0, _⟩ | ⟨s, hs, u, eu, fu, e⟩
    · have := h0 r hr t et
      rw [tr] at this; cases this
    · obtain rfl := tfits_one hu ha hs hr eu et fu tr
      rw [et] at eu
      cases eu
      rw [e]
      unfold candS
      rcases cr with ⟨h1, h2, h3⟩ | ⟨h1, h2⟩
      · rw [if_pos (beq_iff_eq.mpr h3.symm), if_neg (fun q => hp (h1.trans (beq_iff_eq.mp q))), h1]
      · have hne : t ≠ z := fun q => join_ne (fun q2 => hz (q.symm.trans q2)) (q.trans h2)
        rw [if_neg (fun q => hne (beq_iff_eq.mp q)), h2, rest_join (fun q => hne (q.symm.trans h2.symm)), ← join_rest fr h1]
  unfold wayS
  rw [hc]
  dsimp only
  rw [if_pos (beq_iff_eq.mpr h)]
end K23

namespace K23
open PySem PySem.Spec PyProof.Rows L2 B
/-! ### how expressions are read off -/
local macro_rules | `(tactic| walk_at "ev") => `(tactic| first
  | exact ea_nil
  | (apply ea_cons0 <;> walk_at "ev")
  | exact ev_int | exact ev_str | exact ev_bl | exact ev_non | exact ev_var rfl | exact ev_dnew
  | (apply ev_lstE <;> walk_at "ev")
  | (apply ev_tupE <;> walk_at "ev")
  | (apply ev_disp1E <;> walk_at "ev")
  | (apply ev_neg <;> walk_at "ev")
  | (apply ev_add0 <;> walk_at "ev")
  | (apply ev_sub0 <;> walk_at "ev")
  | (apply ev_cmp0 <;> walk_at "ev")
  | (apply ev_pow0 <;> walk_at "ev")
  | (apply ev_isi0 isi_str <;> walk_at "ev")
  | (apply ev_isi0 isi_tuple <;> walk_at "ev")
  | (apply ev_isi0 isi_bool <;> walk_at "ev")
  | (apply ev_isi0 isi_int <;> walk_at "ev")
  | (apply et_B <;> walk_at "ev")
  | (apply et_test <;> walk_at "ev")
  | (apply et_not <;> walk_at "ev")
  | exact Nat.le_of_ble_eq_true rfl
  | exact ⟨by decide, by decide, by decide⟩)
/-! ### laid -/
def insS (rs : List Row) (fs : List File) : Option Str := (fs.find? fun f => (placeS rs f.1).isSome).map (·.1)
structure okB (fs : List File) : Prop where
  len : fs.length ≤ 100
  path : ∀ f ∈ fs, okP f.1
  ok : ∀ f ∈ fs, okF f
abbrev preCB : List PyData → Prop := fun ds => ∃ (rs : List Row) (fs : List File), ds = [encRs rs, encT fs] ∧ okRs rs ∧ okB fs
theorem isN_O (o : Option Str) : isN (encO o) = !o.isSome := by cases o <;> rfl
section
variable {P : Program} {w : World} {K : PySem.W.Frag} {mg : Str → Option Value} {base : Heap} [hPF : ErX.PF P]
theorem ok_check_beside (T : Tx K mg) : FnG P w K mg base (L2.CX P w) 4 T.a_check_beside T.d_check_beside ["rows", "beside"] (spX preCB (fun ds e => ∃ rs fs, ds = [encRs rs, encT fs] ∧ e = .none ∧ insS rs fs = none) (fun ds C es => ∃ rs fs p, ds = [encRs rs, encT fs] ∧ C = T.C_Inside ∧ es = [(("path" : Str), PyData.str p)] ∧ insS rs fs = some p)) := by
  have G_place := ok_place (P := P) (w := w) (base := base) T
  refine ok_raise T.F_check_beside sc_check_beside (fun ds ⟨rs, fs, e, _⟩ => by rw [e]; rfl) fun cdv A fs s H E hG hr => ⟨_, (pss_one (ps_for (passes_of rfl) rfl (piK_tup (K := K) rfl (pv 1)) (pg_tup (by rfl) (pgs_cons (pg_name (i := 2) sc_check_beside.nd rfl (.inl rfl)) (pgs_cons (pg_name (i := 3) sc_check_beside.nd rfl (.inl rfl)) pgs_nil))) (pss_one (ps_if (pt_cmp (pc_notN (pc_call G_place hG (hr.mono (by first | decide | omega)) (by rfl) T.g_place T.F_place.kp T.b_place .nil pass0 (pa_cons (pv 0) (pa_cons (pv 2) pa_nil))))) (pss_one (ps_raise rfl (takes_of rfl rfl rfl rfl) (pmk_oex T.oex_Inside T.i_Inside T.t_Inside (T.in_Inside _ _ _ hPF) (hr.mono (by first | decide | omega)) T.b_Inside .nil pass0 (by rfl) T.g_Inside (pa_cons (pv 2) pa_nil)))) pss_nil)))), fun ds ⟨rs, fs, e, hrs, hB⟩ => ?_⟩
  subst e
  show Go _ _ [.dat (encRs rs), .dat (encT fs), .un, .un] _ _
  refine go_forP (enc := encF) (n := 0) fs (fun pre Γ' c' => ∃ s2 s3 : Sl, Γ' = [.dat (encRs rs), .dat (encT fs), s2, s3] ∧ c' = 0 ∧ ∀ f ∈ pre, placeS rs f.1 = none) (ew_tupE (ev_var rfl)) (by decide) ⟨_, _, rfl, rfl, by simp⟩ ?_ ?_
  · rintro pre f post Γ' c' hsp ⟨s2, s3, rfl, rfl, hno⟩
    refine ⟨_, _, eg_tup (egs_cons eg_name (egs_cons eg_name egs_nil)) rfl, ?_⟩
    have hf : f ∈ fs := by rw [hsp]; simp
    show Go _ _ [.dat (encRs rs), .dat (encT fs), .dat (.str f.1), .dat (linesD f.2)] 0 _
    refine go_if (n := 0) (et_test (ev_notN (ev_rp (f := fun rs p => encO (placeS rs p)) (ev_var rfl) (ev_var rfl) hrs (hB.path f hf)))) (by decide) (fun h => ?_) fun h => ?_
    · rw [isN_O, Bool.not_not] at h
      refine go_raise (n := 0) (E := E) (flds := ["path"]) (xs := [.str f.1]) (xp := fun C es _ => ∃ rs' fs' p, [encRs rs, encT fs] = [encRs rs', encT fs'] ∧ C = T.C_Inside ∧ es = [(("path" : Str), PyData.str p)] ∧ insS rs' fs' = some p) (ea_cons0 (ev_var rfl) ea_nil) rfl (Nat.le_of_ble_eq_true rfl) (by decide) (fun G0 H0 h => h) ⟨rs, fs, f.1, rfl, rfl, rfl, ?_⟩
      unfold insS
      rw [hsp, List.find?_append, List.find?_eq_none.mpr (fun g hg => by rw [hno g hg]; simp), Option.none_or, List.find?_cons, h]
      rfl
    · rw [isN_O, Bool.not_not] at h
      refine go_next ⟨_, _, rfl, rfl, fun g hg => ?_⟩
      rcases List.mem_append.mp hg with hg | hg
      · exact hno g hg
      · rw [List.mem_singleton] at hg
        subst hg
        cases e : placeS rs g.1 with
        | none => rfl
        | some z => rw [e] at h; cases h
  · rintro Γ' c' ⟨s2, s3, rfl, rfl, hno⟩
    refine ⟨rs, fs, rfl, rfl, ?_⟩
    unfold insS
    rw [List.find?_eq_none.mpr fun g hg => by rw [hno g hg]; simp]
    rfl
end
def okL0 (fs : List File) : Prop := fs.length ≤ 100 ∧ ∀ f ∈ fs, okS f.1 ∧ okF f
def backL (rs : List Row) (fs : List File) : List File := fs.filterMap fun f => (wayS rs f.1).map fun z => (z, f.2)
def noS (rs : List Row) (fs : List File) : Option Str := (fs.find? fun f => !(wayS rs f.1).isSome).map (·.1)
/-- no two files have one path -/
def UqF (fs : List File) : Prop := ∀ f ∈ fs, ∀ g ∈ fs, f.1 = g.1 → f = g
theorem way_place {rs : List Row} {p z : Str} (h : wayS rs p = some z) : placeS rs z = some p := by
  unfold wayS at h
  split at h
  · cases h
  · rename_i c _
    split at h
    · rename_i hc
      cases h
      exact beq_iff_eq.mp hc
    · cases h
theorem back_mem {rs : List Row} {fs : List File} {g : File} (h : g ∈ backL rs fs) : ∃ f ∈ fs, wayS rs f.1 = some g.1 ∧ g.2 = f.2 := by
  obtain ⟨f, hf, e⟩ := List.mem_filterMap.mp h
  cases w : wayS rs f.1 with
  | none => rw [w] at e; cases e
  | some z => rw [w] at e; cases e; exact ⟨f, hf, w, rfl⟩
theorem back_uq {rs : List Row} {fs : List File} (h : UqF fs) : UqF (backL rs fs) := fun f hf g hg e => by
  obtain ⟨f', hf', wf, e1⟩ := back_mem hf
  obtain ⟨g', hg', wg, e2⟩ := back_mem hg
  have p1 := way_place wf
  have p2 := way_place wg
  rw [e, p2] at p1
  have := h f' hf' g' hg' (Option.some.inj p1).symm
  subst this
  exact Prod.ext e (e1.trans e2.symm)
theorem back_ok {rs : List Row} {fs : List File} (hrs : okRs rs) (h : okL0 fs) : ∀ g ∈ backL rs fs, okP g.1 ∧ okF g := fun g hg => by
  obtain ⟨f, hf, wf, e⟩ := back_mem hg
  obtain ⟨h1, h2⟩ := h.2 f hf
  have hz := wayS_ok hrs h1 wf
  exact ⟨hz, ⟨⟨hz.1, Nat.le_trans hz.2 (by decide)⟩, by rw [e]; exact h2.many, by rw [e]; exact h2.lines⟩⟩
abbrev preLB : List PyData → Prop := fun ds => ∃ (rs : List Row) (fs : List File), ds = [encRs rs, encT fs] ∧ okRs rs ∧ okL0 fs ∧ UqF fs
def sortT (fs : List File) : PyData := .tuple (sortK keyT (fs.map encF))
section
variable {P : Program} {w : World} {K : PySem.W.Frag} {mg : Str → Option Value} {base : Heap} [hPF : ErX.PF P]
theorem ok_led_back (T : Tx K mg) : FnG P w K mg base (L2.CX P w) 5 T.a_led_back T.d_led_back ["rows", "part"] (spX preLB (fun ds e => ∃ rs fs, ds = [encRs rs, encT fs] ∧ e = sortT (backL rs fs) ∧ noS rs fs = none) (fun ds C es => ∃ rs fs p, ds = [encRs rs, encT fs] ∧ C = T.C_NoPlace ∧ es = [(("path" : Str), PyData.str p)] ∧ noS rs fs = some p)) := by
  have G_way_back := ok_way_back (P := P) (w := w) (base := base) T
  refine ok_raise T.F_led_back sc_led_back (fun ds ⟨rs, fs, e, _⟩ => by rw [e]; rfl) fun cdv A fs s H E hG hr => ⟨_, (pss_cons (ps_set (i := 2) sc_led_back.nd rfl (.inl rfl) (pe_lst pa_nil))
        (pss_cons (ps_for (passes_of rfl) rfl (piK_tup (K := K) rfl (pv 1)) (pg_tup (by rfl) (pgs_cons (pg_name (i := 3) sc_led_back.nd rfl (.inl rfl)) (pgs_cons (pg_name (i := 4) sc_led_back.nd rfl (.inl rfl)) pgs_nil))) (pss_cons (ps_set (i := 5) sc_led_back.nd rfl (.inl rfl) (pc_call G_way_back hG (hr.mono (by first | decide | omega)) (by rfl) T.g_way_back T.F_way_back.kp T.b_way_back .nil pass0 (pa_cons (pv 0) (pa_cons (pv 3) pa_nil))))
        (pss_cons (ps_if (pt_cmp (pc_isN (pv 5))) (pss_one (ps_raise rfl (takes_of rfl rfl rfl rfl) (pmk_oex T.oex_NoPlace T.i_NoPlace T.t_NoPlace (T.in_NoPlace _ _ _ hPF) (hr.mono (by first | decide | omega)) T.b_NoPlace .nil pass0 (by rfl) T.g_NoPlace (pa_cons (pv 3) pa_nil)))) pss_nil)
        (pss_one (ps_expr (pe_bm PySem.F.plainAttrs_list PySem.F.slot_list_append PySem.F.type_list_append mt_append (pv 2) (pa_cons (pe_tupP (pa_cons (pv 5) (pa_cons (pv 4) pa_nil))) pa_nil)))))))
        (pss_one (ps_ret (pe_callTy (callK_tuple (K := K) rfl) (by rfl) T.m_tuple bt_tuple (pa_cons (pe_callB (crK_sortedT (K := K) rfl (u70 hr)) (by rfl) T.m_sorted bt_sorted (pa_cons (pv 2) pa_nil)) pa_nil)))))), fun ds ⟨rs, fs, e, hrs, hL, hu⟩ => ?_⟩
  subst e
  have hl := hL.1
  show Go _ _ [.dat (encRs rs), .dat (encT fs), .un, .un, .un, .un] _ _
  refine go_seq (go_own0 ?_)
  refine go_seq (go_forP (enc := encF) (n := 0) fs (fun pre Γ' c' => ∃ s3 s4 s5 : Sl, Γ' = [.dat (encRs rs), .dat (encT fs), .own ((backL rs pre).map encF), s3, s4, s5] ∧ c' = 0 ∧ (∀ f ∈ pre, (wayS rs f.1).isSome = true) ∧ pre.length ≤ 100) (ew_tupE (ev_var rfl)) (by decide) ⟨_, _, _, rfl, rfl, by simp, by simp⟩ ?_ ?_)
  · rintro pre f post Γ' c' hsp ⟨s3, s4, s5, rfl, rfl, hno, hpl⟩
    refine ⟨_, _, eg_tup (egs_cons eg_name (egs_cons eg_name egs_nil)) rfl, ?_⟩
    have hf : f ∈ fs := by rw [hsp]; simp
    have hpl2 : pre.length + 1 ≤ 100 := by
      rw [hsp, List.length_append, List.length_cons] at hl
      omega
    have hbl : (backL rs pre).length ≤ pre.length := List.length_filterMap_le _ _
    show Go _ _ [.dat (encRs rs), .dat (encT fs), .own ((backL rs pre).map encF), .dat (.str f.1), .dat (linesD f.2), s5] 0 _
    refine gs_setE (d := encO (wayS rs f.1)) (ev_ws (f := fun rs p => encO (wayS rs p)) (ev_var rfl) (ev_var rfl) hrs (hL.2 f hf).1) (by decide) ?_
    cases hw : wayS rs f.1 with
    | none =>
      refine gs_when (n := 0) (et_test (ev_isN (ev_var rfl))) (by decide) (fun _ => ?_) fun h => by cases h
      refine go_seq (go_raise (n := 0) (E := E) (flds := ["path"]) (xs := [.str f.1]) (xp := fun C es _ => ∃ rs' fs' p, [encRs rs, encT fs] = [encRs rs', encT fs'] ∧ C = T.C_NoPlace ∧ es = [(("path" : Str), PyData.str p)] ∧ noS rs' fs' = some p) (ea_cons0 (ev_var rfl) ea_nil) rfl (Nat.le_of_ble_eq_true rfl) (by decide) (fun G0 H0 h => h) ⟨rs, fs, f.1, rfl, rfl, rfl, ?_⟩)
      unfold noS
      rw [hsp, List.find?_append, List.find?_eq_none.mpr (fun g hg => by rw [hno g hg]; simp), Option.none_or, List.find?_cons, hw]
      rfl
    | some z =>
      refine gs_when (n := 0) (et_test (ev_isN (ev_var rfl))) (by decide) (fun h => by cases h) fun _ => ?_
      refine go_app (n := 0) (P := Eq (encF (z, f.2))) rfl (ev_tupE (ea_cons0 (ev_var rfl) (ea_cons0 (ev_var rfl) ea_nil)) (Nat.le_of_ble_eq_true rfl)) (by rw [List.length_map]; omega) (by decide) fun d hd => ?_
      subst hd
      refine ⟨.dat (.str f.1), .dat (linesD f.2), .dat (encO (some z)), ?_, rfl, fun g hg => ?_, by rw [List.length_append, List.length_singleton]; exact hpl2⟩
      · have e2 : backL rs (pre ++ [f]) = backL rs pre ++ [(z, f.2)] := by
          unfold backL
          rw [List.filterMap_append]
          congr 1
          rw [List.filterMap_cons, hw]
          rfl
        rw [e2, List.map_append]
        rfl
      · rcases List.mem_append.mp hg with hg | hg
        · exact hno g hg
        · rw [List.mem_singleton] at hg
          subst hg
          rw [hw]; rfl
  · rintro Γ' c' ⟨s3, s4, s5, rfl, rfl, hno, _⟩
    refine go_freeze (i := 2) rfl ?_
    refine go_retE (d := sortT (backL rs fs)) (ev_tupleE (el_datE (ev_sortK (el_datE (ev_var rfl)) (sortable (fun g hg => (back_ok hrs hL g hg).2) (back_uq hu))))) (by decide) ⟨rs, fs, rfl, rfl, ?_⟩
    unfold noS
    rw [List.find?_eq_none.mpr fun g hg => by rw [hno g hg]; simp]
    rfl
end
noncomputable def sortFs (fs : List File) : List File := Classical.choose (perm_map (f := encF) (sortK_perm keyT (fs.map encF)))
theorem sortFs_perm (fs : List File) : (sortFs fs).Perm fs := (Classical.choose_spec (perm_map (f := encF) (sortK_perm keyT (fs.map encF)))).1
theorem sortFs_eq (fs : List File) : sortK keyT (fs.map encF) = (sortFs fs).map encF := (Classical.choose_spec (perm_map (f := encF) (sortK_perm keyT (fs.map encF)))).2
def covB (p o : Str) : Bool := !(p == o) && (lbelow p o || lbelow o p)
def covF (qs gs : List File) : Option (Str × Str) := qs.findSome? fun q => (gs.find? fun g => covB q.1 g.1).map fun g => (q.1, g.1)
noncomputable def backF (rs : List Row) (ps : List File) : List File := sortFs (backL rs ps)
noncomputable def allF (rs : List Row) (as ps : List File) : List File := sortFs (as ++ backF rs ps)
structure PreL (rs : List Row) (as ps : List File) : Prop where
  orw : okRs rs
  oas : okB as
  ops : okL0 ps
  ua : UqF as
  up : UqF ps
abbrev preLd : List PyData → Prop := fun ds => ∃ (rs : List Row) (as ps : List File), ds = [encRs rs, encT as, encT ps] ∧ PreL rs as ps
abbrev postLd : List PyData → PyData → Prop := fun ds e => ∃ (rs : List Row) (as ps : List File), ds = [encRs rs, encT as, encT ps] ∧ e = encT (allF rs as ps) ∧ insS rs as = none ∧ noS rs ps = none ∧ covF (backF rs ps) (allF rs as ps) = none
theorem back_in {rs : List Row} {ps : List File} {g : File} (h : g ∈ backF rs ps) : g ∈ backL rs ps := (sortFs_perm _).mem_iff.mp h
theorem all_ok {rs : List Row} {as ps : List File} (h : PreL rs as ps) : ∀ g ∈ as ++ backF rs ps, okP g.1 ∧ okF g := fun g hg => by
  rcases List.mem_append.mp hg with hg | hg
  · exact ⟨h.oas.path g hg, h.oas.ok g hg⟩
  · exact back_ok h.orw h.ops g (back_in hg)
theorem all_uq {rs : List Row} {as ps : List File} (h : PreL rs as ps) (hi : insS rs as = none) : UqF (as ++ backF rs ps) := fun f hf g hg e => by
  have no : ∀ f ∈ as, placeS rs f.1 = none := fun f hf => by
    unfold insS at hi
    have := List.find?_eq_none.mp (Option.map_eq_none_iff.mp hi) f hf
    cases q : placeS rs f.1 with
    | none => rfl
    | some z => rw [q] at this; simp at this
  have yes : ∀ g ∈ backF rs ps, (placeS rs g.1).isSome = true := fun g hg => by
    obtain ⟨f, _, wf, _⟩ := back_mem (back_in hg)
    rw [way_place wf]; rfl
  rcases List.mem_append.mp hf with hf | hf <;> rcases List.mem_append.mp hg with hg | hg
  · exact h.ua f hf g hg e
  · have := yes g hg
    rw [← e, no f hf] at this; cases this
  · have := yes f hf
    rw [e, no g hg] at this; cases this
  · exact back_uq h.up f (back_in hf) g (back_in hg) e
theorem back_len {rs : List Row} {ps : List File} (h : okL0 ps) : (backF rs ps).length ≤ 100 := by
  unfold backF
  rw [(sortFs_perm _).length_eq]
  exact Nat.le_trans (List.length_filterMap_le _ _) h.1
theorem all_len {rs : List Row} {as ps : List File} (h : PreL rs as ps) : (allF rs as ps).length ≤ 200 := by
  unfold allF
  rw [(sortFs_perm _).length_eq, List.length_append]
  have := back_len (rs := rs) h.ops
  have := h.oas.len
  omega
section
variable {P : Program} {w : World} {K : PySem.W.Frag} {mg : Str → Option Value} {base : Heap} [hPF : ErX.PF P]
def xpLd (T : Tx K mg) : List PyData → Addr → List (Str × PyData) → Prop := fun ds C es => ∃ (rs : List Row) (as ps : List File), ds = [encRs rs, encT as, encT ps] ∧
  ((∃ p, C = T.C_Inside ∧ es = [(("path" : Str), PyData.str p)] ∧ insS rs as = some p) ∨
   (∃ p, C = T.C_NoPlace ∧ es = [(("path" : Str), PyData.str p)] ∧ insS rs as = none ∧ noS rs ps = some p) ∨
   ∃ p o, C = T.C_Covered ∧ es = [(("other" : Str), PyData.str o), (("path" : Str), PyData.str p)] ∧ insS rs as = none ∧ noS rs ps = none ∧ covF (backF rs ps) (allF rs as ps) = some (p, o))
set_option maxHeartbeats 1000000 in
theorem ok_laid (T : Tx K mg) : FnG P w K mg base (L2.CX P w) 6 T.a_laid T.d_laid ["rows", "beside", "part"] (spX preLd postLd (xpLd T)) := by
  have G_check_beside := ok_check_beside (P := P) (w := w) (base := base) T
  have G_led_back := ok_led_back (P := P) (w := w) (base := base) T
  have G_lies_below := ok_lies_below (P := P) (w := w) (base := base) T
  refine ok_raise T.F_laid sc_laid (fun ds ⟨rs, as, ps, e, _⟩ => by rw [e]; rfl) fun cdv A fs s H E hG hr => ⟨_, (pss_cons (ps_expr (pc_call G_check_beside hG (hr.mono (by first | decide | omega)) (by rfl) T.g_check_beside T.F_check_beside.kp T.b_check_beside .nil (passes_call (takes_of rfl rfl rfl rfl) fun _ _ _ _ h => h) (pa_cons (pv 0) (pa_cons (pv 1) pa_nil))))
        (pss_cons (ps_set (i := 3) sc_laid.nd rfl (.inl rfl) (pc_call G_led_back hG (hr.mono (by first | decide | omega)) (by rfl) T.g_led_back T.F_led_back.kp T.b_led_back .nil (passes_call (takes_of rfl rfl rfl rfl) fun _ _ _ _ h => h) (pa_cons (pv 0) (pa_cons (pv 2) pa_nil))))
        (pss_cons (ps_set (i := 4) sc_laid.nd rfl (.inl rfl) (pe_callTy (callK_tuple (K := K) rfl) (by rfl) T.m_tuple bt_tuple (pa_cons (pe_callB (crK_sortedU (K := K) rfl (u70 hr)) (by rfl) T.m_sorted bt_sorted (pa_cons (pe_op (opK_catA (K := K) rfl) (pv 1) (pv 3)) pa_nil)) pa_nil)))
        (pss_cons (ps_for (passes_of rfl) rfl (piK_tup (K := K) rfl (pv 3)) (pg_tup (by rfl) (pgs_cons (pg_name (i := 5) sc_laid.nd rfl (.inl rfl)) (pgs_cons (pg_name (i := 6) sc_laid.nd rfl (.inl rfl)) pgs_nil))) (pss_one (ps_for (passes_of rfl) rfl (piK_tup (K := K) rfl (pv 4)) (pg_tup (by rfl) (pgs_cons (pg_name (i := 7) sc_laid.nd rfl (.inl rfl)) (pgs_cons (pg_name (i := 8) sc_laid.nd rfl (.inl rfl)) pgs_nil))) (pss_one (ps_if (PW.pt (pw_and (pt_cmpR op_ne (pv 5) (pv 7) (nomark _)) (pw_and1 (PW.pt (pw_or (pt_val (pc_call G_lies_below hG (hr.mono (by first | decide | omega)) (by rfl) T.g_lies_below T.F_lies_below.kp T.b_lies_below .nil pass0 (pa_cons (pv 5) (pa_cons (pv 7) pa_nil)))) (pw_or1 (pt_val (pc_call G_lies_below hG (hr.mono (by first | decide | omega)) (by rfl) T.g_lies_below T.F_lies_below.kp T.b_lies_below .nil pass0 (pa_cons (pv 7) (pa_cons (pv 5) pa_nil)))))))))) (pss_one (ps_raise rfl (takes_of rfl rfl rfl rfl) (pmk_oex T.oex_Covered T.i_Covered T.t_Covered (T.in_Covered _ _ _ hPF) (hr.mono (by first | decide | omega)) T.b_Covered .nil pass0 (by rfl) T.g_Covered (pa_cons (pv 5) (pa_cons (pv 7) pa_nil))))) pss_nil)))))
        (pss_one (ps_ret (pv 4))))))), fun ds ⟨rs, as, ps, e, hp⟩ => ?_⟩
  subst e
  show Go _ _ [.dat (encRs rs), .dat (encT as), .dat (encT ps), .un, .un, .un, .un, .un, .un] _ _
  refine go_seq (go_dropXP (n := 0) (evx_call (E := E) (xp := fun C es _ => xpLd T [encRs rs, encT as, encT ps] C es) (ea_cons0 (ev_var rfl) (ea_cons0 (ev_var rfl) ea_nil)) ⟨rs, as, rfl, hp.orw, hp.oas⟩ (fun G0 H0 h => h) ?_) (by decide) fun d hd => ?_)
  · rintro C es c ⟨rs', fs', p, e, rfl, rfl, hi⟩
    simp only [List.cons.injEq, and_true] at e
    rw [← encRs_inj e.1, ← encT_inj e.2] at hi
    exact ⟨rs, as, ps, rfl, .inl ⟨p, rfl, rfl, hi⟩⟩
  obtain ⟨rs', fs', e, rfl, hi⟩ := hd
  simp only [List.cons.injEq, and_true] at e
  rw [← encRs_inj e.1, ← encT_inj e.2] at hi
  clear e rs' fs'
  refine go_seq (go_setX (n := 0) (P := fun d => d = encT (backF rs ps) ∧ noS rs ps = none) (EvX.imp (evx_call (E := E) (xp := fun C es _ => xpLd T [encRs rs, encT as, encT ps] C es) (ea_cons0 (ev_var rfl) (ea_cons0 (ev_var rfl) ea_nil)) ⟨rs, ps, rfl, hp.orw, hp.ops, hp.up⟩ (fun G0 H0 h => h) ?_) ?_) (by decide) fun d hd => ?_)
  · rintro C es c ⟨rs', fs', p, e, rfl, rfl, hn⟩
    simp only [List.cons.injEq, and_true] at e
    rw [← encRs_inj e.1, ← encT_inj e.2] at hn
    exact ⟨rs, as, ps, rfl, .inr (.inl ⟨p, rfl, rfl, hi, hn⟩)⟩
  · rintro d ⟨rs', fs', e, rfl, hn⟩
    simp only [List.cons.injEq, and_true] at e
    rw [← encRs_inj e.1, ← encT_inj e.2] at hn
    refine ⟨?_, hn⟩
    rw [← encRs_inj e.1, ← encT_inj e.2]
    unfold sortT backF encT
    rw [sortFs_eq]
  obtain ⟨rfl, hn⟩ := hd
  have hbl := back_len (rs := rs) hp.ops
  have hal := hp.oas.len
  have hall := all_len hp
  refine gs_setE (d := encT (allF rs as ps)) (ev_tupleE (el_datE (Ev.is (ev_sortKU (key := keyT) (ds := (as ++ backF rs ps).map encF) (Ev.is (ev_op0 (ev_var rfl) (ev_var rfl) (rd_catA (by rw [List.length_map, List.length_map]; omega))) (by rw [List.map_append])) (sortable (fun g hg => (all_ok hp g hg).2) (all_uq hp hi))) (by unfold allF; rw [sortFs_eq])))) (by decide) ?_
  show Go _ _ [.dat (encRs rs), .dat (encT as), .dat (encT ps), .dat (encT (backF rs ps)), .dat (encT (allF rs as ps)), .un, .un, .un, .un] _ _
  have okg : ∀ g ∈ allF rs as ps, okP g.1 := fun g hg => (all_ok hp g ((sortFs_perm _).mem_iff.mp hg)).1
  have okq : ∀ g ∈ backF rs ps, okP g.1 := fun g hg => (back_ok hp.orw hp.ops g (back_in hg)).1
  refine go_seq (go_forP (enc := encF) (n := 0) (backF rs ps) (fun pre Γ' c' => ∃ s5 s6 s7 s8 : Sl, Γ' = [.dat (encRs rs), .dat (encT as), .dat (encT ps), .dat (encT (backF rs ps)), .dat (encT (allF rs as ps)), s5, s6, s7, s8] ∧ c' = 0 ∧ covF pre (allF rs as ps) = none) (ew_tupE (ev_var rfl)) (by decide) ⟨_, _, _, _, rfl, rfl, rfl⟩ ?_ ?_)
  · rintro pre q post Γ' c' hsp ⟨s5, s6, s7, s8, rfl, rfl, hc⟩
    have hq : q ∈ backF rs ps := by rw [hsp]; simp
    refine ⟨_, _, eg_tup (egs_cons eg_name (egs_cons eg_name egs_nil)) rfl, ?_⟩
    show Go _ _ [.dat (encRs rs), .dat (encT as), .dat (encT ps), .dat (encT (backF rs ps)), .dat (encT (allF rs as ps)), .dat (.str q.1), .dat (linesD q.2), s7, s8] 0 _
    refine go_forP (enc := encF) (n := 0) (allF rs as ps) (fun pre2 Γ' c' => ∃ s7 s8 : Sl, Γ' = [.dat (encRs rs), .dat (encT as), .dat (encT ps), .dat (encT (backF rs ps)), .dat (encT (allF rs as ps)), .dat (.str q.1), .dat (linesD q.2), s7, s8] ∧ c' = 0 ∧ ∀ g ∈ pre2, covB q.1 g.1 = false) (ew_tupE (ev_var rfl)) (by decide) ⟨_, _, rfl, rfl, by simp⟩ ?_ ?_
    · rintro pre2 g post2 Γ' c' hsp2 ⟨s7, s8, rfl, rfl, hg2⟩
      have hg : g ∈ allF rs as ps := by rw [hsp2]; simp
      refine ⟨_, _, eg_tup (egs_cons eg_name (egs_cons eg_name egs_nil)) rfl, ?_⟩
      show Go _ _ [.dat (encRs rs), .dat (encT as), .dat (encT ps), .dat (encT (backF rs ps)), .dat (encT (allF rs as ps)), .dat (.str q.1), .dat (linesD q.2), .dat (.str g.1), .dat (linesD g.2)] 0 _
      have l1 := (okq q hq).2
      have l2 := (okg g hg).2
      refine go_if (n := 0) (PB := Eq (covB q.1 g.1)) (et_and0 (et_test (ev_op0 (ev_var rfl) (ev_var rfl) rd_neS)) fun _ => et_or0 (et_B (ev_lb (ev_var rfl) (ev_var rfl) (by omega) (by omega))) fun _ => et_B (ev_lb (ev_var rfl) (ev_var rfl) (by omega) (by omega))) (by decide) (fun h => ?_) fun h => ?_
      · refine go_raise (n := 0) (E := E) (flds := ["path", "other"]) (xs := [.str q.1, .str g.1]) (xp := fun C es _ => xpLd T [encRs rs, encT as, encT ps] C es) (ea_cons0 (ev_var rfl) (ea_cons0 (ev_var rfl) ea_nil)) rfl (Nat.le_of_ble_eq_true rfl) (by decide) (fun G0 H0 h => h) ⟨rs, as, ps, rfl, .inr (.inr ⟨q.1, g.1, rfl, rfl, hi, hn, ?_⟩)⟩
        have hfind : (allF rs as ps).find? (fun x => covB q.1 x.1) = some g := by
          rw [hsp2, List.find?_append, List.find?_eq_none.mpr (fun x hx => by rw [hg2 x hx]; simp), Option.none_or, List.find?_cons, h]
        unfold covF at hc ⊢
        rw [hsp, List.findSome?_append, hc, Option.none_or, List.findSome?_cons, hfind]
        rfl
      · refine go_next ⟨_, _, rfl, rfl, fun x hx => ?_⟩
        rcases List.mem_append.mp hx with hx | hx
        · exact hg2 x hx
        · rw [List.mem_singleton] at hx
          subst hx
          exact h
    · rintro Γ' c' ⟨s7, s8, rfl, rfl, hg2⟩
      refine ⟨_, _, _, _, rfl, rfl, ?_⟩
      unfold covF at hc ⊢
      rw [List.findSome?_append, hc, Option.none_or, List.findSome?_cons, List.find?_eq_none.mpr (fun x hx => by rw [hg2 x hx]; simp)]
      rfl
  · rintro Γ' c' ⟨s5, s6, s7, s8, rfl, rfl, hc⟩
    exact go_retE (ev_var rfl) (by decide) ⟨rs, as, ps, rfl, rfl, hi, hn, hc⟩
end
/-! ### what is laid together -/
theorem in_out (rs : List Row) (fs : List File) : insS rs (outS rs fs) = none := by
  unfold insS
  rw [List.find?_eq_none.mpr fun f hf => ?_]
  · rfl
  · have h := (List.mem_filter.mp hf).2
    rw [isN_O] at h
    cases e : (placeS rs f.1).isSome with
    | false => simp
    | true => rw [e] at h; cases h
def Lead (p : Str) : Prop := p ≠ "" ∧ (TL.tl p).getLast? ≠ some 47
theorem place_ne {rs : List Row} {p z : Str} (hp : Lead p) (h : placeS rs p = some z) : z ≠ "" := by
  intro e
  obtain ⟨r, t, _, hr, et, fr, tr, cr⟩ := place_cases h
  rcases cr with ⟨h1, h2, h3⟩ | ⟨h1, h2⟩
  · exact h2 (h3.symm.trans e)
  · have hj : joinedS t (restS p r.1) = "" := h2.symm.trans e
    have hr0 : restS p r.1 = "" := by
      unfold joinedS at hj
      split at hj
      · exact hj
      · have := congrArg TL.tl hj
        rw [tl_join, tl_empty] at this
        simp at this
    have hq := join_rest fr h1
    rw [hr0] at hq
    unfold joinedS at hq
    split at hq
    · exact hp.1 hq
    · have := congrArg TL.tl hq
      rw [tl_join, tl_empty] at this
      exact hp.2 (by rw [this]; simp)
theorem no_tk {rs : List Row} {fs gs : List File} (hD : Drawn rs) (hp : ∀ f ∈ fs, Lead f.1) (hg : ∀ g ∈ gs, g ∈ tk rs fs) : noS rs gs = none := by
  unfold noS
  rw [List.find?_eq_none.mpr fun g h => ?_]
  · rfl
  · obtain ⟨f, hf, e, _⟩ := tk_mem (hg g h)
    rw [place_way hD.uniq hD.apart (hp f hf).1 (place_ne (hp f hf) e) e]
    simp
def inF (rs : List Row) (fs : List File) : List File := fs.filter fun f => (placeS rs f.1).isSome
theorem back_tk {rs : List Row} (hD : Drawn rs) : ∀ {fs : List File}, (∀ f ∈ fs, Lead f.1) → backL rs (tk rs fs) = inF rs fs
  | [], _ => rfl
  | f :: fs, hp => by
    have ih := back_tk hD (fs := fs) fun g hg => hp g (List.mem_cons_of_mem _ hg)
    unfold tk inF backL at ih ⊢
    cases e : placeS rs f.1 with
    | none =>
      rw [List.filterMap_cons_none (by rw [e]; rfl), List.filter_cons_of_neg (by rw [e]; simp)]
      exact ih
    | some z =>
      have hf := hp f List.mem_cons_self
      rw [List.filterMap_cons_some (b := (z, f.2)) (by rw [e]; rfl), List.filter_cons_of_pos (by rw [e]; rfl), List.filterMap_cons_some (b := f) (by dsimp only; rw [place_way hD.uniq hD.apart hf.1 (place_ne hf e) e]; rfl), ih]
theorem back_perm {rs : List Row} {fs gs : List File} (hD : Drawn rs) (hp : ∀ f ∈ fs, Lead f.1) (h : gs.Perm (tk rs fs)) : (backF rs gs).Perm (inF rs fs) := by
  have h1 : (backL rs gs).Perm (backL rs (tk rs fs)) := h.filterMap _
  rw [back_tk hD hp] at h1
  exact (sortFs_perm _).trans h1
theorem out_in_perm (rs : List Row) (fs : List File) : (outS rs fs ++ inF rs fs).Perm fs := by
  have e : inF rs fs = fs.filter fun f => !isN (encO (placeS rs f.1)) := List.filter_congr fun f _ => by rw [isN_O, Bool.not_not]
  rw [e]
  exact List.filter_append_perm _ fs
theorem all_self {rs : List Row} {fs gs : List File} (hD : Drawn rs) (hp : ∀ f ∈ fs, Lead f.1) (h : gs.Perm (tk rs fs)) : (allF rs (outS rs fs) gs).Perm fs :=
  (sortFs_perm _).trans ((List.Perm.append_left _ (back_perm hD hp h)).trans (out_in_perm rs fs))
def NoBel (fs : List File) : Prop := ∀ f ∈ fs, ∀ g ∈ fs, covB f.1 g.1 = false
theorem cov_none {qs gs : List File} (h : ∀ q ∈ qs, ∀ g ∈ gs, covB q.1 g.1 = false) : covF qs gs = none := by
  unfold covF
  rw [List.findSome?_eq_none_iff]
  intro q hq
  rw [List.find?_eq_none.mpr fun g hg => by rw [h q hq g hg]; simp]
  rfl
theorem cov_self {rs : List Row} {fs gs : List File} (hD : Drawn rs) (hp : ∀ f ∈ fs, Lead f.1) (h : gs.Perm (tk rs fs)) (hn : NoBel fs) : covF (backF rs gs) (allF rs (outS rs fs) gs) = none :=
  cov_none fun q hq g hg => hn q (List.mem_filter.mp ((back_perm hD hp h).mem_iff.mp hq)).1 g ((all_self hD hp h).mem_iff.mp hg)
theorem cov_of {qs gs : List File} (h : covF qs gs = none) : ∀ q ∈ qs, ∀ g ∈ gs, covB q.1 g.1 = false := fun q hq g hg => by
  unfold covF at h
  have h1 := List.findSome?_eq_none_iff.mp h q hq
  cases e : gs.find? (fun g => covB q.1 g.1) with
  | some x => rw [e] at h1; cases h1
  | none => exact Bool.eq_false_iff.mpr (List.find?_eq_none.mp e g hg)
theorem Wood.noBel {ps : List Str} {fs : List File} (h : Wood ps fs) (hp : ∀ p ∈ ps, p ≠ "") : NoBel fs := fun f hf g hg => by
  have e1 : lbelow f.1 g.1 = false := by
    unfold lbelow
    rw [h.apart f hf g hg, Bool.or_false]
    exact beq_eq_false_iff_ne.mpr (hp _ (h.path g hg))
  have e2 : lbelow g.1 f.1 = false := by
    unfold lbelow
    rw [h.apart g hg f hf, Bool.or_false]
    exact beq_eq_false_iff_ne.mpr (hp _ (h.path f hf))
  unfold covB
  rw [e1, e2]
  simp
theorem sortFs_congr {as bs : List File} (hok : ∀ f ∈ bs, okF f) (hu : UqF bs) (p : as.Perm bs) : sortFs as = sortFs bs := by
  have h := sortK_congr (key := keyT) (ds := bs.map encF) (es := as.map encF) (sortable hok hu).inj (p.map encF)
  rw [sortFs_eq, sortFs_eq] at h
  exact map_inj' (fun _ _ e => encF_inj e) h
end K23

namespace K23
open PySem PySem.Spec PyProof.Rows L2 B
/-! ### how expressions are read off -/
local macro_rules | `(tactic| walk_at "ev") => `(tactic| first
  | exact ea_nil
  | (apply ea_cons0 <;> walk_at "ev")
  | exact ev_int | exact ev_str | exact ev_bl | exact ev_non | exact ev_var rfl | exact ev_dnew
  | (apply ev_lstE <;> walk_at "ev")
  | (apply ev_tupE <;> walk_at "ev")
  | (apply ev_disp1E <;> walk_at "ev")
  | (apply ev_neg <;> walk_at "ev")
  | (apply ev_add0 <;> walk_at "ev")
  | (apply ev_sub0 <;> walk_at "ev")
  | (apply ev_cmp0 <;> walk_at "ev")
  | (apply ev_pow0 <;> walk_at "ev")
  | (apply ev_isi0 isi_str <;> walk_at "ev")
  | (apply ev_isi0 isi_tuple <;> walk_at "ev")
  | (apply ev_isi0 isi_bool <;> walk_at "ev")
  | (apply ev_isi0 isi_int <;> walk_at "ev")
  | (apply et_B <;> walk_at "ev")
  | (apply et_test <;> walk_at "ev")
  | (apply et_not <;> walk_at "ev")
  | exact Nat.le_of_ble_eq_true rfl
  | exact ⟨by decide, by decide, by decide⟩)
/-! ### drawn places are paths -/
def zOf (f t p : Str) : Str := if (p == f) = true then t else joinedS t (restS p f)
def zGood (f t p : Str) : Bool := !fits p (f, some t) || (((p == f) && (t == "")) || (pathD (.str (zOf f t p)) && (PyData.strOk (zOf f t p) && decide ((zOf f t p).length ≤ 100))))
theorem z_all : (FOLD.all fun f => TARG.all fun t => PATHS.all fun p => zGood f t p) = true := by decide +kernel
theorem paths_lead : ∀ p ∈ PATHS, Lead p := by
  have h : ∀ p ∈ PATHS, p ≠ "" ∧ (TL.tl p).getLast? ≠ some 47 := by decide +kernel
  exact h
theorem paths_path : ∀ p ∈ PATHS, pathD (.str p) = true := by decide +kernel
theorem paths_nodup : PATHS.Nodup := by decide +kernel
theorem lns_line : ∀ l ∈ LNS, lineD (.str l) = true := by decide +kernel
theorem place_fin {rs : List Row} {p z : Str} (hD : Drawn rs) (hp : p ∈ PATHS) (h : placeS rs p = some z) : pathD (.str z) = true ∧ okS z := by
  obtain ⟨r, t, _, hr, et, fr, tr, cr⟩ := place_cases h
  have g : zGood r.1 t p = true := List.all_eq_true.mp (List.all_eq_true.mp (List.all_eq_true.mp z_all r.1 (hD.fold r hr)) t (hD.targ r hr t et)) p hp
  have fr' : fits p (r.1, some t) = true := fr
  unfold zGood at g
  rw [fr', Bool.not_true, Bool.false_or] at g
  have ez : ((p == r.1) && (t == "")) = false ∧ zOf r.1 t p = z := by
    unfold zOf
    rcases cr with ⟨k1, k2, k3⟩ | ⟨k1, k2⟩
    · rw [if_pos (beq_iff_eq.mpr k1), k3, beq_eq_false_iff_ne.mpr k2, Bool.and_false]; exact ⟨rfl, rfl⟩
    · rw [if_neg (fun q => k1 (beq_iff_eq.mp q)), k2, beq_eq_false_iff_ne.mpr k1]; exact ⟨rfl, rfl⟩
  rw [ez.1, Bool.false_or, ez.2, Bool.and_eq_true, Bool.and_eq_true, decide_eq_true_eq] at g
  exact ⟨g.1, g.2.1, g.2.2⟩
/-! ### trees as data -/
theorem eqvAll_files : ∀ xs ys : List File, PyData.eqvAll (xs.map encF) (ys.map encF) = decide (xs = ys)
  | [], [] => by simp [PyData.eqvAll]
  | [], _ :: _ => by simp [PyData.eqvAll]
  | _ :: _, [] => by simp [PyData.eqvAll]
  | x :: xs, y :: ys => by
    have e : PyData.eqv (encF x) (encF y) = decide (x = y) := by
      unfold encF linesD
      rw [PyData.eqv, PyData.eqvAll, PyData.eqvAll, PyData.eqvAll, eqv_str, PyData.eqv, Rw.eqvAll_strs, Bool.and_true, Bool.eq_iff_iff]
      obtain ⟨a, b⟩ := x
      obtain ⟨c, d⟩ := y
      simp
    rw [List.map_cons, List.map_cons, PyData.eqvAll, eqvAll_files xs ys, e, Bool.eq_iff_iff]
    simp
theorem eqv_tree {xs ys : List File} : PyData.eqv (encT xs) (encT ys) = decide (xs = ys) := by unfold encT; rw [PyData.eqv, eqvAll_files]
theorem tree_shp {fs : List File} (h : ∀ f ∈ fs, okF f) : SeqAt.shaped (encT fs) = true := (shp_tup (n := 2) fun d hd => by
  obtain ⟨f, hf, rfl⟩ := List.mem_map.mp hd
  exact encF_shp (h f hf)).shaped
theorem tree_sz {fs : List File} (h : ∀ f ∈ fs, okF f) (hl : fs.length ≤ 1000) : szTr (encT fs) = true := by
  show (decide ((fs.map encF).length ≤ 1000) && (fs.map encF).all szFl) = true
  rw [List.length_map, decide_eq_true hl, Bool.true_and, List.all_eq_true]
  intro d hd
  obtain ⟨f, hf, rfl⟩ := List.mem_map.mp hd
  have hk := h f hf
  have h1 : sz1 (.str f.1) = true := by
    show (decide (f.1.length ≤ 1000) && PyData.strOk f.1) = true
    rw [decide_eq_true (Nat.le_trans hk.path.2 (by decide)), hk.path.1]; rfl
  have h2 : szLs (linesD f.2) = true := by
    show (decide ((f.2.map PyData.str).length ≤ 1000) && (f.2.map PyData.str).all sz1) = true
    rw [List.length_map, decide_eq_true (Nat.le_trans hk.many (by decide)), Bool.true_and, List.all_eq_true]
    intro d hd
    obtain ⟨l, hl, rfl⟩ := List.mem_map.mp hd
    show (decide (l.length ≤ 1000) && PyData.strOk l) = true
    rw [decide_eq_true (Nat.le_trans (hk.lines l hl).2 (by decide)), (hk.lines l hl).1]; rfl
  show ([PyData.str f.1, linesD f.2].all szLs) = true
  rw [List.all_cons, List.all_cons, List.all_nil, h2]
  show (sz1 (.str f.1) && (true && true)) = true
  rw [h1]; rfl
abbrev Fresh (fs : List File) : Prop := fs.Pairwise (fun f g => f.1 ≠ g.1)
theorem Fresh.perm {fs gs : List File} (h : Fresh fs) (p : gs.Perm fs) : Fresh gs := (p.pairwise_iff fun {a b} (z : a.1 ≠ b.1) e => z e.symm).mpr h
theorem asc_paths {fs : List File} (h : Fresh fs) (pw : AscF fs) : (fs.map (·.1)).Pairwise ltS := by
  unfold AscF at pw
  rw [List.pairwise_map] at pw ⊢
  refine (pw.and h).imp fun {r s} ⟨h1, h2⟩ => ?_
  have h3 := ltK_no.mp h1
  rcases ltS_or h2 with z | z
  · exact z
  · exact absurd (.inr ⟨rfl, z⟩) h3
theorem tree_of {fs : List File} (hp : ∀ f ∈ fs, pathD (.str f.1) = true) (hl : ∀ f ∈ fs, ∀ l ∈ f.2, lineD (.str l) = true) (hf : Fresh fs) (ha : AscF fs) (hb : ∀ f ∈ fs, ∀ g ∈ fs, liesB f.1 g.1 = false) : isTreeD (encT fs) = true := by
  show ((fs.map encF).all fileD && adjB ((fs.map encF).map pOf)) = true
  have e : (fs.map encF).map pOf = fs.map (·.1) := by rw [List.map_map]; rfl
  rw [e, Bool.and_eq_true, List.all_eq_true]
  constructor
  · intro d hd
    obtain ⟨f, hf, rfl⟩ := List.mem_map.mp hd
    show (pathD (.str f.1) && (f.2.map PyData.str).all lineD) = true
    rw [hp f hf, Bool.true_and, List.all_eq_true]
    intro d hd
    obtain ⟨l, hl', rfl⟩ := List.mem_map.mp hd
    exact hl f hf l hl'
  · refine (adj_iff _ fun p hp' => ?_).mpr ⟨asc_paths hf ha, fun a ha b hb' => ?_⟩
    · obtain ⟨f, hf, rfl⟩ := List.mem_map.mp hp'
      exact hp f hf
    · obtain ⟨f, hf, rfl⟩ := List.mem_map.mp ha
      obtain ⟨g, hg, rfl⟩ := List.mem_map.mp hb'
      exact hb f hf g hg
theorem sort_asc (fs : List File) : AscF (sortFs fs) := by unfold AscF; rw [← sortFs_eq]; exact sortK_pw _ _
theorem sort_self {fs : List File} (hok : ∀ f ∈ fs, okF f) (hu : UqF fs) (ha : AscF fs) : sortFs fs = fs := by
  have h := sortK_eq (key := keyT) (sortable hok hu).inj (List.Perm.refl _) ha
  rw [sortFs_eq] at h
  exact (map_inj' (fun _ _ e => encF_inj e) h).symm
theorem AscF.filter {fs : List File} (h : AscF fs) (q : File → Bool) : AscF (fs.filter q) := by
  unfold AscF at h ⊢
  rw [List.pairwise_map] at h ⊢
  exact h.filter q
/-- a drawn tree -/
structure Dr (fs : List File) : Prop where
  wood : Wood PATHS fs
  asc : AscF fs
theorem Dr.tok {fs : List File} (h : Dr fs) : okT fs :=
  ⟨Nat.le_trans h.wood.len (by decide), fun f hf => ⟨h.wood.ok (fun p hp => let z := (paths_ok p hp).1; ⟨z.1, Nat.le_trans z.2 (by decide)⟩) f hf, okP_of (paths_ok _ (h.wood.path f hf)).1⟩, h.wood.uniq⟩
theorem Dr.lead {fs : List File} (h : Dr fs) : ∀ f ∈ fs, Lead f.1 := fun f hf => paths_lead _ (h.wood.path f hf)
theorem tk_fresh {rs : List Row} {fs : List File} (hD : Drawn rs) (h : Fresh fs) : Fresh (tk rs fs) := by
  unfold tk Fresh
  rw [List.pairwise_filterMap]
  refine h.imp fun {a b} z u hu v hv e => z ?_
  cases ha : placeS rs a.1 with
  | none => rw [ha] at hu; cases hu
  | some x =>
    cases hb : placeS rs b.1 with
    | none => rw [hb] at hv; cases hv
    | some y =>
      rw [ha] at hu; rw [hb] at hv; cases hu; cases hv
      have e' : x = y := e
      subst e'
      exact place_inj hD.uniq hD.apart ha hb
noncomputable def partF (rs : List Row) (fs : List File) : List File := sortFs (tk rs fs)
theorem part_perm (rs : List Row) (fs : List File) : (partF rs fs).Perm (tk rs fs) := sortFs_perm _
theorem taken_eq (rs : List Row) (fs : List File) : takenD rs fs = encT (partF rs fs) := by unfold takenD encT partF; rw [sortFs_eq]
theorem part_mem {rs : List Row} {fs : List File} {g : File} (h : g ∈ partF rs fs) : ∃ f ∈ fs, placeS rs f.1 = some g.1 ∧ g.2 = f.2 := tk_mem ((part_perm rs fs).mem_iff.mp h)
theorem part_okF {rs : List Row} {fs : List File} (hD : Drawn rs) (h : Dr fs) : ∀ g ∈ partF rs fs, okF g ∧ okS g.1 ∧ pathD (.str g.1) = true := fun g hg => by
  obtain ⟨f, hf, e1, e2⟩ := part_mem hg
  obtain ⟨z1, z2⟩ := place_fin hD (h.wood.path f hf) e1
  exact ⟨tk_ok hD.ok h.tok g ((part_perm rs fs).mem_iff.mp hg), z2, z1⟩
theorem part_uq {rs : List Row} {fs : List File} (hD : Drawn rs) (h : Dr fs) : UqF (partF rs fs) := fun f hf g hg => tk_uniq hD.uniq hD.apart h.tok f ((part_perm rs fs).mem_iff.mp hf) g ((part_perm rs fs).mem_iff.mp hg)
theorem part_len {rs : List Row} {fs : List File} (h : Dr fs) : (partF rs fs).length ≤ 8 := by
  rw [(part_perm rs fs).length_eq]; exact Nat.le_trans (List.length_filterMap_le _ _) h.wood.len
theorem part_okT {rs : List Row} {fs : List File} (hD : Drawn rs) (h : Dr fs) : okT (partF rs fs) :=
  ⟨Nat.le_trans (part_len h) (by decide), fun g hg => ⟨(part_okF hD h g hg).1, okP_of (part_okF hD h g hg).2.1⟩, part_uq hD h⟩
/-- what is below another one's place lies below the other one -/
theorem place_below {rs : List Row} {p q y z : Str} (hD : Drawn rs) (hq0 : q ≠ "") (hy0 : y ≠ "") (hp : placeS rs p = some z) (hq : placeS rs q = some y) (h : liesB z y = true) : liesB p q = true := by
  obtain ⟨r, t, _, hr, et, fr, tr, cr⟩ := place_cases hp
  obtain ⟨s, u, _, hs, eu, fs, ts, cs⟩ := place_cases hq
  have tz : tfits z u = true := by
    unfold tfits lbelow at ts ⊢
    rw [lies_iff] at h
    simp only [Bool.or_eq_true, beq_iff_eq] at ts ⊢
    rcases ts with e | e | e
    · subst e
      exact .inr (.inr (by rw [starts_iff, TL.tl_append, tl_slash]; exact h))
    · exact .inr (.inl e)
    · refine .inr (.inr ?_)
      rw [starts_iff] at e ⊢
      exact e.trans ((List.prefix_append _ _).trans h)
  obtain rfl := tfits_one hD.uniq hD.apart hr hs et eu tr tz
  rw [et] at eu
  cases eu
  rw [lies_iff] at h ⊢
  rcases cs with ⟨k1, k2, k3⟩ | ⟨k1, k2⟩
  · subst k3
    rcases cr with ⟨h1, h2, h3⟩ | ⟨h1, h2⟩
    · rw [h3] at h
      have := h.length_le
      simp at this
      omega
    · have hj := join_rest fr h1
      rw [k1]
      have hn : ¬ (r.1 == ("" : Str)) = true := fun e => hq0 (k1.trans (beq_iff_eq.mp e))
      unfold joinedS at hj
      rw [if_neg hn] at hj
      rw [hj, tl_join]
      exact ⟨_, by rw [List.append_assoc]; rfl⟩
  · rcases cr with ⟨h1, h2, h3⟩ | ⟨h1, h2⟩
    · rw [h3, k2] at h
      unfold joinedS at h
      split at h
      · rename_i e; exact absurd (beq_iff_eq.mp e) h2
      · rw [tl_join] at h
        have := h.length_le
        simp at this
        omega
    · have j1 := join_rest fr h1
      have j2 := join_rest fs k1
      have hrest : (TL.tl (restS q r.1) ++ [47]) <+: TL.tl (restS p r.1) := by
        rw [h2, k2] at h
        unfold joinedS at h
        split at h
        · exact h
        · rw [tl_join, tl_join, List.append_assoc] at h
          have h' := (List.prefix_append_right_inj _).mp h
          rw [List.cons_append, List.cons_prefix_cons] at h'
          exact h'.2
      generalize restS q r.1 = a at *
      generalize restS p r.1 = b at *
      rw [j1, j2]
      unfold joinedS
      split
      · exact hrest
      · rw [tl_join, tl_join, List.append_assoc, List.prefix_append_right_inj, List.cons_append, List.cons_prefix_cons]
        exact ⟨rfl, hrest⟩
theorem Wood.noLies {ps : List Str} {fs : List File} (h : Wood ps fs) : ∀ f ∈ fs, ∀ g ∈ fs, liesB f.1 g.1 = false := h.apart
theorem part_tree {rs : List Row} {fs : List File} (hD : Drawn rs) (h : Dr fs) : isTreeD (encT (partF rs fs)) = true := by
  refine tree_of (fun g hg => (part_okF hD h g hg).2.2) (fun g hg l hl => ?_) ((tk_fresh hD h.wood.fresh).perm (part_perm rs fs)) (sort_asc _) fun f hf g hg => ?_
  · obtain ⟨f, hf, _, e2⟩ := part_mem hg
    rw [e2] at hl
    exact lns_line l (h.wood.lines f hf l hl)
  · obtain ⟨f', hf', e1, _⟩ := part_mem hf
    obtain ⟨g', hg', k1, _⟩ := part_mem hg
    cases q : liesB f.1 g.1 with
    | false => rfl
    | true =>
      have := place_below hD (h.lead g' hg').1 (place_ne (h.lead g' hg') k1) e1 k1 q
      rw [h.wood.noLies f' hf' g' hg'] at this
      cases this
theorem out_tk (rs : List Row) (fs : List File) : tk rs (outS rs fs) = [] := by
  unfold tk
  rw [List.filterMap_eq_nil_iff]
  intro f hf
  have h := (List.mem_filter.mp hf).2
  rw [isN_O] at h
  cases e : placeS rs f.1 with
  | none => rfl
  | some z => rw [e] at h; cases h
theorem Dr.outs {rs : List Row} {fs : List File} (h : Dr fs) : okT (outS rs fs) ∧ okB (outS rs fs) :=
  have hf : ∀ f ∈ outS rs fs, f ∈ fs := fun f hf => (List.mem_filter.mp hf).1
  have hl : (outS rs fs).length ≤ 8 := Nat.le_trans (List.length_filter_le _ _) h.wood.len
  ⟨⟨Nat.le_trans hl (by decide), fun f hf' => h.tok.ok f (hf f hf'), fun f a g b => h.tok.uniq f (hf f a) g (hf g b)⟩, ⟨Nat.le_trans hl (by decide), fun f hf' => (h.tok.ok f (hf f hf')).2, fun f hf' => (h.tok.ok f (hf f hf')).1⟩⟩
theorem Dr.preL {rs : List Row} {one oth : List File} (hD : Drawn rs) (h1 : Dr one) (h2 : Dr oth) : PreL rs (outS rs one) (partF rs oth) :=
  ⟨hD.ok, h1.outs.2, ⟨Nat.le_trans (part_len h2) (by decide), fun f hf => ⟨(part_okF hD h2 f hf).2.1, (part_okF hD h2 f hf).1⟩⟩, h1.outs.1.uniq, part_uq hD h2⟩
/-- a tree's outside, laid with what is taken of it, is the tree -/
theorem lay_self {rs : List Row} {fs : List File} (hD : Drawn rs) (h : Dr fs) : allF rs (outS rs fs) (partF rs fs) = fs ∧ insS rs (outS rs fs) = none ∧ noS rs (partF rs fs) = none ∧ covF (backF rs (partF rs fs)) (allF rs (outS rs fs) (partF rs fs)) = none := by
  refine ⟨?_, in_out rs fs, no_tk hD h.lead fun g hg => (part_perm rs fs).mem_iff.mp hg, cov_self hD h.lead (part_perm rs fs) (h.wood.noBel fun p hp => (paths_lead p hp).1)⟩
  have pm : (outS rs fs ++ backF rs (partF rs fs)).Perm fs := (List.Perm.append_left _ (back_perm hD h.lead (part_perm rs fs))).trans (out_in_perm rs fs)
  exact (sortFs_congr (fun f hf => (h.tok.ok f hf).1) h.tok.uniq pm).trans (sort_self (fun f hf => (h.tok.ok f hf).1) h.tok.uniq h.asc)
/-- both, laid and told apart again -/
theorem lay_mix {rs : List Row} {one oth : List File} (hD : Drawn rs) (h1 : Dr one) (h2 : Dr oth) (hi : insS rs (outS rs one) = none) (hc : covF (backF rs (partF rs oth)) (allF rs (outS rs one) (partF rs oth)) = none) :
    okT (allF rs (outS rs one) (partF rs oth)) ∧ isTreeD (encT (allF rs (outS rs one) (partF rs oth))) = true ∧ takenD rs (allF rs (outS rs one) (partF rs oth)) = encT (partF rs oth) ∧ outS rs (allF rs (outS rs one) (partF rs oth)) = outS rs one := by
  have hb := back_perm hD h2.lead (part_perm rs oth)
  have hpl := Dr.preL hD h1 h2
  have pm : (allF rs (outS rs one) (partF rs oth)).Perm (outS rs one ++ inF rs oth) := (sortFs_perm _).trans (List.Perm.append_left _ hb)
  have inP : ∀ f ∈ inF rs oth, f ∈ oth ∧ (placeS rs f.1).isSome = true := fun f hf => List.mem_filter.mp hf
  have outP : ∀ f ∈ outS rs one, f ∈ one ∧ placeS rs f.1 = none := fun f hf => by
    have h := List.mem_filter.mp hf
    refine ⟨h.1, ?_⟩
    have h2 := h.2
    rw [isN_O] at h2
    cases e : placeS rs f.1 with
    | none => rfl
    | some z => rw [e] at h2; cases h2
  have mem : ∀ f ∈ allF rs (outS rs one) (partF rs oth), f ∈ outS rs one ∨ f ∈ inF rs oth := fun f hf => List.mem_append.mp (pm.mem_iff.mp hf)
  have hok : ∀ f ∈ allF rs (outS rs one) (partF rs oth), f.1 ∈ PATHS ∧ okF f ∧ okP f.1 ∧ ∀ l ∈ f.2, l ∈ LNS := fun f hf => by
    rcases mem f hf with h | h
    · have := (outP f h).1
      exact ⟨h1.wood.path f this, (h1.tok.ok f this).1, (h1.tok.ok f this).2, h1.wood.lines f this⟩
    · have := (inP f h).1
      exact ⟨h2.wood.path f this, (h2.tok.ok f this).1, (h2.tok.ok f this).2, h2.wood.lines f this⟩
  have fresh : Fresh (outS rs one ++ inF rs oth) := by
    refine List.pairwise_append.mpr ⟨h1.wood.fresh.filter _, h2.wood.fresh.filter _, fun a ha b hb e => ?_⟩
    have := (inP b hb).2
    rw [← e, (outP a ha).2] at this
    cases this
  have hlen : (allF rs (outS rs one) (partF rs oth)).length ≤ 20 := by
    rw [pm.length_eq, List.length_append]
    have a1 : (outS rs one).length ≤ 8 := Nat.le_trans (List.length_filter_le _ _) h1.wood.len
    have a2 : (inF rs oth).length ≤ 8 := Nat.le_trans (List.length_filter_le _ _) h2.wood.len
    omega
  have huq : UqF (allF rs (outS rs one) (partF rs oth)) := fun f hf g hg => all_uq hpl hi f ((sortFs_perm _).mem_iff.mp hf) g ((sortFs_perm _).mem_iff.mp hg)
  have lies : ∀ f ∈ allF rs (outS rs one) (partF rs oth), ∀ g ∈ allF rs (outS rs one) (partF rs oth), liesB f.1 g.1 = false := fun f hf g hg => by
    have cov : ∀ q ∈ inF rs oth, ∀ g ∈ allF rs (outS rs one) (partF rs oth), liesB q.1 g.1 = false ∧ liesB g.1 q.1 = false := fun q hq g hg => by
      have := cov_of hc q (hb.mem_iff.mpr hq) g hg
      unfold covB lbelow at this
      by_cases e : q.1 = g.1
      · rw [e]; exact ⟨no_self' _, no_self' _⟩
      · rw [beq_eq_false_iff_ne.mpr e, Bool.not_false, Bool.true_and, Bool.or_eq_false_iff, Bool.or_eq_false_iff, Bool.or_eq_false_iff] at this
        exact ⟨this.1.2, this.2.2⟩
    rcases mem f hf with h | h
    · rcases mem g hg with k | k
      · exact h1.wood.noLies f (outP f h).1 g (outP g k).1
      · exact (cov g k f hf).2
    · exact (cov f h g hg).1
  refine ⟨⟨hlen, fun f hf => ⟨(hok f hf).2.1, (hok f hf).2.2.1⟩, huq⟩, tree_of (fun f hf => paths_path _ (hok f hf).1) (fun f hf l hl => lns_line l ((hok f hf).2.2.2 l hl)) (fresh.perm pm) (sort_asc _) lies, ?_, ?_⟩
  · rw [taken_eq]
    have e : (tk rs (allF rs (outS rs one) (partF rs oth))).Perm (tk rs oth) := by
      refine (pm.filterMap _).trans ?_
      show (tk rs (outS rs one ++ inF rs oth)).Perm _
      have e1 : tk rs (outS rs one ++ inF rs oth) = tk rs (outS rs one) ++ tk rs (inF rs oth) := List.filterMap_append
      have e2 : tk rs oth = tk rs (inF rs oth) := by
        unfold tk inF
        rw [List.filterMap_filter]
        congr 1
        funext f
        cases placeS rs f.1 <;> rfl
      rw [e1, out_tk, List.nil_append, e2]
    have := sortFs_congr (fun f hf => tk_ok hD.ok h2.tok f hf) (tk_uniq hD.uniq hD.apart h2.tok) e
    unfold partF
    unfold partF at this
    rw [this]
  · have pm2 : (outS rs (allF rs (outS rs one) (partF rs oth))).Perm (outS rs one) := by
      refine (pm.filter _).trans ?_
      rw [List.filter_append]
      have e1 : (outS rs one).filter (fun f => isN (encO (placeS rs f.1))) = outS rs one := by unfold outS; rw [List.filter_filter]; simp
      have e2 : (inF rs oth).filter (fun f => isN (encO (placeS rs f.1))) = [] := List.filter_eq_nil_iff.mpr fun f hf => by
        rw [isN_O, (inP f hf).2]; simp
      rw [e1, e2, List.append_nil]
    have a1 : AscF (outS rs one) := h1.asc.filter _
    have a2 : AscF (outS rs (allF rs (outS rs one) (partF rs oth))) := (sort_asc _).filter _
    have o1 := h1.outs (rs := rs)
    exact ((sort_self (fun f hf => (o1.1.ok f (pm2.mem_iff.mp hf)).1) (fun f hf g hg => o1.1.uniq f (pm2.mem_iff.mp hf) g (pm2.mem_iff.mp hg)) a2).symm.trans (sortFs_congr (fun f hf => (o1.1.ok f hf).1) o1.1.uniq pm2)).trans (sort_self (fun f hf => (o1.1.ok f hf).1) o1.1.uniq a1)
/-! ### by rows that keep all -/
def R1 : List Row := [("", some "")]
theorem r1_drawn : Drawn R1 := by
  refine ⟨by decide, ?_, ?_, ?_, ?_, List.pairwise_singleton _ _⟩
  · intro r hr; rw [List.mem_singleton.mp hr]; decide +kernel
  · intro r hr t ht; rw [List.mem_singleton.mp hr] at ht; cases ht; decide +kernel
  · intro r hr s hs _; rw [List.mem_singleton.mp hr, List.mem_singleton.mp hs]
  · intro r hr s hs hn; rw [List.mem_singleton.mp hr, List.mem_singleton.mp hs] at hn; exact absurd rfl hn
theorem r1_place {p : Str} (h : p ≠ "") : placeS R1 p = some p := by
  have hf : fits p (("", some "") : Row) = true := by unfold fits lbelow; simp
  have hr : rowOf R1 p = some (("", some "") : Row) := by
    show (if fits p (("", some "") : Row) = true then some (("", some "") : Row) else none) = _
    rw [if_pos hf]
  unfold placeS
  rw [hr]
  dsimp only
  rw [if_neg (fun e => h (beq_iff_eq.mp e).symm)]
  rfl
theorem r1_tk : ∀ {fs : List File}, (∀ f ∈ fs, f.1 ≠ "") → tk R1 fs = fs
  | [], _ => rfl
  | f :: fs, h => by
    have ih := r1_tk (fs := fs) fun g hg => h g (List.mem_cons_of_mem _ hg)
    unfold tk at ih ⊢
    rw [List.filterMap_cons_some (b := f) (by rw [r1_place (h f List.mem_cons_self)]; rfl), ih]
theorem r1_taken {rs : List Row} {fs : List File} (hD : Drawn rs) (h : Dr fs) : takenD R1 (partF rs fs) = encT (partF rs fs) := by
  have hn : ∀ g ∈ partF rs fs, g.1 ≠ "" := fun g hg => by
    obtain ⟨f, hf, e, _⟩ := part_mem hg
    exact place_ne (h.lead f hf) e
  rw [taken_eq]
  congr 1
  show sortFs (tk R1 (partF rs fs)) = _
  rw [r1_tk hn]
  exact sort_self (fun f hf => (part_okF hD h f hf).1) (part_uq hD h) (sort_asc _)
/-! ### drawn rows are rows -/
theorem fold_folder : ∀ f ∈ FOLD, Rw.folderD (.str f) = true := by decide +kernel
theorem targ_folder : ∀ f ∈ TARG, Rw.folderD (.str f) = true := by decide +kernel
theorem rows_right {rs : List Row} (hD : Drawn rs) (hA : Asc rs) : Rw.isRowsD (encRs rs) = true ∧ Rw.sz3 (encRs rs) = true := by
  constructor
  · show Rw.isRowsD (.tuple (rs.map encR)) = true
    rw [Rw.isRows_enc, Bool.and_eq_true, Bool.and_eq_true, List.all_eq_true]
    refine ⟨fun d hd => ?_, decide_eq_true hA, decide_eq_true ?_⟩
    · obtain ⟨r, hr, rfl⟩ := List.mem_map.mp hd
      obtain ⟨f, o⟩ := r
      have hf := fold_folder f (hD.fold _ hr)
      cases o with
      | none => show (Rw.folderD (.str f) && (true || _)) = true; rw [hf]; rfl
      | some t => show (Rw.folderD (.str f) && (_ || Rw.folderD (.str t))) = true; rw [hf, targ_folder t (hD.targ _ hr t rfl)]; simp
    · rw [List.pairwise_filterMap]
      exact List.Pairwise.imp_of_mem (fun {r s} hr hs hn t ht u hu => hD.apart r hr s hs hn t u ht hu) hD.fresh
  · show (decide ((rs.map encR).length ≤ 1000) && (rs.map encR).all Rw.sz2) = true
    rw [List.length_map, decide_eq_true (Nat.le_trans hD.len (by decide)), Bool.true_and, List.all_eq_true]
    intro d hd
    obtain ⟨r, hr, rfl⟩ := List.mem_map.mp hd
    have hk := hD.ok.2 r hr
    have s1 : ∀ z : Str, okS z → Rw.sz1 (.str z) = true := fun z hz => by
      show (decide (z.length ≤ 1000) && PyData.strOk z) = true
      rw [decide_eq_true (Nat.le_trans hz.2 (by decide)), hz.1]; rfl
    obtain ⟨f, o⟩ := r
    show ([PyData.str f, encO o].all Rw.sz1) = true
    rw [List.all_cons, List.all_cons, List.all_nil, s1 f hk.1]
    cases o with
    | none => rfl
    | some t => show (true && (Rw.sz1 (.str t) && true)) = true; rw [s1 t hk.2]; rfl
end K23

namespace K23
open PySem PySem.Spec PyProof.Rows L2 B
/-! ### how expressions are read off -/
local macro_rules | `(tactic| walk_at "ev") => `(tactic| first
  | exact ea_nil
  | (apply ea_cons0 <;> walk_at "ev")
  | exact ev_int | exact ev_str | exact ev_bl | exact ev_non | exact ev_var rfl | exact ev_dnew
  | (apply ev_lstE <;> walk_at "ev")
  | (apply ev_tupE <;> walk_at "ev")
  | (apply ev_disp1E <;> walk_at "ev")
  | (apply ev_neg <;> walk_at "ev")
  | (apply ev_add0 <;> walk_at "ev")
  | (apply ev_sub0 <;> walk_at "ev")
  | (apply ev_cmp0 <;> walk_at "ev")
  | (apply ev_pow0 <;> walk_at "ev")
  | (apply ev_isi0 isi_str <;> walk_at "ev")
  | (apply ev_isi0 isi_tuple <;> walk_at "ev")
  | (apply ev_isi0 isi_bool <;> walk_at "ev")
  | (apply ev_isi0 isi_int <;> walk_at "ev")
  | (apply et_B <;> walk_at "ev")
  | (apply et_test <;> walk_at "ev")
  | (apply et_not <;> walk_at "ev")
  | exact Nat.le_of_ble_eq_true rfl
  | exact ⟨by decide, by decide, by decide⟩)
section
variable {P : Program} {w : World} {K : PySem.W.Frag} {mg : Str → Option Value} {base : Heap} [hPF : ErX.PF P]
theorem shOs {o : Option Str} (h : ∀ z, o = some z → PyData.strOk z = true) : SeqAt.shaped (encO o) = true := by
  cases o with
  | none => rfl
  | some z => exact (shp_str (h z rfl)).shaped
set_option maxHeartbeats 400000 in
theorem ok_law_paths_right (T : Tx K mg) : FnG P w K mg base CX0 5 T.a_law_paths_right T.d_law_paths_right ["_law_rows"] (spP (fun ds => ∃ rs, ds = [encRs rs] ∧ Drawn rs) (fun _ e => e = .bool true)) := by
  have G_place := ok_place (P := P) (w := w) (base := base) T
  have G_way_back := ok_way_back (P := P) (w := w) (base := base) T
  have G_law_paths := ok_law_paths (P := P) (w := w) (base := base) T
  refine ok_pure T.F_law_paths_right sc_law_paths_right (fun ds ⟨rs, e, _⟩ => by rw [e]; rfl) fun cdv A fs s H E hG hr => ⟨_, (pss_cons (ps_set (i := 1) sc_law_paths_right.nd rfl (.inl rfl) (pe_lst pa_nil))
        (pss_cons (ps_for PassesOwn.never rfl (piK_list (K := K) rfl (pc_call0 G_law_paths hG (hr.mono (by first | decide | omega)) (by rfl) T.g_law_paths T.F_law_paths.kp T.b_law_paths .nil pass0)) (pg_name (i := 2) sc_law_paths_right.nd rfl (.inl rfl)) (pss_cons (ps_par (i := 3) (j := 4) (by rfl) sc_law_paths_right.nd rfl rfl (by decide) rfl rfl (pa_cons (pc_call G_place hG (hr.mono (by first | decide | omega)) (by rfl) T.g_place T.F_place.kp T.b_place .nil pass0 (pa_cons (pv 0) (pa_cons (pv 2) pa_nil))) (pa_cons (pc_call G_way_back hG (hr.mono (by first | decide | omega)) (by rfl) T.g_way_back T.F_way_back.kp T.b_way_back .nil pass0 (pa_cons (pv 0) (pa_cons (pv 2) pa_nil))) pa_nil)) (by rfl))
        (pss_cons (ps_if (pt_cmp (pc_notN (pv 3))) (pss_cons (ps_if (PW.pt (pw_or (pt_cmpR (opK_in (K := K) rfl) (pv 3) (pv 1) (by rfl)) (pw_or1 (pt_cmpR (opK_neD (K := K) rfl hr.units) (pc_call G_way_back hG (hr.mono (by first | decide | omega)) (by rfl) T.g_way_back T.F_way_back.kp T.b_way_back .nil pass0 (pa_cons (pv 0) (pa_cons (pv 3) pa_nil))) (pv 2) (nomark _))))) (pss_one (ps_ret pe_bl)) pss_nil)
        (pss_one (ps_expr (pe_bm PySem.F.plainAttrs_list PySem.F.slot_list_append PySem.F.type_list_append mt_append (pv 1) (pa_cons (pv 3) pa_nil))))) pss_nil)
        (pss_one (ps_if (PW.pt (pw_and (pt_cmp (pc_notN (pv 4))) (pw_and1 (pt_cmpR (opK_neD (K := K) rfl hr.units) (pc_call G_place hG (hr.mono (by first | decide | omega)) (by rfl) T.g_place T.F_place.kp T.b_place .nil pass0 (pa_cons (pv 0) (pa_cons (pv 4) pa_nil))) (pv 2) (nomark _))))) (pss_one (ps_ret pe_bl)) pss_nil)))))
        (pss_one (ps_ret pe_bl)))), fun ds ⟨rs, e, hD⟩ => ?_⟩
  subst e
  have hrs := hD.ok
  show Go _ _ [.dat (encRs rs), .un, .un, .un, .un] _ _
  refine go_seq (go_own0 ?_)
  refine go_seq (go_forP (enc := PyData.str) (n := 0) PATHS (fun pre Γ' c' => ∃ s2 s3 s4 : Sl, Γ' = [.dat (encRs rs), .own ((pre.filterMap (placeS rs)).map .str), s2, s3, s4] ∧ c' = 0) (ew_listE (Ev.imp (P1 := fun e => e = .list (PATHS.map .str)) (ev_callP (pre := fun ds => ds = []) ea_nil rfl) fun d e => e.symm)) (by decide) ⟨_, _, _, rfl, rfl⟩ ?_ ?_)
  · rintro pre p post Γ' c' hsp ⟨s2, s3, s4, rfl, rfl⟩
    have hp : p ∈ PATHS := by rw [hsp]; simp
    have hnew : p ∉ pre := fun hin => by
      have hn := paths_nodup
      rw [hsp, List.nodup_append] at hn
      exact hn.2.2 p hin p List.mem_cons_self rfl
    have hin : ∀ q ∈ pre, q ∈ PATHS := fun q hq => by rw [hsp]; exact List.mem_append_left _ hq
    have hprl : pre.length ≤ 25 := by
      have := congrArg List.length hsp
      rw [List.length_append] at this
      have e25 : PATHS.length = 25 := rfl
      omega
    obtain ⟨hpS, hp0⟩ := paths_ok p hp
    refine ⟨_, _, eg_name, ?_⟩
    show Go _ _ [.dat (encRs rs), .own ((pre.filterMap (placeS rs)).map .str), .dat (.str p), s3, s4] 0 _
    refine go_seq (go_par (n := 0) (P := Eq [encO (placeS rs p), encO (wayS rs p)]) (ea_cons0 (ev_rp (f := fun rs p => encO (placeS rs p)) (ev_var rfl) (ev_var rfl) hrs (okP_of hpS)) (ea_cons0 (ev_ws (f := fun rs p => encO (wayS rs p)) (ev_var rfl) (ev_var rfl) hrs hpS) ea_nil)) (by decide) (fun xs e => by rw [← e]; rfl) fun x y e => ?_)
    cases e
    show Go _ _ [.dat (encRs rs), .own ((pre.filterMap (placeS rs)).map .str), .dat (.str p), .dat (encO (placeS rs p)), .dat (encO (wayS rs p))] 0 _
    refine go_mid (fun Γ' c' => Γ' = [.dat (encRs rs), .own (((pre ++ [p]).filterMap (placeS rs)).map .str), .dat (.str p), .dat (encO (placeS rs p)), .dat (encO (wayS rs p))] ∧ c' = 0) ?_ ?_
    · cases hz : placeS rs p with
      | none =>
        refine go_if (n := 0) (et_test (ev_notN (ev_var rfl))) (by decide) (fun h => by cases h) fun _ => go_next ⟨?_, rfl⟩
        rw [List.filterMap_append, List.filterMap_cons_none hz, List.filterMap_nil, List.append_nil]
      | some z =>
        obtain ⟨_, hzS⟩ := place_fin hD hp hz
        have hway : wayS rs z = some p := place_way hD.uniq hD.apart hp0 (place_ne (paths_lead p hp) hz) hz
        have hno : ((pre.filterMap (placeS rs)).any (· == z)) = false := by
          rw [List.any_eq_false]
          intro y hy e
          obtain ⟨q, hq, hqy⟩ := List.mem_filterMap.mp hy
          rw [beq_iff_eq.mp e] at hqy
          exact hnew (place_inj hD.uniq hD.apart hz hqy ▸ hq)
        refine go_if (n := 0) (et_test (ev_notN (ev_var rfl))) (by decide) (fun _ => ?_) fun h => by cases h
        refine gs_when (n := 0) (et_or0 (a := false) (b := false) (EvT.is (et_test (ev_inOS (neg := false) (ev_var rfl) (el_own rfl))) hno) fun _ => EvT.is (et_test (ev_neD0 (ev_ws (f := fun rs p => encO (wayS rs p)) (ev_var rfl) (ev_var rfl) hrs hzS) (ev_var rfl) (shOs fun y e => by rw [hway] at e; cases e; exact hpS.1) (shS hpS))) ?_) (by decide) (fun h => by cases h) fun _ => ?_
        · rw [hway]
          show (!PyData.eqv (.str p) (.str p)) = false
          rw [eqv_str, beq_self_eq_true]; rfl
        · refine go_app (n := 0) (P := Eq (.str z)) rfl (ev_var rfl) (by rw [List.length_map]; exact Nat.le_trans (List.length_filterMap_le _ _) (by omega)) (by decide) fun d e => ?_
          subst e
          refine ⟨?_, rfl⟩
          rw [List.filterMap_append, List.filterMap_cons_some hz, List.filterMap_nil, List.map_append]
          rfl
    · rintro Γ' c' ⟨rfl, rfl⟩
      cases hb : wayS rs p with
      | none =>
        exact go_if (n := 0) (et_and0 (b := false) (et_B (ev_notN (ev_var rfl))) (fun h => by cases h)) (by decide) (fun h => by cases h) fun _ => go_next ⟨_, _, _, rfl, rfl⟩
      | some q =>
        refine go_if (n := 0) (et_and0 (b := false) (et_B (ev_notN (ev_var rfl))) fun _ => EvT.is (et_test (ev_neD0 (ev_rp (f := fun rs p => encO (placeS rs p)) (ev_var rfl) (ev_var rfl) hrs (wayS_ok hrs hpS hb)) (ev_var rfl) (shOs fun y e => by rw [way_place hb] at e; cases e; exact hpS.1) (shS hpS))) ?_) (by decide) (fun h => by cases h) fun _ => go_next ⟨_, _, _, rfl, rfl⟩
        rw [way_place hb]
        show (!PyData.eqv (.str p) (.str p)) = false
        rw [eqv_str, beq_self_eq_true]; rfl
  · rintro Γ' c' ⟨s2, s3, s4, rfl, rfl⟩
    exact go_retE ev_bl (by decide) rfl
theorem ok_law_mixed_right (T : Tx K mg) : FnG P w K mg base CX0 7 T.a_law_mixed_right T.d_law_mixed_right ["_law_rows", "_law_one", "_law_other"] (spP (fun ds => ∃ (rs : List Row) (one oth : List File), ds = [encRs rs, encT one, encT oth] ∧ Drawn rs ∧ Dr one ∧ Dr oth) (fun _ e => e = .bool true)) := by
  have G_laid := ok_laid (P := P) (w := w) (base := base) T
  have G_taken := ok_taken (P := P) (w := w) (base := base) T
  have G_outside := ok_outside (P := P) (w := w) (base := base) T
  have G_is_tree := ok_is_tree (P := P) (w := w) (base := base) T
  refine ok_pure T.F_law_mixed_right sc_law_mixed_right (fun ds ⟨rs, one, oth, e, _⟩ => by rw [e]; rfl) fun cdv A fs s H E hG hr => ⟨_, (pss_cons (ps_asg (pe_tupP (pa_cons (pc_call G_outside hG (hr.mono (by first | decide | omega)) (by rfl) T.g_outside T.F_outside.kp T.b_outside .nil pass0 (pa_cons (pv 0) (pa_cons (pv 1) pa_nil))) (pa_cons (pc_call G_taken hG (hr.mono (by first | decide | omega)) (by rfl) T.g_taken T.F_taken.kp T.b_taken .nil pass0 (pa_cons (pv 0) (pa_cons (pv 2) pa_nil))) (pa_cons pe_non (pa_cons pe_non pa_nil))))) (pg_tup (by rfl) (pgs_cons (pg_name (i := 3) sc_law_mixed_right.nd rfl (.inl rfl)) (pgs_cons (pg_name (i := 4) sc_law_mixed_right.nd rfl (.inl rfl)) (pgs_cons (pg_name (i := 5) sc_law_mixed_right.nd rfl (.inl rfl)) (pgs_cons (pg_name (i := 6) sc_law_mixed_right.nd rfl (.inl rfl)) pgs_nil))))))
        (pss_cons (ErX.ps_try_keep (i := 7) rfl rfl sc_law_mixed_right.nd rfl rfl ⟨by rfl, by decide, .inl T.g_BothError⟩ B.takes0 (fun V pn xe tk _ => pss_one (ps_set (i := 6) sc_law_mixed_right.nd rfl (.inl rfl) (pc_callW G_laid hG (hr.mono (by first | decide | omega)) (by rfl) T.g_laid T.F_laid.kp T.b_laid (fun σ => passAt tk σ) (pa_cons (pv 0) (pa_cons (pv 3) (pa_cons (pv 4) pa_nil)))))) (fun _ _ _ _ _ _ _ => pss_one (ps_set (i := 5) sc_law_mixed_right.nd rfl (.inl rfl) (pv 7))))
        (pss_cons (ps_if (pt_cmp (pc_notN (pv 5))) (pss_one (ps_ret (pe_cmpR (opK_neD (K := K) rfl hr.units) (pv 1) (pv 2) (nomark _)))) pss_nil)
        (pss_one (ps_ret (pe_and (pc_call G_is_tree hG (hr.mono (by first | decide | omega)) (by rfl) T.g_is_tree T.F_is_tree.kp T.b_is_tree .nil pass0 (pa_cons (pv 6) pa_nil)) (pe_and (pe_cmpR (opK_eqD (K := K) rfl hr.units) (pc_call G_taken hG (hr.mono (by first | decide | omega)) (by rfl) T.g_taken T.F_taken.kp T.b_taken .nil pass0 (pa_cons (pv 0) (pa_cons (pv 6) pa_nil))) (pv 4) (nomark _)) (pe_one (pe_cmpR (opK_eqD (K := K) rfl hr.units) (pc_call G_outside hG (hr.mono (by first | decide | omega)) (by rfl) T.g_outside T.F_outside.kp T.b_outside .nil pass0 (pa_cons (pv 0) (pa_cons (pv 6) pa_nil))) (pv 3) (nomark _)))))))))), fun ds ⟨rs, one, oth, e, hD, h1, h2⟩ => ?_⟩
  subst e
  have hL := Dr.preL hD h1 h2
  show Go _ _ [.dat (encRs rs), .dat (encT one), .dat (encT oth), .un, .un, .un, .un, .un] _ _
  refine gs_asgE (ev_tupE (ea_cons0 (ev_rt (ev_var rfl) (ev_var rfl) hD h1.tok) (ea_cons0 (ev_rt (ev_var rfl) (ev_var rfl) hD h2.tok) (ea_cons0 ev_non (ea_cons0 ev_non ea_nil)))) (Nat.le_of_ble_eq_true rfl)) (by decide) (eg_tup (egs_cons eg_name (egs_cons eg_name (egs_cons eg_name (egs_cons eg_name egs_nil)))) rfl) ?_
  rw [taken_eq]
  refine go_seq (go_tryK (xs := [encRs rs, encT (outS rs one), encT (partF rs oth)]) (ea_cons0 (ev_var rfl) (ea_cons0 (ev_var rfl) (ea_cons0 (ev_var rfl) ea_nil))) ⟨rs, _, _, rfl, hL⟩ (by decide) (by simp) (fun C es hx => ?_) (fun d hd => ?_) fun C es hx => ?_)
  · obtain ⟨_, _, _, _, h⟩ := hx
    rcases h with ⟨_, rfl, _⟩ | ⟨_, rfl, _⟩ | ⟨_, _, rfl, _⟩
    · exact T.ex_Inside
    · exact T.ex_NoPlace
    · exact T.ex_Covered
  · obtain ⟨rs', as', ps', e, rfl, hi, hn, hc⟩ := hd
    simp only [List.cons.injEq, and_true] at e
    rw [← encT_inj e.2.1, ← encRs_inj e.1] at hi
    rw [← encT_inj e.2.1, ← encT_inj e.2.2, ← encRs_inj e.1] at hc ⊢
    obtain ⟨m1, m2, m3, m4⟩ := lay_mix hD h1 h2 hi hc
    refine gs_when (n := 0) (et_test (ev_notN (ev_var rfl))) (by decide) (fun h => by cases h) fun _ => ?_
    refine go_retE (Ev.is (ev_andV0 (ev_z1 (ea_cons0 (ev_var rfl) ea_nil) (tree_sz (fun f hf => (m1.ok f hf).1) (Nat.le_trans m1.len (by decide)))) fun _ => ev_andV0 (ev_eqD0 (Ev.is (ev_rt (f := takenD) (ev_var rfl) (ev_var rfl) hD m1) m3) (ev_var rfl) (tree_shp fun f hf => (part_okF hD h2 f hf).1) (tree_shp fun f hf => (part_okF hD h2 f hf).1)) fun _ => ev_eqD0 (Ev.is (ev_rt (f := outD) (ev_var rfl) (ev_var rfl) hD m1) (congrArg encT m4)) (ev_var rfl) (tree_shp fun f hf => (h1.outs.1.ok f hf).1) (tree_shp fun f hf => (h1.outs.1.ok f hf).1)) ?_) (by decide) rfl
    have eo : PyData.eqv (encT (outS rs one)) (outD rs one) = true := by show PyData.eqv (encT (outS rs one)) (encT (outS rs one)) = true; rw [eqv_tree]; simp
    rw [m2, eqv_tree, eo]
    simp
  · refine gs_when (n := 0) (et_test (ev_notNE rfl)) (by decide) (fun _ => ?_) fun h => by cases h
    refine gs_ret (go_retE (Ev.is (ev_neD0 (ev_var rfl) (ev_var rfl) (tree_shp fun f hf => (h1.tok.ok f hf).1) (tree_shp fun f hf => (h2.tok.ok f hf).1)) ?_) (by decide) rfl)
    rw [eqv_tree]
    have hne : one ≠ oth := fun e => by
      subst e
      obtain ⟨_, l1, l2, l3⟩ := lay_self hD h1
      obtain ⟨rs', as', ps', e, h⟩ := hx
      simp only [List.cons.injEq, and_true] at e
      rw [← encT_inj e.2.1, ← encT_inj e.2.2, ← encRs_inj e.1] at h
      rcases h with ⟨_, _, _, h⟩ | ⟨_, _, _, _, h⟩ | ⟨_, _, _, _, _, _, h⟩
      · rw [l1] at h; cases h
      · rw [l2] at h; cases h
      · rw [l3] at h; cases h
    rw [decide_eq_false hne]; rfl
end
end K23

namespace K23
open PySem PySem.Spec PyProof.Rows L2 B
/-! ### how expressions are read off -/
local macro_rules | `(tactic| walk_at "ev") => `(tactic| first
  | exact ea_nil
  | (apply ea_cons0 <;> walk_at "ev")
  | exact ev_int | exact ev_str | exact ev_bl | exact ev_non | exact ev_var rfl | exact ev_dnew
  | (apply ev_lstE <;> walk_at "ev")
  | (apply ev_tupE <;> walk_at "ev")
  | (apply ev_disp1E <;> walk_at "ev")
  | (apply ev_neg <;> walk_at "ev")
  | (apply ev_add0 <;> walk_at "ev")
  | (apply ev_sub0 <;> walk_at "ev")
  | (apply ev_cmp0 <;> walk_at "ev")
  | (apply ev_pow0 <;> walk_at "ev")
  | (apply ev_isi0 isi_str <;> walk_at "ev")
  | (apply ev_isi0 isi_tuple <;> walk_at "ev")
  | (apply ev_isi0 isi_bool <;> walk_at "ev")
  | (apply ev_isi0 isi_int <;> walk_at "ev")
  | (apply et_B <;> walk_at "ev")
  | (apply et_test <;> walk_at "ev")
  | (apply et_not <;> walk_at "ev")
  | exact Nat.le_of_ble_eq_true rfl
  | exact ⟨by decide, by decide, by decide⟩)
section
variable {P : Program} {w : World} {K : PySem.W.Frag} {mg : Str → Option Value} {base : Heap} [hPF : ErX.PF P]
theorem ev_tree {Γ : List Sl} {E : XK} {b : Addr} {i : Nat} {te : TE} (hi : Γ[i]? = some (.raw (.ref b))) (h : Ev (boxMu b) te Γ 0 (Eq (.list (PATHS.map PyData.str)))) :
    Ev (boxMu b) (tCall (spB 41 (fun ds => ∃ ps : List Str, ds = [.list (ps.map .str)] ∧ 1 ≤ ps.length ∧ ps.length ≤ 1000 ∧ ∀ p ∈ ps, okQ p) (fun ds d => ∃ (ps : List Str) (fs : List File), ds = [.list (ps.map .str)] ∧ d = encT fs ∧ Wood ps fs ∧ AscF fs)) [] E (tCons (tVar i) (tCons te tNil))) Γ (0 + 41) (fun d => ∃ fs, d = encT fs ∧ Dr fs) :=
  Ev.imp (ev_callB (n := 0) (P := Eq [.list (PATHS.map .str)]) hi (ea_cons0 h ea_nil) fun xs e => ⟨PATHS, e.symm, by decide, by decide, fun p hp => let z := (paths_ok p hp).1; ⟨z.1, Nat.le_trans z.2 (by decide)⟩⟩) fun d ⟨xs, e0, ps, fs, e, e2, hW, hA⟩ => by
    subst e0
    have : ps = PATHS := by
      simp only [List.cons.injEq, PyData.list.injEq, and_true] at e
      exact (map_inj' (fun _ _ e => PyData.str.inj e) e).symm
    subst this
    exact ⟨fs, e2, hW, hA⟩
theorem ok_law_right (T : Tx K mg) : FnG P w K mg base CX0 8 T.a_law_right T.d_law_right ["_law_box_here"] (spB 93 (fun ds => ds = []) (fun _ d => d = .bool true)) := by
  have G_law_rows_drawn := ok_law_rows_drawn (P := P) (w := w) (base := base) T
  have G_law_paths := ok_law_paths (P := P) (w := w) (base := base) T
  have G_law_tree := ok_law_treeS (P := P) (w := w) (base := base) T
  have G_taken := ok_taken (P := P) (w := w) (base := base) T
  have G_outside := ok_outside (P := P) (w := w) (base := base) T
  have G_is_tree := ok_is_tree (P := P) (w := w) (base := base) T
  have G_is_rows := Rw.ok_is_rows (P := P) (w := w) (base := base) T
  have G_laid := ok_laid (P := P) (w := w) (base := base) T
  have G_law_paths_right := ok_law_paths_right (P := P) (w := w) (base := base) T
  have G_law_mixed_right := ok_law_mixed_right (P := P) (w := w) (base := base) T
  refine ok_draw T.F_law_right sc_law_right (fun ds e => by rw [e]; rfl) fun cdv A fs s H E hG hr => ⟨_, (pss_cons (ps_set (i := 1) sc_law_right.nd rfl (.inr rfl) (pc_call G_law_rows_drawn hG (hr.mono (by first | decide | omega)) (by rfl) T.g_law_rows_drawn T.F_law_rows_drawn.kp T.b_law_rows_drawn .nil pass0 (pa_cons (pv 0) pa_nil)))
        (pss_cons (ps_par (i := 2) (j := 3) (by rfl) sc_law_right.nd rfl rfl (by decide) rfl rfl (pa_cons (pc_call G_law_tree hG (hr.mono (by first | decide | omega)) (by rfl) T.g_law_tree T.F_law_tree.kp T.b_law_tree .nil pass0 (pa_cons (pv 0) (pa_cons (pc_call0 G_law_paths hG (hr.mono (by first | decide | omega)) (by rfl) T.g_law_paths T.F_law_paths.kp T.b_law_paths .nil pass0) pa_nil))) (pa_cons (pc_call G_law_tree hG (hr.mono (by first | decide | omega)) (by rfl) T.g_law_tree T.F_law_tree.kp T.b_law_tree .nil pass0 (pa_cons (pv 0) (pa_cons (pc_call0 G_law_paths hG (hr.mono (by first | decide | omega)) (by rfl) T.g_law_paths T.F_law_paths.kp T.b_law_paths .nil pass0) pa_nil))) pa_nil)) (by rfl))
        (pss_cons (ps_if (PW.pt (pw_or (pt_not (pt_val (pc_call G_is_rows hG (hr.mono (by first | decide | omega)) (by rfl) T.g_is_rows T.F_is_rows.kp T.b_is_rows .nil pass0 (pa_cons (pv 1) pa_nil)))) (pw_or1 (pt_not (pt_val (pc_call G_law_paths_right hG (hr.mono (by first | decide | omega)) (by rfl) T.g_law_paths_right T.F_law_paths_right.kp T.b_law_paths_right .nil pass0 (pa_cons (pv 1) pa_nil))))))) (pss_one (ps_ret pe_bl)) pss_nil)
        (pss_cons (ps_for PassesOwn.never rfl (piK_tup (K := K) rfl (pe_tupP (pa_cons (pv 2) (pa_cons (pv 3) pa_nil)))) (pg_name (i := 4) sc_law_right.nd rfl (.inl rfl)) (pss_cons (ps_set (i := 5) sc_law_right.nd rfl (.inl rfl) (pc_call G_taken hG (hr.mono (by first | decide | omega)) (by rfl) T.g_taken T.F_taken.kp T.b_taken .nil pass0 (pa_cons (pv 1) (pa_cons (pv 4) pa_nil))))
        (pss_cons (ps_if (PW.pt (pw_or (pt_not (pt_val (pc_call G_is_tree hG (hr.mono (by first | decide | omega)) (by rfl) T.g_is_tree T.F_is_tree.kp T.b_is_tree .nil pass0 (pa_cons (pv 5) pa_nil)))) (pw_or (pt_cmpR (opK_neD (K := K) rfl hr.units) (pc_call G_taken hG (hr.mono (by first | decide | omega)) (by rfl) T.g_taken T.F_taken.kp T.b_taken .nil pass0 (pa_cons (pv 1) (pa_cons (pc_call G_outside hG (hr.mono (by first | decide | omega)) (by rfl) T.g_outside T.F_outside.kp T.b_outside .nil pass0 (pa_cons (pv 1) (pa_cons (pv 4) pa_nil))) pa_nil))) (pe_tupP pa_nil) (nomark _)) (pw_or1 (pt_cmpR (opK_neD (K := K) rfl hr.units) (pc_call G_taken hG (hr.mono (by first | decide | omega)) (by rfl) T.g_taken T.F_taken.kp T.b_taken .nil pass0 (pa_cons (pe_tupP (pa_cons (pe_tupP (pa_cons pe_str (pa_cons pe_str pa_nil))) pa_nil)) (pa_cons (pv 5) pa_nil))) (pv 5) (nomark _)))))) (pss_one (ps_ret pe_bl)) pss_nil)
        (pss_one (ps_if (pt_cmpR (opK_neD (K := K) rfl hr.units) (pc_call G_laid hG (hr.mono (by first | decide | omega)) (by rfl) T.g_laid T.F_laid.kp T.b_laid .nil (passes_call B.takes0 fun _ _ _ _ h => h) (pa_cons (pv 1) (pa_cons (pc_call G_outside hG (hr.mono (by first | decide | omega)) (by rfl) T.g_outside T.F_outside.kp T.b_outside .nil pass0 (pa_cons (pv 1) (pa_cons (pv 4) pa_nil))) (pa_cons (pv 5) pa_nil)))) (pv 4) (nomark _)) (pss_one (ps_ret pe_bl)) pss_nil)))))
        (pss_cons (ps_set (i := 6) sc_law_right.nd rfl (.inl rfl) (pe_lst (pa_cons (pe_tupP (pa_cons (pv 2) (pa_cons (pv 3) pa_nil))) (pa_cons (pe_tupP (pa_cons (pv 3) (pa_cons (pv 2) pa_nil))) (pa_cons (pe_tupP (pa_cons (pv 2) (pa_cons (pv 2) pa_nil))) pa_nil)))))
        (pss_one (ps_ret (pe_callB (crK_all (K := K) rfl rfl) (by rfl) T.m_all bt_all (pa_cons (pe_lc (own := [("_law_first", 7), ("_law_second", 8)]) (g := (gTup K 2 (gCons (gName 7) (gCons (gName 8) gNil)))) (by rfl) sc_law_right.nd (piK_list (K := K) rfl (pv 6)) (blkOk_by (own := [("_law_first", 7), ("_law_second", 8)]) (N := N_law_right) (sc := defScope s_law_right) (by decide +kernel)) (fun _ _ _ _ _ => (pg_tup (by rfl) (pgs_cons (pg_name (i := 7) sc_law_right.nd rfl (.inl rfl)) (pgs_cons (pg_name (i := 8) sc_law_right.nd rfl (.inl rfl)) pgs_nil)))) (fun _ _ _ _ _ => pts_nil) (fun _ _ _ _ _ => (pc_call G_law_mixed_right hG (hr.mono (by first | decide | omega)) (by rfl) T.g_law_mixed_right T.F_law_mixed_right.kp T.b_law_mixed_right .nil pass0 (pa_cons (pv 1) (pa_cons (pv 7) (pa_cons (pv 8) pa_nil)))))) pa_nil))))))))), fun b c ds hc e => ?_⟩
  subst e
  have hc' : c + 93 ≤ 1000000 := hc
  show Go _ _ [.raw (.ref b), .un, .un, .un, .un, .un, .un, .un, .un] _ _
  refine gs_set (n := 11) (ev_callB1 rfl rfl) (show c + 11 ≤ 1000000 by omega) fun d hd => ?_
  obtain ⟨rs, rfl, hD, hAsc⟩ := hd
  have hrs := hD.ok
  have evP : ∀ {μ : Mu} {Γ : List Sl} {E : XK}, Ev μ (tCall (spP (fun ds => ds = []) (fun _ e => e = .list (PATHS.map .str))) [] E tNil) Γ 0 (Eq (.list (PATHS.map .str))) := fun {μ Γ E} => Ev.imp (P1 := fun e => e = .list (PATHS.map .str)) (ev_callP (pre := fun ds => ds = []) ea_nil rfl) fun d e => e.symm
  refine go_seq (go_par (n := 0 + 41 + (0 + 41 + 0)) (P := fun xs => ∃ a b, xs = [encT a, encT b] ∧ Dr a ∧ Dr b) (ea_consP (P1 := fun d => ∃ fs, d = encT fs ∧ Dr fs) (P2 := fun xs => ∃ fs, xs = [encT fs] ∧ Dr fs) (ev_tree rfl evP) (ea_consP (P1 := fun d => ∃ fs, d = encT fs ∧ Dr fs) (ev_tree rfl evP) ea_nil ?_) ?_) (show c + 11 + (0 + 41 + (0 + 41 + 0)) ≤ 1000000 by omega) (fun xs ⟨a, b, e, _⟩ => by rw [e]; rfl) fun x y hxy => ?_)
  · rintro x y ⟨fs, rfl, h⟩ rfl
    exact ⟨fs, rfl, h⟩
  · rintro x y ⟨fs, rfl, h⟩ ⟨gs, rfl, k⟩
    exact ⟨fs, gs, rfl, h, k⟩
  obtain ⟨one, oth, e, h1, h2⟩ := hxy
  simp only [List.cons.injEq, and_true] at e
  obtain ⟨rfl, rfl⟩ := e
  generalize hC : c + 11 + (0 + 41 + (0 + 41 + 0)) = C
  have hC2 : C ≤ c + 93 := by omega
  have hC3 : C ≤ 1000000 := by omega
  show Go _ _ [.raw (.ref b), .dat (encRs rs), .dat (encT one), .dat (encT oth), .un, .un, .un, .un, .un] C _
  obtain ⟨rr1, rr2⟩ := rows_right hD hAsc
  refine gs_when (n := 0) (et_or0 (a := false) (b := false) (EvT.is (et_not (et_B (ev_z1 (ea_cons0 (ev_var rfl) ea_nil) rr2))) (by rw [rr1]; rfl)) fun _ => EvT.is (et_not (et_B (b := true) (Ev.imp (ev_callP (ea_cons0 (ev_var rfl) ea_nil) ⟨rs, rfl, hD⟩) fun d e => e.symm))) rfl) hC3 (fun h => by cases h) fun _ => ?_
  refine go_seq (go_forP (enc := encT) (n := 0) [one, oth] (fun pre Γ' c' => ∃ s4 s5 : Sl, Γ' = [.raw (.ref b), .dat (encRs rs), .dat (encT one), .dat (encT oth), s4, s5, .un, .un, .un] ∧ c' = C) (ew_tupE (ev_tupE (ea_cons0 (ev_var rfl) (ea_cons0 (ev_var rfl) ea_nil)) (Nat.le_of_ble_eq_true rfl))) hC3 ⟨_, _, rfl, rfl⟩ ?_ ?_)
  · rintro pre t post Γ' c' hsp ⟨s4, s5, rfl, rfl⟩
    have ht : Dr t := by
      have : t ∈ [one, oth] := by rw [hsp]; simp
      simp only [List.mem_cons, List.not_mem_nil, or_false] at this
      rcases this with rfl | rfl
      · exact h1
      · exact h2
    refine ⟨_, _, eg_name, ?_⟩
    show Go _ _ [.raw (.ref b), .dat (encRs rs), .dat (encT one), .dat (encT oth), .dat (encT t), s5, .un, .un, .un] c' _
    have hp := part_okT hD ht
    have hpF : ∀ f ∈ partF rs t, okF f := fun f hf => (hp.ok f hf).1
    refine gs_setE (d := encT (partF rs t)) (Ev.is (ev_rt (f := takenD) (ev_var rfl) (ev_var rfl) hD ht.tok) (taken_eq rs t)) hC3 ?_
    have e0 : takenD rs (outS rs t) = encT [] := by
      have e : sortK keyT [] = [] := (sortK_perm keyT []).eq_nil
      unfold takenD
      rw [out_tk, List.map_nil, e]
      rfl
    refine gs_when (n := 0) (et_or0 (a := false) (b := false) (EvT.is (et_not (et_B (ev_z1 (ea_cons0 (ev_var rfl) ea_nil) (tree_sz hpF (Nat.le_trans hp.len (by decide)))))) (by rw [part_tree hD ht]; rfl)) fun _ =>
      et_or0 (a := false) (b := false) (EvT.is (et_test (ev_neD0 (y := encT []) (Ev.is (ev_rt (f := takenD) (ev_var rfl) (ev_rt (f := outD) (ev_var rfl) (ev_var rfl) hD ht.tok) hD ht.outs.1) e0) (ev_tupE ea_nil (Nat.le_of_ble_eq_true rfl)) (tree_shp (fs := []) (by simp)) (tree_shp (fs := []) (by simp)))) (by rw [eqv_tree]; simp)) fun _ =>
      EvT.is (et_test (ev_neD0 (Ev.is (ev_rt (f := takenD) (rs := R1) (Ev.is (by walk_at "ev") rfl) (ev_var rfl) r1_drawn hp) (r1_taken hD ht)) (ev_var rfl) (tree_shp hpF) (tree_shp hpF))) (by rw [eqv_tree]; simp)) hC3 (fun h => by cases h) fun _ => ?_
    obtain ⟨l0, l1, l2, l3⟩ := lay_self hD ht
    refine go_if (n := 0) (EvT.is (y := false) (et_test (ev_neD0 (x := encT t) (Ev.imp (ev_callXN (xs := [encRs rs, encT (outS rs t), encT (partF rs t)]) (ea_cons0 (ev_var rfl) (ea_cons0 (ev_rt (f := outD) (ev_var rfl) (ev_var rfl) hD ht.tok) (ea_cons0 (ev_var rfl) ea_nil))) ⟨rs, _, _, rfl, Dr.preL hD ht ht⟩ ?_) ?_) (ev_var rfl) (tree_shp fun f hf => (ht.tok.ok f hf).1) (tree_shp fun f hf => (ht.tok.ok f hf).1))) (by rw [eqv_tree]; simp)) hC3 (fun h => by cases h) fun _ => go_next ⟨_, _, rfl, rfl⟩
    · rintro C es ⟨rs', as', ps', e, h⟩
      simp only [List.cons.injEq, and_true] at e
      rw [← encT_inj e.2.1, ← encT_inj e.2.2, ← encRs_inj e.1] at h
      rcases h with ⟨_, _, _, h⟩ | ⟨_, _, _, _, h⟩ | ⟨_, _, _, _, _, _, h⟩
      · rw [l1] at h; cases h
      · rw [l2] at h; cases h
      · rw [l3] at h; cases h
    · rintro d ⟨rs', as', ps', e, rfl, _⟩
      simp only [List.cons.injEq, and_true] at e
      rw [← encT_inj e.2.1, ← encT_inj e.2.2, ← encRs_inj e.1, l0]
  · rintro Γ' c' ⟨s4, s5, rfl, rfl⟩
    let enc2 : List File × List File → PyData := fun q => .tuple [encT q.1, encT q.2]
    refine gs_setE (d := .list (([(one, oth), (oth, one), (one, one)] : List (List File × List File)).map enc2)) (Ev.is (by walk_at "ev") rfl) hC3 ?_
    refine go_retE (d := .bool true) (ev_all (bs := [true, true, true]) (Ev.is (ev_lcTM (enc := enc2) (as := [(one, oth), (oth, one), (one, one)]) (is := [7, 8]) (ew_listE (ev_var rfl)).i (Nat.le_of_ble_eq_true rfl) (by simp) (fun _ => .bool true) fun q hq => ⟨_, eg_tup (egs_cons eg_name (egs_cons eg_name egs_nil)) rfl, Ev.imp (ev_callP (ea_cons0 (ev_var rfl) (ea_cons0 (ev_var rfl) (ea_cons0 (ev_var rfl) ea_nil))) ⟨rs, q.1, q.2, rfl, hD, ?_⟩) fun d e => e.symm⟩) rfl)) hC3 ⟨by omega, rfl⟩
    simp only [List.mem_cons, List.not_mem_nil, or_false] at hq
    rcases hq with rfl | rfl | rfl
    · exact ⟨h1, h2⟩
    · exact ⟨h2, h1⟩
    · exact ⟨h1, h1⟩
theorem ok_law (T : Tx K mg) : FnG P w K mg base CX0 9 T.a_law T.d_law ["_law_script"] (spLaw K) := by
  have G_law_box := ok_law_box (P := P) (w := w) (base := base) T
  have G_law_right := ok_law_right (P := P) (w := w) (base := base) T
  refine Fun.okN T.F_law sc_law (fun vs H Q E ⟨a, ns, e, _⟩ => by rw [e]; rfl) fun cdv A fs s H vs Q E hG hr ⟨a, ns, e, hS, hl, q⟩ => ?_
  subst e
  refine ⟨_, (pss_cons (ps_for PassesOwn.never rfl (pi_range1 (by rfl) T.m_range (pa_cons (pe_callB (call_max2 rfl) (by rfl) T.m_max bt_max (pa_cons pe_int (pa_cons (pe_callB (call_min2 rfl) (by rfl) T.m_min bt_min (pa_cons pe_int (pa_cons (pe_callB (callK_len (K := K) rfl) (by rfl) T.m_len bt_len (pa_cons (pv 0) pa_nil)) pa_nil))) pa_nil))) pa_nil)) (pg_name (i := 1) sc_law.nd rfl (.inl rfl)) (pss_cons (ps_set (i := 2) sc_law.nd rfl (.inl rfl) (pc_call G_law_box hG (hr.mono (by first | decide | omega)) (by rfl) T.g_law_box T.F_law_box.kp T.b_law_box .nil pass0 (pa_cons (pv 0) (pa_cons (pv 1) pa_nil))))
        (pss_one (ps_for PassesOwn.never rfl (pi_range1 (by rfl) T.m_range (pa_cons pe_int pa_nil)) (pg_name (i := 3) sc_law.nd rfl (.inl rfl)) (pss_one (ps_if (pt_not (pt_val (pc_call G_law_right hG (hr.mono (by first | decide | omega)) (by rfl) T.g_law_right T.F_law_right.kp T.b_law_right .nil pass0 (pa_cons (pv 2) pa_nil)))) (pss_one (ps_ret pe_bl)) pss_nil))))))
        (pss_one (ps_ret pe_bl))), ?_⟩
  refine st_seq (law_for (by decide) (by decide) hS (fun σ' => ∃ y1 y2 y3, σ' = [some (.ref a), y1, y2, y3]) ⟨_, _, _, rfl⟩ (fun k s' H' hk ⟨y1, y2, y3, e⟩ sm => ?_) fun s' H' ⟨y1, y2, y3, e⟩ sm => q H')
  cases e
  exact law_bodyC (m := 12) (n := 93) (by omega) (sm.seq hS) hl (by decide) (by decide) fun y1 y2 y3 H2 sm2 => ⟨⟨_, rfl, _, _, _, rfl⟩, sm.trans sm2⟩
end
end K23

namespace K23
open PySem PySem.Spec PyProof.Rows L2 B
/-! ### how expressions are read off -/
local macro_rules | `(tactic| walk_at "ev") => `(tactic| first
  | exact ea_nil
  | (apply ea_cons0 <;> walk_at "ev")
  | exact ev_int | exact ev_str | exact ev_bl | exact ev_non | exact ev_var rfl | exact ev_dnew
  | (apply ev_lstE <;> walk_at "ev")
  | (apply ev_tupE <;> walk_at "ev")
  | (apply ev_disp1E <;> walk_at "ev")
  | (apply ev_neg <;> walk_at "ev")
  | (apply ev_add0 <;> walk_at "ev")
  | (apply ev_sub0 <;> walk_at "ev")
  | (apply ev_cmp0 <;> walk_at "ev")
  | (apply ev_pow0 <;> walk_at "ev")
  | (apply ev_isi0 isi_str <;> walk_at "ev")
  | (apply ev_isi0 isi_tuple <;> walk_at "ev")
  | (apply ev_isi0 isi_bool <;> walk_at "ev")
  | (apply ev_isi0 isi_int <;> walk_at "ev")
  | (apply et_B <;> walk_at "ev")
  | (apply et_test <;> walk_at "ev")
  | (apply et_not <;> walk_at "ev")
  | exact Nat.le_of_ble_eq_true rfl
  | exact ⟨by decide, by decide, by decide⟩)
theorem tx_mk {K : PySem.W.Frag} {h : Heap} {mg : Str → Option Value} (X : K.In h) (G : h.Ns mainGlobals mg)
    (z_abs : PySem.W.nsIn K mainGlobals "abs" = some none)
    (z_all : PySem.W.nsIn K mainGlobals "all" = some none)
    (z_any : PySem.W.nsIn K mainGlobals "any" = some none)
    (z_enumerate : PySem.W.nsIn K mainGlobals "enumerate" = some none)
    (z_int : PySem.W.nsIn K mainGlobals "int" = some none)
    (z_isinstance : PySem.W.nsIn K mainGlobals "isinstance" = some none)
    (z_len : PySem.W.nsIn K mainGlobals "len" = some none)
    (z_list : PySem.W.nsIn K mainGlobals "list" = some none)
    (z_max : PySem.W.nsIn K mainGlobals "max" = some none)
    (z_min : PySem.W.nsIn K mainGlobals "min" = some none)
    (z_range : PySem.W.nsIn K mainGlobals "range" = some none)
    (z_sorted : PySem.W.nsIn K mainGlobals "sorted" = some none)
    (z_str : PySem.W.nsIn K mainGlobals "str" = some none)
    (z_tuple : PySem.W.nsIn K mainGlobals "tuple" = some none)
    (z_zip : PySem.W.nsIn K mainGlobals "zip" = some none)
    {t_LETTERS : Tok} (z_LETTERS : PySem.W.nsIn K mainGlobals "LETTERS" = some (some (.str "0123456789abcdefghijklmnopqrstuvwxyz" t_LETTERS)))
    {t_BLANK : Tok} (z_BLANK : PySem.W.nsIn K mainGlobals "BLANK" = some (some (.str " " t_BLANK)))
    {t_SLASH : Tok} (z_SLASH : PySem.W.nsIn K mainGlobals "SLASH" = some (some (.str "/" t_SLASH)))
    {t_MOST_SIGNS : Tok} (z_MOST_SIGNS : PySem.W.nsIn K mainGlobals "MOST_SIGNS" = some (some (.int 60 t_MOST_SIGNS)))
    {t_MOST_LETTERS : Tok} (z_MOST_LETTERS : PySem.W.nsIn K mainGlobals "MOST_LETTERS" = some (some (.int 8 t_MOST_LETTERS)))
    {t_PAIR : Tok} (z_PAIR : PySem.W.nsIn K mainGlobals "PAIR" = some (some (.int 2 t_PAIR)))
    {f_is_line : Addr} {od_is_line an_is_line : Option Addr} {sl_is_line : Array (Option Value)} {oc_is_line kV_is_line dc_is_line pm_is_line cd_is_line ct_is_line : Value} (a_is_line : PySem.W.nsIn K mainGlobals "is_line" = some (some (.ref f_is_line)))
    (l_is_line : K.lookup f_is_line = some ⟨oc_is_line, od_is_line, .func (PySem.W.fnOf "is_line" "is_line" (defArgs s_is_line) (defBody s_is_line) (defScope s_is_line) .none kV_is_line dc_is_line pm_is_line an_is_line cd_is_line ct_is_line), sl_is_line⟩) (c_is_line : PySem.W.codeIn K cd_is_line "is_line" = true) (k_is_line : PySem.W.keepIn K (.ref f_is_line) = true)
    {f_is_name : Addr} {od_is_name an_is_name : Option Addr} {sl_is_name : Array (Option Value)} {oc_is_name kV_is_name dc_is_name pm_is_name cd_is_name ct_is_name : Value} (a_is_name : PySem.W.nsIn K mainGlobals "is_name" = some (some (.ref f_is_name)))
    (l_is_name : K.lookup f_is_name = some ⟨oc_is_name, od_is_name, .func (PySem.W.fnOf "is_name" "is_name" (defArgs s_is_name) (defBody s_is_name) (defScope s_is_name) .none kV_is_name dc_is_name pm_is_name an_is_name cd_is_name ct_is_name), sl_is_name⟩) (c_is_name : PySem.W.codeIn K cd_is_name "is_name" = true) (k_is_name : PySem.W.keepIn K (.ref f_is_name) = true)
    {f_is_path : Addr} {od_is_path an_is_path : Option Addr} {sl_is_path : Array (Option Value)} {oc_is_path kV_is_path dc_is_path pm_is_path cd_is_path ct_is_path : Value} (a_is_path : PySem.W.nsIn K mainGlobals "is_path" = some (some (.ref f_is_path)))
    (l_is_path : K.lookup f_is_path = some ⟨oc_is_path, od_is_path, .func (PySem.W.fnOf "is_path" "is_path" (defArgs s_is_path) (defBody s_is_path) (defScope s_is_path) .none kV_is_path dc_is_path pm_is_path an_is_path cd_is_path ct_is_path), sl_is_path⟩) (c_is_path : PySem.W.codeIn K cd_is_path "is_path" = true) (k_is_path : PySem.W.keepIn K (.ref f_is_path) = true)
    {f_lies_below : Addr} {od_lies_below an_lies_below : Option Addr} {sl_lies_below : Array (Option Value)} {oc_lies_below kV_lies_below dc_lies_below pm_lies_below cd_lies_below ct_lies_below : Value} (a_lies_below : PySem.W.nsIn K mainGlobals "lies_below" = some (some (.ref f_lies_below)))
    (l_lies_below : K.lookup f_lies_below = some ⟨oc_lies_below, od_lies_below, .func (PySem.W.fnOf "lies_below" "lies_below" (defArgs s_lies_below) (defBody s_lies_below) (defScope s_lies_below) .none kV_lies_below dc_lies_below pm_lies_below an_lies_below cd_lies_below ct_lies_below), sl_lies_below⟩) (c_lies_below : PySem.W.codeIn K cd_lies_below "lies_below" = true) (k_lies_below : PySem.W.keepIn K (.ref f_lies_below) = true)
    {f_is_file : Addr} {od_is_file an_is_file : Option Addr} {sl_is_file : Array (Option Value)} {oc_is_file kV_is_file dc_is_file pm_is_file cd_is_file ct_is_file : Value} (a_is_file : PySem.W.nsIn K mainGlobals "is_file" = some (some (.ref f_is_file)))
    (l_is_file : K.lookup f_is_file = some ⟨oc_is_file, od_is_file, .func (PySem.W.fnOf "is_file" "is_file" (defArgs s_is_file) (defBody s_is_file) (defScope s_is_file) .none kV_is_file dc_is_file pm_is_file an_is_file cd_is_file ct_is_file), sl_is_file⟩) (c_is_file : PySem.W.codeIn K cd_is_file "is_file" = true) (k_is_file : PySem.W.keepIn K (.ref f_is_file) = true)
    {f_is_tree : Addr} {od_is_tree an_is_tree : Option Addr} {sl_is_tree : Array (Option Value)} {oc_is_tree kV_is_tree dc_is_tree pm_is_tree cd_is_tree ct_is_tree : Value} (a_is_tree : PySem.W.nsIn K mainGlobals "is_tree" = some (some (.ref f_is_tree)))
    (l_is_tree : K.lookup f_is_tree = some ⟨oc_is_tree, od_is_tree, .func (PySem.W.fnOf "is_tree" "is_tree" (defArgs s_is_tree) (defBody s_is_tree) (defScope s_is_tree) .none kV_is_tree dc_is_tree pm_is_tree an_is_tree cd_is_tree ct_is_tree), sl_is_tree⟩) (c_is_tree : PySem.W.codeIn K cd_is_tree "is_tree" = true) (k_is_tree : PySem.W.keepIn K (.ref f_is_tree) = true)
    {f_is_folder : Addr} {od_is_folder an_is_folder : Option Addr} {sl_is_folder : Array (Option Value)} {oc_is_folder kV_is_folder dc_is_folder pm_is_folder cd_is_folder ct_is_folder : Value} (a_is_folder : PySem.W.nsIn K mainGlobals "is_folder" = some (some (.ref f_is_folder)))
    (l_is_folder : K.lookup f_is_folder = some ⟨oc_is_folder, od_is_folder, .func (PySem.W.fnOf "is_folder" "is_folder" (defArgs s_is_folder) (defBody s_is_folder) (defScope s_is_folder) .none kV_is_folder dc_is_folder pm_is_folder an_is_folder cd_is_folder ct_is_folder), sl_is_folder⟩) (c_is_folder : PySem.W.codeIn K cd_is_folder "is_folder" = true) (k_is_folder : PySem.W.keepIn K (.ref f_is_folder) = true)
    {f_is_row : Addr} {od_is_row an_is_row : Option Addr} {sl_is_row : Array (Option Value)} {oc_is_row kV_is_row dc_is_row pm_is_row cd_is_row ct_is_row : Value} (a_is_row : PySem.W.nsIn K mainGlobals "is_row" = some (some (.ref f_is_row)))
    (l_is_row : K.lookup f_is_row = some ⟨oc_is_row, od_is_row, .func (PySem.W.fnOf "is_row" "is_row" (defArgs s_is_row) (defBody s_is_row) (defScope s_is_row) .none kV_is_row dc_is_row pm_is_row an_is_row cd_is_row ct_is_row), sl_is_row⟩) (c_is_row : PySem.W.codeIn K cd_is_row "is_row" = true) (k_is_row : PySem.W.keepIn K (.ref f_is_row) = true)
    {f_are_apart : Addr} {od_are_apart an_are_apart : Option Addr} {sl_are_apart : Array (Option Value)} {oc_are_apart kV_are_apart dc_are_apart pm_are_apart cd_are_apart ct_are_apart : Value} (a_are_apart : PySem.W.nsIn K mainGlobals "are_apart" = some (some (.ref f_are_apart)))
    (l_are_apart : K.lookup f_are_apart = some ⟨oc_are_apart, od_are_apart, .func (PySem.W.fnOf "are_apart" "are_apart" (defArgs s_are_apart) (defBody s_are_apart) (defScope s_are_apart) .none kV_are_apart dc_are_apart pm_are_apart an_are_apart cd_are_apart ct_are_apart), sl_are_apart⟩) (c_are_apart : PySem.W.codeIn K cd_are_apart "are_apart" = true) (k_are_apart : PySem.W.keepIn K (.ref f_are_apart) = true)
    {f_is_rows : Addr} {od_is_rows an_is_rows : Option Addr} {sl_is_rows : Array (Option Value)} {oc_is_rows kV_is_rows dc_is_rows pm_is_rows cd_is_rows ct_is_rows : Value} (a_is_rows : PySem.W.nsIn K mainGlobals "is_rows" = some (some (.ref f_is_rows)))
    (l_is_rows : K.lookup f_is_rows = some ⟨oc_is_rows, od_is_rows, .func (PySem.W.fnOf "is_rows" "is_rows" (defArgs s_is_rows) (defBody s_is_rows) (defScope s_is_rows) .none kV_is_rows dc_is_rows pm_is_rows an_is_rows cd_is_rows ct_is_rows), sl_is_rows⟩) (c_is_rows : PySem.W.codeIn K cd_is_rows "is_rows" = true) (k_is_rows : PySem.W.keepIn K (.ref f_is_rows) = true)
    {f_joined : Addr} {od_joined an_joined : Option Addr} {sl_joined : Array (Option Value)} {oc_joined kV_joined dc_joined pm_joined cd_joined ct_joined : Value} (a_joined : PySem.W.nsIn K mainGlobals "joined" = some (some (.ref f_joined)))
    (l_joined : K.lookup f_joined = some ⟨oc_joined, od_joined, .func (PySem.W.fnOf "joined" "joined" (defArgs s_joined) (defBody s_joined) (defScope s_joined) .none kV_joined dc_joined pm_joined an_joined cd_joined ct_joined), sl_joined⟩) (c_joined : PySem.W.codeIn K cd_joined "joined" = true) (k_joined : PySem.W.keepIn K (.ref f_joined) = true)
    {f_rest_of : Addr} {od_rest_of an_rest_of : Option Addr} {sl_rest_of : Array (Option Value)} {oc_rest_of kV_rest_of dc_rest_of pm_rest_of cd_rest_of ct_rest_of : Value} (a_rest_of : PySem.W.nsIn K mainGlobals "rest_of" = some (some (.ref f_rest_of)))
    (l_rest_of : K.lookup f_rest_of = some ⟨oc_rest_of, od_rest_of, .func (PySem.W.fnOf "rest_of" "rest_of" (defArgs s_rest_of) (defBody s_rest_of) (defScope s_rest_of) .none kV_rest_of dc_rest_of pm_rest_of an_rest_of cd_rest_of ct_rest_of), sl_rest_of⟩) (c_rest_of : PySem.W.codeIn K cd_rest_of "rest_of" = true) (k_rest_of : PySem.W.keepIn K (.ref f_rest_of) = true)
    {f_row_of : Addr} {od_row_of an_row_of : Option Addr} {sl_row_of : Array (Option Value)} {oc_row_of kV_row_of dc_row_of pm_row_of cd_row_of ct_row_of : Value} (a_row_of : PySem.W.nsIn K mainGlobals "row_of" = some (some (.ref f_row_of)))
    (l_row_of : K.lookup f_row_of = some ⟨oc_row_of, od_row_of, .func (PySem.W.fnOf "row_of" "row_of" (defArgs s_row_of) (defBody s_row_of) (defScope s_row_of) .none kV_row_of dc_row_of pm_row_of an_row_of cd_row_of ct_row_of), sl_row_of⟩) (c_row_of : PySem.W.codeIn K cd_row_of "row_of" = true) (k_row_of : PySem.W.keepIn K (.ref f_row_of) = true)
    {f_place : Addr} {od_place an_place : Option Addr} {sl_place : Array (Option Value)} {oc_place kV_place dc_place pm_place cd_place ct_place : Value} (a_place : PySem.W.nsIn K mainGlobals "place" = some (some (.ref f_place)))
    (l_place : K.lookup f_place = some ⟨oc_place, od_place, .func (PySem.W.fnOf "place" "place" (defArgs s_place) (defBody s_place) (defScope s_place) .none kV_place dc_place pm_place an_place cd_place ct_place), sl_place⟩) (c_place : PySem.W.codeIn K cd_place "place" = true) (k_place : PySem.W.keepIn K (.ref f_place) = true)
    {f_candidate_of : Addr} {od_candidate_of an_candidate_of : Option Addr} {sl_candidate_of : Array (Option Value)} {oc_candidate_of kV_candidate_of dc_candidate_of pm_candidate_of cd_candidate_of ct_candidate_of : Value} (a_candidate_of : PySem.W.nsIn K mainGlobals "candidate_of" = some (some (.ref f_candidate_of)))
    (l_candidate_of : K.lookup f_candidate_of = some ⟨oc_candidate_of, od_candidate_of, .func (PySem.W.fnOf "candidate_of" "candidate_of" (defArgs s_candidate_of) (defBody s_candidate_of) (defScope s_candidate_of) .none kV_candidate_of dc_candidate_of pm_candidate_of an_candidate_of cd_candidate_of ct_candidate_of), sl_candidate_of⟩) (c_candidate_of : PySem.W.codeIn K cd_candidate_of "candidate_of" = true) (k_candidate_of : PySem.W.keepIn K (.ref f_candidate_of) = true)
    {f_way_back : Addr} {od_way_back an_way_back : Option Addr} {sl_way_back : Array (Option Value)} {oc_way_back kV_way_back dc_way_back pm_way_back cd_way_back ct_way_back : Value} (a_way_back : PySem.W.nsIn K mainGlobals "way_back" = some (some (.ref f_way_back)))
    (l_way_back : K.lookup f_way_back = some ⟨oc_way_back, od_way_back, .func (PySem.W.fnOf "way_back" "way_back" (defArgs s_way_back) (defBody s_way_back) (defScope s_way_back) .none kV_way_back dc_way_back pm_way_back an_way_back cd_way_back ct_way_back), sl_way_back⟩) (c_way_back : PySem.W.codeIn K cd_way_back "way_back" = true) (k_way_back : PySem.W.keepIn K (.ref f_way_back) = true)
    {f_taken : Addr} {od_taken an_taken : Option Addr} {sl_taken : Array (Option Value)} {oc_taken kV_taken dc_taken pm_taken cd_taken ct_taken : Value} (a_taken : PySem.W.nsIn K mainGlobals "taken" = some (some (.ref f_taken)))
    (l_taken : K.lookup f_taken = some ⟨oc_taken, od_taken, .func (PySem.W.fnOf "taken" "taken" (defArgs s_taken) (defBody s_taken) (defScope s_taken) .none kV_taken dc_taken pm_taken an_taken cd_taken ct_taken), sl_taken⟩) (c_taken : PySem.W.codeIn K cd_taken "taken" = true) (k_taken : PySem.W.keepIn K (.ref f_taken) = true)
    {f_outside : Addr} {od_outside an_outside : Option Addr} {sl_outside : Array (Option Value)} {oc_outside kV_outside dc_outside pm_outside cd_outside ct_outside : Value} (a_outside : PySem.W.nsIn K mainGlobals "outside" = some (some (.ref f_outside)))
    (l_outside : K.lookup f_outside = some ⟨oc_outside, od_outside, .func (PySem.W.fnOf "outside" "outside" (defArgs s_outside) (defBody s_outside) (defScope s_outside) .none kV_outside dc_outside pm_outside an_outside cd_outside ct_outside), sl_outside⟩) (c_outside : PySem.W.codeIn K cd_outside "outside" = true) (k_outside : PySem.W.keepIn K (.ref f_outside) = true)
    {f_check_beside : Addr} {od_check_beside an_check_beside : Option Addr} {sl_check_beside : Array (Option Value)} {oc_check_beside kV_check_beside dc_check_beside pm_check_beside cd_check_beside ct_check_beside : Value} (a_check_beside : PySem.W.nsIn K mainGlobals "check_beside" = some (some (.ref f_check_beside)))
    (l_check_beside : K.lookup f_check_beside = some ⟨oc_check_beside, od_check_beside, .func (PySem.W.fnOf "check_beside" "check_beside" (defArgs s_check_beside) (defBody s_check_beside) (defScope s_check_beside) .none kV_check_beside dc_check_beside pm_check_beside an_check_beside cd_check_beside ct_check_beside), sl_check_beside⟩) (c_check_beside : PySem.W.codeIn K cd_check_beside "check_beside" = true) (k_check_beside : PySem.W.keepIn K (.ref f_check_beside) = true)
    {f_led_back : Addr} {od_led_back an_led_back : Option Addr} {sl_led_back : Array (Option Value)} {oc_led_back kV_led_back dc_led_back pm_led_back cd_led_back ct_led_back : Value} (a_led_back : PySem.W.nsIn K mainGlobals "led_back" = some (some (.ref f_led_back)))
    (l_led_back : K.lookup f_led_back = some ⟨oc_led_back, od_led_back, .func (PySem.W.fnOf "led_back" "led_back" (defArgs s_led_back) (defBody s_led_back) (defScope s_led_back) .none kV_led_back dc_led_back pm_led_back an_led_back cd_led_back ct_led_back), sl_led_back⟩) (c_led_back : PySem.W.codeIn K cd_led_back "led_back" = true) (k_led_back : PySem.W.keepIn K (.ref f_led_back) = true)
    {f_laid : Addr} {od_laid an_laid : Option Addr} {sl_laid : Array (Option Value)} {oc_laid kV_laid dc_laid pm_laid cd_laid ct_laid : Value} (a_laid : PySem.W.nsIn K mainGlobals "laid" = some (some (.ref f_laid)))
    (l_laid : K.lookup f_laid = some ⟨oc_laid, od_laid, .func (PySem.W.fnOf "laid" "laid" (defArgs s_laid) (defBody s_laid) (defScope s_laid) .none kV_laid dc_laid pm_laid an_laid cd_laid ct_laid), sl_laid⟩) (c_laid : PySem.W.codeIn K cd_laid "laid" = true) (k_laid : PySem.W.keepIn K (.ref f_laid) = true)
    {f_law_box : Addr} {od_law_box an_law_box : Option Addr} {sl_law_box : Array (Option Value)} {oc_law_box kV_law_box dc_law_box pm_law_box cd_law_box ct_law_box : Value} (a_law_box : PySem.W.nsIn K mainGlobals "_law_box" = some (some (.ref f_law_box)))
    (l_law_box : K.lookup f_law_box = some ⟨oc_law_box, od_law_box, .func (PySem.W.fnOf "_law_box" "_law_box" (defArgs s_law_box) (defBody s_law_box) (defScope s_law_box) .none kV_law_box dc_law_box pm_law_box an_law_box cd_law_box ct_law_box), sl_law_box⟩) (c_law_box : PySem.W.codeIn K cd_law_box "_law_box" = true) (k_law_box : PySem.W.keepIn K (.ref f_law_box) = true)
    {f_law_take : Addr} {od_law_take an_law_take : Option Addr} {sl_law_take : Array (Option Value)} {oc_law_take kV_law_take dc_law_take pm_law_take cd_law_take ct_law_take : Value} (a_law_take : PySem.W.nsIn K mainGlobals "_law_take" = some (some (.ref f_law_take)))
    (l_law_take : K.lookup f_law_take = some ⟨oc_law_take, od_law_take, .func (PySem.W.fnOf "_law_take" "_law_take" (defArgs s_law_take) (defBody s_law_take) (defScope s_law_take) .none kV_law_take dc_law_take pm_law_take an_law_take cd_law_take ct_law_take), sl_law_take⟩) (c_law_take : PySem.W.codeIn K cd_law_take "_law_take" = true) (k_law_take : PySem.W.keepIn K (.ref f_law_take) = true)
    {f_law_of : Addr} {od_law_of an_law_of : Option Addr} {sl_law_of : Array (Option Value)} {oc_law_of kV_law_of dc_law_of pm_law_of cd_law_of ct_law_of : Value} (a_law_of : PySem.W.nsIn K mainGlobals "_law_of" = some (some (.ref f_law_of)))
    (l_law_of : K.lookup f_law_of = some ⟨oc_law_of, od_law_of, .func (PySem.W.fnOf "_law_of" "_law_of" (defArgs s_law_of) (defBody s_law_of) (defScope s_law_of) .none kV_law_of dc_law_of pm_law_of an_law_of cd_law_of ct_law_of), sl_law_of⟩) (c_law_of : PySem.W.codeIn K cd_law_of "_law_of" = true) (k_law_of : PySem.W.keepIn K (.ref f_law_of) = true)
    {f_law_meets : Addr} {od_law_meets an_law_meets : Option Addr} {sl_law_meets : Array (Option Value)} {oc_law_meets kV_law_meets dc_law_meets pm_law_meets cd_law_meets ct_law_meets : Value} (a_law_meets : PySem.W.nsIn K mainGlobals "_law_meets" = some (some (.ref f_law_meets)))
    (l_law_meets : K.lookup f_law_meets = some ⟨oc_law_meets, od_law_meets, .func (PySem.W.fnOf "_law_meets" "_law_meets" (defArgs s_law_meets) (defBody s_law_meets) (defScope s_law_meets) .none kV_law_meets dc_law_meets pm_law_meets an_law_meets cd_law_meets ct_law_meets), sl_law_meets⟩) (c_law_meets : PySem.W.codeIn K cd_law_meets "_law_meets" = true) (k_law_meets : PySem.W.keepIn K (.ref f_law_meets) = true)
    {f_law_rows_drawn : Addr} {od_law_rows_drawn an_law_rows_drawn : Option Addr} {sl_law_rows_drawn : Array (Option Value)} {oc_law_rows_drawn kV_law_rows_drawn dc_law_rows_drawn pm_law_rows_drawn cd_law_rows_drawn ct_law_rows_drawn : Value} (a_law_rows_drawn : PySem.W.nsIn K mainGlobals "_law_rows_drawn" = some (some (.ref f_law_rows_drawn)))
    (l_law_rows_drawn : K.lookup f_law_rows_drawn = some ⟨oc_law_rows_drawn, od_law_rows_drawn, .func (PySem.W.fnOf "_law_rows_drawn" "_law_rows_drawn" (defArgs s_law_rows_drawn) (defBody s_law_rows_drawn) (defScope s_law_rows_drawn) .none kV_law_rows_drawn dc_law_rows_drawn pm_law_rows_drawn an_law_rows_drawn cd_law_rows_drawn ct_law_rows_drawn), sl_law_rows_drawn⟩) (c_law_rows_drawn : PySem.W.codeIn K cd_law_rows_drawn "_law_rows_drawn" = true) (k_law_rows_drawn : PySem.W.keepIn K (.ref f_law_rows_drawn) = true)
    {f_law_paths : Addr} {od_law_paths an_law_paths : Option Addr} {sl_law_paths : Array (Option Value)} {oc_law_paths kV_law_paths dc_law_paths pm_law_paths cd_law_paths ct_law_paths : Value} (a_law_paths : PySem.W.nsIn K mainGlobals "_law_paths" = some (some (.ref f_law_paths)))
    (l_law_paths : K.lookup f_law_paths = some ⟨oc_law_paths, od_law_paths, .func (PySem.W.fnOf "_law_paths" "_law_paths" (defArgs s_law_paths) (defBody s_law_paths) (defScope s_law_paths) .none kV_law_paths dc_law_paths pm_law_paths an_law_paths cd_law_paths ct_law_paths), sl_law_paths⟩) (c_law_paths : PySem.W.codeIn K cd_law_paths "_law_paths" = true) (k_law_paths : PySem.W.keepIn K (.ref f_law_paths) = true)
    {f_law_tree : Addr} {od_law_tree an_law_tree : Option Addr} {sl_law_tree : Array (Option Value)} {oc_law_tree kV_law_tree dc_law_tree pm_law_tree cd_law_tree ct_law_tree : Value} (a_law_tree : PySem.W.nsIn K mainGlobals "_law_tree" = some (some (.ref f_law_tree)))
    (l_law_tree : K.lookup f_law_tree = some ⟨oc_law_tree, od_law_tree, .func (PySem.W.fnOf "_law_tree" "_law_tree" (defArgs s_law_tree) (defBody s_law_tree) (defScope s_law_tree) .none kV_law_tree dc_law_tree pm_law_tree an_law_tree cd_law_tree ct_law_tree), sl_law_tree⟩) (c_law_tree : PySem.W.codeIn K cd_law_tree "_law_tree" = true) (k_law_tree : PySem.W.keepIn K (.ref f_law_tree) = true)
    {f_law_paths_right : Addr} {od_law_paths_right an_law_paths_right : Option Addr} {sl_law_paths_right : Array (Option Value)} {oc_law_paths_right kV_law_paths_right dc_law_paths_right pm_law_paths_right cd_law_paths_right ct_law_paths_right : Value} (a_law_paths_right : PySem.W.nsIn K mainGlobals "_law_paths_right" = some (some (.ref f_law_paths_right)))
    (l_law_paths_right : K.lookup f_law_paths_right = some ⟨oc_law_paths_right, od_law_paths_right, .func (PySem.W.fnOf "_law_paths_right" "_law_paths_right" (defArgs s_law_paths_right) (defBody s_law_paths_right) (defScope s_law_paths_right) .none kV_law_paths_right dc_law_paths_right pm_law_paths_right an_law_paths_right cd_law_paths_right ct_law_paths_right), sl_law_paths_right⟩) (c_law_paths_right : PySem.W.codeIn K cd_law_paths_right "_law_paths_right" = true) (k_law_paths_right : PySem.W.keepIn K (.ref f_law_paths_right) = true)
    {f_law_mixed_right : Addr} {od_law_mixed_right an_law_mixed_right : Option Addr} {sl_law_mixed_right : Array (Option Value)} {oc_law_mixed_right kV_law_mixed_right dc_law_mixed_right pm_law_mixed_right cd_law_mixed_right ct_law_mixed_right : Value} (a_law_mixed_right : PySem.W.nsIn K mainGlobals "_law_mixed_right" = some (some (.ref f_law_mixed_right)))
    (l_law_mixed_right : K.lookup f_law_mixed_right = some ⟨oc_law_mixed_right, od_law_mixed_right, .func (PySem.W.fnOf "_law_mixed_right" "_law_mixed_right" (defArgs s_law_mixed_right) (defBody s_law_mixed_right) (defScope s_law_mixed_right) .none kV_law_mixed_right dc_law_mixed_right pm_law_mixed_right an_law_mixed_right cd_law_mixed_right ct_law_mixed_right), sl_law_mixed_right⟩) (c_law_mixed_right : PySem.W.codeIn K cd_law_mixed_right "_law_mixed_right" = true) (k_law_mixed_right : PySem.W.keepIn K (.ref f_law_mixed_right) = true)
    {f_law_right : Addr} {od_law_right an_law_right : Option Addr} {sl_law_right : Array (Option Value)} {oc_law_right kV_law_right dc_law_right pm_law_right cd_law_right ct_law_right : Value} (a_law_right : PySem.W.nsIn K mainGlobals "_law_right" = some (some (.ref f_law_right)))
    (l_law_right : K.lookup f_law_right = some ⟨oc_law_right, od_law_right, .func (PySem.W.fnOf "_law_right" "_law_right" (defArgs s_law_right) (defBody s_law_right) (defScope s_law_right) .none kV_law_right dc_law_right pm_law_right an_law_right cd_law_right ct_law_right), sl_law_right⟩) (c_law_right : PySem.W.codeIn K cd_law_right "_law_right" = true) (k_law_right : PySem.W.keepIn K (.ref f_law_right) = true)
    {f_law : Addr} {od_law an_law : Option Addr} {sl_law : Array (Option Value)} {oc_law kV_law dc_law pm_law cd_law ct_law : Value} (a_law : PySem.W.nsIn K mainGlobals "law" = some (some (.ref f_law)))
    (l_law : K.lookup f_law = some ⟨oc_law, od_law, .func (PySem.W.fnOf "law" "law" (defArgs s_law) (defBody s_law) (defScope s_law) .none kV_law dc_law pm_law an_law cd_law ct_law), sl_law⟩) (c_law : PySem.W.codeIn K cd_law "law" = true) (k_law : PySem.W.keepIn K (.ref f_law) = true)
    (z_super : PySem.W.nsIn K mainGlobals "super" = some none) (z_opq : PySem.W.nsIn K PySem.cStatics "thirdparty.any" = some none)
    {C_BothError : Addr} (aC_BothError : PySem.W.nsIn K mainGlobals "BothError" = some (some (.ref C_BothError)))
    (eB : PySem.W.subIn K (.ref C_BothError) (.type "BaseException") = some true) (tB : PySem.W.typeIn K (.ref C_BothError) = some (.type "type")) (iB : PySem.W.hasDictIn K C_BothError = true)
    {C_Inside : Addr} (aC_Inside : PySem.W.nsIn K mainGlobals "Inside" = some (some (.ref C_Inside)))
    {f_Inside cc_Inside cda_Inside N_Inside : Addr} {nm_Inside q_Inside : Str} {bs_Inside bm_Inside : List Value} {sn_Inside : List Str} {sub_Inside : List Value} {ab_Inside : Bool} {col_Inside : Option Bool} {dd_Inside : Option Addr} {k0_Inside k1_Inside k2_Inside k3_Inside k5_Inside : Option Value} {oc_Inside kV_Inside dc_Inside pm_Inside ct_Inside cl_Inside ccl_Inside : Value} {od_Inside an_Inside cld_Inside cdd_Inside : Option Addr} {sl_Inside csl_Inside ccs_Inside : Array (Option Value)} {vs_Inside : Array Value} {tf_Inside : Tok}
    (xL_Inside : K.lookup C_Inside = some (excClassObj nm_Inside q_Inside C_Inside N_Inside bs_Inside bm_Inside true sn_Inside sub_Inside ab_Inside col_Inside dd_Inside k0_Inside k1_Inside k2_Inside k3_Inside k5_Inside "ValueError.__new__")) (xm_Inside : PySem.HandSPX.refsVE bm_Inside = true)
    (sa_Inside : PySem.W.findIn K (.ref C_Inside) "__setattr__" = some (some (.builtin "object.__setattr__"))) (eC_Inside : PySem.W.subIn K (.ref C_Inside) (.type "BaseException") = some true) (tC_Inside : PySem.W.typeIn K (.ref C_Inside) = some (.type "type")) (kC_Inside : PySem.W.keepIn K (.ref C_Inside) = true)
    (iC_Inside : PySem.W.findIn K (.ref C_Inside) "__init__" = some (some (.ref f_Inside))) (tI_Inside : PySem.W.typeIn K (.ref f_Inside) = some (.type "function"))
    (l_Inside : K.lookup f_Inside = some ⟨oc_Inside, od_Inside, .func (PySem.W.ksFn "__init__" "Inside.__init__" (defArgs s_Inside_init) (defBody s_Inside_init) (defScope s_Inside_init) .none kV_Inside dc_Inside pm_Inside an_Inside (.ref cda_Inside) ct_Inside cc_Inside), sl_Inside⟩) (c_Inside : PySem.W.codeIn K (.ref cda_Inside) "Inside.__init__" = true)
    (ce_Inside : K.lookup cc_Inside = some ⟨cl_Inside, cld_Inside, .cell (some (.ref C_Inside)), csl_Inside⟩) (co_Inside : K.lookup cda_Inside = some ⟨ccl_Inside, cdd_Inside, .fields vs_Inside, ccs_Inside⟩) (fi_Inside : vs_Inside[2]? = some (.str "/claim/cut.py" tf_Inside))
    (su_Inside : PySem.W.ks_superIn K C_Inside C_Inside "__init__" = some (some (.builtin "ValueError.__init__"))) (ic_Inside : PySem.W.mroIn K C_Inside (.ref C_Inside) = some true) (iv_Inside : PySem.W.subIn K (.ref C_Inside) (.type "ValueError") = some true) (ib_Inside : PySem.W.subIn K (.ref C_Inside) (.ref C_BothError) = some true)
    (no_Inside_path : PySem.W.findIn K (.ref C_Inside) "path" = some none)
    {C_NoPlace : Addr} (aC_NoPlace : PySem.W.nsIn K mainGlobals "NoPlace" = some (some (.ref C_NoPlace)))
    {f_NoPlace cc_NoPlace cda_NoPlace N_NoPlace : Addr} {nm_NoPlace q_NoPlace : Str} {bs_NoPlace bm_NoPlace : List Value} {sn_NoPlace : List Str} {sub_NoPlace : List Value} {ab_NoPlace : Bool} {col_NoPlace : Option Bool} {dd_NoPlace : Option Addr} {k0_NoPlace k1_NoPlace k2_NoPlace k3_NoPlace k5_NoPlace : Option Value} {oc_NoPlace kV_NoPlace dc_NoPlace pm_NoPlace ct_NoPlace cl_NoPlace ccl_NoPlace : Value} {od_NoPlace an_NoPlace cld_NoPlace cdd_NoPlace : Option Addr} {sl_NoPlace csl_NoPlace ccs_NoPlace : Array (Option Value)} {vs_NoPlace : Array Value} {tf_NoPlace : Tok}
    (xL_NoPlace : K.lookup C_NoPlace = some (excClassObj nm_NoPlace q_NoPlace C_NoPlace N_NoPlace bs_NoPlace bm_NoPlace true sn_NoPlace sub_NoPlace ab_NoPlace col_NoPlace dd_NoPlace k0_NoPlace k1_NoPlace k2_NoPlace k3_NoPlace k5_NoPlace "ValueError.__new__")) (xm_NoPlace : PySem.HandSPX.refsVE bm_NoPlace = true)
    (sa_NoPlace : PySem.W.findIn K (.ref C_NoPlace) "__setattr__" = some (some (.builtin "object.__setattr__"))) (eC_NoPlace : PySem.W.subIn K (.ref C_NoPlace) (.type "BaseException") = some true) (tC_NoPlace : PySem.W.typeIn K (.ref C_NoPlace) = some (.type "type")) (kC_NoPlace : PySem.W.keepIn K (.ref C_NoPlace) = true)
    (iC_NoPlace : PySem.W.findIn K (.ref C_NoPlace) "__init__" = some (some (.ref f_NoPlace))) (tI_NoPlace : PySem.W.typeIn K (.ref f_NoPlace) = some (.type "function"))
    (l_NoPlace : K.lookup f_NoPlace = some ⟨oc_NoPlace, od_NoPlace, .func (PySem.W.ksFn "__init__" "NoPlace.__init__" (defArgs s_NoPlace_init) (defBody s_NoPlace_init) (defScope s_NoPlace_init) .none kV_NoPlace dc_NoPlace pm_NoPlace an_NoPlace (.ref cda_NoPlace) ct_NoPlace cc_NoPlace), sl_NoPlace⟩) (c_NoPlace : PySem.W.codeIn K (.ref cda_NoPlace) "NoPlace.__init__" = true)
    (ce_NoPlace : K.lookup cc_NoPlace = some ⟨cl_NoPlace, cld_NoPlace, .cell (some (.ref C_NoPlace)), csl_NoPlace⟩) (co_NoPlace : K.lookup cda_NoPlace = some ⟨ccl_NoPlace, cdd_NoPlace, .fields vs_NoPlace, ccs_NoPlace⟩) (fi_NoPlace : vs_NoPlace[2]? = some (.str "/claim/cut.py" tf_NoPlace))
    (su_NoPlace : PySem.W.ks_superIn K C_NoPlace C_NoPlace "__init__" = some (some (.builtin "ValueError.__init__"))) (ic_NoPlace : PySem.W.mroIn K C_NoPlace (.ref C_NoPlace) = some true) (iv_NoPlace : PySem.W.subIn K (.ref C_NoPlace) (.type "ValueError") = some true) (ib_NoPlace : PySem.W.subIn K (.ref C_NoPlace) (.ref C_BothError) = some true)
    (no_NoPlace_path : PySem.W.findIn K (.ref C_NoPlace) "path" = some none)
    {C_Covered : Addr} (aC_Covered : PySem.W.nsIn K mainGlobals "Covered" = some (some (.ref C_Covered)))
    {f_Covered cc_Covered cda_Covered N_Covered : Addr} {nm_Covered q_Covered : Str} {bs_Covered bm_Covered : List Value} {sn_Covered : List Str} {sub_Covered : List Value} {ab_Covered : Bool} {col_Covered : Option Bool} {dd_Covered : Option Addr} {k0_Covered k1_Covered k2_Covered k3_Covered k5_Covered : Option Value} {oc_Covered kV_Covered dc_Covered pm_Covered ct_Covered cl_Covered ccl_Covered : Value} {od_Covered an_Covered cld_Covered cdd_Covered : Option Addr} {sl_Covered csl_Covered ccs_Covered : Array (Option Value)} {vs_Covered : Array Value} {tf_Covered : Tok}
    (xL_Covered : K.lookup C_Covered = some (excClassObj nm_Covered q_Covered C_Covered N_Covered bs_Covered bm_Covered true sn_Covered sub_Covered ab_Covered col_Covered dd_Covered k0_Covered k1_Covered k2_Covered k3_Covered k5_Covered "ValueError.__new__")) (xm_Covered : PySem.HandSPX.refsVE bm_Covered = true)
    (sa_Covered : PySem.W.findIn K (.ref C_Covered) "__setattr__" = some (some (.builtin "object.__setattr__"))) (eC_Covered : PySem.W.subIn K (.ref C_Covered) (.type "BaseException") = some true) (tC_Covered : PySem.W.typeIn K (.ref C_Covered) = some (.type "type")) (kC_Covered : PySem.W.keepIn K (.ref C_Covered) = true)
    (iC_Covered : PySem.W.findIn K (.ref C_Covered) "__init__" = some (some (.ref f_Covered))) (tI_Covered : PySem.W.typeIn K (.ref f_Covered) = some (.type "function"))
    (l_Covered : K.lookup f_Covered = some ⟨oc_Covered, od_Covered, .func (PySem.W.ksFn "__init__" "Covered.__init__" (defArgs s_Covered_init) (defBody s_Covered_init) (defScope s_Covered_init) .none kV_Covered dc_Covered pm_Covered an_Covered (.ref cda_Covered) ct_Covered cc_Covered), sl_Covered⟩) (c_Covered : PySem.W.codeIn K (.ref cda_Covered) "Covered.__init__" = true)
    (ce_Covered : K.lookup cc_Covered = some ⟨cl_Covered, cld_Covered, .cell (some (.ref C_Covered)), csl_Covered⟩) (co_Covered : K.lookup cda_Covered = some ⟨ccl_Covered, cdd_Covered, .fields vs_Covered, ccs_Covered⟩) (fi_Covered : vs_Covered[2]? = some (.str "/claim/cut.py" tf_Covered))
    (su_Covered : PySem.W.ks_superIn K C_Covered C_Covered "__init__" = some (some (.builtin "ValueError.__init__"))) (ic_Covered : PySem.W.mroIn K C_Covered (.ref C_Covered) = some true) (iv_Covered : PySem.W.subIn K (.ref C_Covered) (.type "ValueError") = some true) (ib_Covered : PySem.W.subIn K (.ref C_Covered) (.ref C_BothError) = some true)
    (no_Covered_path : PySem.W.findIn K (.ref C_Covered) "path" = some none)
    (no_Covered_other : PySem.W.findIn K (.ref C_Covered) "other" = some none)
    : ∃ T : Tx K mg, T.a_law = f_law ∧ T.d_law = PySem.W.fnOf "law" "law" (defArgs s_law) (defBody s_law) (defScope s_law) .none kV_law dc_law pm_law an_law cd_law ct_law :=
  ⟨{ m_abs := PySem.W.mg_none_of X G z_abs,
     m_all := PySem.W.mg_none_of X G z_all,
     m_any := PySem.W.mg_none_of X G z_any,
     m_enumerate := PySem.W.mg_none_of X G z_enumerate,
     m_int := PySem.W.mg_none_of X G z_int,
     m_isinstance := PySem.W.mg_none_of X G z_isinstance,
     m_len := PySem.W.mg_none_of X G z_len,
     m_list := PySem.W.mg_none_of X G z_list,
     m_max := PySem.W.mg_none_of X G z_max,
     m_min := PySem.W.mg_none_of X G z_min,
     m_range := PySem.W.mg_none_of X G z_range,
     m_sorted := PySem.W.mg_none_of X G z_sorted,
     m_str := PySem.W.mg_none_of X G z_str,
     m_tuple := PySem.W.mg_none_of X G z_tuple,
     m_zip := PySem.W.mg_none_of X G z_zip,
     t_LETTERS := t_LETTERS, c_LETTERS := PySem.W.mg_of X G z_LETTERS,
     t_BLANK := t_BLANK, c_BLANK := PySem.W.mg_of X G z_BLANK,
     t_SLASH := t_SLASH, c_SLASH := PySem.W.mg_of X G z_SLASH,
     t_MOST_SIGNS := t_MOST_SIGNS, c_MOST_SIGNS := PySem.W.mg_of X G z_MOST_SIGNS,
     t_MOST_LETTERS := t_MOST_LETTERS, c_MOST_LETTERS := PySem.W.mg_of X G z_MOST_LETTERS,
     t_PAIR := t_PAIR, c_PAIR := PySem.W.mg_of X G z_PAIR,
     a_is_line := f_is_line, d_is_line := _, F_is_line := fun_mk (st := s_is_line) l_is_line c_is_line k_is_line, g_is_line := PySem.W.mg_of X G a_is_line, b_is_line := (fun_mk (st := s_is_line) l_is_line c_is_line k_is_line).binds fun _ _ _ _ _ _ us hl => match us, hl with | [_], _ => rfl,
     a_is_name := f_is_name, d_is_name := _, F_is_name := fun_mk (st := s_is_name) l_is_name c_is_name k_is_name, g_is_name := PySem.W.mg_of X G a_is_name, b_is_name := (fun_mk (st := s_is_name) l_is_name c_is_name k_is_name).binds fun _ _ _ _ _ _ us hl => match us, hl with | [_], _ => rfl,
     a_is_path := f_is_path, d_is_path := _, F_is_path := fun_mk (st := s_is_path) l_is_path c_is_path k_is_path, g_is_path := PySem.W.mg_of X G a_is_path, b_is_path := (fun_mk (st := s_is_path) l_is_path c_is_path k_is_path).binds fun _ _ _ _ _ _ us hl => match us, hl with | [_], _ => rfl,
     a_lies_below := f_lies_below, d_lies_below := _, F_lies_below := fun_mk (st := s_lies_below) l_lies_below c_lies_below k_lies_below, g_lies_below := PySem.W.mg_of X G a_lies_below, b_lies_below := (fun_mk (st := s_lies_below) l_lies_below c_lies_below k_lies_below).binds fun _ _ _ _ _ _ us hl => match us, hl with | [_, _], _ => rfl,
     a_is_file := f_is_file, d_is_file := _, F_is_file := fun_mk (st := s_is_file) l_is_file c_is_file k_is_file, g_is_file := PySem.W.mg_of X G a_is_file, b_is_file := (fun_mk (st := s_is_file) l_is_file c_is_file k_is_file).binds fun _ _ _ _ _ _ us hl => match us, hl with | [_], _ => rfl,
     a_is_tree := f_is_tree, d_is_tree := _, F_is_tree := fun_mk (st := s_is_tree) l_is_tree c_is_tree k_is_tree, g_is_tree := PySem.W.mg_of X G a_is_tree, b_is_tree := (fun_mk (st := s_is_tree) l_is_tree c_is_tree k_is_tree).binds fun _ _ _ _ _ _ us hl => match us, hl with | [_], _ => rfl,
     a_is_folder := f_is_folder, d_is_folder := _, F_is_folder := fun_mk (st := s_is_folder) l_is_folder c_is_folder k_is_folder, g_is_folder := PySem.W.mg_of X G a_is_folder, b_is_folder := (fun_mk (st := s_is_folder) l_is_folder c_is_folder k_is_folder).binds fun _ _ _ _ _ _ us hl => match us, hl with | [_], _ => rfl,
     a_is_row := f_is_row, d_is_row := _, F_is_row := fun_mk (st := s_is_row) l_is_row c_is_row k_is_row, g_is_row := PySem.W.mg_of X G a_is_row, b_is_row := (fun_mk (st := s_is_row) l_is_row c_is_row k_is_row).binds fun _ _ _ _ _ _ us hl => match us, hl with | [_], _ => rfl,
     a_are_apart := f_are_apart, d_are_apart := _, F_are_apart := fun_mk (st := s_are_apart) l_are_apart c_are_apart k_are_apart, g_are_apart := PySem.W.mg_of X G a_are_apart, b_are_apart := (fun_mk (st := s_are_apart) l_are_apart c_are_apart k_are_apart).binds fun _ _ _ _ _ _ us hl => match us, hl with | [_], _ => rfl,
     a_is_rows := f_is_rows, d_is_rows := _, F_is_rows := fun_mk (st := s_is_rows) l_is_rows c_is_rows k_is_rows, g_is_rows := PySem.W.mg_of X G a_is_rows, b_is_rows := (fun_mk (st := s_is_rows) l_is_rows c_is_rows k_is_rows).binds fun _ _ _ _ _ _ us hl => match us, hl with | [_], _ => rfl,
     a_joined := f_joined, d_joined := _, F_joined := fun_mk (st := s_joined) l_joined c_joined k_joined, g_joined := PySem.W.mg_of X G a_joined, b_joined := (fun_mk (st := s_joined) l_joined c_joined k_joined).binds fun _ _ _ _ _ _ us hl => match us, hl with | [_, _], _ => rfl,
     a_rest_of := f_rest_of, d_rest_of := _, F_rest_of := fun_mk (st := s_rest_of) l_rest_of c_rest_of k_rest_of, g_rest_of := PySem.W.mg_of X G a_rest_of, b_rest_of := (fun_mk (st := s_rest_of) l_rest_of c_rest_of k_rest_of).binds fun _ _ _ _ _ _ us hl => match us, hl with | [_, _], _ => rfl,
     a_row_of := f_row_of, d_row_of := _, F_row_of := fun_mk (st := s_row_of) l_row_of c_row_of k_row_of, g_row_of := PySem.W.mg_of X G a_row_of, b_row_of := (fun_mk (st := s_row_of) l_row_of c_row_of k_row_of).binds fun _ _ _ _ _ _ us hl => match us, hl with | [_, _], _ => rfl,
     a_place := f_place, d_place := _, F_place := fun_mk (st := s_place) l_place c_place k_place, g_place := PySem.W.mg_of X G a_place, b_place := (fun_mk (st := s_place) l_place c_place k_place).binds fun _ _ _ _ _ _ us hl => match us, hl with | [_, _], _ => rfl,
     a_candidate_of := f_candidate_of, d_candidate_of := _, F_candidate_of := fun_mk (st := s_candidate_of) l_candidate_of c_candidate_of k_candidate_of, g_candidate_of := PySem.W.mg_of X G a_candidate_of, b_candidate_of := (fun_mk (st := s_candidate_of) l_candidate_of c_candidate_of k_candidate_of).binds fun _ _ _ _ _ _ us hl => match us, hl with | [_, _], _ => rfl,
     a_way_back := f_way_back, d_way_back := _, F_way_back := fun_mk (st := s_way_back) l_way_back c_way_back k_way_back, g_way_back := PySem.W.mg_of X G a_way_back, b_way_back := (fun_mk (st := s_way_back) l_way_back c_way_back k_way_back).binds fun _ _ _ _ _ _ us hl => match us, hl with | [_, _], _ => rfl,
     a_taken := f_taken, d_taken := _, F_taken := fun_mk (st := s_taken) l_taken c_taken k_taken, g_taken := PySem.W.mg_of X G a_taken, b_taken := (fun_mk (st := s_taken) l_taken c_taken k_taken).binds fun _ _ _ _ _ _ us hl => match us, hl with | [_, _], _ => rfl,
     a_outside := f_outside, d_outside := _, F_outside := fun_mk (st := s_outside) l_outside c_outside k_outside, g_outside := PySem.W.mg_of X G a_outside, b_outside := (fun_mk (st := s_outside) l_outside c_outside k_outside).binds fun _ _ _ _ _ _ us hl => match us, hl with | [_, _], _ => rfl,
     a_check_beside := f_check_beside, d_check_beside := _, F_check_beside := fun_mk (st := s_check_beside) l_check_beside c_check_beside k_check_beside, g_check_beside := PySem.W.mg_of X G a_check_beside, b_check_beside := (fun_mk (st := s_check_beside) l_check_beside c_check_beside k_check_beside).binds fun _ _ _ _ _ _ us hl => match us, hl with | [_, _], _ => rfl,
     a_led_back := f_led_back, d_led_back := _, F_led_back := fun_mk (st := s_led_back) l_led_back c_led_back k_led_back, g_led_back := PySem.W.mg_of X G a_led_back, b_led_back := (fun_mk (st := s_led_back) l_led_back c_led_back k_led_back).binds fun _ _ _ _ _ _ us hl => match us, hl with | [_, _], _ => rfl,
     a_laid := f_laid, d_laid := _, F_laid := fun_mk (st := s_laid) l_laid c_laid k_laid, g_laid := PySem.W.mg_of X G a_laid, b_laid := (fun_mk (st := s_laid) l_laid c_laid k_laid).binds fun _ _ _ _ _ _ us hl => match us, hl with | [_, _, _], _ => rfl,
     a_law_box := f_law_box, d_law_box := _, F_law_box := fun_mk (st := s_law_box) l_law_box c_law_box k_law_box, g_law_box := PySem.W.mg_of X G a_law_box, b_law_box := (fun_mk (st := s_law_box) l_law_box c_law_box k_law_box).binds fun _ _ _ _ _ _ us hl => match us, hl with | [_, _], _ => rfl,
     a_law_take := f_law_take, d_law_take := _, F_law_take := fun_mk (st := s_law_take) l_law_take c_law_take k_law_take, g_law_take := PySem.W.mg_of X G a_law_take, b_law_take := (fun_mk (st := s_law_take) l_law_take c_law_take k_law_take).binds fun _ _ _ _ _ _ us hl => match us, hl with | [_, _], _ => rfl,
     a_law_of := f_law_of, d_law_of := _, F_law_of := fun_mk (st := s_law_of) l_law_of c_law_of k_law_of, g_law_of := PySem.W.mg_of X G a_law_of, b_law_of := (fun_mk (st := s_law_of) l_law_of c_law_of k_law_of).binds fun _ _ _ _ _ _ us hl => match us, hl with | [_, _], _ => rfl,
     a_law_meets := f_law_meets, d_law_meets := _, F_law_meets := fun_mk (st := s_law_meets) l_law_meets c_law_meets k_law_meets, g_law_meets := PySem.W.mg_of X G a_law_meets, b_law_meets := (fun_mk (st := s_law_meets) l_law_meets c_law_meets k_law_meets).binds fun _ _ _ _ _ _ us hl => match us, hl with | [_, _], _ => rfl,
     a_law_rows_drawn := f_law_rows_drawn, d_law_rows_drawn := _, F_law_rows_drawn := fun_mk (st := s_law_rows_drawn) l_law_rows_drawn c_law_rows_drawn k_law_rows_drawn, g_law_rows_drawn := PySem.W.mg_of X G a_law_rows_drawn, b_law_rows_drawn := (fun_mk (st := s_law_rows_drawn) l_law_rows_drawn c_law_rows_drawn k_law_rows_drawn).binds fun _ _ _ _ _ _ us hl => match us, hl with | [_], _ => rfl,
     a_law_paths := f_law_paths, d_law_paths := _, F_law_paths := fun_mk (st := s_law_paths) l_law_paths c_law_paths k_law_paths, g_law_paths := PySem.W.mg_of X G a_law_paths, b_law_paths := (fun_mk (st := s_law_paths) l_law_paths c_law_paths k_law_paths).binds fun _ _ _ _ _ _ us hl => match us, hl with | [], _ => rfl,
     a_law_tree := f_law_tree, d_law_tree := _, F_law_tree := fun_mk (st := s_law_tree) l_law_tree c_law_tree k_law_tree, g_law_tree := PySem.W.mg_of X G a_law_tree, b_law_tree := (fun_mk (st := s_law_tree) l_law_tree c_law_tree k_law_tree).binds fun _ _ _ _ _ _ us hl => match us, hl with | [_, _], _ => rfl,
     a_law_paths_right := f_law_paths_right, d_law_paths_right := _, F_law_paths_right := fun_mk (st := s_law_paths_right) l_law_paths_right c_law_paths_right k_law_paths_right, g_law_paths_right := PySem.W.mg_of X G a_law_paths_right, b_law_paths_right := (fun_mk (st := s_law_paths_right) l_law_paths_right c_law_paths_right k_law_paths_right).binds fun _ _ _ _ _ _ us hl => match us, hl with | [_], _ => rfl,
     a_law_mixed_right := f_law_mixed_right, d_law_mixed_right := _, F_law_mixed_right := fun_mk (st := s_law_mixed_right) l_law_mixed_right c_law_mixed_right k_law_mixed_right, g_law_mixed_right := PySem.W.mg_of X G a_law_mixed_right, b_law_mixed_right := (fun_mk (st := s_law_mixed_right) l_law_mixed_right c_law_mixed_right k_law_mixed_right).binds fun _ _ _ _ _ _ us hl => match us, hl with | [_, _, _], _ => rfl,
     a_law_right := f_law_right, d_law_right := _, F_law_right := fun_mk (st := s_law_right) l_law_right c_law_right k_law_right, g_law_right := PySem.W.mg_of X G a_law_right, b_law_right := (fun_mk (st := s_law_right) l_law_right c_law_right k_law_right).binds fun _ _ _ _ _ _ us hl => match us, hl with | [_], _ => rfl,
     a_law := f_law, d_law := _, F_law := fun_mk (st := s_law) l_law c_law k_law, g_law := PySem.W.mg_of X G a_law, b_law := (fun_mk (st := s_law) l_law c_law k_law).binds fun _ _ _ _ _ _ us hl => match us, hl with | [_], _ => rfl,
     C_BothError := C_BothError, g_BothError := PySem.W.mg_of X G aC_BothError,
     C_Inside := C_Inside, g_Inside := PySem.W.mg_of X G aC_Inside,
     f_Inside := f_Inside, d_Inside := _, oex_Inside := ⟨⟨_, _, _, _, _, _, _, _, _, _, _, _, _, _, _, xL_Inside, xm_Inside⟩, sa_Inside, eC_Inside, tC_Inside, kC_Inside⟩, i_Inside := iC_Inside, t_Inside := tI_Inside, b_Inside := .all fun us hl => match us, hl with | [_, _], _ => rfl,
     in_Inside := fun P w base hP => ErX.init_ok (sf := "self") (pn := "path") (pns := []) (fls := []) (fl := "path") (ErX.er_mk hP ⟨⟨_, _, _, _, _, _, _, _, _, _, _, _, _, _, _, xL_Inside, xm_Inside⟩, sa_Inside, eC_Inside, tC_Inside, kC_Inside⟩ ce_Inside co_Inside fi_Inside su_Inside ic_Inside iv_Inside z_opq) l_Inside c_Inside (PySem.W.mg_none_of X G z_super) rfl rfl rfl rfl rfl rfl rfl (by decide +kernel) (by decide +kernel) (by decide +kernel) rfl no_Inside_path (by decide) (by decide) (fun _ => rfl) (fun _ => rfl) (fun _ => rfl) (fun _ => rfl) (fun _ => rfl)
      (fun L m us A E s hl hm ns Q' hQ => by
        match us, hl with
        | [u0], _ => exact ErX.args1 rfl rfl (by decide) ns (hm 0 _ _ rfl rfl) hQ)
      (fun L x m us ys hl r hs hm => .nil),
     ex_Inside := PySem.W.exm_ref eB iB tB ib_Inside,
     C_NoPlace := C_NoPlace, g_NoPlace := PySem.W.mg_of X G aC_NoPlace,
     f_NoPlace := f_NoPlace, d_NoPlace := _, oex_NoPlace := ⟨⟨_, _, _, _, _, _, _, _, _, _, _, _, _, _, _, xL_NoPlace, xm_NoPlace⟩, sa_NoPlace, eC_NoPlace, tC_NoPlace, kC_NoPlace⟩, i_NoPlace := iC_NoPlace, t_NoPlace := tI_NoPlace, b_NoPlace := .all fun us hl => match us, hl with | [_, _], _ => rfl,
     in_NoPlace := fun P w base hP => ErX.init_ok (sf := "self") (pn := "path") (pns := []) (fls := []) (fl := "path") (ErX.er_mk hP ⟨⟨_, _, _, _, _, _, _, _, _, _, _, _, _, _, _, xL_NoPlace, xm_NoPlace⟩, sa_NoPlace, eC_NoPlace, tC_NoPlace, kC_NoPlace⟩ ce_NoPlace co_NoPlace fi_NoPlace su_NoPlace ic_NoPlace iv_NoPlace z_opq) l_NoPlace c_NoPlace (PySem.W.mg_none_of X G z_super) rfl rfl rfl rfl rfl rfl rfl (by decide +kernel) (by decide +kernel) (by decide +kernel) rfl no_NoPlace_path (by decide) (by decide) (fun _ => rfl) (fun _ => rfl) (fun _ => rfl) (fun _ => rfl) (fun _ => rfl)
      (fun L m us A E s hl hm ns Q' hQ => by
        match us, hl with
        | [u0], _ => exact ErX.args1 rfl rfl (by decide) ns (hm 0 _ _ rfl rfl) hQ)
      (fun L x m us ys hl r hs hm => .nil),
     ex_NoPlace := PySem.W.exm_ref eB iB tB ib_NoPlace,
     C_Covered := C_Covered, g_Covered := PySem.W.mg_of X G aC_Covered,
     f_Covered := f_Covered, d_Covered := _, oex_Covered := ⟨⟨_, _, _, _, _, _, _, _, _, _, _, _, _, _, _, xL_Covered, xm_Covered⟩, sa_Covered, eC_Covered, tC_Covered, kC_Covered⟩, i_Covered := iC_Covered, t_Covered := tI_Covered, b_Covered := .all fun us hl => match us, hl with | [_, _, _], _ => rfl,
     in_Covered := fun P w base hP => ErX.init_ok (sf := "self") (pn := "path") (pns := ["other"]) (fls := ["other"]) (fl := "path") (ErX.er_mk hP ⟨⟨_, _, _, _, _, _, _, _, _, _, _, _, _, _, _, xL_Covered, xm_Covered⟩, sa_Covered, eC_Covered, tC_Covered, kC_Covered⟩ ce_Covered co_Covered fi_Covered su_Covered ic_Covered iv_Covered z_opq) l_Covered c_Covered (PySem.W.mg_none_of X G z_super) rfl rfl rfl rfl rfl rfl rfl (by decide +kernel) (by decide +kernel) (by decide +kernel) rfl no_Covered_path (by decide) (by decide) (fun _ => rfl) (fun _ => rfl) (fun _ => rfl) (fun _ => rfl) (fun _ => rfl)
      (fun L m us A E s hl hm ns Q' hQ => by
        match us, hl with
        | [u0, u1], _ => exact ErX.args2 rfl rfl (by decide) rfl (by decide) ns (hm 0 _ _ rfl rfl) (hm 1 _ _ rfl rfl) hQ)
      (fun L x m us ys hl r hs hm => by
        match us, ys, hl, r with
        | [u], [y], _, .cons ry .nil => exact .cons rfl rfl hs (hm 0 _ _ rfl rfl) ry no_Covered_other (by decide) (by decide) rfl .nil),
     ex_Covered := PySem.W.exm_ref eB iB tB ib_Covered }, rfl, rfl⟩
theorem all_mk {l : PySem.W.OpenLaw} (hPF : ErX.PF l.prog) {w : World} {K : PySem.W.Frag} {mg : Str → Option Value} {fa : Addr} (hfa : mg "law" = some (.ref fa)) (hT : ∃ (T : Tx K mg) (kV dc pm : Value) (an : Option Addr) (cd ct : Value), T.d_law = PySem.W.fnOf "law" "law" (defArgs s_law) (defBody s_law) (defScope s_law) .none kV dc pm an cd ct) :
    ∃ fd : FuncData, (∀ (s : Shared) (v : Value), BindsTo s fd ⟨[v], []⟩ [("_law_script", v)]) ∧ ∀ base : Heap, K.In base → base.Ns mainGlobals mg → FnG l.prog w K mg base CX0 9 fa fd ["_law_script"] (spLaw K) := by
  obtain ⟨T, kV, dc, pm, an, cd, ct, e⟩ := hT
  have e1 := hfa.symm.trans T.g_law
  cases e1
  exact ⟨T.d_law, fun s v => by rw [e]; exact .of_eq rfl, fun base _ _ => ok_law T⟩
theorem fin_mk {l : PySem.W.OpenLaw} (hPF : ErX.PF l.prog) {w : World} {K : PySem.W.Frag} {mg : Str → Option Value} {fa fl : Addr} {kV dc pm : Value} {an : Option Addr} {cd ct : Value} (hfa : mg "law" = some (.ref fa))
    (hT : ∃ T : Tx K mg, T.a_law = fl ∧ T.d_law = PySem.W.fnOf "law" "law" (defArgs s_law) (defBody s_law) (defScope s_law) .none kV dc pm an cd ct) :
    ∃ fd : FuncData, (∀ (s : Shared) (v : Value), BindsTo s fd ⟨[v], []⟩ [("_law_script", v)]) ∧ ∀ base : Heap, K.In base → base.Ns mainGlobals mg → FnG l.prog w K mg base CX0 9 fa fd ["_law_script"] (spLaw K) := by
  obtain ⟨T, _, e⟩ := hT
  exact all_mk hPF hfa ⟨T, _, _, _, _, _, _, e⟩
end K23
open PySem PySem.W PyProof.Rows
set_option maxHeartbeats 0 in
theorem PySem.Challenge.cw_bothhistories_k23_whole_taken_and_laid_holds : PySem.Challenge.rw_bothhistories_k23_whole_taken_and_laid.Holds := by
  w_on; o_law; k_head; (case hw => w_witness2)
  k_fill
  refine B.walk_ofG (l := PySem.Challenge.rw_bothhistories_k23_whole_taken_and_laid) (n := 63) (k := 9) (x := "_law_script") (CX := L2.CX0) (sp := B.spLaw) rfl (by decide) rfl ⟨rfl, by decide, by decide⟩ (fun w h Y => by first | exact PySem.W.kIn_of Y | exact PySem.W.km_in_of Y) ?F (fun _ _ a ns hl _ hS => B.law_starts hl hS) (fun _ _ _ _ h => h)
  case F =>
    intro w mg fa h KX G hmg
    refine' K23.fin_mk (l := PySem.Challenge.rw_bothhistories_k23_whole_taken_and_laid) ⟨by decide +kernel, by decide +kernel⟩ hmg (K23.tx_mk KX G ?z_abs ?z_all ?z_any ?z_enumerate ?z_int ?z_isinstance ?z_len ?z_list ?z_max ?z_min ?z_range ?z_sorted ?z_str ?z_tuple ?z_zip ?z_LETTERS ?z_BLANK ?z_SLASH ?z_MOST_SIGNS ?z_MOST_LETTERS ?z_PAIR ?a_is_line ?l_is_line ?c_is_line ?k_is_line ?a_is_name ?l_is_name ?c_is_name ?k_is_name ?a_is_path ?l_is_path ?c_is_path ?k_is_path ?a_lies_below ?l_lies_below ?c_lies_below ?k_lies_below ?a_is_file ?l_is_file ?c_is_file ?k_is_file ?a_is_tree ?l_is_tree ?c_is_tree ?k_is_tree ?a_is_folder ?l_is_folder ?c_is_folder ?k_is_folder ?a_is_row ?l_is_row ?c_is_row ?k_is_row ?a_are_apart ?l_are_apart ?c_are_apart ?k_are_apart ?a_is_rows ?l_is_rows ?c_is_rows ?k_is_rows ?a_joined ?l_joined ?c_joined ?k_joined ?a_rest_of ?l_rest_of ?c_rest_of ?k_rest_of ?a_row_of ?l_row_of ?c_row_of ?k_row_of ?a_place ?l_place ?c_place ?k_place ?a_candidate_of ?l_candidate_of ?c_candidate_of ?k_candidate_of ?a_way_back ?l_way_back ?c_way_back ?k_way_back ?a_taken ?l_taken ?c_taken ?k_taken ?a_outside ?l_outside ?c_outside ?k_outside ?a_check_beside ?l_check_beside ?c_check_beside ?k_check_beside ?a_led_back ?l_led_back ?c_led_back ?k_led_back ?a_laid ?l_laid ?c_laid ?k_laid ?a_law_box ?l_law_box ?c_law_box ?k_law_box ?a_law_take ?l_law_take ?c_law_take ?k_law_take ?a_law_of ?l_law_of ?c_law_of ?k_law_of ?a_law_meets ?l_law_meets ?c_law_meets ?k_law_meets ?a_law_rows_drawn ?l_law_rows_drawn ?c_law_rows_drawn ?k_law_rows_drawn ?a_law_paths ?l_law_paths ?c_law_paths ?k_law_paths ?a_law_tree ?l_law_tree ?c_law_tree ?k_law_tree ?a_law_paths_right ?l_law_paths_right ?c_law_paths_right ?k_law_paths_right ?a_law_mixed_right ?l_law_mixed_right ?c_law_mixed_right ?k_law_mixed_right ?a_law_right ?l_law_right ?c_law_right ?k_law_right ?a_law ?l_law ?c_law ?k_law ?z_super ?z_opq ?aC_BothError ?eB ?tB ?iB ?aC_Inside ?xL_Inside ?xm_Inside ?sa_Inside ?eC_Inside ?tC_Inside ?kC_Inside ?iC_Inside ?tI_Inside ?l_Inside ?c_Inside ?ce_Inside ?co_Inside ?fi_Inside ?su_Inside ?ic_Inside ?iv_Inside ?ib_Inside ?no_Inside_path ?aC_NoPlace ?xL_NoPlace ?xm_NoPlace ?sa_NoPlace ?eC_NoPlace ?tC_NoPlace ?kC_NoPlace ?iC_NoPlace ?tI_NoPlace ?l_NoPlace ?c_NoPlace ?ce_NoPlace ?co_NoPlace ?fi_NoPlace ?su_NoPlace ?ic_NoPlace ?iv_NoPlace ?ib_NoPlace ?no_NoPlace_path ?aC_Covered ?xL_Covered ?xm_Covered ?sa_Covered ?eC_Covered ?tC_Covered ?kC_Covered ?iC_Covered ?tI_Covered ?l_Covered ?c_Covered ?ce_Covered ?co_Covered ?fi_Covered ?su_Covered ?ic_Covered ?iv_Covered ?ib_Covered ?no_Covered_path ?no_Covered_other)
    (case z_abs => k_is); (case z_all => k_is); (case z_any => k_is); (case z_enumerate => k_is); (case z_int => k_is); (case z_isinstance => k_is); (case z_len => k_is); (case z_list => k_is); (case z_max => k_is); (case z_min => k_is); (case z_range => k_is); (case z_sorted => k_is); (case z_str => k_is); (case z_tuple => k_is); (case z_zip => k_is); (case z_LETTERS => k_is); (case z_BLANK => k_is); (case z_SLASH => k_is); (case z_MOST_SIGNS => k_is); (case z_MOST_LETTERS => k_is); (case z_PAIR => k_is); (case a_is_line => k_is); (case l_is_line => k_is); (case c_is_line => k_is); (case k_is_line => k_is); (case a_is_name => k_is); (case l_is_name => k_is); (case c_is_name => k_is); (case k_is_name => k_is); (case a_is_path => k_is); (case l_is_path => k_is); (case c_is_path => k_is); (case k_is_path => k_is); (case a_lies_below => k_is); (case l_lies_below => k_is); (case c_lies_below => k_is); (case k_lies_below => k_is); (case a_is_file => k_is); (case l_is_file => k_is); (case c_is_file => k_is); (case k_is_file => k_is); (case a_is_tree => k_is); (case l_is_tree => k_is); (case c_is_tree => k_is); (case k_is_tree => k_is); (case a_is_folder => k_is); (case l_is_folder => k_is); (case c_is_folder => k_is); (case k_is_folder => k_is); (case a_is_row => k_is); (case l_is_row => k_is); (case c_is_row => k_is); (case k_is_row => k_is); (case a_are_apart => k_is); (case l_are_apart => k_is); (case c_are_apart => k_is); (case k_are_apart => k_is); (case a_is_rows => k_is); (case l_is_rows => k_is); (case c_is_rows => k_is); (case k_is_rows => k_is); (case a_joined => k_is); (case l_joined => k_is); (case c_joined => k_is); (case k_joined => k_is); (case a_rest_of => k_is); (case l_rest_of => k_is); (case c_rest_of => k_is); (case k_rest_of => k_is); (case a_row_of => k_is); (case l_row_of => k_is); (case c_row_of => k_is); (case k_row_of => k_is); (case a_place => k_is); (case l_place => k_is); (case c_place => k_is); (case k_place => k_is); (case a_candidate_of => k_is); (case l_candidate_of => k_is); (case c_candidate_of => k_is); (case k_candidate_of => k_is); (case a_way_back => k_is); (case l_way_back => k_is); (case c_way_back => k_is); (case k_way_back => k_is); (case a_taken => k_is); (case l_taken => k_is); (case c_taken => k_is); (case k_taken => k_is); (case a_outside => k_is); (case l_outside => k_is); (case c_outside => k_is); (case k_outside => k_is); (case a_check_beside => k_is); (case l_check_beside => k_is); (case c_check_beside => k_is); (case k_check_beside => k_is); (case a_led_back => k_is); (case l_led_back => k_is); (case c_led_back => k_is); (case k_led_back => k_is); (case a_laid => k_is); (case l_laid => k_is); (case c_laid => k_is); (case k_laid => k_is); (case a_law_box => k_is); (case l_law_box => k_is); (case c_law_box => k_is); (case k_law_box => k_is); (case a_law_take => k_is); (case l_law_take => k_is); (case c_law_take => k_is); (case k_law_take => k_is); (case a_law_of => k_is); (case l_law_of => k_is); (case c_law_of => k_is); (case k_law_of => k_is); (case a_law_meets => k_is); (case l_law_meets => k_is); (case c_law_meets => k_is); (case k_law_meets => k_is); (case a_law_rows_drawn => k_is); (case l_law_rows_drawn => k_is); (case c_law_rows_drawn => k_is); (case k_law_rows_drawn => k_is); (case a_law_paths => k_is); (case l_law_paths => k_is); (case c_law_paths => k_is); (case k_law_paths => k_is); (case a_law_tree => k_is); (case l_law_tree => k_is); (case c_law_tree => k_is); (case k_law_tree => k_is); (case a_law_paths_right => k_is); (case l_law_paths_right => k_is); (case c_law_paths_right => k_is); (case k_law_paths_right => k_is); (case a_law_mixed_right => k_is); (case l_law_mixed_right => k_is); (case c_law_mixed_right => k_is); (case k_law_mixed_right => k_is); (case a_law_right => k_is); (case l_law_right => k_is); (case c_law_right => k_is); (case k_law_right => k_is); (case a_law => k_is); (case l_law => k_is); (case c_law => k_is); (case k_law => k_is); (case z_super => k_is); (case z_opq => k_is); (case aC_BothError => k_is); (case eB => k_is); (case tB => k_is); (case iB => k_is); (case aC_Inside => k_is); (case xL_Inside => k_is); (case xm_Inside => decide +kernel); (case sa_Inside => k_is); (case eC_Inside => k_is); (case tC_Inside => k_is); (case kC_Inside => k_is); (case iC_Inside => k_is); (case tI_Inside => k_is); (case l_Inside => k_is); (case c_Inside => k_is); (case ce_Inside => k_is); (case co_Inside => k_is); (case fi_Inside => rfl); (case su_Inside => ks_is); (case ic_Inside => k_is); (case iv_Inside => k_is); (case ib_Inside => k_is); (case no_Inside_path => k_is); (case aC_NoPlace => k_is); (case xL_NoPlace => k_is); (case xm_NoPlace => decide +kernel); (case sa_NoPlace => k_is); (case eC_NoPlace => k_is); (case tC_NoPlace => k_is); (case kC_NoPlace => k_is); (case iC_NoPlace => k_is); (case tI_NoPlace => k_is); (case l_NoPlace => k_is); (case c_NoPlace => k_is); (case ce_NoPlace => k_is); (case co_NoPlace => k_is); (case fi_NoPlace => rfl); (case su_NoPlace => ks_is); (case ic_NoPlace => k_is); (case iv_NoPlace => k_is); (case ib_NoPlace => k_is); (case no_NoPlace_path => k_is); (case aC_Covered => k_is); (case xL_Covered => k_is); (case xm_Covered => decide +kernel); (case sa_Covered => k_is); (case eC_Covered => k_is); (case tC_Covered => k_is); (case kC_Covered => k_is); (case iC_Covered => k_is); (case tI_Covered => k_is); (case l_Covered => k_is); (case c_Covered => k_is); (case ce_Covered => k_is); (case co_Covered => k_is); (case fi_Covered => rfl); (case su_Covered => ks_is); (case ic_Covered => k_is); (case iv_Covered => k_is); (case ib_Covered => k_is); (case no_Covered_path => k_is); (case no_Covered_other => k_is)
    

