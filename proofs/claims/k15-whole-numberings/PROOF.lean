import PyProof.Rows.All
import Wide.All
import OpenK.AllK
import Wide.FinOn
import HandS.ForMost
import HandS.Deep
import HandS.IsInst
import HandS.TupLe
import HandS.TupSets
import HandS.SortInts
import HandS.SetFor
import HandS.Conv
import HandS.WideBits
import HandS.Style
import HandS.NoneIn
import HandS.Wide
import PyProof.Rows.RuleB_pow
import PySem.Challenge.RW_keyroads_k15_whole_numberings
import HandS.Strs
import HandS.Set
import PyProof.ReprRoads
import PyProof.ReprBulk
import PyProof.CallFns
import PyProof.Rows.ReprShort
import PyProof.EqKinds
import PyProof.FactsAll.dict_1
import PyProof.FactsAll.subtypes_4
import HandS.Flt
set_option Elab.async false
set_option linter.all false
set_option maxRecDepth 100000
set_option maxHeartbeats 4000000
/-! KR, part A: data, the frozen heap, mutable cells, growth. -/
namespace KR
open PySem PySem.Spec PyProof.Rows L2

/-! ### data over a frozen heap -/
mutual
inductive Dt (B : Hp) : V → PyData → Prop
  | none : Dt B .non .none
  | bool (b : Bool) : Dt B (.bl b) (.bool b)
  | int (i : Int) : Dt B (.int i) (.int i)
  | str (x : Str) : Dt B (.str x) (.str x)
  | list {a : Addr} {xs : List V} {ds : List PyData} : B a = some (.lst xs) → DtA B xs ds → Dt B (.ref a) (.list ds)
  | tuple {a : Addr} {xs : List V} {ds : List PyData} : B a = some (.tup xs) → DtA B xs ds → Dt B (.ref a) (.tuple ds)
  | dict {a : Addr} : B a = some (.dT []) → Dt B (.ref a) (.dict [])
inductive DtA (B : Hp) : List V → List PyData → Prop
  | nil : DtA B [] []
  | cons {v : V} {vs : List V} {d : PyData} {ds : List PyData} : Dt B v d → DtA B vs ds → DtA B (v :: vs) (d :: ds)
end

mutual
theorem Dt.mono {B B' : Hp} (e : Same B B') : ∀ {v : V} {d : PyData}, Dt B v d → Dt B' v d
  | _, _, .none => .none
  | _, _, .bool b => .bool b
  | _, _, .int i => .int i
  | _, _, .str x => .str x
  | _, _, .list h h2 => .list (e _ _ h) (DtA.mono e h2)
  | _, _, .tuple h h2 => .tuple (e _ _ h) (DtA.mono e h2)
  | _, _, .dict h => .dict (e _ _ h)
theorem DtA.mono {B B' : Hp} (e : Same B B') : ∀ {vs : List V} {ds : List PyData}, DtA B vs ds → DtA B' vs ds
  | _, _, .nil => .nil
  | _, _, .cons h h2 => .cons (Dt.mono e h) (DtA.mono e h2)
end
theorem dt_none {B : Hp} {v : V} : Dt B v .none ↔ v = .non := ⟨fun h => by cases h; rfl, fun h => h ▸ .none⟩
theorem dt_bool {B : Hp} {v : V} {b : Bool} : Dt B v (.bool b) ↔ v = .bl b := ⟨fun h => by cases h; rfl, fun h => h ▸ .bool b⟩
theorem dt_int {B : Hp} {v : V} {i : Int} : Dt B v (.int i) ↔ v = .int i := ⟨fun h => by cases h; rfl, fun h => h ▸ .int i⟩
theorem dt_str {B : Hp} {v : V} {x : Str} : Dt B v (.str x) ↔ v = .str x := ⟨fun h => by cases h; rfl, fun h => h ▸ .str x⟩
theorem dt_list {B : Hp} {v : V} {ds : List PyData} : Dt B v (.list ds) ↔ ∃ a xs, v = .ref a ∧ B a = some (.lst xs) ∧ DtA B xs ds :=
  ⟨fun h => by cases h with | list h h2 => exact ⟨_, _, rfl, h, h2⟩, fun ⟨a, xs, e, h, h2⟩ => e ▸ .list h h2⟩
theorem dt_tuple {B : Hp} {v : V} {ds : List PyData} : Dt B v (.tuple ds) ↔ ∃ a xs, v = .ref a ∧ B a = some (.tup xs) ∧ DtA B xs ds :=
  ⟨fun h => by cases h with | tuple h h2 => exact ⟨_, _, rfl, h, h2⟩, fun ⟨a, xs, e, h, h2⟩ => e ▸ .tuple h h2⟩
theorem dt_dict {B : Hp} {v : V} {kvs : List (PyData × PyData)} : Dt B v (.dict kvs) ↔ ∃ a, v = .ref a ∧ B a = some (.dT []) ∧ kvs = [] :=
  ⟨fun h => by cases h with | dict h => exact ⟨_, rfl, h, rfl⟩, fun ⟨a, e, h, e2⟩ => by subst e e2; exact .dict h⟩
theorem dta_nil {B : Hp} {vs : List V} : DtA B vs [] ↔ vs = [] := ⟨fun h => by cases h; rfl, fun h => h ▸ .nil⟩
theorem dta_cons {B : Hp} {vs : List V} {d : PyData} {ds : List PyData} : DtA B vs (d :: ds) ↔ ∃ x r, vs = x :: r ∧ Dt B x d ∧ DtA B r ds :=
  ⟨fun h => by cases h with | cons h h2 => exact ⟨_, _, rfl, h, h2⟩, fun ⟨x, r, e, h, h2⟩ => e ▸ .cons h h2⟩
theorem DtA.length {B : Hp} : ∀ {vs : List V} {ds : List PyData}, DtA B vs ds → vs.length = ds.length
  | _, [], h => by rw [dta_nil.mp h]; rfl
  | _, d :: ds, h => by
    obtain ⟨x, r, rfl, _, h3⟩ := dta_cons.mp h
    rw [List.length_cons, List.length_cons, DtA.length h3]
theorem DtA.get {B : Hp} : ∀ {vs : List V} {ds : List PyData} {i : Nat} {d : PyData}, DtA B vs ds → ds[i]? = some d → ∃ v, vs[i]? = some v ∧ Dt B v d
  | _, [], _, _, _, e => by simp at e
  | _, d :: ds, 0, _, h, e => by
    obtain ⟨x, r, rfl, h2, h3⟩ := dta_cons.mp h
    cases e
    exact ⟨x, rfl, h2⟩
  | _, d :: ds, i + 1, _, h, e => by
    obtain ⟨x, r, rfl, h2, h3⟩ := dta_cons.mp h
    obtain ⟨v, h4, h5⟩ := DtA.get h3 (show ds[i]? = some _ from by simpa using e)
    exact ⟨v, by simpa using h4, h5⟩
theorem DtA.append {B : Hp} : ∀ {vs ws : List V} {ds es : List PyData}, DtA B vs ds → DtA B ws es → DtA B (vs ++ ws) (ds ++ es)
  | _, _, [], _, h, h' => by rw [dta_nil.mp h]; exact h'
  | _, _, d :: ds, _, h, h' => by
    obtain ⟨x, r, rfl, h2, h3⟩ := dta_cons.mp h
    exact .cons h2 (DtA.append h3 h')
theorem DtA.one {B : Hp} {v : V} {d : PyData} (h : Dt B v d) : DtA B [v] [d] := .cons h .nil
theorem DtA.take {B : Hp} : ∀ {vs : List V} {ds : List PyData} (n : Nat), DtA B vs ds → DtA B (vs.take n) (ds.take n)
  | _, _, 0, _ => by simpa using DtA.nil
  | _, [], n + 1, h => by rw [dta_nil.mp h]; exact .nil
  | _, d :: ds, n + 1, h => by
    obtain ⟨x, r, rfl, h2, h3⟩ := dta_cons.mp h
    exact .cons h2 (DtA.take n h3)
theorem DtA.drop {B : Hp} : ∀ {vs : List V} {ds : List PyData} (n : Nat), DtA B vs ds → DtA B (vs.drop n) (ds.drop n)
  | _, _, 0, h => h
  | _, [], n + 1, h => by rw [dta_nil.mp h]; exact .nil
  | _, d :: ds, n + 1, h => by
    obtain ⟨x, r, rfl, h2, h3⟩ := dta_cons.mp h
    exact DtA.drop n h3
theorem DtA.eraseIdx {B : Hp} : ∀ {vs : List V} {ds : List PyData} (n : Nat), DtA B vs ds → DtA B (vs.eraseIdx n) (ds.eraseIdx n)
  | _, [], n, h => by rw [dta_nil.mp h]; exact .nil
  | _, d :: ds, 0, h => by
    obtain ⟨x, r, rfl, h2, h3⟩ := dta_cons.mp h
    exact h3
  | _, d :: ds, n + 1, h => by
    obtain ⟨x, r, rfl, h2, h3⟩ := dta_cons.mp h
    exact .cons h2 (DtA.eraseIdx n h3)
theorem DtA.set {B : Hp} {v : V} {e : PyData} (hv : Dt B v e) : ∀ {vs : List V} {ds : List PyData} (n : Nat), DtA B vs ds → DtA B (vs.set n v) (ds.set n e)
  | _, [], n, h => by rw [dta_nil.mp h]; exact .nil
  | _, d :: ds, 0, h => by
    obtain ⟨x, r, rfl, h2, h3⟩ := dta_cons.mp h
    exact .cons hv h3
  | _, d :: ds, n + 1, h => by
    obtain ⟨x, r, rfl, h2, h3⟩ := dta_cons.mp h
    exact .cons h2 (DtA.set hv n h3)
/-- ints -/
theorem dta_ints {B : Hp} : ∀ {vs : List V} {ns : List Int}, DtA B vs (ns.map PyData.int) ↔ vs = ns.map V.int
  | vs, [] => dta_nil
  | vs, n :: ns => by
    rw [List.map_cons, List.map_cons, dta_cons]
    constructor
    · rintro ⟨x, r, rfl, h1, h2⟩
      rw [dt_int.mp h1, dta_ints.mp h2]
    · rintro rfl
      exact ⟨_, _, rfl, dt_int.mpr rfl, dta_ints.mpr rfl⟩
/-! to the layer's own reading of data -/
mutual
theorem Dt.dp {K : PySem.W.Frag} {B H : Hp} (e : Same B H) : ∀ {v : V} {d : PyData}, d.canLay0 = true → Dt B v d → Dp K H v d
  | _, .none, _, h => by rw [dt_none.mp h]; exact .non
  | _, .bool _, _, h => by rw [dt_bool.mp h]; exact .bl _
  | _, .int _, _, h => by rw [dt_int.mp h]; exact .int _
  | _, .str _, _, h => by rw [dt_str.mp h]; exact .str _
  | _, .list ds, c, h => by
    obtain ⟨a, xs, rfl, h2, h3⟩ := dt_list.mp h
    exact .lst (SqL.of (e _ _ h2)) (DtA.dp e (by simpa [PyData.canLay0] using c) h3)
  | _, .tuple ds, c, h => by
    obtain ⟨a, xs, rfl, h2, h3⟩ := dt_tuple.mp h
    exact .tup (SqT.of (e _ _ h2)) (DtA.dp e (by simpa [PyData.canLay0] using c) h3)
  | _, .dict _, c, _ => by simp [PyData.canLay0] at c
theorem DtA.dp {K : PySem.W.Frag} {B H : Hp} (e : Same B H) : ∀ {vs : List V} {ds : List PyData}, PyData.canLayAll0 ds = true → DtA B vs ds → DpAll K H vs ds
  | _, [], _, h => by rw [dta_nil.mp h]; exact .nil
  | _, d :: ds, c, h => by
    obtain ⟨x, r, rfl, h2, h3⟩ := dta_cons.mp h
    have c' : d.canLay0 = true ∧ PyData.canLayAll0 ds = true := by simpa [PyData.canLayAll0] using c
    exact .cons (Dt.dp e c'.1 h2) (DtA.dp e c'.2 h3)
end

/-! ### what a value or a slot is known to be -/
inductive SD where
  | nil
  | dat (d : PyData)
  | val (v : V)
abbrev dI (i : Int) : SD := .dat (.int i)
abbrev dB (b : Bool) : SD := .dat (.bool b)
def Rs (B : Hp) (v : V) : SD → Prop
  | .nil => True
  | .dat d => Dt B v d
  | .val u => v = u
theorem Rs.mono {B B' : Hp} (e : Same B B') {v : V} : ∀ {r : SD}, Rs B v r → Rs B' v r
  | .nil, _ => trivial
  | .dat _, h => Dt.mono e h
  | .val _, h => h
def RsA (B : Hp) : List V → List SD → Prop
  | [], [] => True
  | v :: vs, r :: rs => Rs B v r ∧ RsA B vs rs
  | _, _ => False
theorem RsA.mono {B B' : Hp} (e : Same B B') : ∀ {vs : List V} {rs : List SD}, RsA B vs rs → RsA B' vs rs
  | [], [], _ => trivial
  | _ :: _, _ :: _, h => ⟨h.1.mono e, RsA.mono e h.2⟩
  | [], _ :: _, h => h.elim
  | _ :: _, [], h => h.elim
theorem RsA.length {B : Hp} : ∀ {vs : List V} {rs : List SD}, RsA B vs rs → vs.length = rs.length
  | [], [], _ => rfl
  | _ :: _, _ :: _, h => by rw [List.length_cons, List.length_cons, RsA.length h.2]
  | [], _ :: _, h => h.elim
  | _ :: _, [], h => h.elim
theorem RsA.get {B : Hp} : ∀ {vs : List V} {rs : List SD} {i : Nat} {r : SD}, RsA B vs rs → rs[i]? = some r → ∃ v, vs[i]? = some v ∧ Rs B v r
  | [], [], _, _, _, e => by simp at e
  | v :: vs, r :: rs, 0, _, h, e => by cases e; exact ⟨v, rfl, h.1⟩
  | v :: vs, r :: rs, i + 1, _, h, e => by
    obtain ⟨u, h1, h2⟩ := RsA.get h.2 (show rs[i]? = some _ from by simpa using e)
    exact ⟨u, by simpa using h1, h2⟩
  | [], _ :: _, _, _, h, _ => h.elim
  | _ :: _, [], _, _, h, _ => h.elim
structure Sl (B : Hp) (σ : L2.St) (Δ : List SD) : Prop where
  len : σ.length = Δ.length
  at_ : ∀ (i : Nat) (r : SD), Δ[i]? = some r → r ≠ .nil → ∃ v, σ[i]? = some (some v) ∧ Rs B v r
theorem Sl.mono {B B' : Hp} (e : Same B B') {σ : L2.St} {Δ : List SD} (h : Sl B σ Δ) : Sl B' σ Δ :=
  ⟨h.len, fun i r h1 h2 => let ⟨v, a, b⟩ := h.at_ i r h1 h2; ⟨v, a, b.mono e⟩⟩
theorem Sl.set {B : Hp} {σ : L2.St} {Δ : List SD} {v : V} {r : SD} (h : Sl B σ Δ) (i : Nat) (hr : Rs B v r) : Sl B (σ.set i (some v)) (Δ.set i r) := by
  refine ⟨by rw [List.length_set, List.length_set]; exact h.len, fun j r' h1 h2 => ?_⟩
  by_cases hj : i = j
  · subst hj
    by_cases hl : i < Δ.length
    · rw [List.getElem?_set_self hl] at h1
      cases h1
      exact ⟨v, List.getElem?_set_self (by rw [h.len]; exact hl), hr⟩
    · rw [List.getElem?_eq_none (by simpa using hl)] at h1
      cases h1
  · rw [List.getElem?_set_ne hj] at h1
    rw [List.getElem?_set_ne hj]
    exact h.at_ j r' h1 h2
def wipeD (Δ : List SD) : List Nat → List SD
  | [] => Δ
  | v :: vs => (wipeD Δ vs).set v .nil
theorem Sl.wipe {B : Hp} {σ : L2.St} {Δ : List SD} (h : Sl B σ Δ) : ∀ vs : List Nat, Sl B (wipe σ vs) (wipeD Δ vs)
  | [] => h
  | v :: vs => by
    have ih := Sl.wipe h vs
    refine ⟨?_, fun j r' h1 h2 => ?_⟩
    · show ((L2.wipe σ vs).set v none).length = ((wipeD Δ vs).set v .nil).length
      rw [List.length_set, List.length_set]
      exact ih.len
    · have h1 : ((wipeD Δ vs).set v .nil)[j]? = some r' := h1
      show ∃ u, ((L2.wipe σ vs).set v none)[j]? = some (some u) ∧ Rs B u r'
      by_cases hj : v = j
      · subst hj
        by_cases hl : v < (wipeD Δ vs).length
        · rw [List.getElem?_set_self hl] at h1
          cases h1
          exact absurd rfl h2
        · rw [List.getElem?_eq_none (by simpa using hl)] at h1
          cases h1
      · rw [List.getElem?_set_ne hj] at h1
        rw [List.getElem?_set_ne hj]
        exact ih.at_ j r' h1 h2

/-! ### mutable cells -/
inductive MD where
  /-- a list that holds data -/
  | ld (ds : List PyData)
  /-- a dict with tuple keys; the same while it is walked -/
  | dic (kvs : List (List L2.Key × V))
  | fdic (o : Obj) (kvs : List (List L2.Key × V))
  /-- a locked list (the script) -/
  | scr (o : Obj) (xs : List V)
abbrev Ms := List (Addr × MD)
def Hc (B H : Hp) (p : Addr) : MD → Prop
  | .ld ds => ∃ xs, H p = some (.lst xs) ∧ DtA B xs ds
  | .dic kvs => H p = some (.dT kvs)
  | .fdic o kvs => H p = some (.frz o (.dT kvs))
  | .scr o xs => H p = some (.frz o (.lst xs))
theorem Hc.some {B H : Hp} {p : Addr} : ∀ {m : MD}, Hc B H p m → ∃ o, H p = some o ∧ ∀ xs, o ≠ .tup xs
  | .ld _, ⟨xs, h, _⟩ => ⟨_, h, fun _ z => nomatch z⟩
  | .dic _, h => ⟨_, h, fun _ z => nomatch z⟩
  | .fdic _ _, h => ⟨_, h, fun _ z => nomatch z⟩
  | .scr _ _, h => ⟨_, h, fun _ z => nomatch z⟩
theorem Hc.move {B H B' H' : Hp} {p : Addr} (e : Same B B') (h : H' p = H p) : ∀ {m : MD}, Hc B H p m → Hc B' H' p m
  | .ld _, ⟨xs, h1, h2⟩ => ⟨xs, h.trans h1, h2.mono e⟩
  | .dic _, h1 => h.trans h1
  | .fdic _ _, h1 => h.trans h1
  | .scr _ _, h1 => h.trans h1
structure Ho (M : Ms) (B H : Hp) : Prop where
  nd : (M.map (·.1)).Nodup
  at_ : ∀ p m, (p, m) ∈ M → Hc B H p m ∧ B p = none
abbrev ad (M : Ms) : List Addr := M.map (·.1)
theorem mem_ad {M : Ms} {a : Addr} (h : a ∈ ad M) : ∃ m, (a, m) ∈ M := by
  obtain ⟨⟨p, m⟩, h1, h2⟩ := List.mem_map.mp h
  cases h2
  exact ⟨m, h1⟩
theorem ad_mem {M : Ms} {a : Addr} {m : MD} (h : (a, m) ∈ M) : a ∈ ad M := List.mem_map.mpr ⟨(a, m), h, rfl⟩
theorem Ho.some {M : Ms} {B H : Hp} (h : Ho M B H) {a : Addr} (ha : a ∈ ad M) : ∃ o, H a = some o ∧ (∀ xs, o ≠ .tup xs) ∧ B a = none := by
  obtain ⟨m, hm⟩ := mem_ad ha
  obtain ⟨h1, h2⟩ := h.at_ a m hm
  obtain ⟨o, h3, h4⟩ := h1.some
  exact ⟨o, h3, h4, h2⟩
structure Go (M : Ms) (B H : Hp) : Prop where
  bh : Same B H
  ho : Ho M B H
structure Gr (M : Ms) (B H : Hp) (M' : Ms) (B2 H2 : Hp) : Prop where
  bb : Same B B2
  bh : Same B2 H2
  hh : ∀ a o, a ∉ ad M → H a = some o → H2 a = some o
  fr : ∀ a o, B2 a = some o → (∃ xs, o = .tup xs) ∨ B a ≠ none ∨ H a = none ∨ a ∈ ad M
  th : ∀ a, H a ≠ none → H2 a ≠ none
  mf : ∀ a, a ∈ ad M' → a ∈ ad M ∨ H a = none
  ho : Ho M' B2 H2
theorem Gr.go {M M' : Ms} {B H B2 H2 : Hp} (g : Gr M B H M' B2 H2) : Go M' B2 H2 := ⟨g.bh, g.ho⟩
theorem Gr.refl {M : Ms} {B H : Hp} (g : Go M B H) : Gr M B H M B H :=
  ⟨.refl _, g.bh, fun _ _ _ h => h, fun a o h => .inr (.inl (by rw [h]; exact fun z => nomatch z)), fun _ h => h, fun _ h => .inl h, g.ho⟩
theorem Gr.trans {M M1 M2 : Ms} {B H B1 H1 B2 H2 : Hp} (a : Gr M B H M1 B1 H1) (b : Gr M1 B1 H1 M2 B2 H2) : Gr M B H M2 B2 H2 := by
  have nM : ∀ c o, c ∉ ad M → H c = some o → c ∉ ad M1 := fun c o h1 h2 h3 => by
    rcases a.mf c h3 with z | z
    · exact h1 z
    · rw [z] at h2; cases h2
  refine ⟨a.bb.trans b.bb, b.bh, fun c o h1 h2 => b.hh c o (nM c o h1 h2) (a.hh c o h1 h2), fun c o h => ?_, fun c h => b.th c (a.th c h), fun c h => ?_, b.ho⟩
  · rcases b.fr c o h with z | z | z | z
    · exact .inl z
    · cases q : B1 c with
      | none => exact absurd q z
      | some u =>
        have e := b.bb c u q
        rw [h] at e
        cases e
        exact a.fr c o q
    · refine .inr (.inr (.inl ?_))
      cases q : H c with
      | none => rfl
      | some u => exact absurd z (a.th c (by rw [q]; exact fun y => nomatch y))
    · rcases a.mf c z with y | y
      · exact .inr (.inr (.inr y))
      · exact .inr (.inr (.inl y))
  · rcases b.mf c h with z | z
    · exact a.mf c z
    · refine .inr ?_
      cases q : H c with
      | none => rfl
      | some u => exact absurd z (a.th c (by rw [q]; exact fun y => nomatch y))
theorem same_upd2 {B H : Hp} {p : Addr} {o : HO} (e : Same B H) (h : H p = none) : Same (upd B p o) (upd H p o) := fun a u q => by
  by_cases hp : a = p
  · subst hp; rw [upd_same] at q; rw [upd_same]; exact q
  · rw [upd_ne hp] at q; rw [upd_ne hp]; exact e a u q
theorem same_new {B : Hp} {p : Addr} {o : HO} (h : B p = none) : Same B (upd B p o) := fun a u q => by
  rw [upd_ne (ne_of_none q h)]; exact q
/-- a new object that becomes data -/
theorem Gr.new {M : Ms} {B H : Hp} {p : Addr} {o : HO} (g : Go M B H) (h : H p = none) : Gr M B H M (upd B p o) (upd H p o) := by
  have hb := g.bh.free h
  refine ⟨same_new hb, same_upd2 g.bh h, fun a u _ e => by rw [upd_ne (ne_of_none e h)]; exact e, fun a u e => ?_, fun a e => ?_, fun _ h => .inl h, g.ho.nd, fun q m hq => ?_⟩
  · by_cases hp : a = p
    · subst hp; exact .inr (.inr (.inl h))
    · rw [upd_ne hp] at e; exact .inr (.inl (by rw [e]; exact fun z => nomatch z))
  · by_cases hp : a = p
    · subst hp; rw [upd_same]; exact fun z => nomatch z
    · rw [upd_ne hp]; exact e
  · obtain ⟨h1, h2⟩ := g.ho.at_ q m hq
    obtain ⟨u, h3, _⟩ := h1.some
    have ne : q ≠ p := ne_of_none h3 h
    exact ⟨h1.move (same_new hb) (upd_ne ne), by rw [upd_ne ne]; exact h2⟩
/-- a new object that becomes a cell -/
theorem Gr.cell {M : Ms} {B H : Hp} {p : Addr} {o : HO} {m : MD} (g : Go M B H) (h : H p = none) (hc : Hc B (upd H p o) p m) : Gr M B H (M ++ [(p, m)]) B (upd H p o) := by
  have hb := g.bh.free h
  have np : p ∉ ad M := fun z => by
    obtain ⟨u, h3, _⟩ := g.ho.some z
    rw [h] at h3; cases h3
  refine ⟨.refl _, fun a u e => by rw [upd_ne (ne_of_none (g.bh a u e) h)]; exact g.bh a u e, fun a u _ e => by rw [upd_ne (ne_of_none e h)]; exact e, fun a u e => .inr (.inl (by rw [e]; exact fun z => nomatch z)), fun a e => ?_, fun a ha => ?_, ?_, fun q m' hq => ?_⟩
  · by_cases hp : a = p
    · subst hp; rw [upd_same]; exact fun z => nomatch z
    · rw [upd_ne hp]; exact e
  · have ha' : a ∈ ad M ++ [p] := by simpa [ad] using ha
    rcases List.mem_append.mp ha' with z | z
    · exact .inl z
    · have e : a = p := by simpa using z
      subst e; exact .inr h
  · rw [List.map_append]
    refine List.nodup_append.mpr ⟨g.ho.nd, by simp, fun a ha b hb' => ?_⟩
    have e : b = p := by simpa using hb'
    subst e
    exact fun z => np (z ▸ ha)
  · rcases List.mem_append.mp hq with z | z
    · obtain ⟨h1, h2⟩ := g.ho.at_ q m' z
      obtain ⟨u, h3, _⟩ := h1.some
      have ne : q ≠ p := ne_of_none h3 h
      exact ⟨h1.move (.refl _) (upd_ne ne), h2⟩
    · have e : (q, m') = (p, m) := by simpa using z
      cases e
      exact ⟨hc, hb⟩
theorem nodup_at {M : Ms} (nd : (ad M).Nodup) {i j : Nat} {p : Addr} {m m' : MD} (h1 : M[i]? = some (p, m)) (h2 : M[j]? = some (p, m')) : i = j := by
  have e1 : (ad M)[i]? = some p := by rw [List.getElem?_map, h1]; rfl
  have e2 : (ad M)[j]? = some p := by rw [List.getElem?_map, h2]; rfl
  exact nd_ix nd e1 e2
theorem ad_set {M : Ms} {i : Nat} {p : Addr} {m m' : MD} (h : M[i]? = some (p, m)) : ad (M.set i (p, m')) = ad M := by
  show (M.set i (p, m')).map (·.1) = M.map (·.1)
  rw [List.map_set]
  apply List.ext_getElem?
  intro j
  by_cases hj : i = j
  · subst hj
    rw [List.getElem?_map, h]
    have hl : i < (M.map (·.1)).length := by
      rw [List.length_map]
      exact (List.getElem?_eq_some_iff.mp h).1
    rw [List.getElem?_set_self hl]
    rfl
  · rw [List.getElem?_set_ne hj]
/-- a cell is written -/
theorem Gr.put {M : Ms} {B H : Hp} {p : Addr} {o : HO} {m m' : MD} {i : Nat} (g : Go M B H) (hi : M[i]? = some (p, m)) (hc : Hc B (upd H p o) p m') : Gr M B H (M.set i (p, m')) B (upd H p o) := by
  have hm : (p, m) ∈ M := List.mem_of_getElem? hi
  obtain ⟨h1, h2⟩ := g.ho.at_ p m hm
  obtain ⟨u, h3, _⟩ := h1.some
  refine ⟨.refl _, fun a w e => ?_, fun a w ha e => ?_, fun a w e => .inr (.inl (by rw [e]; exact fun z => nomatch z)), fun a e => ?_, fun a ha => ?_, ?_, fun q m2 hq => ?_⟩
  · have ne : a ≠ p := fun z => by rw [z, h2] at e; cases e
    rw [upd_ne ne]; exact g.bh a w e
  · have ne : a ≠ p := fun z => ha (z ▸ ad_mem hm)
    rw [upd_ne ne]; exact e
  · by_cases hp : a = p
    · subst hp; rw [upd_same]; exact fun z => nomatch z
    · rw [upd_ne hp]; exact e
  · rw [ad_set hi] at ha; exact .inl ha
  · show (ad (M.set i (p, m'))).Nodup
    rw [ad_set hi]; exact g.ho.nd
  · obtain ⟨j, hj⟩ := List.mem_iff_getElem?.mp hq
    by_cases hij : i = j
    · subst hij
      have hl : i < M.length := (List.getElem?_eq_some_iff.mp hi).1
      rw [List.getElem?_set_self hl] at hj
      cases hj
      exact ⟨hc, h2⟩
    · rw [List.getElem?_set_ne hij] at hj
      have ne : q ≠ p := fun z => by
        subst z
        exact hij (nodup_at g.ho.nd hi hj)
      obtain ⟨h4, h5⟩ := g.ho.at_ q m2 (List.mem_of_getElem? hj)
      exact ⟨h4.move (.refl _) (upd_ne ne), h5⟩
/-- cells are dropped -/
theorem Gr.drop {M M1 M2 : Ms} {B H B2 H2 : Hp} (g : Gr M B H M1 B2 H2) (hs : M2.Sublist M1) : Gr M B H M2 B2 H2 :=
  ⟨g.bb, g.bh, g.hh, g.fr, g.th, fun a h => g.mf a ((hs.map _).subset h), (hs.map _).nodup g.ho.nd, fun p m h => g.ho.at_ p m (hs.subset h)⟩
/-- a list cell becomes data -/
theorem Gr.freeze {M : Ms} {B H : Hp} {p : Addr} {ds : List PyData} {xs : List V} {Fr Fs : Ms} (g : Go M B H) (hM : M = Fr ++ (p, .ld ds) :: Fs) (hx : H p = some (.lst xs)) :
    Gr M B H (Fr ++ Fs) (upd B p (.lst xs)) H := by
  have hm : (p, MD.ld ds) ∈ M := by rw [hM]; simp
  obtain ⟨h1, h2⟩ := g.ho.at_ p _ hm
  have nd := g.ho.nd
  rw [hM, List.map_append, List.map_cons] at nd
  have nd2 := List.nodup_append.mp nd
  refine ⟨same_new h2, fun a u e => ?_, fun _ _ _ h => h, fun a u e => ?_, fun _ h => h, fun a ha => ?_, ?_, fun q m hq => ?_⟩
  · by_cases hp : a = p
    · subst hp; rw [upd_same] at e; cases e; exact hx
    · rw [upd_ne hp] at e; exact g.bh a u e
  · by_cases hp : a = p
    · subst hp; exact .inr (.inr (.inr (ad_mem hm)))
    · rw [upd_ne hp] at e; exact .inr (.inl (by rw [e]; exact fun z => nomatch z))
  · refine .inl ?_
    rw [hM]
    have : a ∈ ad Fr ∨ a ∈ ad Fs := by simpa [ad] using ha
    simp only [ad, List.map_append, List.map_cons, List.mem_append, List.mem_cons]
    rcases this with z | z
    · exact .inl z
    · exact .inr (.inr z)
  · show ((Fr ++ Fs).map (·.1)).Nodup
    rw [List.map_append]
    refine List.nodup_append.mpr ⟨nd2.1, (List.nodup_cons.mp nd2.2.1).2, fun a ha b hb => nd2.2.2 a ha b (List.mem_cons_of_mem _ hb)⟩
  · have hq' : (q, m) ∈ M := by
      rw [hM]
      rcases List.mem_append.mp hq with z | z
      · exact List.mem_append_left _ z
      · exact List.mem_append_right _ (List.mem_cons_of_mem _ z)
    have ne : q ≠ p := fun z => by
      subst z
      rcases List.mem_append.mp hq with z | z
      · exact nd2.2.2 q (ad_mem z) q (by simp) rfl
      · exact (List.nodup_cons.mp nd2.2.1).1 (ad_mem z)
    obtain ⟨h4, h5⟩ := g.ho.at_ q m hq'
    exact ⟨h4.move (same_new h2) rfl, by rw [upd_ne ne]; exact h5⟩
/-- a tuple that stands becomes data -/
theorem Gr.tup {M : Ms} {B H : Hp} {p : Addr} {xs : List V} (g : Go M B H) (hx : H p = some (.tup xs)) : Gr M B H M (upd B p (.tup xs)) H := by
  have sb : Same B (upd B p (.tup xs)) := fun a u e => by
    by_cases hp : a = p
    · subst hp
      have := g.bh a u e
      rw [hx] at this
      cases this
      exact upd_same
    · rw [upd_ne hp]; exact e
  refine ⟨sb, fun a u e => ?_, fun _ _ _ h => h, fun a u e => ?_, fun _ h => h, fun _ h => .inl h, g.ho.nd, fun q m hq => ?_⟩
  · by_cases hp : a = p
    · subst hp; rw [upd_same] at e; cases e; exact hx
    · rw [upd_ne hp] at e; exact g.bh a u e
  · by_cases hp : a = p
    · subst hp; rw [upd_same] at e; cases e; exact .inl ⟨_, rfl⟩
    · rw [upd_ne hp] at e; exact .inr (.inl (by rw [e]; exact fun z => nomatch z))
  · obtain ⟨h4, h5⟩ := g.ho.at_ q m hq
    obtain ⟨u, h6, h7⟩ := h4.some
    have ne : q ≠ p := fun z => by
      subst z
      rw [hx] at h6
      cases h6
      exact h7 xs rfl
    exact ⟨h4.move sb rfl, by rw [upd_ne ne]; exact h5⟩
/-- the frame: cells that a part does not know stay -/
theorem Gr.frame {Mc Mc' F : Ms} {B H B2 H2 : Hp} (o : Ho (Mc ++ F) B H) (g : Gr Mc B H Mc' B2 H2) : Gr (Mc ++ F) B H (Mc' ++ F) B2 H2 := by
  have nd := o.nd
  rw [List.map_append] at nd
  have nd2 := List.nodup_append.mp nd
  have nF : ∀ a, a ∈ ad F → a ∉ ad Mc := fun a h1 h2 => nd2.2.2 a h2 a h1 rfl
  refine ⟨g.bb, g.bh, fun a u h1 h2 => g.hh a u (fun z => h1 (by simp only [ad, List.map_append, List.mem_append]; exact .inl z)) h2, fun a u h => ?_, g.th, fun a h => ?_, ?_, fun q m hq => ?_⟩
  · rcases g.fr a u h with z | z | z | z
    · exact .inl z
    · exact .inr (.inl z)
    · exact .inr (.inr (.inl z))
    · exact .inr (.inr (.inr (by simp only [ad, List.map_append, List.mem_append]; exact .inl z)))
  · have h' : a ∈ ad Mc' ∨ a ∈ ad F := by simpa [ad] using h
    rcases h' with z | z
    · rcases g.mf a z with y | y
      · exact .inl (by simp only [ad, List.map_append, List.mem_append]; exact .inl y)
      · exact .inr y
    · exact .inl (by simp only [ad, List.map_append, List.mem_append]; exact .inr z)
  · rw [List.map_append]
    refine List.nodup_append.mpr ⟨g.ho.nd, nd2.2.1, fun a ha b hb e => ?_⟩
    subst e
    obtain ⟨u, h1, _⟩ := o.some (show a ∈ ad (Mc ++ F) by simp only [ad, List.map_append, List.mem_append]; exact .inr hb)
    rcases g.mf a ha with y | y
    · exact nF a hb y
    · rw [h1] at y; cases y
  · rcases List.mem_append.mp hq with z | z
    · exact g.ho.at_ q m z
    · obtain ⟨h1, h2⟩ := o.at_ q m (List.mem_append_right _ z)
      obtain ⟨u, h3, h4⟩ := h1.some
      have hq2 : q ∉ ad Mc := nF q (ad_mem z)
      have e2 := g.hh q u hq2 h3
      refine ⟨h1.move g.bb (e2.trans h3.symm), ?_⟩
      cases r : B2 q with
      | none => rfl
      | some w =>
        exfalso
        have e3 := g.bh q w r
        rw [e2] at e3
        cases e3
        rcases g.fr q u r with y | y | y | y
        · obtain ⟨xs, y⟩ := y; exact h4 xs y
        · exact y h2
        · rw [y] at h3; cases h3
        · exact hq2 y
theorem Ho.left {Mc F : Ms} {B H : Hp} (o : Ho (Mc ++ F) B H) : Ho Mc B H := by
  have nd := o.nd
  rw [List.map_append] at nd
  exact ⟨(List.nodup_append.mp nd).1, fun p m h => o.at_ p m (List.mem_append_left _ h)⟩
theorem Go.left {Mc F : Ms} {B H : Hp} (g : Go (Mc ++ F) B H) : Go Mc B H := ⟨g.bh, g.ho.left⟩
end KR

/-! KR, part B: the judgements by data, and the rules for expressions, tests, arguments, blocks. -/
namespace KR
open PySem PySem.Spec PyProof.Rows L2

def tX (Δ : List SD) (M : Ms) (R : SD → Ms → Prop) : TE := fun σ H Q => ∃ B, Sl B σ Δ ∧ Go M B H ∧ ∀ r M' v B2 H2, R r M' → Gr M B H M' B2 H2 → Rs B2 v r → Q v H2
abbrev R1 (r : SD) (M' : Ms) : SD → Ms → Prop := fun r' M'' => r' = r ∧ M'' = M'
def tT (Δ : List SD) (M : Ms) (b : Bool) (M' : Ms) : TT := fun σ H Q => ∃ B, Sl B σ Δ ∧ Go M B H ∧ ∀ B2 H2, Gr M B H M' B2 H2 → Q b H2
def tA (Δ : List SD) (M : Ms) (rs : List SD) (M' : Ms) : TA := fun σ H Q => ∃ B, Sl B σ Δ ∧ Go M B H ∧ ∀ vs B2 H2, Gr M B H M' B2 H2 → RsA B2 vs rs → Q vs H2
/-- a new list: its items are the data ds -/
def tN (Δ : List SD) (M : Ms) (ds : List PyData) (M' : Ms) : TE := fun σ H Q => ∃ B, Sl B σ Δ ∧ Go M B H ∧
  ∀ p xs B2 H2, Gr M B H M' B2 H2 → H p = none → B2 p = none → H2 p = some (.lst xs) → DtA B2 xs ds → p ∉ ad M' → Q (.ref p) H2
def PX (X : Cx) (e : Expr) (Δ : List SD) (M : Ms) (R : SD → Ms → Prop) : Prop := PE X e (tX Δ M R)
def PD (X : Cx) (e : Expr) (Δ : List SD) (M : Ms) (r : SD) (M' : Ms) : Prop := PE X e (tX Δ M (R1 r M'))
def PTD (X : Cx) (e : Expr) (Δ : List SD) (M : Ms) (b : Bool) (M' : Ms) : Prop := PT X e (tT Δ M b M')
def PWD (X : Cx) (e : Expr) (Δ : List SD) (M : Ms) (b : Bool) (M' : Ms) : Prop := PW X e (tT Δ M b M')
def PAD (X : Cx) (es : List Expr) (Δ : List SD) (M : Ms) (rs : List SD) (M' : Ms) : Prop := PA X es (tA Δ M rs M')
def PL (X : Cx) (e : Expr) (Δ : List SD) (M : Ms) (ds : List PyData) (M' : Ms) : Prop := PE X e (tN Δ M ds M')
def PCD (X : Cx) (op : CmpOp) (a b : Expr) (Δ : List SD) (M : Ms) (c : Bool) (M' : Ms) : Prop := PC X op a b (tX Δ M (R1 (dB c) M'))

section
variable {X : Cx} {Δ : List SD} {M M1 M2 M3 : Ms} {r ra rb : SD} {a b e : Expr} {pos : Pos} {R : SD → Ms → Prop}

/-- a stronger reading -/
theorem PE.of {t t' : TE} (h : PE X e t) (q : ∀ σ H Q, t' σ H Q → t σ H Q) : PE X e t' := ⟨fun pins s σ H Q I w => h.run pins s σ H Q I (q σ H Q w)⟩
theorem PT.of {t t' : TT} (h : PT X e t) (q : ∀ σ H Q, t' σ H Q → t σ H Q) : PT X e t' := ⟨fun pins s σ H Q I w => h.run pins s σ H Q I (q σ H Q w)⟩
theorem PD.px (h : PD X e Δ M r M1) (hr : R r M1) : PX X e Δ M R := PE.of h fun σ H Q ⟨B, h1, h2, h3⟩ => ⟨B, h1, h2, fun r' M' v B2 H2 e => by
  obtain ⟨rfl, rfl⟩ := e
  exact h3 _ _ v B2 H2 hr⟩
theorem PX.mono {R' : SD → Ms → Prop} (h : PX X e Δ M R) (hr : ∀ r M', R r M' → R' r M') : PX X e Δ M R' := PE.of h fun σ H Q ⟨B, h1, h2, h3⟩ => ⟨B, h1, h2, fun r' M' v B2 H2 e => h3 _ _ v B2 H2 (hr _ _ e)⟩
theorem PX.pd (h : PX X e Δ M (R1 r M1)) : PD X e Δ M r M1 := h
theorem PD.is {r' : SD} (h : PD X e Δ M r M1) (q : r = r') : PD X e Δ M r' M1 := q ▸ h
theorem PTD.is {b' c' : Bool} (h : PTD X e Δ M b' M1) (q : b' = c') : PTD X e Δ M c' M1 := q ▸ h
/-- a value kept as the layer's own rule gives it: no heap changes -/
theorem fin_r {σ : L2.St} {B H : Hp} {Q : VK} {v : V} (g : Go M B H) (k : ∀ r' M' v B2 H2, R1 r M r' M' → Gr M B H M' B2 H2 → Rs B2 v r' → Q v H2) (hv : Rs B v r) : Q v H :=
  k r M v B H ⟨rfl, rfl⟩ (Gr.refl g) hv

/-! ### names, constants -/
theorem pd_var (i : Nat) {x : Str} {pos : Pos} (hd : Δ[i]? = some r := by rfl) (hr : r ≠ .nil := by exact fun z => nomatch z) (hN : X.N[i]? = some x := by rfl) (hv : Vis X.env.scope x := by first | exact Or.inl rfl | exact Or.inr (Or.inl rfl) | exact Or.inr (Or.inr rfl)) (hdb : (x == ("__debug__" : Str)) = false := by decide)
    (hcd : (x == ("__classdict__" : Str)) = false := by decide) : PD X (.Name x pos) Δ M r M :=
  PE.of (pe_var hN hv hdb hcd) fun σ H Q ⟨B, h1, h2, h3⟩ => by
    obtain ⟨v, e1, e2⟩ := h1.at_ i r hd hr
    exact ⟨v, e1, fin_r (σ := σ) h2 h3 e2⟩
theorem pd_int {i : Int} {j : Nat} : PD X (.Constant (.int i) j pos) Δ M (dI i) M := PE.of pe_int fun σ H Q ⟨B, h1, h2, h3⟩ => fin_r (σ := σ) (v := .int i) h2 h3 (dt_int.mpr rfl)
theorem pd_bl {i : Bool} {j : Nat} : PD X (.Constant (.bool i) j pos) Δ M (dB i) M := PE.of pe_bl fun σ H Q ⟨B, h1, h2, h3⟩ => fin_r (σ := σ) (v := .bl i) h2 h3 (dt_bool.mpr rfl)
theorem pd_non {j : Nat} : PD X (.Constant .none j pos) Δ M (.dat .none) M := PE.of pe_non fun σ H Q ⟨B, h1, h2, h3⟩ => fin_r (σ := σ) (v := .non) h2 h3 (dt_none.mpr rfl)
theorem pd_str {x : Str} {j : Nat} : PD X (.Constant (.str x) j pos) Δ M (.dat (.str x)) M := PE.of pe_str fun σ H Q ⟨B, h1, h2, h3⟩ => fin_r (σ := σ) (v := .str x) h2 h3 (dt_str.mpr rfl)
/-- a built-in's name, as a value -/
theorem pd_blt {x : Str} {v : V} {u : Value} (hm : X.mg x = none) (hv : bootBuiltins x = some u) (rv : RelV v u := by rfl) (hg : Gl X x := by rfl) (hn : x ≠ "__name__" := by decide) (hd : (x == ("__debug__" : Str)) = false := by decide) : PD X (.Name x pos) Δ M (.val v) M :=
  PE.of (pe_bltn hg hm hv rv hn hd) fun σ H Q ⟨B, h1, h2, h3⟩ => fin_r (σ := σ) (v := v) h2 h3 rfl

/-! ### two operands -/
/-- what stands behind two operands -/
theorem two_ops {σ : L2.St} {H : Hp} {Q : V → V → Hp → Prop} {B : Hp} (h1 : Sl B σ Δ) (h2 : Go M B H)
    (k : ∀ x y B2 H2, Gr M B H M2 B2 H2 → Rs B2 x ra → Rs B2 y rb → Q x y H2) : tX Δ M (R1 ra M1) σ H fun x H1 => tX Δ M1 (R1 rb M2) σ H1 fun y H2 => Q x y H2 :=
  ⟨B, h1, h2, fun r' M' x B1 H1 e g1 rx => by
    obtain ⟨rfl, rfl⟩ := e
    exact ⟨B1, h1.mono g1.bb, g1.go, fun r'' M'' y B2 H2 e' g2 ry => by
      obtain ⟨rfl, rfl⟩ := e'
      exact k x y B2 H2 (g1.trans g2) (rx.mono g2.bb) ry⟩⟩
theorem pd_bin {op : Operator} {rd : R2} (ho : OpR X (binaryOp op) rd) (ha : PD X a Δ M ra M1) (hb : PD X b Δ M1 rb M2)
    (hr : ∀ x y B H Q, Rs B x ra → Rs B y rb → Go M2 B H → (∀ v B2 H2, Gr M2 B H M3 B2 H2 → Rs B2 v r → Q v H2) → rd x y H Q) : PD X (.BinOp a op b pos) Δ M r M3 :=
  PE.of (pe_op ho ha hb) fun σ H Q ⟨B, h1, h2, h3⟩ => two_ops h1 h2 fun x y B2 H2 g rx ry => hr x y B2 H2 Q rx ry g.go fun v B3 H3 g3 rv => h3 r M3 v B3 H3 ⟨rfl, rfl⟩ (g.trans g3) rv
theorem pd_ii {op : Operator} {f : Int → Int → Int} {C : Int → Int → Prop} {i j : Int} (ho : OpR X (binaryOp op) (rI C fun i j => .int (f i j))) (hc : C i j) (ha : PD X a Δ M (dI i) M1) (hb : PD X b Δ M1 (dI j) M2) : PD X (.BinOp a op b pos) Δ M (dI (f i j)) M2 :=
  pd_bin ho ha hb fun x y B H Q rx ry g k => ⟨i, j, dt_int.mp rx, dt_int.mp ry, hc, k _ B H (Gr.refl g) (dt_int.mpr rfl)⟩
theorem pd_ii0 {op : Operator} {f : Int → Int → Int} {i j : Int} (ho : OpR X (binaryOp op) (rI0 fun i j => .int (f i j))) (ha : PD X a Δ M (dI i) M1) (hb : PD X b Δ M1 (dI j) M2) : PD X (.BinOp a op b pos) Δ M (dI (f i j)) M2 :=
  pd_bin ho ha hb fun x y B H Q rx ry g k => ⟨i, j, dt_int.mp rx, dt_int.mp ry, k _ B H (Gr.refl g) (dt_int.mpr rfl)⟩
theorem pd_add {i j : Int} (ha : PD X a Δ M (dI i) M1) (hb : PD X b Δ M1 (dI j) M2) : PD X (.BinOp a .Add b pos) Δ M (dI (i + j)) M2 := pd_ii0 op_add ha hb
theorem pd_sub {i j : Int} (ha : PD X a Δ M (dI i) M1) (hb : PD X b Δ M1 (dI j) M2) : PD X (.BinOp a .Sub b pos) Δ M (dI (i - j)) M2 := pd_ii0 op_sub ha hb
theorem pd_mul {i j : Int} (ha : PD X a Δ M (dI i) M1) (hb : PD X b Δ M1 (dI j) M2) (hc : CMul i j) : PD X (.BinOp a .Mult b pos) Δ M (dI (i * j)) M2 := pd_ii op_mul hc ha hb
theorem pd_mod {i j : Int} (ha : PD X a Δ M (dI i) M1) (hb : PD X b Δ M1 (dI j) M2) (hc : 0 < j) : PD X (.BinOp a .Mod b pos) Δ M (dI (i % j)) M2 := pd_ii op_mod hc ha hb
theorem pd_fdiv {i j : Int} (ha : PD X a Δ M (dI i) M1) (hb : PD X b Δ M1 (dI j) M2) (hc : CDiv i j) : PD X (.BinOp a .FloorDiv b pos) Δ M (dI (i / j)) M2 := pd_ii op_fdiv hc ha hb
theorem pd_neg {i : Int} (ha : PD X a Δ M (dI i) M1) : PD X (.UnaryOp .USub a pos) Δ M (dI (-i)) M1 :=
  PE.of (pe_un un_neg ha) fun σ H Q ⟨B, h1, h2, h3⟩ => ⟨B, h1, h2, fun r' M' x B1 H1 e g1 rx => by
    obtain ⟨rfl, rfl⟩ := e
    exact ⟨i, dt_int.mp rx, h3 _ _ _ B1 H1 ⟨rfl, rfl⟩ g1 (dt_int.mpr rfl)⟩⟩

/-! ### comparisons -/
theorem pcd {op : CmpOp} {rd : R2} {c : Bool} (ho : OpR X (compareOp op) rd) (ha : PD X a Δ M ra M1) (hb : PD X b Δ M1 rb M2)
    (hr : ∀ x y B H Q, Rs B x ra → Rs B y rb → Go M2 B H → Q (.bl c) H → rd x y H Q) : PCD X op a b Δ M c M2 :=
  ⟨fun pins s σ H Q I ⟨B, h1, h2, h3⟩ => binT ha hb I (two_ops (Q := fun x y H2 => rd x y H2 Q) h1 h2 fun x y B2 H2 g rx ry => hr x y B2 H2 Q rx ry g.go (h3 _ _ _ B2 H2 ⟨rfl, rfl⟩ g (dt_bool.mpr rfl)))
    fun v u s2 x y H2 I2 rx ry q => ho pins s2 σ H2 x y v u Q I2 rx ry q⟩
theorem PCD.is {op : CmpOp} {c c' : Bool} (h : PCD X op a b Δ M c M1) (q : c = c') : PCD X op a b Δ M c' M1 := q ▸ h
theorem pd_cmp {op : CmpOp} {c : Bool} (h : PCD X op a b Δ M c M1) (h1 : behindInMarks op b = false := by first | exact nobehind _ (by decide) (by decide) | rfl) : PD X (.Compare a [op] [b] pos) Δ M (dB c) M1 := pe_cmp h h1
theorem ptd_cmp {op : CmpOp} {c : Bool} (h : PCD X op a b Δ M c M1) (h1 : behindInMarks op b = false := by first | exact nobehind _ (by decide) (by decide) | rfl) : PTD X (.Compare a [op] [b] pos) Δ M c M1 :=
  PT.of (pt_cmp h h1) fun σ H Q ⟨B, h2, h3, h4⟩ => ⟨B, h2, h3, fun r' M' v B2 H2 e g rv => by
    obtain ⟨rfl, rfl⟩ := e
    exact ⟨c, dt_bool.mp rv, h4 B2 H2 g⟩⟩
theorem ptd_val {c : Bool} (h : PD X e Δ M (dB c) M1) (he : ∀ whole, isTrue e X.env whole = (do let v ← whole; standAt e.pos; holding [v] (truthy v)) := by intro _; rfl) : PTD X e Δ M c M1 :=
  PT.of (pt_val h he) fun σ H Q ⟨B, h2, h3, h4⟩ => ⟨B, h2, h3, fun r' M' v B2 H2 e g rv => by
    obtain ⟨rfl, rfl⟩ := e
    exact ⟨c, dt_bool.mp rv, h4 B2 H2 g⟩⟩
theorem pc_ii {op : CmpOp} {f : Int → Int → Bool} {i j : Int} (ho : OpR X (compareOp op) (rI0 fun i j => .bl (f i j))) (ha : PD X a Δ M (dI i) M1) (hb : PD X b Δ M1 (dI j) M2) : PCD X op a b Δ M (f i j) M2 :=
  pcd ho ha hb fun x y B H Q rx ry g k => ⟨i, j, dt_int.mp rx, dt_int.mp ry, k⟩
theorem pc_lt {i j : Int} (ha : PD X a Δ M (dI i) M1) (hb : PD X b Δ M1 (dI j) M2) : PCD X .Lt a b Δ M (decide (i < j)) M2 := pc_ii op_lt ha hb
theorem pc_le {i j : Int} (ha : PD X a Δ M (dI i) M1) (hb : PD X b Δ M1 (dI j) M2) : PCD X .LtE a b Δ M (decide (i ≤ j)) M2 := pc_ii op_le ha hb
theorem pc_gt {i j : Int} (ha : PD X a Δ M (dI i) M1) (hb : PD X b Δ M1 (dI j) M2) : PCD X .Gt a b Δ M (decide (j < i)) M2 := pc_ii op_gt ha hb
theorem pc_ge {i j : Int} (ha : PD X a Δ M (dI i) M1) (hb : PD X b Δ M1 (dI j) M2) : PCD X .GtE a b Δ M (decide (j ≤ i)) M2 := pc_ii op_ge ha hb
/-- scalars -/
def flatD : PyData → Bool
  | .none | .bool _ | .int _ | .str _ => true
  | _ => false
theorem pc_eqI {i j : Int} (ha : PD X a Δ M (dI i) M1) (hb : PD X b Δ M1 (dI j) M2) : PCD X .Eq a b Δ M (decide (i = j)) M2 :=
  pcd op_eq ha hb fun x y B H Q rx ry g k => by
    rw [dt_int.mp rx, dt_int.mp ry]
    refine ⟨rfl, ?_⟩
    rw [show decide (V.int i = V.int j) = decide (i = j) from by by_cases h : i = j <;> simp [h]]
    exact k
theorem pc_neI {i j : Int} (ha : PD X a Δ M (dI i) M1) (hb : PD X b Δ M1 (dI j) M2) : PCD X .NotEq a b Δ M (!decide (i = j)) M2 :=
  pcd op_ne ha hb fun x y B H Q rx ry g k => by
    rw [dt_int.mp rx, dt_int.mp ry]
    refine ⟨rfl, ?_⟩
    rw [show decide (V.int i = V.int j) = decide (i = j) from by by_cases h : i = j <;> simp [h]]
    exact k
theorem pc_neB {i j : Bool} (ha : PD X a Δ M (dB i) M1) (hb : PD X b Δ M1 (dB j) M2) : PCD X .NotEq a b Δ M (!decide (i = j)) M2 :=
  pcd op_ne ha hb fun x y B H Q rx ry g k => by
    rw [dt_bool.mp rx, dt_bool.mp ry]
    refine ⟨rfl, ?_⟩
    rw [show decide (V.bl i = V.bl j) = decide (i = j) from by by_cases h : i = j <;> simp [h]]
    exact k
theorem pc_eqS {i j : Str} (ha : PD X a Δ M (.dat (.str i)) M1) (hb : PD X b Δ M1 (.dat (.str j)) M2) : PCD X .Eq a b Δ M (decide (i = j)) M2 :=
  pcd op_eq ha hb fun x y B H Q rx ry g k => by
    rw [dt_str.mp rx, dt_str.mp ry]
    refine ⟨rfl, ?_⟩
    rw [show decide (V.str i = V.str j) = decide (i = j) from by by_cases h : i = j <;> simp [h]]
    exact k
theorem pc_neS {i j : Str} (ha : PD X a Δ M (.dat (.str i)) M1) (hb : PD X b Δ M1 (.dat (.str j)) M2) : PCD X .NotEq a b Δ M (!decide (i = j)) M2 :=
  pcd op_ne ha hb fun x y B H Q rx ry g k => by
    rw [dt_str.mp rx, dt_str.mp ry]
    refine ⟨rfl, ?_⟩
    rw [show decide (V.str i = V.str j) = decide (i = j) from by by_cases h : i = j <;> simp [h]]
    exact k
/-- data of any depth -/
theorem pc_eqD {d f : PyData} (hu : X.A.units + 64 < cLine) (sd : SeqAt.shaped d = true) (sf : SeqAt.shaped f = true) (ha : PD X a Δ M (.dat d) M1) (hb : PD X b Δ M1 (.dat f) M2) : PCD X .Eq a b Δ M (PyData.eqv d f) M2 :=
  pcd (op_eqD hu) ha hb fun x y B H Q rx ry g k => ⟨d, f, Dt.dp g.bh (SeqAt.canLay_of_shaped sd) rx, Dt.dp g.bh (SeqAt.canLay_of_shaped sf) ry, sd, sf, k⟩
theorem pc_neD {d f : PyData} (hu : X.A.units + 64 < cLine) (sd : SeqAt.shaped d = true) (sf : SeqAt.shaped f = true) (ha : PD X a Δ M (.dat d) M1) (hb : PD X b Δ M1 (.dat f) M2) : PCD X .NotEq a b Δ M (!PyData.eqv d f) M2 :=
  pcd (op_neD hu) ha hb fun x y B H Q rx ry g k => ⟨d, f, Dt.dp g.bh (SeqAt.canLay_of_shaped sd) rx, Dt.dp g.bh (SeqAt.canLay_of_shaped sf) ry, sd, sf, k⟩
def isN : PyData → Bool
  | .none => true
  | _ => false
theorem isN_of {B : Hp} {v : V} : ∀ {d : PyData}, Dt B v d → decide (v = .non) = isN d
  | .none, h => by rw [dt_none.mp h]; rfl
  | .bool _, h => by rw [dt_bool.mp h]; rfl
  | .int _, h => by rw [dt_int.mp h]; rfl
  | .str _, h => by rw [dt_str.mp h]; rfl
  | .list _, h => by obtain ⟨p, xs, rfl, _⟩ := dt_list.mp h; rfl
  | .tuple _, h => by obtain ⟨p, xs, rfl, _⟩ := dt_tuple.mp h; rfl
  | .dict _, h => by obtain ⟨p, rfl, _⟩ := dt_dict.mp h; rfl
theorem pc_is {d : PyData} {j : Nat} {pos' : Pos} (ha : PD X a Δ M (.dat d) M1) : PCD X .Is a (.Constant .none j pos') Δ M (isN d) M1 :=
  pcd op_isN ha pd_non fun x y B H Q rx ry g k => by
    refine ⟨dt_none.mp ry, ?_⟩
    rw [isN_of rx]
    exact k
theorem pc_isnot {d : PyData} {j : Nat} {pos' : Pos} (ha : PD X a Δ M (.dat d) M1) : PCD X .IsNot a (.Constant .none j pos') Δ M (!isN d) M1 :=
  pcd op_notN ha pd_non fun x y B H Q rx ry g k => by
    refine ⟨dt_none.mp ry, ?_⟩
    rw [isN_of rx]
    exact k
/-- .. of a cell's own value -/
theorem pc_isV {p : Addr} {j : Nat} {pos' : Pos} (ha : PD X a Δ M (.val (.ref p)) M1) : PCD X .Is a (.Constant .none j pos') Δ M false M1 :=
  pcd op_isN ha pd_non fun x y B H Q rx ry g k => by
    refine ⟨dt_none.mp ry, ?_⟩
    rw [show x = .ref p from rx]
    exact k
theorem pc_isnotV {p : Addr} {j : Nat} {pos' : Pos} (ha : PD X a Δ M (.val (.ref p)) M1) : PCD X .IsNot a (.Constant .none j pos') Δ M true M1 :=
  pcd op_notN ha pd_non fun x y B H Q rx ry g k => by
    refine ⟨dt_none.mp ry, ?_⟩
    rw [show x = .ref p from rx]
    exact k

/-! ### and, or, not, conditional -/
theorem pd_one {op : BoolOp} (h : PD X a Δ M r M1) : PD X (.BoolOp op [a] pos) Δ M r M1 := pe_one h
variable {rest : List Expr}
/-- any reading: the proof never comes there -/
theorem pe_no : PE X e fun _ _ _ => False := ⟨fun _ _ _ _ _ _ h => h.elim⟩
theorem pt_no : PT X e fun _ _ _ => False := ⟨fun _ _ _ _ _ _ h => h.elim⟩
theorem pw_no : PW X e fun _ _ _ => False := ⟨fun _ _ _ _ _ _ _ h => h.elim⟩
theorem pd_andF (ha : PD X a Δ M (dB false) M1) : PD X (.BoolOp .And (a :: b :: rest) pos) Δ M (dB false) M1 :=
  PE.of (pe_and ha pe_no) fun σ H Q ⟨B, h1, h2, h3⟩ => ⟨B, h1, h2, fun r' M' x B1 H1 e g1 rx => by
    obtain ⟨rfl, rfl⟩ := e
    refine ⟨false, dt_bool.mp rx, ?_⟩
    exact h3 _ _ _ B1 H1 ⟨rfl, rfl⟩ g1 (dt_bool.mpr rfl)⟩
theorem pd_andT (ha : PD X a Δ M (dB true) M1) (hb : PD X (.BoolOp .And (b :: rest) pos) Δ M1 r M2) : PD X (.BoolOp .And (a :: b :: rest) pos) Δ M r M2 :=
  PE.of (pe_and ha hb) fun σ H Q ⟨B, h1, h2, h3⟩ => ⟨B, h1, h2, fun r' M' x B1 H1 e g1 rx => by
    obtain ⟨rfl, rfl⟩ := e
    refine ⟨true, dt_bool.mp rx, ?_⟩
    rw [if_pos rfl]
    exact ⟨B1, h1.mono g1.bb, g1.go, fun r'' M'' y B2 H2 e' g2 ry => by
      obtain ⟨rfl, rfl⟩ := e'
      exact h3 _ _ y B2 H2 ⟨rfl, rfl⟩ (g1.trans g2) ry⟩⟩
theorem pd_and {x y : Bool} (ha : PD X a Δ M (dB x) M) (hb : x = true → PD X (.BoolOp .And (b :: rest) pos) Δ M (dB y) M) : PD X (.BoolOp .And (a :: b :: rest) pos) Δ M (dB (x && y)) M := by
  cases x with
  | true => exact pd_andT ha (hb rfl)
  | false => exact pd_andF ha
theorem pd_orT (ha : PD X a Δ M (dB true) M1) : PD X (.BoolOp .Or (a :: b :: rest) pos) Δ M (dB true) M1 :=
  PE.of (pe_or ha pe_no) fun σ H Q ⟨B, h1, h2, h3⟩ => ⟨B, h1, h2, fun r' M' x B1 H1 e g1 rx => by
    obtain ⟨rfl, rfl⟩ := e
    refine ⟨true, dt_bool.mp rx, ?_⟩
    exact h3 _ _ _ B1 H1 ⟨rfl, rfl⟩ g1 (dt_bool.mpr rfl)⟩
theorem pd_orF (ha : PD X a Δ M (dB false) M1) (hb : PD X (.BoolOp .Or (b :: rest) pos) Δ M1 r M2) : PD X (.BoolOp .Or (a :: b :: rest) pos) Δ M r M2 :=
  PE.of (pe_or ha hb) fun σ H Q ⟨B, h1, h2, h3⟩ => ⟨B, h1, h2, fun r' M' x B1 H1 e g1 rx => by
    obtain ⟨rfl, rfl⟩ := e
    refine ⟨false, dt_bool.mp rx, ?_⟩
    rw [if_neg Bool.false_ne_true]
    exact ⟨B1, h1.mono g1.bb, g1.go, fun r'' M'' y B2 H2 e' g2 ry => by
      obtain ⟨rfl, rfl⟩ := e'
      exact h3 _ _ y B2 H2 ⟨rfl, rfl⟩ (g1.trans g2) ry⟩⟩
theorem pd_or {x y : Bool} (ha : PD X a Δ M (dB x) M) (hb : x = false → PD X (.BoolOp .Or (b :: rest) pos) Δ M (dB y) M) : PD X (.BoolOp .Or (a :: b :: rest) pos) Δ M (dB (x || y)) M := by
  cases x with
  | true => exact pd_orT ha
  | false => exact pd_orF ha (hb rfl)
theorem pd_not {x : Bool} (ha : PD X a Δ M (dB x) M1) : PD X (.UnaryOp .Not a pos) Δ M (dB (!x)) M1 :=
  PE.of (pe_not ha) fun σ H Q ⟨B, h1, h2, h3⟩ => ⟨B, h1, h2, fun r' M' v B1 H1 e g1 rx => by
    obtain ⟨rfl, rfl⟩ := e
    exact ⟨x, dt_bool.mp rx, h3 _ _ _ B1 H1 ⟨rfl, rfl⟩ g1 (dt_bool.mpr rfl)⟩⟩
/-- tests -/
theorem PW.of {t t' : TT} (h : PW X e t) (q : ∀ σ H Q, t' σ H Q → t σ H Q) : PW X e t' := ⟨fun wh pins s σ H Q I w => h.run wh pins s σ H Q I (q σ H Q w)⟩
theorem PWD.pt {c : Bool} (h : PWD X e Δ M c M1) : PTD X e Δ M c M1 := L2.PW.pt h
theorem pwd_and1 {c : Bool} (h : PTD X a Δ M c M1) : PWD X (.BoolOp .And [a] pos) Δ M c M1 := pw_and1 h
theorem pwd_or1 {c : Bool} (h : PTD X a Δ M c M1) : PWD X (.BoolOp .Or [a] pos) Δ M c M1 := pw_or1 h
theorem pwd_andF (ha : PTD X a Δ M false M1) : PWD X (.BoolOp .And (a :: b :: rest) pos) Δ M false M1 :=
  PW.of (pw_and ha pw_no) fun σ H Q ⟨B, h1, h2, h3⟩ => ⟨B, h1, h2, fun B2 H2 g => h3 B2 H2 g⟩
theorem pwd_andT {c : Bool} (ha : PTD X a Δ M true M1) (hb : PWD X (.BoolOp .And (b :: rest) pos) Δ M1 c M2) : PWD X (.BoolOp .And (a :: b :: rest) pos) Δ M c M2 :=
  PW.of (pw_and ha hb) fun σ H Q ⟨B, h1, h2, h3⟩ => ⟨B, h1, h2, fun B2 H2 g => ⟨B2, h1.mono g.bb, g.go, fun B3 H3 g3 => h3 B3 H3 (g.trans g3)⟩⟩
theorem pwd_and {x y : Bool} (ha : PTD X a Δ M x M) (hb : x = true → PWD X (.BoolOp .And (b :: rest) pos) Δ M y M) : PWD X (.BoolOp .And (a :: b :: rest) pos) Δ M (x && y) M := by
  cases x with
  | true => exact pwd_andT ha (hb rfl)
  | false => exact pwd_andF ha
theorem pwd_orT (ha : PTD X a Δ M true M1) : PWD X (.BoolOp .Or (a :: b :: rest) pos) Δ M true M1 :=
  PW.of (pw_or ha pw_no) fun σ H Q ⟨B, h1, h2, h3⟩ => ⟨B, h1, h2, fun B2 H2 g => h3 B2 H2 g⟩
theorem pwd_orF {c : Bool} (ha : PTD X a Δ M false M1) (hb : PWD X (.BoolOp .Or (b :: rest) pos) Δ M1 c M2) : PWD X (.BoolOp .Or (a :: b :: rest) pos) Δ M c M2 :=
  PW.of (pw_or ha hb) fun σ H Q ⟨B, h1, h2, h3⟩ => ⟨B, h1, h2, fun B2 H2 g => ⟨B2, h1.mono g.bb, g.go, fun B3 H3 g3 => h3 B3 H3 (g.trans g3)⟩⟩
theorem pwd_or {x y : Bool} (ha : PTD X a Δ M x M) (hb : x = false → PWD X (.BoolOp .Or (b :: rest) pos) Δ M y M) : PWD X (.BoolOp .Or (a :: b :: rest) pos) Δ M (x || y) M := by
  cases x with
  | true => exact pwd_orT ha
  | false => exact pwd_orF ha (hb rfl)
theorem ptd_not {x : Bool} (ha : PTD X a Δ M x M1) : PTD X (.UnaryOp .Not a pos) Δ M (!x) M1 :=
  PT.of (pt_not ha) fun σ H Q ⟨B, h1, h2, h3⟩ => ⟨B, h1, h2, fun B2 H2 g => h3 B2 H2 g⟩
theorem pd_ifT {c : Expr} (hc : PTD X c Δ M true M1) (ha : PD X a Δ M1 r M2) : PD X (.IfExp c a b pos) Δ M r M2 :=
  PE.of (pe_ifExp hc ha pe_no) fun σ H Q ⟨B, h1, h2, h3⟩ => ⟨B, h1, h2, fun B1 H1 g1 => by
    refine iteT ?_
    exact ⟨B1, h1.mono g1.bb, g1.go, fun r'' M'' y B2 H2 e' g2 ry => by
      obtain ⟨rfl, rfl⟩ := e'
      exact h3 _ _ y B2 H2 ⟨rfl, rfl⟩ (g1.trans g2) ry⟩⟩
theorem pd_ifF {c : Expr} (hc : PTD X c Δ M false M1) (hb : PD X b Δ M1 r M2) : PD X (.IfExp c a b pos) Δ M r M2 :=
  PE.of (pe_ifExp hc pe_no hb) fun σ H Q ⟨B, h1, h2, h3⟩ => ⟨B, h1, h2, fun B1 H1 g1 => by
    refine iteF ?_
    exact ⟨B1, h1.mono g1.bb, g1.go, fun r'' M'' y B2 H2 e' g2 ry => by
      obtain ⟨rfl, rfl⟩ := e'
      exact h3 _ _ y B2 H2 ⟨rfl, rfl⟩ (g1.trans g2) ry⟩⟩

/-! ### arguments, displays -/
theorem pad_nil : PAD X [] Δ M [] M := ⟨fun pos pins s σ H Q I ⟨B, h1, h2, h3⟩ => pa_nil.run pos pins s σ H Q I (h3 [] B H (Gr.refl h2) trivial)⟩
theorem pad_cons {es : List Expr} {rs : List SD} (ha : PD X e Δ M r M1) (hr : PAD X es Δ M1 rs M2) (hs : starEach (e :: es) X.env = (false, eval e X.env) :: starEach es X.env := by rfl) : PAD X (e :: es) Δ M (r :: rs) M2 :=
  ⟨fun pos pins s σ H Q I ⟨B, h1, h2, h3⟩ => (pa_cons ha hr hs).run pos pins s σ H Q I ⟨B, h1, h2, fun r' M' x B1 H1 e g1 rx => by
    obtain ⟨rfl, rfl⟩ := e
    exact ⟨B1, h1.mono g1.bb, g1.go, fun vs B2 H2 g2 rv => h3 (x :: vs) B2 H2 (g1.trans g2) ⟨rx.mono g2.bb, rv⟩⟩⟩⟩
theorem pad_one (ha : PD X e Δ M r M1) (hs : starEach [e] X.env = (false, eval e X.env) :: starEach [] X.env := by rfl) : PAD X [e] Δ M [r] M1 := pad_cons ha pad_nil hs
theorem rsa_dat {B : Hp} : ∀ {vs : List V} {ds : List PyData}, RsA B vs (ds.map SD.dat) ↔ DtA B vs ds
  | [], [] => ⟨fun _ => .nil, fun _ => trivial⟩
  | v :: vs, d :: ds => by
    rw [dta_cons]
    constructor
    · rintro ⟨h1, h2⟩
      exact ⟨v, vs, rfl, h1, rsa_dat.mp h2⟩
    · rintro ⟨x, r, e, h1, h2⟩
      cases e
      exact ⟨h1, rsa_dat.mpr h2⟩
  | [], _ :: _ => ⟨fun h => h.elim, fun h => by obtain ⟨_, _, e, _⟩ := dta_cons.mp h; cases e⟩
  | _ :: _, [] => ⟨fun h => h.elim, fun h => by have := dta_nil.mp h; cases this⟩
theorem pd_tup {es : List Expr} {ds : List PyData} {x1 : Nat} (h : PAD X es Δ M (ds.map SD.dat) M1) (hz : ds.length ≤ sizeLine) : PD X (.Tuple es x1 pos) Δ M (.dat (.tuple ds)) M1 :=
  PE.of (pe_tup h) fun σ H Q ⟨B, h1, h2, h3⟩ => ⟨B, h1, h2, fun vs B1 H1 g1 rv => by
    have rv' := rsa_dat.mp rv
    refine ⟨by rw [rv'.length]; exact hz, fun p hp => h3 _ _ _ _ _ ⟨rfl, rfl⟩ (g1.trans (Gr.new (p := p) (o := .tup vs) g1.go hp)) ?_⟩
    exact dt_tuple.mpr ⟨p, vs, rfl, upd_same, rv'.mono (same_new (g1.go.bh.free hp))⟩⟩
theorem notin_of {B H : Hp} {p : Addr} (g : Go M B H) (h : H p = none) : p ∉ ad M := fun z => by
  obtain ⟨u, h3, _⟩ := g.ho.some z
  rw [h] at h3; cases h3
theorem th_none {B H B2 H2 : Hp} {p : Addr} (g : Gr M B H M1 B2 H2) (h : H2 p = none) : H p = none := by
  cases q : H p with
  | none => rfl
  | some u => exact absurd h (g.th p (by rw [q]; exact fun y => nomatch y))
/-- growth by an object that is not told -/
theorem Gr.alloc {B H : Hp} {p : Addr} {o : HO} (g : Go M B H) (h : H p = none) : Gr M B H M B (upd H p o) := by
  refine ⟨.refl _, fun a u e => ?_, fun a u _ e => ?_, fun a u e => .inr (.inl (by rw [e]; exact fun z => nomatch z)), fun a e => ?_, fun _ h => .inl h, g.ho.nd, fun q m hq => ?_⟩
  · rw [upd_ne (ne_of_none (g.bh a u e) h)]; exact g.bh a u e
  · rw [upd_ne (ne_of_none e h)]; exact e
  · by_cases hp : a = p
    · subst hp; rw [upd_same]; exact fun z => nomatch z
    · rw [upd_ne hp]; exact e
  · obtain ⟨h1, h2⟩ := g.ho.at_ q m hq
    obtain ⟨u, h3, _⟩ := h1.some
    exact ⟨h1.move (.refl _) (upd_ne (ne_of_none h3 h)), h2⟩
theorem pl_lst {es : List Expr} {ds : List PyData} (h : PAD X es Δ M (ds.map SD.dat) M1) (hz : ds.length ≤ sizeLine) : PL X (.List es pos) Δ M ds M1 :=
  PE.of (pe_lst h) fun σ H Q ⟨B, h1, h2, h3⟩ => ⟨B, h1, h2, fun vs B1 H1 g1 rv => by
    have rv' := rsa_dat.mp rv
    refine ⟨by rw [rv'.length]; exact hz, fun p hp => h3 p vs B1 _ (g1.trans (Gr.alloc (p := p) (o := .lst vs) g1.go hp)) (th_none g1 hp) (g1.go.bh.free hp) upd_same rv' (notin_of g1.go hp)⟩⟩
/-- a new list, as data -/
theorem Gr.told {B H : Hp} {p : Addr} {xs : List V} (g : Go M B H) (hb : B p = none) (hx : H p = some (.lst xs)) (hn : p ∉ ad M) (hf : ∀ B0 H0 M0, Gr M0 B0 H0 M B H → H0 p = none → Gr M0 B0 H0 M (upd B p (.lst xs)) H) : True := trivial
theorem tell {B H B2 H2 : Hp} {p : Addr} {xs : List V} (g : Gr M B H M1 B2 H2) (h0 : H p = none) (hb : B2 p = none) (hx : H2 p = some (.lst xs)) (hn : p ∉ ad M1) : Gr M B H M1 (upd B2 p (.lst xs)) H2 := by
  refine ⟨g.bb.trans (same_new hb), fun a u e => ?_, g.hh, fun a u e => ?_, g.th, g.mf, g.ho.nd, fun q m hq => ?_⟩
  · by_cases hp : a = p
    · subst hp; rw [upd_same] at e; cases e; exact hx
    · rw [upd_ne hp] at e; exact g.bh a u e
  · by_cases hp : a = p
    · subst hp; exact .inr (.inr (.inl h0))
    · rw [upd_ne hp] at e; exact g.fr a u e
  · have ne : q ≠ p := fun z => hn (z ▸ ad_mem hq)
    obtain ⟨h4, h5⟩ := g.ho.at_ q m hq
    exact ⟨h4.move (same_new hb) rfl, by rw [upd_ne ne]; exact h5⟩
theorem PL.pd {ds : List PyData} (h : PL X e Δ M ds M1) : PD X e Δ M (.dat (.list ds)) M1 :=
  PE.of h fun σ H Q ⟨B, h1, h2, h3⟩ => ⟨B, h1, h2, fun p xs B2 H2 g h0 hb hx hd hn => h3 _ _ _ _ _ ⟨rfl, rfl⟩ (tell g h0 hb hx hn) (dt_list.mpr ⟨p, xs, rfl, upd_same, hd.mono (same_new hb)⟩)⟩
/-- a new list, as a cell -/
theorem toCell {B H B2 H2 : Hp} {p : Addr} {xs : List V} {ds : List PyData} (g : Gr M B H M1 B2 H2) (h0 : H p = none) (hb : B2 p = none) (hx : H2 p = some (.lst xs)) (hd : DtA B2 xs ds) (hn : p ∉ ad M1) : Gr M B H (M1 ++ [(p, .ld ds)]) B2 H2 := by
  refine ⟨g.bb, g.bh, g.hh, g.fr, g.th, fun a ha => ?_, ?_, fun q m hq => ?_⟩
  · have ha' : a ∈ ad M1 ∨ a = p := by simpa [ad] using ha
    rcases ha' with z | z
    · exact g.mf a z
    · subst z; exact .inr h0
  · show ((M1 ++ [(p, MD.ld ds)]).map (·.1)).Nodup
    rw [List.map_append]
    refine List.nodup_append.mpr ⟨g.ho.nd, by simp, fun a ha b hb' => ?_⟩
    have e : b = p := by simpa using hb'
    subst e
    exact fun z => hn (z ▸ ha)
  · rcases List.mem_append.mp hq with z | z
    · exact g.ho.at_ q m z
    · have e : (q, m) = (p, MD.ld ds) := by simpa using z
      cases e
      exact ⟨⟨xs, hx, hd⟩, hb⟩
def RC (M1 : Ms) (ds : List PyData) : SD → Ms → Prop := fun r M' => ∃ p, r = .val (.ref p) ∧ M' = M1 ++ [(p, .ld ds)]
theorem PL.cell {ds : List PyData} (h : PL X e Δ M ds M1) : PX X e Δ M (RC M1 ds) :=
  PE.of h fun σ H Q ⟨B, h1, h2, h3⟩ => ⟨B, h1, h2, fun p xs B2 H2 g h0 hb hx hd hn => h3 _ _ _ _ _ ⟨p, rfl, rfl⟩ (toCell g h0 hb hx hd hn) rfl⟩
theorem PL.is {ds ds' : List PyData} (h : PL X e Δ M ds M1) (q : ds = ds') : PL X e Δ M ds' M1 := q ▸ h
end
end KR

/-! KR, part C: targets, sources, statements, loops, comprehensions, defs and their calls. -/
namespace KR
open PySem PySem.Spec PyProof.Rows L2

/-! ### blocks -/
def tSX (Δ : List SD) (M : Ms) (Nx : List SD → Ms → Prop) (Rt : SD → Ms → Prop) : TS := fun D σ H => ∃ B, Sl B σ Δ ∧ Go M B H ∧
  (∀ Δ' M' σ' B2 H2, Nx Δ' M' → Gr M B H M' B2 H2 → Sl B2 σ' Δ' → D.nx σ' H2) ∧ (∀ r M' v B2 H2, Rt r M' → Gr M B H M' B2 H2 → Rs B2 v r → D.rt v H2)
def PSX (X : Cx) (st : Stmt) (Δ : List SD) (M : Ms) (Nx : List SD → Ms → Prop) (Rt : SD → Ms → Prop) : Prop := PS X st (tSX Δ M Nx Rt)
def PBX (X : Cx) (sts : List Stmt) (Δ : List SD) (M : Ms) (Nx : List SD → Ms → Prop) (Rt : SD → Ms → Prop) : Prop := PSs X sts (tSX Δ M Nx Rt)
abbrev N1 (Δ : List SD) (M : Ms) : List SD → Ms → Prop := fun Δ' M' => Δ' = Δ ∧ M' = M
abbrev N0 : List SD → Ms → Prop := fun _ _ => False

section
variable {X : Cx} {Δ Δ1 : List SD} {M M1 M2 M3 : Ms} {r ra rb : SD} {a b e : Expr} {pos : Pos} {R : SD → Ms → Prop} {Nx Nx1 : List SD → Ms → Prop} {Rt : SD → Ms → Prop} {st : Stmt} {rest : List Stmt}
theorem PS.of {t t' : TS} (h : PS X st t) (q : ∀ D σ H, t' D σ H → t D σ H) : PS X st t' := ⟨fun pins s σ H D I w => h.run pins s σ H D I (q D σ H w)⟩
theorem PSs.of {t t' : TS} (h : PSs X rest t) (q : ∀ D σ H, t' D σ H → t D σ H) : PSs X rest t' := ⟨fun pins s σ H D I w => h.run pins s σ H D I (q D σ H w)⟩
theorem pb_nil (h : Nx Δ M) : PBX X [] Δ M Nx Rt := PSs.of pss_nil fun D σ H ⟨B, h1, h2, h3, _⟩ => h3 Δ M σ B H h (Gr.refl h2) h1
/-- whatever stands there, by any judgement of it -/
def tBAny (X : Cx) (sts : List Stmt) : TS := fun D σ H => ∃ Δ M Nx Rt, PBX X sts Δ M Nx Rt ∧ tSX Δ M Nx Rt D σ H
theorem pb_any : PSs X rest (tBAny X rest) := ⟨fun pins s σ H D I ⟨_, _, _, _, h, w⟩ => h.run pins s σ H D I w⟩
def tXAny (X : Cx) (e : Expr) : TE := fun σ H Q => ∃ Δ M R, PX X e Δ M R ∧ tX Δ M R σ H Q
theorem px_any : PE X e (tXAny X e) := ⟨fun pins s σ H Q I ⟨_, _, _, h, w⟩ => h.run pins s σ H Q I w⟩
theorem pb_cons (h : PSX X st Δ M Nx1 Rt) (k : ∀ Δ' M', Nx1 Δ' M' → PBX X rest Δ' M' Nx Rt) : PBX X (st :: rest) Δ M Nx Rt :=
  PSs.of (pss_cons h pb_any) fun D σ H ⟨B, h1, h2, h3, h4⟩ => ⟨B, h1, h2, fun Δ' M' σ' B2 H2 hn g sl => ⟨Δ', M', Nx, Rt, k Δ' M' hn, B2, sl, g.go, fun Δ3 M3 σ3 B3 H3 hn3 g3 sl3 => h3 Δ3 M3 σ3 B3 H3 hn3 (g.trans g3) sl3,
    fun r M3 v B3 H3 hr g3 rv => h4 r M3 v B3 H3 hr (g.trans g3) rv⟩, h4⟩
theorem pb_cons1 (h : PSX X st Δ M (N1 Δ1 M1) Rt) (k : PBX X rest Δ1 M1 Nx Rt) : PBX X (st :: rest) Δ M Nx Rt := pb_cons h fun Δ' M' e => by
  obtain ⟨rfl, rfl⟩ := e
  exact k
theorem pb_one (h : PSX X st Δ M Nx Rt) : PBX X [st] Δ M Nx Rt := pss_one h
theorem ps_out (h : PS X st (tRet (tX Δ M Rt))) : PSX X st Δ M Nx Rt := PS.of h fun D σ H ⟨B, h1, h2, _, h4⟩ => ⟨B, h1, h2, fun r M' v B2 H2 hr g rv => h4 r M' v B2 H2 hr g rv⟩
theorem psx_ret (h : PX X e Δ M Rt) : PSX X (.Return (some e) pos) Δ M Nx Rt := ps_out (ps_ret h)
theorem pb_ret (h : PX X e Δ M Rt) : PBX X (.Return (some e) pos :: rest) Δ M Nx Rt := pb_cons (Nx1 := N0) (psx_ret h) fun _ _ z => z.elim
theorem pb_retD (h : PD X e Δ M r M1) (hr : Rt r M1) : PBX X (.Return (some e) pos :: rest) Δ M Nx Rt := pb_ret (h.px hr)
theorem psx_set (i : Nat) {x : Str} {pos' : Pos} (hN : X.N.Nodup) (h : PX X e Δ M R) (k : ∀ r M', R r M' → Nx (Δ.set i r) M') (hi : X.N[i]? = some x := by rfl) (hx : Loc X.env.scope x := by first | exact Or.inl rfl | exact Or.inr rfl)
    (hs : swapsWith e (some (.Name x pos')) pos.line X.env = pure false := by rfl) (hf : X.fn x = true ∨ X.env.scope.names.lookup x = some .local := by first | exact .inl rfl | exact .inr rfl) : PSX X (.Assign [.Name x pos'] e pos) Δ M Nx Rt :=
  PS.of (ps_set hN hi hx h hs hf) fun D σ H ⟨B, h1, h2, h3, h4⟩ => ⟨B, h1, h2, fun r M' v B2 H2 hr g rv => h3 _ _ _ B2 H2 (k r M' hr) g ((h1.mono g.bb).set i rv)⟩
theorem pb_setR (i : Nat) {x : Str} {pos' : Pos} (hN : X.N.Nodup) (h : PX X e Δ M R) (k : ∀ r M', R r M' → PBX X rest (Δ.set i r) M' Nx Rt) (hi : X.N[i]? = some x := by rfl) (hx : Loc X.env.scope x := by first | exact Or.inl rfl | exact Or.inr rfl)
    (hs : swapsWith e (some (.Name x pos')) pos.line X.env = pure false := by rfl) (hf : X.fn x = true ∨ X.env.scope.names.lookup x = some .local := by first | exact .inl rfl | exact .inr rfl) : PBX X (.Assign [.Name x pos'] e pos :: rest) Δ M Nx Rt :=
  pb_cons (Nx1 := fun Δ' M' => ∃ r, R r M' ∧ Δ' = Δ.set i r) (psx_set i hN h (fun r M' hr => ⟨r, hr, rfl⟩) hi hx hs hf) fun Δ' M' hq => by
    obtain ⟨r, hr, hq⟩ := hq
    subst hq
    exact k r M' hr
theorem pb_set (i : Nat) {x : Str} {pos' : Pos} (hN : X.N.Nodup) (h : PD X e Δ M r M1) (k : PBX X rest (Δ.set i r) M1 Nx Rt) (hi : X.N[i]? = some x := by rfl) (hx : Loc X.env.scope x := by first | exact Or.inl rfl | exact Or.inr rfl)
    (hs : swapsWith e (some (.Name x pos')) pos.line X.env = pure false := by rfl) (hf : X.fn x = true ∨ X.env.scope.names.lookup x = some .local := by first | exact .inl rfl | exact .inr rfl) : PBX X (.Assign [.Name x pos'] e pos :: rest) Δ M Nx Rt :=
  pb_setR i hN h (fun r' M' e => by obtain ⟨rfl, rfl⟩ := e; exact k) hi hx hs hf
theorem psx_expr (h : PX X e Δ M R) (k : ∀ r M', R r M' → Nx Δ M') (hs : swapsWith e none pos.line X.env = pure false := by rfl) : PSX X (.Expr e pos) Δ M Nx Rt :=
  PS.of (ps_expr h hs) fun D σ H ⟨B, h1, h2, h3, h4⟩ => ⟨B, h1, h2, fun r M' v B2 H2 hr g rv => h3 _ _ _ B2 H2 (k r M' hr) g (h1.mono g.bb)⟩
theorem pb_expr (h : PD X e Δ M r M1) (k : PBX X rest Δ M1 Nx Rt) (hs : swapsWith e none pos.line X.env = pure false := by rfl) : PBX X (.Expr e pos :: rest) Δ M Nx Rt :=
  pb_cons1 (Δ1 := Δ) (M1 := M1) (psx_expr h (fun r' M' e => by obtain ⟨rfl, rfl⟩ := e; exact ⟨rfl, rfl⟩) hs) k
theorem psx_if {c : Expr} {s1 s2 : List Stmt} {t : Bool} (hc : PTD X c Δ M t M1) (h1 : t = true → PBX X s1 Δ M1 Nx Rt) (h2 : t = false → PBX X s2 Δ M1 Nx Rt) : PSX X (.If c s1 s2 pos) Δ M Nx Rt :=
  PS.of (ps_if hc pb_any pb_any) fun D σ H ⟨B, q1, q2, q3, q4⟩ => ⟨B, q1, q2, fun B2 H2 g => by
    have fin : ∀ sts, PBX X sts Δ M1 Nx Rt → tBAny X sts D σ H2 := fun sts hp => ⟨Δ, M1, Nx, Rt, hp, B2, q1.mono g.bb, g.go, fun Δ3 M3 σ3 B3 H3 hn3 g3 sl3 => q3 Δ3 M3 σ3 B3 H3 hn3 (g.trans g3) sl3, fun r M3 v B3 H3 hr g3 rv => q4 r M3 v B3 H3 hr (g.trans g3) rv⟩
    cases t with
    | true => exact iteT (fin s1 (h1 rfl))
    | false => exact iteF (fin s2 (h2 rfl))⟩
/-- an if whose suite leaves, or does not run -/
theorem pb_if {c : Expr} {s1 : List Stmt} {t : Bool} (hc : PTD X c Δ M t M1) (h1 : t = true → PBX X s1 Δ M1 N0 Rt) (h2 : t = false → PBX X rest Δ M1 Nx Rt) : PBX X (.If c s1 [] pos :: rest) Δ M Nx Rt :=
  pb_cons (Nx1 := fun Δ' M' => t = false ∧ Δ' = Δ ∧ M' = M1) (psx_if hc (fun q => by
    refine PSs.of (h1 q) fun D σ H ⟨B, q1, q2, q3, q4⟩ => ⟨B, q1, q2, fun _ _ _ _ _ z => z.elim, q4⟩) fun q => pb_nil ⟨q, rfl, rfl⟩) fun Δ' M' q => by
    obtain ⟨q, rfl, rfl⟩ := q
    exact h2 q
theorem pb_never : PBX X rest Δ M Nx Rt → PBX X rest Δ M Nx Rt := id

/-! ### targets -/
def tGX (s : SD) (Δ Δ' : List SD) (vs : List Nat) : TG := fun v σ H Q => ∃ B, Sl B σ Δ ∧ Same B H ∧ Rs B v s ∧ ∀ σ', Sl B σ' Δ' → σ'.length = σ.length → (∀ j, j ∉ vs → σ'[j]? = σ[j]?) → Q σ' H
def tGXs (ds : List SD) (Δ Δ' : List SD) (vs : List Nat) : TGs := fun us σ H Q => ∃ B, Sl B σ Δ ∧ Same B H ∧ RsA B us ds ∧ ∀ σ', Sl B σ' Δ' → σ'.length = σ.length → (∀ j, j ∉ vs → σ'[j]? = σ[j]?) → Q σ' H
def PGX (X : Cx) (tg : Expr) (s : SD) (Δ Δ' : List SD) (vs : List Nat) : Prop := PG X tg (tGX s Δ Δ' vs)
def PGXs (X : Cx) (ts : List Expr) (ds : List SD) (Δ Δ' : List SD) (vs : List Nat) : Prop := PGs X ts (tGXs ds Δ Δ' vs)
theorem PG.of {tg : Expr} {t t' : TG} (h : PG X tg t) (q : ∀ v σ H Q, t' v σ H Q → t v σ H Q) : PG X tg t' := ⟨fun pins s σ H v u Q I r w => h.run pins s σ H v u Q I r (q v σ H Q w)⟩
theorem PGs.of {ts : List Expr} {t t' : TGs} (h : PGs X ts t) (q : ∀ v σ H Q, t' v σ H Q → t v σ H Q) : PGs X ts t' := ⟨fun pins s σ H v u Q I r w => h.run pins s σ H v u Q I r (q v σ H Q w)⟩
theorem pgx_name (i : Nat) {x : Str} {s : SD} {vs : List Nat} (hN : X.N.Nodup) (hv : i ∈ vs := by simp) (hi : X.N[i]? = some x := by rfl) (hx : Loc X.env.scope x := by first | exact Or.inl rfl | exact Or.inr rfl)
    (hf : X.fn x = true ∨ X.env.scope.names.lookup x = some .local := by first | exact .inl rfl | exact .inr rfl) : PGX X (.Name x pos) s Δ (Δ.set i s) vs :=
  PG.of (pg_name hN hi hx hf) fun v σ H Q ⟨B, h1, h2, h3, h4⟩ => h4 _ (h1.set i h3) (List.length_set ..) fun j hj => List.getElem?_set_ne fun z => hj (by rw [← z]; exact hv)
theorem pgxs_nil {vs : List Nat} : PGXs X [] [] Δ Δ vs := PGs.of pgs_nil fun us σ H Q ⟨B, h1, h2, h3, h4⟩ => by
  cases us with
  | nil => exact ⟨rfl, h4 σ h1 rfl fun _ _ => rfl⟩
  | cons u us => exact h3.elim
theorem pgxs_cons {es : List Expr} {s : SD} {ds : List SD} {Δ2 : List SD} {vs : List Nat} (h1 : PGX X e s Δ Δ1 vs) (h2 : PGXs X es ds Δ1 Δ2 vs) (hs : (assignEach (e :: es) X.env).map (·.2) = assign e X.env :: (assignEach es X.env).map (·.2) := by rfl) : PGXs X (e :: es) (s :: ds) Δ Δ2 vs :=
  PGs.of (pgs_cons h1 h2 hs) fun us σ H Q ⟨B, q1, q2, q3, q4⟩ => by
    cases us with
    | nil => exact q3.elim
    | cons u us => exact ⟨u, us, rfl, B, q1, q2, q3.1, fun σ' sl hl hj => ⟨B, sl, q2, q3.2, fun σ2 sl2 hl2 hj2 => q4 σ2 sl2 (hl2.trans hl) fun j hn => (hj2 j hn).trans (hj j hn)⟩⟩
/-- a tuple taken apart -/
theorem pgx_tup {es : List Expr} {k n : Nat} {ds : List PyData} {vs : List Nat} (hc : X.calm = true) (h : PGXs X es (ds.map SD.dat) Δ Δ1 vs) (hl : ds.length = n)
    (hn : (assignEach es X.env).length = n := by rfl) (hst : (assignEach es X.env).findIdx? (·.1) = none := by rfl) : PGX X (.Tuple es k pos) (.dat (.tuple ds)) Δ Δ1 vs :=
  PG.of (pg_tup hc h hn hst) fun v σ H Q ⟨B, h1, h2, h3, h4⟩ => by
    obtain ⟨p, xs, rfl, hb, hd⟩ := dt_tuple.mp h3
    exact ⟨p, xs, rfl, SqT.of (h2 _ _ hb), by rw [hd.length, hl], B, h1, h2, rsa_dat.mpr hd, h4⟩

/-! ### sources -/
structure Wk (J : It) (ds : List PyData) (B1 : Hp) (P : Ms → Prop) : Prop where
  stop : ∀ H' M' B', P M' → Same B1 B' → Go M' B' H' → J.stop ds.length H'
  go : ∀ (i : Nat) H' M' B', i < ds.length → P M' → Same B1 B' → Go M' B' H' → J.go i H'
  yld : ∀ (i : Nat) (d : PyData) H' M' B' x H'', ds[i]? = some d → P M' → Same B1 B' → Go M' B' H' → J.yld i H' x H'' → ∃ B'', Gr M' B' H' M' B'' H'' ∧ Dt B'' x d
def tIX (Δ : List SD) (M : Ms) (ds : List PyData) (P : Ms → Prop) (M1 : Ms) : TI := fun σ H R => ∃ B, Sl B σ Δ ∧ Go M B H ∧ ∀ J B1 H1, Gr M B H M1 B1 H1 → Wk J ds B1 P → R J H1
def PIX (X : Cx) (tg iter : Expr) (Δ : List SD) (M : Ms) (ds : List PyData) (P : Ms → Prop) (M1 : Ms) : Prop := PI X tg iter (tIX Δ M ds P M1)
abbrev PT0 : Ms → Prop := fun _ => True
theorem PI.of {tg iter : Expr} {t t' : TI} (h : PI X tg iter t) (q : ∀ σ H R, t' σ H R → t σ H R) : PI X tg iter t' := ⟨fun pins s σ H R I w => h.run pins s σ H R I (q σ H R w)⟩
theorem wk_list {K : PySem.W.Frag} {p : Addr} {xs : List V} {ds : List PyData} {B1 : Hp} (hp : B1 p = some (.lst xs)) (hd : DtA B1 xs ds) : Wk (Itl K p) ds B1 PT0 where
  stop := fun H' M' B' _ sb g => ⟨xs, SqL.of (g.bh _ _ (sb _ _ hp)), by rw [hd.length]; exact Nat.le_refl _⟩
  go := fun i H' M' B' hi _ sb g => by
    obtain ⟨v, hv, _⟩ := hd.get (List.getElem?_eq_getElem hi)
    exact ⟨xs, v, SqL.of (g.bh _ _ (sb _ _ hp)), hv⟩
  yld := fun i d H' M' B' x H'' hi _ sb g hy => by
    obtain ⟨e, hx⟩ := hy
    subst e
    obtain ⟨v, hv, hdv⟩ := hd.get hi
    have hx := hx xs (SqL.of (g.bh _ _ (sb _ _ hp)))
    rw [hv] at hx
    cases hx
    exact ⟨B', Gr.refl g, hdv.mono sb⟩
theorem pix_list {tg : Expr} {ds : List PyData} (h : PD X e Δ M (.dat (.list ds)) M1) : PIX X tg e Δ M ds PT0 M1 :=
  PI.of (pi_list h) fun σ H R ⟨B, h1, h2, h3⟩ => ⟨B, h1, h2, fun r' M' v B1 H1 q g rv => by
    obtain ⟨rfl, rfl⟩ := q
    obtain ⟨p, xs, rfl, hp, hd⟩ := dt_list.mp rv
    exact ⟨p, rfl, ⟨xs, SqL.of (g.bh _ _ hp)⟩, h3 _ B1 H1 g (wk_list hp hd)⟩⟩
/-- a cell that the loop leaves as it is -/
theorem wk_cell {K : PySem.W.Frag} {p : Addr} {ds : List PyData} {B1 : Hp} : Wk (Itl K p) ds B1 (fun M' => (p, MD.ld ds) ∈ M') where
  stop := fun H' M' B' hm sb g => by
    obtain ⟨⟨xs, hp, hd⟩, _⟩ := g.ho.at_ p _ hm
    exact ⟨xs, SqL.of hp, by rw [hd.length]; exact Nat.le_refl _⟩
  go := fun i H' M' B' hi hm sb g => by
    obtain ⟨⟨xs, hp, hd⟩, _⟩ := g.ho.at_ p _ hm
    obtain ⟨v, hv, _⟩ := hd.get (List.getElem?_eq_getElem hi)
    exact ⟨xs, v, SqL.of hp, hv⟩
  yld := fun i d H' M' B' x H'' hi hm sb g hy => by
    obtain ⟨e, hx⟩ := hy
    subst e
    obtain ⟨⟨xs, hp, hd⟩, _⟩ := g.ho.at_ p _ hm
    obtain ⟨v, hv, hdv⟩ := hd.get hi
    have hx := hx xs (SqL.of hp)
    rw [hv] at hx
    cases hx
    exact ⟨B', Gr.refl g, hdv⟩
theorem pix_cell {tg : Expr} {p : Addr} {ds : List PyData} (h : PD X e Δ M (.val (.ref p)) M1) (hm : (p, MD.ld ds) ∈ M1) : PIX X tg e Δ M ds (fun M' => (p, MD.ld ds) ∈ M') M1 :=
  PI.of (pi_list h) fun σ H R ⟨B, h1, h2, h3⟩ => ⟨B, h1, h2, fun r' M' v B1 H1 q g rv => by
    obtain ⟨rfl, rfl⟩ := q
    obtain rfl : v = .ref p := rv
    obtain ⟨⟨xs, hp, hd⟩, _⟩ := g.ho.at_ p _ hm
    exact ⟨p, rfl, ⟨xs, SqL.of hp⟩, h3 _ B1 H1 g wk_cell⟩⟩
def rgD (lo : Int) (n : Nat) : List PyData := (List.range n).map fun (i : Nat) => PyData.int (lo + i)
theorem rgD_len (lo : Int) (n : Nat) : (rgD lo n).length = n := by unfold rgD; rw [List.length_map, List.length_range]
theorem rgD_get {lo : Int} {n i : Nat} {d : PyData} (h : (rgD lo n)[i]? = some d) : i < n ∧ d = .int (lo + i) := by
  have hi : i < n := by
    have := (List.getElem?_eq_some_iff.mp h).1
    rw [rgD_len] at this
    exact this
  refine ⟨hi, ?_⟩
  unfold rgD at h
  rw [List.getElem?_map, List.getElem?_range hi] at h
  exact (Option.some.inj h).symm
theorem wk_range {lo : Int} {n : Nat} {B1 : Hp} : Wk (Itr lo n) (rgD lo n) B1 PT0 where
  stop := fun H' M' B' _ sb g => by rw [rgD_len]; exact Nat.le_refl n
  go := fun i H' M' B' hi _ sb g => by rw [rgD_len] at hi; exact hi
  yld := fun i d H' M' B' x H'' hi _ sb g hy => by
    obtain ⟨rfl, rfl⟩ := hy
    obtain ⟨_, rfl⟩ := rgD_get hi
    exact ⟨B', Gr.refl g, .int _⟩
theorem pix_range1 {tg a : Expr} {n : Int} {p : Pos} (hm : X.mg "range" = none) (ha : PD X a Δ M (dI n) M1) (hb : -(2 ^ 62) ≤ n ∧ n < 2 ^ 62) (hg : Gl X "range" := by rfl) (hs : starEach [a] X.env = [(false, eval a X.env)] := by rfl) : PIX X tg (.Call (.Name "range" p) [a] [] pos) Δ M (rgD 0 n.toNat) PT0 M1 :=
  PI.of (pi_range1 hg hm (pad_one ha hs) hs) fun σ H R ⟨B, h1, h2, h3⟩ => ⟨B, h1, h2, fun vs B1 H1 g rv => by
    match vs, rv with
    | [v], rv => exact ⟨n, by rw [dt_int.mp rv.1], hb.1, hb.2, h3 _ B1 H1 g wk_range⟩⟩
theorem pix_range2 {tg a b : Expr} {i j : Int} {p : Pos} (hm : X.mg "range" = none) (ha : PD X a Δ M (dI i) M1) (hb : PD X b Δ M1 (dI j) M2) (hz : -(2 ^ 62) ≤ i ∧ i < 2 ^ 62 ∧ -(2 ^ 62) ≤ j ∧ j < 2 ^ 62) (hg : Gl X "range" := by rfl) (hs : starEach [a, b] X.env = [(false, eval a X.env), (false, eval b X.env)] := by rfl)
    (hs2 : starEach [b] X.env = [(false, eval b X.env)] := by rfl) : PIX X tg (.Call (.Name "range" p) [a, b] [] pos) Δ M (rgD i (j - i).toNat) PT0 M2 :=
  PI.of (pi_range2 hg hm (pad_cons ha (pad_one hb hs2) (by rw [hs, hs2])) hs hs2) fun σ H R ⟨B, h1, h2, h3⟩ => ⟨B, h1, h2, fun vs B1 H1 g rv => by
    match vs, rv with
    | [v, w], rv => exact ⟨i, j, by rw [dt_int.mp rv.1, dt_int.mp rv.2.1], hz, h3 _ B1 H1 g wk_range⟩⟩
/-- pairs, each a new tuple -/
theorem new_pair {M' : Ms} {B' H' : Hp} {T : Addr} {x y : V} {d f : PyData} (g : Go M' B' H') (nT : H' T = none) (hx : Dt B' x d) (hy : Dt B' y f) : ∃ B'', Gr M' B' H' M' B'' (upd H' T (.tup [x, y])) ∧ Dt B'' (.ref T) (.tuple [d, f]) :=
  ⟨_, Gr.new g nT, .tuple upd_same (.cons (hx.mono (same_new (g.bh.free nT))) (.cons (hy.mono (same_new (g.bh.free nT))) .nil))⟩
def zipD (ds fs : List PyData) : List PyData := (ds.zip fs).map fun p => .tuple [p.1, p.2]
def enumD (ds : List PyData) : List PyData := ds.zipIdx.map fun p => .tuple [.int (p.2 : Int), p.1]
theorem pix_enum {elts : List Expr} {kk : Nat} {p tpos : Pos} {ds : List PyData} (hm : X.mg "enumerate" = none) (ha : PD X e Δ M (.dat (.list ds)) M1) (hg : Gl X "enumerate" := by rfl) (hs : starEach [e] X.env = [(false, eval e X.env)] := by rfl) :
    PIX X (.Tuple elts kk tpos) (.Call (.Name "enumerate" p) [e] [] pos) Δ M (enumD ds) PT0 M1 :=
  PI.of (pi_enum hg hm (pad_one ha hs) hs) fun σ H R ⟨B, h1, h2, h3⟩ => ⟨B, h1, h2, fun vs B1 H1 g rv => by
    match vs, rv with
    | [v], rv =>
      obtain ⟨q, xs, rfl, hq, hd⟩ := dt_list.mp rv.1
      refine ⟨q, xs, rfl, SqL.of (g.bh _ _ hq), h3 _ B1 H1 g ?_⟩
      have len : (enumD ds).length = ds.length := by unfold enumD; rw [List.length_map, List.length_zipIdx]
      refine ⟨fun H' M' B' _ sb g' => ⟨xs, SqL.of (g'.bh _ _ (sb _ _ hq)), by rw [len, hd.length]; exact Nat.le_refl _⟩, fun i H' M' B' hi _ sb g' => ?_, fun i d H' M' B' x H'' hi _ sb g' hy => ?_⟩
      · rw [len] at hi
        obtain ⟨u, hu, _⟩ := hd.get (List.getElem?_eq_getElem hi)
        exact ⟨xs, u, SqL.of (g'.bh _ _ (sb _ _ hq)), hu⟩
      · obtain ⟨T, y, rfl, nT, rfl, hy⟩ := hy
        have hy := hy xs (SqL.of (g'.bh _ _ (sb _ _ hq)))
        have hi' : i < ds.length := by have := (List.getElem?_eq_some_iff.mp hi).1; rw [len] at this; exact this
        have e0 : ds[i]? = some ds[i] := List.getElem?_eq_getElem hi'
        obtain ⟨u, hu, hdu⟩ := hd.get e0
        rw [hy] at hu
        cases hu
        unfold enumD at hi
        rw [List.getElem?_map, List.getElem?_zipIdx, e0] at hi
        have e1 : PyData.tuple [.int ((0 + i : Nat) : Int), ds[i]] = d := Option.some.inj hi
        rw [Nat.zero_add] at e1
        subst e1
        exact new_pair g' nT (.int _) (hdu.mono sb)⟩
theorem pix_zip {elts : List Expr} {kk : Nat} {p tpos : Pos} {b : Expr} {ds fs : List PyData} (hm : X.mg "zip" = none) (ha : PD X e Δ M (.dat (.list ds)) M1) (hb : PD X b Δ M1 (.dat (.list fs)) M2) (hg : Gl X "zip" := by rfl) (hs : starEach [e, b] X.env = [(false, eval e X.env), (false, eval b X.env)] := by rfl)
    (hs2 : starEach [b] X.env = [(false, eval b X.env)] := by rfl) : PIX X (.Tuple elts kk tpos) (.Call (.Name "zip" p) [e, b] [] pos) Δ M (zipD ds fs) PT0 M2 :=
  PI.of (pi_zip hg hm (pad_cons ha (pad_one hb hs2) (by rw [hs, hs2])) (by rw [hs, hs2]) (by rw [hs2]; rfl)) fun σ H R ⟨B, h1, h2, h3⟩ => ⟨B, h1, h2, fun vs B1 H1 g rv => by
    match vs, rv with
    | [v, w], rv =>
      obtain ⟨q, xs, rfl, hq, hd⟩ := dt_list.mp rv.1
      obtain ⟨q2, ys, rfl, hq2, hd2⟩ := dt_list.mp rv.2.1
      refine ⟨q, q2, xs, ys, rfl, SqL.of (g.bh _ _ hq), SqL.of (g.bh _ _ hq2), h3 _ B1 H1 g ?_⟩
      have len : (zipD ds fs).length = min ds.length fs.length := by unfold zipD; rw [List.length_map, List.length_zip]
      have sq : ∀ {H' M' B'}, Same B1 B' → Go M' B' H' → SqL X.K H' q xs ∧ SqL X.K H' q2 ys := fun {H' M' B'} sb g' => ⟨SqL.of (g'.bh _ _ (sb _ _ hq)), SqL.of (g'.bh _ _ (sb _ _ hq2))⟩
      refine ⟨fun H' M' B' _ sb g' => ⟨xs, ys, (sq sb g').1, (sq sb g').2, by have := hd.length; have := hd2.length; rw [len]; omega⟩, fun i H' M' B' hi _ sb g' => ?_, fun i d H' M' B' x H'' hi _ sb g' hy => ?_⟩
      · rw [len] at hi
        obtain ⟨u, hu, _⟩ := hd.get (List.getElem?_eq_getElem (show i < ds.length by omega))
        obtain ⟨u2, hu2, _⟩ := hd2.get (List.getElem?_eq_getElem (show i < fs.length by omega))
        exact ⟨xs, ys, u, u2, (sq sb g').1, (sq sb g').2, hu, hu2⟩
      · obtain ⟨T, y, y2, rfl, nT, rfl, hy, hy2⟩ := hy
        have hy := hy xs (sq sb g').1
        have hy2 := hy2 ys (sq sb g').2
        have hi' : i < min ds.length fs.length := by have := (List.getElem?_eq_some_iff.mp hi).1; rw [len] at this; exact this
        have e0 : ds[i]? = some (ds[i]'(by omega)) := List.getElem?_eq_getElem (by omega)
        have e2 : fs[i]? = some (fs[i]'(by omega)) := List.getElem?_eq_getElem (by omega)
        obtain ⟨u, hu, hdu⟩ := hd.get e0
        obtain ⟨u2, hu2, hdu2⟩ := hd2.get e2
        rw [hy] at hu
        rw [hy2] at hu2
        cases hu
        cases hu2
        unfold zipD at hi
        rw [List.getElem?_map, List.zip, List.getElem?_zipWith, e0, e2] at hi
        have e1 := (Option.some.inj hi).symm
        subst e1
        exact new_pair g' nT (hdu.mono sb) (hdu2.mono sb)⟩
/-- the keys of a locked dict -/
theorem wk_keys {d : Addr} {o : Obj} {kvs : List (List L2.Key × V)} {ds : List PyData} {B1 : Hp} (len : ds.length = kvs.length) (hk : ∀ (i : Nat) (k : List L2.Key) (v : V), kvs[i]? = some (k, v) → ∃ es, ds[i]? = some (.tuple es) ∧ ∀ B, DtA B (k.map kV) es) :
    Wk (Itkt d o kvs) ds B1 (fun M' => (d, MD.fdic o kvs) ∈ M') where
  stop := fun H' M' B' hm sb g => ⟨(g.ho.at_ d _ hm).1, by rw [len]; exact Nat.le_refl _⟩
  go := fun i H' M' B' hi hm sb g => ⟨(g.ho.at_ d _ hm).1, by rw [← len]; exact hi⟩
  yld := fun i f H' M' B' x H'' hi hm sb g hy => by
    obtain ⟨rfl, k, v, q, h1, rfl, h2⟩ := hy
    obtain ⟨es, h3, h4⟩ := hk i k v h1
    rw [h3] at hi
    cases hi
    exact ⟨_, Gr.tup g h2, .tuple upd_same (h4 _)⟩
end

/-! ### for -/
section
variable {X : Cx} {Δ Δ1 : List SD} {M M1 M2 M3 : Ms} {r : SD} {e : Expr} {pos : Pos} {Nx : List SD → Ms → Prop} {Rt : SD → Ms → Prop}
def tGAny (X : Cx) (tg : Expr) : TG := fun v σ H Q => ∃ s Δ Δ' vs, PGX X tg s Δ Δ' vs ∧ tGX s Δ Δ' vs v σ H Q
theorem pg_any {tg : Expr} : PG X tg (tGAny X tg) := ⟨fun pins s σ H v u Q I rv ⟨_, _, _, _, h, w⟩ => h.run pins s σ H v u Q I rv w⟩
/-- Iv i Δ M: what holds ahead of turn i -/
theorem psx_for {tg iter : Expr} {body : List Stmt} {ds : List PyData} {P : Ms → Prop} (Iv : Nat → List SD → Ms → Prop) (hp : PassesOwn (model X.prog X.w) X.A X.env X.xe) (hc : X.calm = true) (hi : PIX X tg iter Δ M ds P M1)
    (h0 : Iv 0 Δ M1) (hP : ∀ i Δ' M', Iv i Δ' M' → P M')
    (turn : ∀ i d Δ' M', ds[i]? = some d → Iv i Δ' M' → ∃ Δ2 vs, PGX X tg (.dat d) Δ' Δ2 vs ∧ PBX X body Δ2 M' (Iv (i + 1)) Rt) (hn : ∀ Δ' M', Iv ds.length Δ' M' → Nx Δ' M')
    (hs : ∀ x, foldedSetIterable iter X.env x = pure x := by intro _; rfl) : PSX X (.For tg iter body [] pos) Δ M Nx Rt :=
  PS.of (ps_for hp hc hi pg_any pb_any hs) fun D σ H ⟨B, h1, h2, h3, h4⟩ => ⟨B, h1, h2, fun J B1 H1 g1 wk => by
    refine ⟨fun i m σ' H' => i ≤ ds.length ∧ m = ds.length - i ∧ ∃ Δ' M' B', Iv i Δ' M' ∧ Gr M B H M' B' H' ∧ Same B1 B' ∧ Sl B' σ' Δ', ⟨ds.length, Nat.zero_le _, rfl, Δ, M1, B1, h0, g1, .refl _, h1.mono g1.bb⟩, ?_⟩
    rintro i m σ' H' ⟨hi', rfl, Δ', M', B', hI, g, sb, sl⟩
    by_cases hlt : i < ds.length
    · refine .inr ⟨wk.go i H' M' B' hlt (hP _ _ _ hI) sb g.go, fun σ2 H2 => ∃ Δ2 M2 B2, Iv (i + 1) Δ2 M2 ∧ Gr M B H M2 B2 H2 ∧ Same B1 B2 ∧ Sl B2 σ2 Δ2, fun σ2 H2 ⟨Δ2, M2, B2, q1, q2, q3, q4⟩ => ⟨ds.length - (i + 1), by omega, hlt, rfl, Δ2, M2, B2, q1, q2, q3, q4⟩, fun x H'' hy => ?_⟩
      obtain ⟨d, hd⟩ : ∃ d, ds[i]? = some d := ⟨_, List.getElem?_eq_getElem hlt⟩
      obtain ⟨B'', g'', hx⟩ := wk.yld i d H' M' B' x H'' hd (hP _ _ _ hI) sb g.go hy
      obtain ⟨Δ2, vs, pg, pb⟩ := turn i d Δ' M' hd hI
      refine ⟨.dat d, Δ', Δ2, vs, pg, B'', sl.mono g''.bb, g''.bh, hx, fun σ2 sl2 _ _ => ⟨Δ2, M', Iv (i + 1), Rt, pb, B'', sl2, g''.go, fun Δ3 M3 σ3 B3 H3 hn3 g3 sl3 => ⟨Δ3, M3, B3, hn3, (g.trans g'').trans g3, (sb.trans g''.bb).trans g3.bb, sl3⟩, fun r M3 v B3 H3 hr g3 rv => h4 r M3 v B3 H3 hr ((g.trans g'').trans g3) rv⟩⟩
    · have e : i = ds.length := by omega
      subst e
      exact .inl ⟨wk.stop H' M' B' (hP _ _ _ hI) sb g.go, h3 Δ' M' σ' B' H' (hn _ _ hI) g sl⟩⟩
/-- while -/
theorem psx_while {c : Expr} {body : List Stmt} (Iv : Nat → List SD → Ms → Prop) (m0 : Nat) (hp : PassesOwn (model X.prog X.w) X.A X.env X.xe) (h0 : Iv m0 Δ M)
    (turn : ∀ m Δ' M', Iv m Δ' M' → ∃ t, PTD X c Δ' M' t M' ∧ (t = true → PBX X body Δ' M' (fun Δ2 M2 => ∃ m2, m2 < m ∧ Iv m2 Δ2 M2) Rt) ∧ (t = false → Nx Δ' M')) : PSX X (.While c body [] pos) Δ M Nx Rt := by
  have hc : PT X c (fun σ H Q => ∃ Δ M t M', PTD X c Δ M t M' ∧ tT Δ M t M' σ H Q) := ⟨fun pins s σ H Q I ⟨_, _, _, _, h, w⟩ => h.run pins s σ H Q I w⟩
  refine PS.of (ps_while hp hc pb_any) fun D σ H ⟨B, h1, h2, h3, h4⟩ => ?_
  refine ⟨fun m σ' H' => ∃ Δ' M' B', Iv m Δ' M' ∧ Gr M B H M' B' H' ∧ Sl B' σ' Δ', ⟨m0, Δ, M, B, h0, Gr.refl h2, h1⟩, ?_⟩
  rintro m σ' H' ⟨Δ', M', B', hI, g, sl⟩
  obtain ⟨t, ht, hT, hF⟩ := turn m Δ' M' hI
  refine ⟨Δ', M', t, M', ht, B', sl, g.go, fun B2 H2 g2 => ?_⟩
  cases t with
  | true =>
    refine iteT ⟨fun σ2 H2 => ∃ m2, m2 < m ∧ ∃ Δ2 M2 B2, Iv m2 Δ2 M2 ∧ Gr M B H M2 B2 H2 ∧ Sl B2 σ2 Δ2, fun σ2 H2 ⟨m2, q1, q2⟩ => ⟨m2, q1, q2⟩, ?_⟩
    exact ⟨Δ', M', _, Rt, hT rfl, B2, sl.mono g2.bb, g2.go, fun Δ3 M3 σ3 B3 H3 ⟨m2, q1, q2⟩ g3 sl3 => ⟨m2, q1, Δ3, M3, B3, q2, (g.trans g2).trans g3, sl3⟩, fun r M3 v B3 H3 hr g3 rv => h4 r M3 v B3 H3 hr ((g.trans g2).trans g3) rv⟩
  | false => exact iteF (h3 Δ' M' σ' B2 H2 (hF rfl) (g.trans g2) (sl.mono g2.bb))
end

/-! ### comprehensions -/
def PTsX (X : Cx) (ifs : List Expr) (Δ : List SD) (M : Ms) (t : Bool) (M' : Ms) : Prop := PTs X ifs (tT Δ M t M')
section
variable {X : Cx} {Δ : List SD} {M M1 : Ms}
theorem ptx_nil : PTsX X [] Δ M true M := ⟨fun pins s σ H Q I ⟨B, h1, h2, h3⟩ => pts_nil.run pins s σ H Q I (h3 B H (Gr.refl h2))⟩
theorem ptx_one {c : Expr} {t : Bool} (h : PTD X c Δ M t M1) : PTsX X [c] Δ M t M1 := pts_one h
end
abbrev CtxP := Shared → Hp → Addr → List (Str × Addr) → List Addr → Prop
/-- one turn: the item d, what is kept of it -/
def CTurn (X : Cx) (scope : Scope) (tg : Expr) (ifs : List Expr) (elt : Expr) (Δ : List SD) (vs : List Nat) (d : PyData) (M : Ms) (out : Option PyData) (M' : Ms) : Prop :=
  ∃ Δ2, (∀ s H C cl fp, PGX (X.blk s H scope (compEnvC scope cl C X.env) fp) tg (.dat d) Δ Δ2 vs) ∧
    ((∃ M1 f, out = some f ∧ (∀ s H C cl fp, PTsX (X.blk s H scope (compEnvC scope cl C X.env) fp) ifs Δ2 M true M1) ∧ (∀ s H C cl fp, PD (X.blk s H scope (compEnvC scope cl C X.env) fp) elt Δ2 M1 (.dat f) M')) ∨
      (out = none ∧ ∀ s H C cl fp, PTsX (X.blk s H scope (compEnvC scope cl C X.env) fp) ifs Δ2 M false M'))
theorem wipe_out_eq {σ σ' : L2.St} {vs : List Nat} (hl : σ'.length = σ.length) (hj : ∀ j, j ∉ vs → σ'[j]? = σ[j]?) : wipe σ' vs = wipe σ vs := by
  have key : ∀ (us : List Nat) (τ : L2.St) (j : Nat), (wipe τ us)[j]? = if j ∈ us then (if j < τ.length then some none else none) else τ[j]? := by
    intro us
    induction us with
    | nil => intro τ j; simp [wipe]
    | cons u us ih =>
      intro τ j
      show ((wipe τ us).set u none)[j]? = _
      by_cases h : u = j
      · subst h
        by_cases hu : u < τ.length
        · rw [List.getElem?_set_self (by rw [wipe_length]; exact hu)]
          simp [hu]
        · rw [List.getElem?_eq_none (by rw [List.length_set, wipe_length]; omega)]
          simp [hu]
      · rw [List.getElem?_set_ne h, ih τ j]
        have h' : ¬ j = u := fun z => h z.symm
        simp [List.mem_cons, h']
  apply List.ext_getElem?
  intro j
  rw [key, key, hl]
  by_cases h : j ∈ vs
  · simp [h]
  · simp [h, hj j h]
section
variable {X : Cx} {Δ : List SD} {M M1 : Ms} {pos : Pos} {elt tg iter : Expr} {ifs : List Expr} {scope : Scope} {own : List (Str × Nat)} {ds : List PyData} {P : Ms → Prop}
/-- the reading of a comprehension's block, from its turns -/
theorem tlc_of (hz : ds.length ≤ sizeLine) (Mi : Nat → Ms) (out : Nat → Option PyData) (h0 : Mi 0 = M1) (hP : ∀ i, P (Mi i))
    (turn : ∀ i d, ds[i]? = some d → CTurn X scope tg ifs elt (wipeD Δ (own.map (·.2))) (own.map (·.2)) d (Mi i) (out i) (Mi (i + 1))) {σ : L2.St} {H : Hp} {Q : VK}
    (w : tN Δ M ((List.range ds.length).filterMap out) (Mi ds.length) σ H Q) :
    tLc (tIX Δ M ds P M1)
      (fun v σ H Q => ∃ Δ Δ2 s vs, (∀ s' H' C cl fp, PGX (X.blk s' H' scope (compEnvC scope cl C X.env) fp) tg s Δ Δ2 vs) ∧ tGX s Δ Δ2 vs v σ H Q)
      (fun σ H Q => ∃ Δ M t M', (∀ s H C cl fp, PTsX (X.blk s H scope (compEnvC scope cl C X.env) fp) ifs Δ M t M') ∧ tT Δ M t M' σ H Q)
      (fun σ H Q => ∃ Δ M r M', (∀ s H C cl fp, PD (X.blk s H scope (compEnvC scope cl C X.env) fp) elt Δ M r M') ∧ tX Δ M (R1 r M') σ H Q) (own.map (·.2)) σ H Q := by
  obtain ⟨B, h1, h2, h3⟩ := w
  refine ⟨B, h1, h2, fun J B1 H1 g1 wk D hD => ?_⟩
  have acc_len : ∀ i, ((List.range i).filterMap out).length ≤ i := fun i => by
    have := List.length_filterMap_le out (List.range i)
    rw [List.length_range] at this
    exact this
  refine ⟨fun i m H' => i ≤ ds.length ∧ m = ds.length - i ∧ ∃ B' acc, Gr M B H (Mi i) B' H' ∧ Same B1 B' ∧ B' D = none ∧ H' D = some (.lst acc) ∧ DtA B' acc ((List.range i).filterMap out) ∧ D ∉ ad (Mi i), ⟨ds.length, Nat.zero_le _, rfl, B1, [], ?_, .refl _, g1.go.bh.free hD, upd_same, .nil, ?_⟩, ?_⟩
  · rw [h0]; exact g1.trans (Gr.alloc g1.go hD)
  · rw [h0]; exact notin_of g1.go hD
  rintro i m H' ⟨hi', rfl, B', acc, g, sb, nD, eD, dD, aD⟩
  have hD0 : H D = none := th_none g1 hD
  by_cases hlt : i < ds.length
  · obtain ⟨d, hd⟩ : ∃ d, ds[i]? = some d := ⟨_, List.getElem?_eq_getElem hlt⟩
    refine .inr ⟨wk.go i H' _ B' hlt (hP i) sb g.go, fun H2 => ∃ B2 acc, Gr M B H (Mi (i + 1)) B2 H2 ∧ Same B1 B2 ∧ B2 D = none ∧ H2 D = some (.lst acc) ∧ DtA B2 acc ((List.range (i + 1)).filterMap out) ∧ D ∉ ad (Mi (i + 1)), fun H2 q => ⟨ds.length - (i + 1), by omega, hlt, rfl, q⟩, fun x H'' hy => ?_⟩
    obtain ⟨B'', g'', hx⟩ := wk.yld i d H' _ B' x H'' hd (hP i) sb g.go hy
    obtain ⟨Δ2, pg, ho⟩ := turn i d hd
    -- D stays apart
    have keepD : ∀ {Mx Mx' : Ms} {Ba Ha Bb Hb : Hp} {ac : List V}, Gr Mx Ba Ha Mx' Bb Hb → Ba D = none → Ha D = some (.lst ac) → D ∉ ad Mx → Bb D = none ∧ Hb D = some (.lst ac) ∧ D ∉ ad Mx' := fun {Mx Mx' Ba Ha Bb Hb ac} gg n1 e1 a1 => by
      refine ⟨?_, gg.hh D _ a1 e1, fun z => ?_⟩
      · cases q : Bb D with
        | none => rfl
        | some u =>
          exfalso
          rcases gg.fr D u q with y | y | y | y
          · obtain ⟨xs, y⟩ := y
            subst y
            have e2 := gg.bh D _ q
            rw [gg.hh D _ a1 e1] at e2
            cases e2
          · exact y n1
          · rw [y] at e1; cases e1
          · exact a1 y
      · rcases gg.mf D z with y | y
        · exact a1 y
        · rw [y] at e1; cases e1
    obtain ⟨nD2, eD2, aD2⟩ := keepD g'' nD eD aD
    refine ⟨wipeD Δ (own.map (·.2)), Δ2, .dat d, own.map (·.2), pg, B'', ((h1.mono (g.bb.trans g''.bb)).wipe _), g''.bh, hx, fun σ2 sl2 hl2 hj2 => ⟨?_, ?_⟩⟩
    · rw [wipe_out_eq hl2 hj2]
      apply wipe_out_eq (wipe_length _ _)
      intro j hj
      have : ∀ (us : List Nat) (τ : L2.St), j ∉ us → (wipe τ us)[j]? = τ[j]? := by
        intro us
        induction us with
        | nil => intro τ _; rfl
        | cons u us ih =>
          intro τ hh
          show ((wipe τ us).set u none)[j]? = _
          rw [List.getElem?_set_ne (fun z => hh (by rw [z]; exact List.mem_cons_self)), ih τ fun z => hh (List.mem_cons_of_mem _ z)]
      exact this _ _ hj
    · rcases ho with ⟨Mt, f, eo, pt, pe⟩ | ⟨eo, pt⟩
      · refine ⟨Δ2, Mi i, true, Mt, pt, B'', sl2, g''.go, fun B3 H3 g3 => iteT ?_⟩
        obtain ⟨nD3, eD3, aD3⟩ := keepD g3 nD2 eD2 aD2
        refine ⟨Δ2, Mt, .dat f, Mi (i + 1), pe, B3, sl2.mono g3.bb, g3.go, fun r' M' v B4 H4 hq g4 rv => ?_⟩
        obtain ⟨rfl, rfl⟩ := hq
        obtain ⟨nD4, eD4, aD4⟩ := keepD g4 nD3 eD3 aD3
        have gg : Gr M B H (Mi (i + 1)) B4 H4 := ((g.trans g'').trans g3).trans g4
        have dd : DtA B4 acc ((List.range i).filterMap out) := ((dD.mono g''.bb).mono g3.bb).mono g4.bb
        have acl : acc.length < sizeLine := by
          have := dD.length
          have := acc_len i
          omega
        refine ⟨acc, eD4, acl, B4, acc ++ [v], ?_, ((sb.trans g''.bb).trans g3.bb).trans g4.bb, nD4, upd_same, ?_, aD4⟩
        · -- D is written; it is no cell and no data
          refine ⟨gg.bb, fun b u q => ?_, fun b u h1' q => ?_, gg.fr, fun b q => ?_, gg.mf, gg.ho.nd, fun q mm hq => ?_⟩
          · have ne : b ≠ D := fun z => by rw [z, nD4] at q; cases q
            rw [upd_ne ne]; exact gg.bh b u q
          · have ne : b ≠ D := fun z => by rw [z, hD0] at q; cases q
            rw [upd_ne ne]; exact gg.hh b u h1' q
          · by_cases hb : b = D
            · subst hb; rw [upd_same]; exact fun z => nomatch z
            · rw [upd_ne hb]; exact gg.th b q
          · have ne : q ≠ D := fun z => aD4 (z ▸ ad_mem hq)
            obtain ⟨k1, k2⟩ := gg.ho.at_ q mm hq
            exact ⟨k1.move (.refl _) (upd_ne ne), k2⟩
        · rw [List.range_succ, List.filterMap_append]
          refine dd.append ?_
          rw [List.filterMap_cons, eo]
          exact .one rv
      · refine ⟨Δ2, Mi i, false, Mi (i + 1), pt, B'', sl2, g''.go, fun B3 H3 g3 => iteF ?_⟩
        obtain ⟨nD3, eD3, aD3⟩ := keepD g3 nD2 eD2 aD2
        refine ⟨B3, acc, (g.trans g'').trans g3, (sb.trans g''.bb).trans g3.bb, nD3, eD3, ?_, aD3⟩
        rw [List.range_succ, List.filterMap_append, List.filterMap_cons, eo]
        simpa using (dD.mono g''.bb).mono g3.bb
  · have e : i = ds.length := by omega
    subst e
    exact .inl ⟨wk.stop H' _ B' (hP _) sb g.go, h3 D acc B' H' g hD0 nD eD dD aD⟩
theorem pl_comp (hc : X.calm = true) (hN : X.N.Nodup) (hi : PIX X tg iter Δ M ds P M1) (ok : BlkOk X.N X.env.scope scope own) (hz : ds.length ≤ sizeLine) (Mi : Nat → Ms) (out : Nat → Option PyData) (h0 : Mi 0 = M1) (hP : ∀ i, P (Mi i))
    (turn : ∀ i d, ds[i]? = some d → CTurn X scope tg ifs elt (wipeD Δ (own.map (·.2))) (own.map (·.2)) d (Mi i) (out i) (Mi (i + 1))) (hs : ∀ x, foldedSetIterable iter X.env x = pure x := by intro _; rfl) :
    PL X (.ListComp elt [⟨tg, iter, ifs, 0⟩] scope pos) Δ M ((List.range ds.length).filterMap out) (Mi ds.length) :=
  PE.of (pe_lc hc hN hi ok (fun s H C cl fp => ⟨fun pins s' σ H' v u Q I rv ⟨_, _, _, _, h, w⟩ => (h s H C cl fp).run pins s' σ H' v u Q I rv w⟩) (fun s H C cl fp => ⟨fun pins s' σ H' Q I ⟨_, _, _, _, h, w⟩ => (h s H C cl fp).run pins s' σ H' Q I w⟩)
    (fun s H C cl fp => ⟨fun pins s' σ H' Q I ⟨_, _, _, _, h, w⟩ => (h s H C cl fp).run pins s' σ H' Q I w⟩) hs) fun σ H Q w => tlc_of hz Mi out h0 hP turn w
/-- name = [..] on one line: the list as data, or as a cell -/
theorem psx_setLc {i : Nat} {y : Str} {py spos : Pos} {Nx : List SD → Ms → Prop} {Rt : SD → Ms → Prop} (hc : X.calm = true) (hN : X.N.Nodup) (hi : PIX X tg iter Δ M ds P M1) (ok : BlkOk X.N X.env.scope scope own) (hz : ds.length ≤ sizeLine) (Mi : Nat → Ms) (out : Nat → Option PyData) (h0 : Mi 0 = M1) (hP : ∀ i, P (Mi i))
    (turn : ∀ i d, ds[i]? = some d → CTurn X scope tg ifs elt (wipeD Δ (own.map (·.2))) (own.map (·.2)) d (Mi i) (out i) (Mi (i + 1)))
    (k : Nx (Δ.set i (.dat (.list ((List.range ds.length).filterMap out)))) (Mi ds.length))
    (hy : X.N[i]? = some y := by rfl) (hyl : X.env.scope.names.lookup y = some .local := by rfl) (hsw : swapsWith (.ListComp elt [⟨tg, iter, ifs, 0⟩] scope pos) (some (.Name y py)) spos.line X.env = pure true)
    (hs : ∀ x, foldedSetIterable iter X.env x = pure x := by intro _; rfl) : PSX X (.Assign [.Name y py] (.ListComp elt [⟨tg, iter, ifs, 0⟩] scope pos) spos) Δ M Nx Rt :=
  PS.of (ps_setLc hc hN hy hyl hsw hi ok (fun s H C cl fp => ⟨fun pins s' σ H' v u Q I rv ⟨_, _, _, _, h, w⟩ => (h s H C cl fp).run pins s' σ H' v u Q I rv w⟩) (fun s H C cl fp => ⟨fun pins s' σ H' Q I ⟨_, _, _, _, h, w⟩ => (h s H C cl fp).run pins s' σ H' Q I w⟩)
    (fun s H C cl fp => ⟨fun pins s' σ H' Q I ⟨_, _, _, _, h, w⟩ => (h s H C cl fp).run pins s' σ H' Q I w⟩) hs) fun D σ H ⟨B, h1, h2, h3, h4⟩ => tlc_of hz Mi out h0 hP turn ⟨B, h1, h2, fun p xs B2 H2 g n0 nb ex dx na =>
      h3 _ _ _ _ _ k (tell g n0 nb ex na) ((h1.mono (tell g n0 nb ex na).bb).set i (dt_list.mpr ⟨p, xs, rfl, upd_same, dx.mono (same_new nb)⟩))⟩
/-- where no cell changes, over items given by a function -/
theorem filterMap_range {α : Type} (zs : List α) (td : α → PyData) (f : α → Option PyData) : ((List.range (zs.map td).length).filterMap fun i => (zs[i]?).bind f) = zs.filterMap f := by
  rw [List.length_map]
  induction zs with
  | nil => rfl
  | cons z zs ih =>
    rw [List.length_cons, List.range_succ_eq_map, List.filterMap_cons, List.filterMap_map]
    have e : (fun i => ((z :: zs)[i]?).bind f) ∘ Nat.succ = fun i => (zs[i]?).bind f := by
      funext i
      simp
    rw [e, ih, List.filterMap_cons]
    rfl
theorem pl_compP {α : Type} (zs : List α) (td : α → PyData) (f : α → Option PyData) (hc : X.calm = true) (hN : X.N.Nodup) (hi : PIX X tg iter Δ M (zs.map td) P M1) (ok : BlkOk X.N X.env.scope scope own) (hz : zs.length ≤ sizeLine) (hP : P M1)
    (turn : ∀ z ∈ zs, CTurn X scope tg ifs elt (wipeD Δ (own.map (·.2))) (own.map (·.2)) (td z) M1 (f z) M1) (hs : ∀ x, foldedSetIterable iter X.env x = pure x := by intro _; rfl) :
    PL X (.ListComp elt [⟨tg, iter, ifs, 0⟩] scope pos) Δ M (zs.filterMap f) M1 := by
  have h := pl_comp (pos := pos) hc hN hi ok (by rw [List.length_map]; exact hz) (fun _ => M1) (fun i => (zs[i]?).bind f) rfl (fun _ => hP) (fun i d hd => by
    rw [List.getElem?_map] at hd
    cases hq : zs[i]? with
    | none => rw [hq] at hd; cases hd
    | some z =>
      rw [hq] at hd
      cases hd
      exact turn z (List.mem_of_getElem? hq)) hs
  rw [filterMap_range] at h
  exact h
end

/-! ### defs and calls -/
abbrev Tr := List SD → Ms → (SD → Ms → Prop) → Prop
def spX (T : Tr) : Sp := fun vs H Q _ => ∃ B rs M R, T rs M R ∧ RsA B vs rs ∧ Go M B H ∧ ∀ r M' v B2 H2, R r M' → Gr M B H M' B2 H2 → Rs B2 v r → Q v H2
structure CalX (P : Program) (w : World) (K : PySem.W.Frag) (mg : Str → Option Value) (base : Heap) (k : Nat) (x : Str) (T : Tr) : Prop where
  ex : ∃ (f : Addr) (fd : FuncData) (ps : List Str), FnOk P w K mg base CX0 k f fd ps (spX T) ∧ mg x = some (.ref f) ∧ PySem.W.keepIn K (.ref f) = true ∧ Binds K fd ps []
theorem sl_start {N : List Str} {B : Hp} {vs : List V} {rs : List SD} (h : RsA B vs rs) : Sl B (L2.start N vs) (rs ++ List.replicate (N.length - rs.length) .nil) := by
  have hl := h.length
  refine ⟨?_, fun i r e ne => ?_⟩
  · unfold L2.start
    rw [List.length_append, List.length_map, List.length_replicate, List.length_append, List.length_replicate, hl]
  · by_cases hi : i < rs.length
    · rw [List.getElem?_append_left hi] at e
      obtain ⟨v, h1, h2⟩ := h.get e
      refine ⟨v, ?_, h2⟩
      unfold L2.start
      rw [List.getElem?_append_left (by rw [List.length_map]; omega), List.getElem?_map, h1]
      rfl
    · rw [List.getElem?_append_right (by omega), List.getElem?_replicate] at e
      split at e
      · cases e; exact absurd rfl ne
      · cases e
section
variable {P : Program} {w : World} {K : PySem.W.Frag} {mg : Str → Option Value} {base : Heap}
theorem fn_okX {x qual : Str} {st : Stmt} {f : Addr} {fd : FuncData} {N ps : List Str} {k : Nat} {T : Tr} (F : Fun K x qual st f fd) (S : FnScope N ps (defScope st)) (len : ∀ rs M R, T rs M R → rs.length = ps.length)
    (hbody : ∀ (cdv : Value) (A : Around) (outer : List Env) (s : Shared) (H : Hp) (E : XK) (rs : List SD) (M : Ms) (R : SD → Ms → Prop), Room k (A.deeper (envOfC qual (defScope st) s.heap.objs.size f cdv)) → T rs M R →
      PBX (cxOf CX0 P w K mg base N qual (defScope st) f cdv A outer s H E).nox (defBody st) (rs ++ List.replicate (N.length - rs.length) .nil) M (fun _ M' => R (.dat .none) M') R) : FnOk P w K mg base CX0 (k + 1) f fd ps (spX T) := by
  refine F.ok S (fun vs H Q E h => ?_) (fun cdv A outer s H vs Q E hr h => ?_)
  · obtain ⟨B, rs, M, R, hT, hv, _⟩ := h
    rw [hv.length]
    exact len _ _ _ hT
  · obtain ⟨B, rs, M, R, hT, hv, g, q⟩ := h
    exact ⟨_, hbody cdv A outer s H E rs M R hr hT, B, sl_start hv, g, fun Δ' M' σ' B2 H2 hn g2 _ => q _ M' .non B2 H2 hn g2 .none, fun r M' v B2 H2 hr' g2 rv => q r M' v B2 H2 hr' g2 rv⟩
end
section
variable {X : Cx} {Δ : List SD} {M M1 Mc F : Ms} {x : Str} {p pos : Pos} {e : Expr} {es : List Expr} {rs : List SD} {R : SD → Ms → Prop} {T : Tr} {k : Nat}
theorem px_call (C : CalX X.prog X.w X.K X.mg X.base k x T) (hr : Room k X.A) (ha : PAD X (e :: es) Δ M rs M1) (hM : M1 = Mc ++ F) (hT : T rs Mc R) (hg : Gl X x := by rfl) (hdb : (x == ("__debug__" : Str)) = false := by decide)
    (he : starEach (e :: es) X.env = (false, eval e X.env) :: starEach es X.env := by rfl) (hpl : (backTo pos (starEach es X.env)).any (·.1) = false := by rfl) : PX X (.Call (.Name x p) (e :: es) [] pos) Δ M (fun r M' => ∃ Mc', R r Mc' ∧ M' = Mc' ++ F) := by
  obtain ⟨f, fd, ps, G, mgf, kp, b⟩ := C.ex
  subst hM
  refine PE.of (pe_call G hr hg mgf kp b .nil pass0 ha hdb he hpl) fun σ H Q ⟨B, h1, h2, h3⟩ => ⟨B, h1, h2, fun vs B1 H1 g rv => ⟨B1, rs, Mc, R, hT, by rw [List.append_nil]; exact rv, g.go.left, fun r M' v B2 H2 hR g2 rv2 => h3 r (M' ++ F) v B2 H2 ⟨M', hR, rfl⟩ (g.trans (g2.frame g.ho)) rv2⟩⟩
/-- a def that takes no cells, its answer told -/
theorem pd_call {r : SD} (C : CalX X.prog X.w X.K X.mg X.base k x T) (hr : Room k X.A) (ha : PAD X (e :: es) Δ M rs M1) (hT : T rs [] (R1 r [])) (hg : Gl X x := by rfl) (hdb : (x == ("__debug__" : Str)) = false := by decide)
    (he : starEach (e :: es) X.env = (false, eval e X.env) :: starEach es X.env := by rfl) (hpl : (backTo pos (starEach es X.env)).any (·.1) = false := by rfl) : PD X (.Call (.Name x p) (e :: es) [] pos) Δ M r M1 :=
  PX.mono (px_call (Mc := []) (F := M1) C hr ha rfl hT hg hdb he hpl) fun r' M' ⟨Mc', h, e⟩ => by
    obtain ⟨rfl, rfl⟩ := h
    exact ⟨rfl, e⟩
/-- .. that turns cells ahead of the others, its answer told -/
theorem pd_callM {r : SD} {Mc' : Ms} (C : CalX X.prog X.w X.K X.mg X.base k x T) (hr : Room k X.A) (ha : PAD X (e :: es) Δ M rs (Mc ++ F)) (hT : T rs Mc (R1 r Mc')) (hg : Gl X x := by rfl) (hdb : (x == ("__debug__" : Str)) = false := by decide)
    (he : starEach (e :: es) X.env = (false, eval e X.env) :: starEach es X.env := by rfl) (hpl : (backTo pos (starEach es X.env)).any (·.1) = false := by rfl) : PD X (.Call (.Name x p) (e :: es) [] pos) Δ M r (Mc' ++ F) :=
  PX.mono (px_call (Mc := Mc) (F := F) C hr ha rfl hT hg hdb he hpl) fun r' M' ⟨Mc2, h, e⟩ => by
    obtain ⟨rfl, rfl⟩ := h
    exact ⟨rfl, e⟩
end
end KR

/-! KR, part D: lists, tuples, built-ins. -/
namespace KR
open PySem PySem.Spec PyProof.Rows L2

/-- a list to be read: data, or a cell -/
def LsD (r : SD) (ds : List PyData) (M : Ms) : Prop := r = .dat (.list ds) ∨ ∃ p, r = .val (.ref p) ∧ (p, MD.ld ds) ∈ M
theorem LsD.dat {ds : List PyData} {M : Ms} : LsD (.dat (.list ds)) ds M := .inl rfl
theorem LsD.cell {p : Addr} {ds : List PyData} {M : Ms} (h : (p, MD.ld ds) ∈ M) : LsD (.val (.ref p)) ds M := .inr ⟨p, rfl, h⟩
theorem LsD.of {r : SD} {ds : List PyData} {M : Ms} {B H : Hp} {v : V} (l : LsD r ds M) (h : Rs B v r) (g : Go M B H) : ∃ a xs, v = .ref a ∧ H a = some (.lst xs) ∧ DtA B xs ds := by
  rcases l with rfl | ⟨p, rfl, hm⟩
  · obtain ⟨a, xs, rfl, hb, hd⟩ := dt_list.mp h
    exact ⟨a, xs, rfl, g.bh _ _ hb, hd⟩
  · obtain rfl : v = .ref p := h
    obtain ⟨⟨xs, hp, hd⟩, _⟩ := g.ho.at_ p _ hm
    exact ⟨p, xs, rfl, hp, hd⟩
theorem dta_at {B : Hp} {vs : List V} {ds : List PyData} {i : Int} {d : PyData} (h : DtA B vs ds) (e : atI ds i = some d) : ∃ v, atI vs i = some v ∧ Dt B v d := by
  unfold atI at e ⊢
  rw [h.length]
  cases q : ixN ds.length i with
  | none => rw [q] at e; cases e
  | some j =>
    rw [q] at e
    exact h.get e
def cutD (ds : List PyData) (lo hi : Option Int) : List PyData := (ds.drop (HT.sIx ds.length 0 lo)).take (HT.sIx ds.length ds.length hi - HT.sIx ds.length 0 lo)
theorem dta_cut {B : Hp} {vs : List V} {ds : List PyData} (lo hi : Option Int) (h : DtA B vs ds) : DtA B (cutV vs lo hi) (cutD ds lo hi) := by
  unfold cutV cutD
  rw [h.length]
  exact (h.drop _).take _
theorem dta_rep {B : Hp} {vs : List V} {ds : List PyData} (h : DtA B vs ds) : ∀ k : Nat, DtA B (List.replicate k vs).flatten (List.replicate k ds).flatten
  | 0 => .nil
  | k + 1 => by
    rw [List.replicate_succ, List.replicate_succ, List.flatten_cons, List.flatten_cons]
    exact h.append (dta_rep h k)

section
variable {X : Cx} {Δ : List SD} {M M1 M2 M3 : Ms} {r ra rb : SD} {a b e o : Expr} {pos p : Pos} {ds fs : List PyData}

/-- what stands behind one operand -/
theorem one_op {σ : L2.St} {H : Hp} {Q : V → Hp → Prop} {B : Hp} (h1 : Sl B σ Δ) (h2 : Go M B H) (k : ∀ x B2 H2, Gr M B H M1 B2 H2 → Rs B2 x ra → Q x H2) : tX Δ M (R1 ra M1) σ H Q :=
  ⟨B, h1, h2, fun r' M' x B1 H1 e g1 rx => by
    obtain ⟨rfl, rfl⟩ := e
    exact k x B1 H1 g1 rx⟩

/-! ### subscripts -/
theorem pd_ix {i : Int} {d : PyData} (ha : PD X a Δ M ra M1) (hb : PD X b Δ M1 (dI i) M2) (hl : LsD ra ds M2) (hd : atI ds i = some d) (hs : PlainIx b := by exact fun _ _ => rfl) : PD X (.Subscript a b pos) Δ M (.dat d) M2 :=
  PE.of (pe_ix ix_list ha hb hs) fun σ H Q ⟨B, h1, h2, h3⟩ => two_ops h1 h2 fun x y B2 H2 g rx ry => by
    obtain ⟨q, xs, rfl, hq, hx⟩ := hl.of rx g.go
    obtain ⟨v, hv, hdv⟩ := dta_at hx hd
    exact ⟨q, xs, i, v, rfl, dt_int.mp ry, SqL.of hq, hv, h3 _ _ _ B2 H2 ⟨rfl, rfl⟩ g hdv⟩
theorem pd_ixT {i : Int} {d : PyData} (ha : PD X a Δ M (.dat (.tuple ds)) M1) (hb : PD X b Δ M1 (dI i) M2) (hd : atI ds i = some d) (hs : PlainIx b := by exact fun _ _ => rfl) : PD X (.Subscript a b pos) Δ M (.dat d) M2 :=
  PE.of (pe_ix ix_tup ha hb hs) fun σ H Q ⟨B, h1, h2, h3⟩ => two_ops h1 h2 fun x y B2 H2 g rx ry => by
    obtain ⟨q, xs, rfl, hq, hx⟩ := dt_tuple.mp rx
    obtain ⟨v, hv, hdv⟩ := dta_at hx hd
    exact ⟨q, xs, i, v, rfl, dt_int.mp ry, SqT.of (g.bh _ _ hq), hv, h3 _ _ _ B2 H2 ⟨rfl, rfl⟩ g hdv⟩
/-- parts of a slice -/
def POD (X : Cx) (o : Option Expr) (Δ : List SD) (M : Ms) (z : Option Int) : Prop := PO X o (fun σ H Q => ∃ B, Sl B σ Δ ∧ Go M B H ∧ ∀ B2 H2, Gr M B H M B2 H2 → Q z H2)
theorem PO.of {o : Option Expr} {t t' : TO} (h : PO X o t) (q : ∀ σ H Q, t' σ H Q → t σ H Q) : PO X o t' := ⟨fun pins s σ H Q I w => h.run pins s σ H Q I (q σ H Q w)⟩
theorem pod_none : POD X none Δ M none := PO.of po_none fun σ H Q ⟨B, h1, h2, h3⟩ => h3 B H (Gr.refl h2)
theorem pod_some {i : Int} (h : PD X e Δ M (dI i) M) : POD X (some e) Δ M (some i) := PO.of (po_some h) fun σ H Q ⟨B, h1, h2, h3⟩ => one_op h1 h2 fun x B2 H2 g rx => ⟨i, dt_int.mp rx, h3 B2 H2 g⟩
theorem slice_ops {σ : L2.St} {H : Hp} {Q : V → Hp → Prop} {B : Hp} {lo hi : Option Int} (h1 : Sl B σ Δ) (h2 : Go M B H) (k : ∀ x B2 H2, Gr M B H M1 B2 H2 → Rs B2 x ra → Q x H2) :
    tX Δ M (R1 ra M1) σ H fun x H1 => (∃ B, Sl B σ Δ ∧ Go M1 B H1 ∧ ∀ B2 H2, Gr M1 B H1 M1 B2 H2 → (fun l H2 => ∃ B, Sl B σ Δ ∧ Go M1 B H2 ∧ ∀ B3 H3, Gr M1 B H2 M1 B3 H3 → (fun u H3 => l = lo ∧ u = hi → Q x H3) hi H3) lo H2) :=
  one_op h1 h2 fun x B2 H2 g rx => ⟨B2, h1.mono g.bb, g.go, fun B3 H3 g3 => ⟨B3, h1.mono (g.bb.trans g3.bb), g3.go, fun B4 H4 g4 _ => k x B4 H4 ((g.trans g3).trans g4) ((rx.mono g3.bb).mono g4.bb)⟩⟩
theorem pl_slice {lo hi : Option Expr} {zl zh : Option Int} {p2 : Pos} (ha : PD X a Δ M ra M1) (h1 : POD X lo Δ M1 zl) (h2 : POD X hi Δ M1 zh) (hl : LsD ra ds M1) : PL X (.Subscript a (.Slice lo hi none p2) pos) Δ M (cutD ds zl zh) M1 :=
  PE.of (pe_slice sl_list ha h1 h2) fun σ H Q ⟨B, q1, q2, q3⟩ => one_op q1 q2 fun x B1 H1 g rx => ⟨B1, q1.mono g.bb, g.go, fun B2 H2 g2 => ⟨B2, q1.mono (g.bb.trans g2.bb), g2.go, fun B3 H3 g3 => by
    have gg := (g.trans g2).trans g3
    obtain ⟨q, xs, rfl, hq, hx⟩ := hl.of ((rx.mono g2.bb).mono g3.bb) gg.go
    exact ⟨q, xs, rfl, SqL.of hq, fun t ht => q3 t _ B3 _ (gg.trans (Gr.alloc gg.go ht)) (th_none gg ht) (gg.go.bh.free ht) upd_same (dta_cut _ _ hx) (notin_of gg.go ht)⟩⟩⟩
theorem pd_sliceT {lo hi : Option Expr} {zl zh : Option Int} {p2 : Pos} (ha : PD X a Δ M (.dat (.tuple ds)) M1) (h1 : POD X lo Δ M1 zl) (h2 : POD X hi Δ M1 zh) (hw : ¬ (HT.sIx ds.length 0 zl = 0 ∧ HT.sIx ds.length ds.length zh = ds.length)) :
    PD X (.Subscript a (.Slice lo hi none p2) pos) Δ M (.dat (.tuple (cutD ds zl zh))) M1 :=
  PE.of (pe_slice sl_tup ha h1 h2) fun σ H Q ⟨B, q1, q2, q3⟩ => one_op q1 q2 fun x B1 H1 g rx => ⟨B1, q1.mono g.bb, g.go, fun B2 H2 g2 => ⟨B2, q1.mono (g.bb.trans g2.bb), g2.go, fun B3 H3 g3 => by
    have gg := (g.trans g2).trans g3
    obtain ⟨q, xs, rfl, hq, hx⟩ := dt_tuple.mp ((rx.mono g2.bb).mono g3.bb)
    refine ⟨q, xs, rfl, SqT.of (gg.bh _ _ hq), by rw [hx.length]; exact hw, fun t ht => q3 _ _ _ _ _ ⟨rfl, rfl⟩ (gg.trans (Gr.new (o := .tup (cutV xs zl zh)) gg.go ht)) ?_⟩
    exact .tuple upd_same ((dta_cut _ _ hx).mono (same_new (gg.go.bh.free ht)))⟩⟩

/-! ### built-ins -/
theorem pd_bltn {id : String} {x : Str} {es : List Expr} {rs : List SD} {rd : List V → Hp → VK → Prop} (hc : CallR X (.builtin id) rd) (hm : X.mg x = none) (hv : bootBuiltins x = some (.builtin id)) (ha : PAD X (e :: es) Δ M rs M1)
    (hr : ∀ vs B H Q, RsA B vs rs → Go M1 B H → (∀ v B2 H2, Gr M1 B H M2 B2 H2 → Rs B2 v r → Q v H2) → rd vs H Q) (hg : Gl X x := by rfl) (hn : x ≠ "__name__" := by decide) (hdb : (x == ("__debug__" : Str)) = false := by decide)
    (he : starEach (e :: es) X.env = (false, eval e X.env) :: starEach es X.env := by rfl) (hpl : (backTo pos (starEach es X.env)).any (·.1) = false := by rfl) : PD X (.Call (.Name x p) (e :: es) [] pos) Δ M r M2 :=
  PE.of (pe_callB hc hg hm hv ha hn hdb he hpl) fun σ H Q ⟨B, h1, h2, h3⟩ => ⟨B, h1, h2, fun vs B1 H1 g rv => hr vs B1 H1 Q rv g.go fun v B2 H2 g2 rv2 => h3 _ _ v B2 H2 ⟨rfl, rfl⟩ (g.trans g2) rv2⟩
theorem pd_bltT {T : String} {x : Str} {es : List Expr} {rs : List SD} {rd : List V → Hp → VK → Prop} (hc : CallR X (.type T) rd) (hm : X.mg x = none) (hv : bootBuiltins x = some (.type T)) (ha : PAD X (e :: es) Δ M rs M1)
    (hr : ∀ vs B H Q, RsA B vs rs → Go M1 B H → (∀ v B2 H2, Gr M1 B H M2 B2 H2 → Rs B2 v r → Q v H2) → rd vs H Q) (hg : Gl X x := by rfl) (hn : x ≠ "__name__" := by decide) (hdb : (x == ("__debug__" : Str)) = false := by decide)
    (he : starEach (e :: es) X.env = (false, eval e X.env) :: starEach es X.env := by rfl) (hpl : (backTo pos (starEach es X.env)).any (·.1) = false := by rfl) : PD X (.Call (.Name x p) (e :: es) [] pos) Δ M r M2 :=
  PE.of (pe_callTy hc hg hm hv ha hn hdb he hpl) fun σ H Q ⟨B, h1, h2, h3⟩ => ⟨B, h1, h2, fun vs B1 H1 g rv => hr vs B1 H1 Q rv g.go fun v B2 H2 g2 rv2 => h3 _ _ v B2 H2 ⟨rfl, rfl⟩ (g.trans g2) rv2⟩
/-- .. a new list -/
theorem pl_bltn {id : String} {x : Str} {es : List Expr} {rs : List SD} {rd : List V → Hp → VK → Prop} (hc : CallR X (.builtin id) rd) (hm : X.mg x = none) (hv : bootBuiltins x = some (.builtin id)) (ha : PAD X (e :: es) Δ M rs M1)
    (hr : ∀ vs B H Q, RsA B vs rs → Go M1 B H → (∀ t xs, H t = none → DtA B xs ds → Q (.ref t) (upd H t (.lst xs))) → rd vs H Q) (hg : Gl X x := by rfl) (hn : x ≠ "__name__" := by decide) (hdb : (x == ("__debug__" : Str)) = false := by decide)
    (he : starEach (e :: es) X.env = (false, eval e X.env) :: starEach es X.env := by rfl) (hpl : (backTo pos (starEach es X.env)).any (·.1) = false := by rfl) : PL X (.Call (.Name x p) (e :: es) [] pos) Δ M ds M1 :=
  PE.of (pe_callB hc hg hm hv ha hn hdb he hpl) fun σ H Q ⟨B, h1, h2, h3⟩ => ⟨B, h1, h2, fun vs B1 H1 g rv => hr vs B1 H1 Q rv g.go fun t xs ht hx => h3 t xs B1 _ (g.trans (Gr.alloc g.go ht)) (th_none g ht) (g.go.bh.free ht) upd_same hx (notin_of g.go ht)⟩
theorem rs1 {B : Hp} {vs : List V} (h : RsA B vs [ra]) : ∃ v, vs = [v] ∧ Rs B v ra := by
  match vs, h with
  | [v], h => exact ⟨v, rfl, h.1⟩
theorem rs2 {B : Hp} {vs : List V} (h : RsA B vs [ra, rb]) : ∃ v w, vs = [v, w] ∧ Rs B v ra ∧ Rs B w rb := by
  match vs, h with
  | [v, w], h => exact ⟨v, w, rfl, h.1, h.2.1⟩
theorem pd_len (hm : X.mg "len" = none) (ha : PD X a Δ M ra M1) (hl : LsD ra ds M1) (hg : Gl X "len" := by rfl) (he : starEach [a] X.env = (false, eval a X.env) :: starEach [] X.env := by rfl) (hpl : (backTo pos (starEach [] X.env)).any (·.1) = false := by rfl) :
    PD X (.Call (.Name "len" p) [a] [] pos) Δ M (dI ds.length) M1 :=
  pd_bltn call_len_seq hm PySem.boot_len (pad_one ha he) (fun vs B H Q rv g k => by
    obtain ⟨v, rfl, h⟩ := rs1 rv
    obtain ⟨q, xs, rfl, hq, hx⟩ := hl.of h g
    exact ⟨q, xs, rfl, .inl (SqL.of hq), k _ B H (Gr.refl g) (by rw [hx.length]; exact .int _)⟩) hg (he := he) (hpl := hpl)
theorem pd_lenT (hm : X.mg "len" = none) (ha : PD X a Δ M (.dat (.tuple ds)) M1) (hg : Gl X "len" := by rfl) (he : starEach [a] X.env = (false, eval a X.env) :: starEach [] X.env := by rfl) (hpl : (backTo pos (starEach [] X.env)).any (·.1) = false := by rfl) :
    PD X (.Call (.Name "len" p) [a] [] pos) Δ M (dI ds.length) M1 :=
  pd_bltn call_len_seq hm PySem.boot_len (pad_one ha he) (fun vs B H Q rv g k => by
    obtain ⟨v, rfl, h⟩ := rs1 rv
    obtain ⟨q, xs, rfl, hq, hx⟩ := dt_tuple.mp h
    exact ⟨q, xs, rfl, .inr (SqT.of (g.bh _ _ hq)), k _ B H (Gr.refl g) (by rw [hx.length]; exact .int _)⟩) hg (he := he) (hpl := hpl)
theorem pd_max {i j : Int} (hc : X.calm = true) (hm : X.mg "max" = none) (ha : PAD X [a, b] Δ M [dI i, dI j] M1) (hg : Gl X "max" := by rfl) (he : starEach [a, b] X.env = (false, eval a X.env) :: starEach [b] X.env := by rfl) (hpl : (backTo pos (starEach [b] X.env)).any (·.1) = false := by rfl) :
    PD X (.Call (.Name "max" p) [a, b] [] pos) Δ M (dI (if j > i then j else i)) M1 :=
  pd_bltn (call_max2 hc) hm boot_max ha (fun vs B H Q rv g k => by
    obtain ⟨v, w, rfl, h, h'⟩ := rs2 rv
    exact ⟨i, j, by rw [dt_int.mp h, dt_int.mp h'], k _ B H (Gr.refl g) (.int _)⟩) hg (he := he) (hpl := hpl)
theorem pd_min {i j : Int} (hc : X.calm = true) (hm : X.mg "min" = none) (ha : PAD X [a, b] Δ M [dI i, dI j] M1) (hg : Gl X "min" := by rfl) (he : starEach [a, b] X.env = (false, eval a X.env) :: starEach [b] X.env := by rfl) (hpl : (backTo pos (starEach [b] X.env)).any (·.1) = false := by rfl) :
    PD X (.Call (.Name "min" p) [a, b] [] pos) Δ M (dI (if j < i then j else i)) M1 :=
  pd_bltn (call_min2 hc) hm (by decide +kernel) ha (fun vs B H Q rv g k => by
    obtain ⟨v, w, rfl, h, h'⟩ := rs2 rv
    exact ⟨i, j, by rw [dt_int.mp h, dt_int.mp h'], k _ B H (Gr.refl g) (.int _)⟩) hg (he := he) (hpl := hpl)
theorem pd_intI {i : Int} (hm : X.mg "int" = none) (ha : PD X a Δ M (dI i) M1) (hg : Gl X "int" := by rfl) (he : starEach [a] X.env = (false, eval a X.env) :: starEach [] X.env := by rfl) (hpl : (backTo pos (starEach [] X.env)).any (·.1) = false := by rfl) :
    PD X (.Call (.Name "int" p) [a] [] pos) Δ M (dI i) M1 :=
  pd_bltT call_int1 hm (by decide +kernel) (pad_one ha he) (fun vs B H Q rv g k => by
    obtain ⟨v, rfl, h⟩ := rs1 rv
    exact .inl ⟨i, by rw [dt_int.mp h], k _ B H (Gr.refl g) (.int _)⟩) hg (he := he) (hpl := hpl)
theorem pd_intB {i : Bool} (hm : X.mg "int" = none) (ha : PD X a Δ M (dB i) M1) (hg : Gl X "int" := by rfl) (he : starEach [a] X.env = (false, eval a X.env) :: starEach [] X.env := by rfl) (hpl : (backTo pos (starEach [] X.env)).any (·.1) = false := by rfl) :
    PD X (.Call (.Name "int" p) [a] [] pos) Δ M (dI (if i then 1 else 0)) M1 :=
  pd_bltT call_int1 hm (by decide +kernel) (pad_one ha he) (fun vs B H Q rv g k => by
    obtain ⟨v, rfl, h⟩ := rs1 rv
    exact .inr ⟨i, by rw [dt_bool.mp h], k _ B H (Gr.refl g) (.int _)⟩) hg (he := he) (hpl := hpl)
/-- the type's name of a datum -/
def tyD : PyData → String
  | .none => "NoneType" | .bool _ => "bool" | .int _ => "int" | .str _ => "str" | .list _ => "list" | .tuple _ => "tuple" | .dict _ => "dict"
theorem tyD_of {K : PySem.W.Frag} {B H : Hp} (e : Same B H) {v : V} : ∀ {d : PyData}, Dt B v d → TyX K H v (.type (tyD d))
  | .none, h => by rw [dt_none.mp h]; exact .base .non
  | .bool _, h => by rw [dt_bool.mp h]; exact .base (.bl _)
  | .int _, h => by rw [dt_int.mp h]; exact .base (.int _)
  | .str _, h => by rw [dt_str.mp h]; exact .base (.str _)
  | .list _, h => by obtain ⟨a, xs, rfl, hb, _⟩ := dt_list.mp h; exact .base (.lst (e _ _ hb))
  | .tuple _, h => by obtain ⟨a, xs, rfl, hb, _⟩ := dt_tuple.mp h; exact .base (.tup (e _ _ hb))
  | .dict _, h => by obtain ⟨a, rfl, hb, _⟩ := dt_dict.mp h; exact .base (.dT (e _ _ hb))
def isiD (T : String) (d : PyData) : Bool := (kitB (tyD d) T).getD false
theorem kit_names : ["NoneType", "bool", "int", "str", "list", "tuple", "dict"].all (fun t => ["int", "bool", "list", "tuple"].all fun T => (kitB t T).isSome) = true := by decide +kernel
theorem tyD_mem : ∀ d : PyData, tyD d ∈ ["NoneType", "bool", "int", "str", "list", "tuple", "dict"]
  | .none => by simp [tyD] | .bool _ => by simp [tyD] | .int _ => by simp [tyD] | .str _ => by simp [tyD] | .list _ => by simp [tyD] | .tuple _ => by simp [tyD] | .dict _ => by simp [tyD]
theorem kit_isi {T : String} (hT : T ∈ ["int", "bool", "list", "tuple"]) (d : PyData) : kitB (tyD d) T = some (isiD T d) := by
  have h := List.all_eq_true.mp (List.all_eq_true.mp kit_names _ (tyD_mem d)) T hT
  unfold isiD
  cases q : kitB (tyD d) T with
  | none => rw [q] at h; cases h
  | some b => rfl
theorem pd_isi {T : String} {d : PyData} (hm : X.mg "isinstance" = none) (ha : PAD X [a, b] Δ M [.dat d, .val (.ty T)] M1) (hT : T ∈ ["int", "bool", "list", "tuple"] := by decide) (hg : Gl X "isinstance" := by rfl) (he : starEach [a, b] X.env = (false, eval a X.env) :: starEach [b] X.env := by rfl) (hpl : (backTo pos (starEach [b] X.env)).any (·.1) = false := by rfl) :
    PD X (.Call (.Name "isinstance" p) [a, b] [] pos) Δ M (dB (isiD T d)) M1 :=
  pd_bltn call_isi hm PyProof.Rows.boot_isinstance ha (fun vs B H Q rv g k => by
    obtain ⟨v, w, rfl, h, h'⟩ := rs2 rv
    exact ⟨v, w, _, .type T, _, rfl, by rw [show w = V.ty T from h']; exact .ty T, tyD_of g.bh h, kit_ty (kit_isi hT d), k _ B H (Gr.refl g) (.bool _)⟩) hg (he := he) (hpl := hpl)

/-! ### lists made -/
theorem pl_bin {op : Operator} {rd : R2} (ho : OpR X (binaryOp op) rd) (ha : PD X a Δ M ra M1) (hb : PD X b Δ M1 rb M2)
    (hr : ∀ x y B H Q, Rs B x ra → Rs B y rb → Go M2 B H → (∀ t xs, H t = none → DtA B xs ds → Q (.ref t) (upd H t (.lst xs))) → rd x y H Q) : PL X (.BinOp a op b pos) Δ M ds M2 :=
  PE.of (pe_op ho ha hb) fun σ H Q ⟨B, h1, h2, h3⟩ => two_ops h1 h2 fun x y B2 H2 g rx ry => hr x y B2 H2 Q rx ry g.go fun t xs ht hx => h3 t xs B2 _ (g.trans (Gr.alloc g.go ht)) (th_none g ht) (g.go.bh.free ht) upd_same hx (notin_of g.go ht)
theorem pl_cat (ha : PD X a Δ M ra M1) (hb : PD X b Δ M1 rb M2) (hl : LsD ra ds M2) (hl' : LsD rb fs M2) (hz : ds.length + fs.length ≤ sizeLine) : PL X (.BinOp a .Add b pos) Δ M (ds ++ fs) M2 :=
  pl_bin op_cat ha hb fun x y B H Q rx ry g k => by
    obtain ⟨q, xs, rfl, hq, hx⟩ := hl.of rx g
    obtain ⟨q', ys, rfl, hq', hy⟩ := hl'.of ry g
    exact ⟨q, q', xs, ys, rfl, rfl, hq, hq', by rw [hx.length, hy.length]; exact hz, fun t ht => k t _ ht (hx.append hy)⟩
theorem pl_rep {k : Int} (ha : PD X a Δ M ra M1) (hb : PD X b Δ M1 (dI k) M2) (hl : LsD ra ds M2) (hk : -(2 ^ 63) ≤ k ∧ k < 2 ^ 63) (hz : ds.length * k.toNat ≤ sizeLine) : PL X (.BinOp a .Mult b pos) Δ M (List.replicate k.toNat ds).flatten M2 :=
  pl_bin op_rep ha hb fun x y B H Q rx ry g kk => by
    obtain ⟨q, xs, rfl, hq, hx⟩ := hl.of rx g
    exact ⟨q, k, xs, rfl, dt_int.mp ry, hq, hk.1, hk.2, by rw [hx.length]; exact hz, fun t ht => kk t _ ht (dta_rep hx _)⟩
theorem rgV_dta {B : Hp} {i j : Int} : DtA B (rgV i j) (rgD i (j - i).toNat) := by
  have : rgD i (j - i).toNat = ((List.range (j - i).toNat).map fun (k : Nat) => (i + k : Int)).map PyData.int := by unfold rgD; rw [List.map_map]; rfl
  rw [this]
  refine dta_ints.mpr ?_
  unfold rgV
  rw [List.map_map]
  rfl
theorem pl_listRg {j : Int} {pr : Pos} (hc : X.calm = true) (hm : X.mg "list" = none) (hm2 : X.mg "range" = none) (ha : PD X a Δ M (dI j) M1) (hb : 0 ≤ j ∧ j ≤ 16777216) {posr : Pos} (hg : Gl X "list" := by rfl) (hg2 : Gl X "range" := by rfl)
    (na : starEach [.Call (.Name "range" pr) [a] [] posr] X.env = (false, eval (.Call (.Name "range" pr) [a] [] posr) X.env) :: starEach [] X.env := by rfl) (na2 : starEach [a] X.env = (false, eval a X.env) :: starEach [] X.env := by rfl) : PL X (.Call (.Name "list" p) [.Call (.Name "range" pr) [a] [] posr] [] pos) Δ M (rgD 0 j.toNat) M1 :=
  PE.of (pe_listRg hc hg hm (prg_1 hg2 hm2 ha na2) na) fun σ H Q ⟨B, h1, h2, h3⟩ => one_op h1 h2 fun x B2 H2 g rx => by
    refine ⟨j, dt_int.mp rx, RgOk.of_le (by omega) (by omega) (by omega) (by omega), fun t ht => h3 t _ B2 _ (g.trans (Gr.alloc g.go ht)) (th_none g ht) (g.go.bh.free ht) upd_same ?_ (notin_of g.go ht)⟩
    have := rgV_dta (B := B2) (i := 0) (j := j)
    rw [Int.sub_zero] at this
    exact this
theorem pl_sortI {ns ms : List Int} (hm : X.mg "sorted" = none) (ha : PD X a Δ M ra M1) (hl : LsD ra (ns.map PyData.int) M1) (hs : ∀ ns' : List Int, ns'.Perm ns → ns'.Pairwise (· ≤ ·) → ns' = ms) (hg : Gl X "sorted" := by rfl) (he : starEach [a] X.env = (false, eval a X.env) :: starEach [] X.env := by rfl) (hpl : (backTo pos (starEach [] X.env)).any (·.1) = false := by rfl) :
    PL X (.Call (.Name "sorted" p) [a] [] pos) Δ M (ms.map PyData.int) M1 :=
  pl_bltn cr_sortedI hm PyProof.Rows.boot_sorted (pad_one ha he) (fun vs B H Q rv g k => by
    obtain ⟨v, rfl, h⟩ := rs1 rv
    obtain ⟨q, xs, rfl, hq, hx⟩ := hl.of h g
    rw [dta_ints.mp hx] at hq
    refine ⟨q, ns, rfl, SqL.of hq, fun ns' t h1 h2 ht => k t _ ht ?_⟩
    rw [hs ns' h1 h2]
    exact dta_ints.mpr rfl) hg (he := he) (hpl := hpl)
def tupD (ns : List Int) : PyData := .tuple (ns.map PyData.int)
theorem tupD_of {B : Hp} {v : V} {ns : List Int} (h : Dt B v (tupD ns)) : ∃ t, v = .ref t ∧ B t = some (.tup (ns.map V.int)) := by
  obtain ⟨t, xs, rfl, hb, hx⟩ := dt_tuple.mp h
  rw [dta_ints.mp hx] at hb
  exact ⟨t, rfl, hb⟩
theorem tupD_mk {B : Hp} {t : Addr} {ns : List Int} (h : B t = some (.tup (ns.map V.int))) : Dt B (.ref t) (tupD ns) := .tuple h (dta_ints.mpr rfl)
/-- which tuple of ints a value is -/
theorem dta_tups {B : Hp} : ∀ {vs : List V} {nss : List (List Int)}, DtA B vs (nss.map tupD) → vs.length = nss.length ∧ ∀ (i : Nat) (v : V) (ns : List Int), vs[i]? = some v → nss[i]? = some ns → Dt B v (tupD ns)
  | _, [], h => by rw [dta_nil.mp h]; exact ⟨rfl, fun i v ns e => by simp at e⟩
  | _, n :: nss, h => by
    obtain ⟨x, r, rfl, h2, h3⟩ := dta_cons.mp h
    obtain ⟨e1, e2⟩ := dta_tups h3
    refine ⟨by rw [List.length_cons, List.length_cons, e1], fun i v ns hv hn => ?_⟩
    cases i with
    | zero => cases hv; cases hn; exact h2
    | succ i => exact e2 i v ns (by simpa using hv) (by simpa using hn)
theorem perm_tups {B : Hp} : ∀ {vs : List V} {nss : List (List Int)} {ys : List V}, DtA B vs (nss.map tupD) → ys.Perm vs → ∃ mss : List (List Int), DtA B ys (mss.map tupD) ∧ mss.Perm nss := fun {vs nss ys} h hp => by
  induction hp generalizing nss with
  | nil => exact ⟨nss, h, .refl _⟩
  | @cons x l1 l2 _ ih =>
    cases nss with
    | nil => have := dta_nil.mp h; cases this
    | cons n nss =>
      obtain ⟨_, _, e, h2, h3⟩ := dta_cons.mp h
      cases e
      obtain ⟨mss, h4, h5⟩ := ih h3
      exact ⟨n :: mss, .cons h2 h4, h5.cons _⟩
  | swap x y l =>
    cases nss with
    | nil => have := dta_nil.mp h; cases this
    | cons n nss =>
      obtain ⟨_, _, e, h2, h3⟩ := dta_cons.mp h
      cases e
      cases nss with
      | nil => have := dta_nil.mp h3; cases this
      | cons m nss =>
        obtain ⟨_, _, e, h4, h5⟩ := dta_cons.mp h3
        cases e
        exact ⟨m :: n :: nss, .cons h4 (.cons h2 h5), .swap _ _ _⟩
  | trans _ _ ih1 ih2 =>
    obtain ⟨mss, h1, h2⟩ := ih2 h
    obtain ⟨kss, h3, h4⟩ := ih1 h1
    exact ⟨kss, h3, h4.trans h2⟩
theorem pl_sortT {nss mss : List (List Int)} {d : Nat} {C : Int} (hd : 1 ≤ d) (hm : X.mg "sorted" = none) (ha : PD X a Δ M ra M1) (hl : LsD ra (nss.map tupD) M1) (h64 : nss.length < 64) (hb : ∀ ns ∈ nss, ns.length = d ∧ TS.Bd C ns)
    (hs : ∀ kss : List (List Int), kss.Perm nss → kss.Pairwise (fun x y => TS.code C x ≤ TS.code C y) → kss = mss) (hg : Gl X "sorted" := by rfl) (he : starEach [a] X.env = (false, eval a X.env) :: starEach [] X.env := by rfl) (hpl : (backTo pos (starEach [] X.env)).any (·.1) = false := by rfl) :
    PL X (.Call (.Name "sorted" p) [a] [] pos) Δ M (mss.map tupD) M1 :=
  pl_bltn (cr_sortT (d := d) (B := C) hd) hm PyProof.Rows.boot_sorted (pad_one ha he) (fun vs B H Q rv g k => by
    obtain ⟨v, rfl, h⟩ := rs1 rv
    obtain ⟨q, xs, rfl, hq, hx⟩ := hl.of h g
    have hxl := (dta_tups hx).1
    have tp : ∀ {v : V} {ns : List Int}, Dt B v (tupD ns) → TupI X.K H v ns := fun {v ns} hv => by
      obtain ⟨t, e, hb⟩ := tupD_of hv
      exact ⟨t, e, SqT.of (g.bh _ _ hb)⟩
    refine ⟨q, xs, rfl, SqL.of hq, by rw [hxl]; exact h64, fun x hx' => ?_, fun ys t hp hpw ht => ?_⟩
    · obtain ⟨i, hi⟩ := List.mem_iff_getElem?.mp hx'
      have hil : i < nss.length := by rw [← hxl]; exact (List.getElem?_eq_some_iff.mp hi).1
      have e := List.getElem?_eq_getElem hil
      exact ⟨nss[i], tp ((dta_tups hx).2 i x _ hi e), hb _ (List.mem_of_getElem? e)⟩
    · obtain ⟨kss, h1, h2⟩ := perm_tups hx hp
      have h3 : kss.Pairwise (fun x y => TS.code C x ≤ TS.code C y) := by
        rw [List.pairwise_iff_getElem] at hpw ⊢
        intro i j hi hj hij
        have hl' := (dta_tups h1).1
        have a1 := (dta_tups h1).2 i ys[i] kss[i] (List.getElem?_eq_getElem (by omega)) (List.getElem?_eq_getElem hi)
        have a2 := (dta_tups h1).2 j ys[j] kss[j] (List.getElem?_eq_getElem (by omega)) (List.getElem?_eq_getElem hj)
        exact hpw i j (by omega) (by omega) hij _ _ (tp a1) (tp a2)
      rw [hs kss h2 h3] at h1
      exact k t ys ht h1) hg (he := he) (hpl := hpl)

/-! ### in, not in -/
theorem inV_ints (i : Int) : ∀ ns : List Int, inV (.int i) (ns.map V.int) = decide (i ∈ ns)
  | [] => rfl
  | n :: ns => by
    have ih := inV_ints i ns
    unfold inV at ih ⊢
    rw [List.map_cons, List.any_cons, ih]
    show ((n == i) || decide (i ∈ ns)) = _
    by_cases h : n = i
    · subst h; simp
    · have h' : ¬ i = n := fun z => h z.symm
      simp [h, h']
theorem flat_ints (ns : List Int) : (ns.map V.int).all flatV = true := by
  rw [List.all_map]
  exact List.all_eq_true.mpr fun _ _ => rfl
theorem pc_inI {i : Int} {ns : List Int} (ha : PD X a Δ M (dI i) M1) (hb : PD X b Δ M1 rb M2) (hl : LsD rb (ns.map PyData.int) M2) : PCD X .In a b Δ M (decide (i ∈ ns)) M2 :=
  pcd op_in_seq ha hb fun x y B H Q rx ry g k => by
    obtain ⟨q, xs, rfl, hq, hx⟩ := hl.of ry g
    rw [dta_ints.mp hx] at hq
    refine ⟨q, _, rfl, .inl (SqL.of hq), by rw [dt_int.mp rx]; rfl, flat_ints ns, ?_⟩
    rw [dt_int.mp rx, inV_ints]
    exact k
theorem pc_ninI {i : Int} {ns : List Int} (ha : PD X a Δ M (dI i) M1) (hb : PD X b Δ M1 rb M2) (hl : LsD rb (ns.map PyData.int) M2) : PCD X .NotIn a b Δ M (!decide (i ∈ ns)) M2 :=
  pcd op_notIn_seq ha hb fun x y B H Q rx ry g k => by
    obtain ⟨q, xs, rfl, hq, hx⟩ := hl.of ry g
    rw [dta_ints.mp hx] at hq
    refine ⟨q, _, rfl, .inl (SqL.of hq), by rw [dt_int.mp rx]; rfl, flat_ints ns, ?_⟩
    rw [dt_int.mp rx, inV_ints]
    exact k
theorem dta_bools {B : Hp} : ∀ {vs : List V} {bs : List Bool}, DtA B vs (bs.map PyData.bool) → vs = bs.map V.bl
  | _, [], h => dta_nil.mp h
  | _, b :: bs, h => by
    obtain ⟨x, r, rfl, h2, h3⟩ := dta_cons.mp h
    rw [List.map_cons, dt_bool.mp h2, dta_bools h3]
theorem inV_bools (i : Bool) : ∀ ns : List Bool, inV (.bl i) (ns.map V.bl) = decide (i ∈ ns)
  | [] => rfl
  | n :: ns => by
    have ih := inV_bools i ns
    unfold inV at ih ⊢
    rw [List.map_cons, List.any_cons, ih]
    show ((n == i) || decide (i ∈ ns)) = _
    by_cases h : n = i
    · subst h; simp
    · have h' : ¬ i = n := fun z => h z.symm
      simp [h, h']
theorem pc_ninB {i : Bool} {bs : List Bool} (ha : PD X a Δ M (dB i) M1) (hb : PD X b Δ M1 rb M2) (hl : LsD rb (bs.map PyData.bool) M2) : PCD X .NotIn a b Δ M (!decide (i ∈ bs)) M2 :=
  pcd op_notIn_seq ha hb fun x y B H Q rx ry g k => by
    obtain ⟨q, xs, rfl, hq, hx⟩ := hl.of ry g
    rw [dta_bools hx] at hq
    refine ⟨q, _, rfl, .inl (SqL.of hq), by rw [dt_bool.mp rx]; rfl, ?_, ?_⟩
    · rw [List.all_map]
      exact List.all_eq_true.mpr fun _ _ => rfl
    rw [dt_bool.mp rx, inV_bools]
    exact k
/-- data of any depth -/
theorem pc_inD {d : PyData} (hu : X.A.units + 65 < cLine) (sd : SeqAt.shaped d = true) (sl : SeqAt.shaped (.list ds) = true) (ha : PD X a Δ M (.dat d) M1) (hb : PD X b Δ M1 (.dat (.list ds)) M2) : PCD X .In a b Δ M (ds.any fun z => PyData.eqv z d) M2 :=
  pcd (op_inD hu) ha hb fun x y B H Q rx ry g k => ⟨d, ds, Dt.dp g.bh (SeqAt.canLay_of_shaped sd) rx, Dt.dp g.bh (SeqAt.canLay_of_shaped sl) ry, sd, sl, k⟩

/-! ### the order of tuples -/
def rGeT (K : PySem.W.Frag) : R2 := fun x y H Q => ∃ (a b : Addr) (ns ms : List Int), x = .ref a ∧ y = .ref b ∧ SqT K H a (ns.map V.int) ∧ SqT K H b (ms.map V.int) ∧
  Q (.bl (Ob.lexAt (fun j => decide (ns.getD j 0 = ms.getD j 0)) (fun j => decide (ms.getD j 0 ≤ ns.getD j 0)) (decide (ms.length ≤ ns.length)) 0 (min ns.length ms.length))) H
theorem dec_beq (x y : Int) : decide (x = y) = (x == y) := by
  rw [Bool.eq_iff_iff]
  simp
theorem op_geT (hu : X.A.units < cLine) : OpR X (compareOp .GtE) (rGeT X.K) := by
  rintro pins s σ H x y v u Q I rx ry ⟨a, b, ns, ms, rfl, rfl, ha, hb, q⟩
  cases rx
  cases ry
  obtain ⟨us, ru, pu, _⟩ := I.tuple ha
  obtain ⟨ws, rw', pw, _⟩ := I.tuple hb
  have iu := Vals.ints ru
  have iw := Vals.ints rw'
  have lu : us.toArray.size = ns.length := by simpa using iu.length
  have lw : ws.toArray.size = ms.length := by simpa using iw.length
  have R := Ob.RcOp.tuples_ge (A := X.A) (s := s) (e := fun j => decide (ns.getD j 0 = ms.getD j 0)) (r := fun j => decide (ms.getD j 0 ≤ ns.getD j 0)) pu pw hu
    (fun j h1 h2 => by
      obtain ⟨t, et⟩ := PyProof.Rows.IntsAre.int_at iu j us.toArray[j] (by simp at h1; simp [h1])
      obtain ⟨t', et'⟩ := PyProof.Rows.IntsAre.int_at iw j ws.toArray[j] (by simp at h2; simp [h2])
      rw [et, et', dec_beq]
      exact SeqAt.EqAt.int_int _ _ _ _)
    (fun j h1 h2 _ => by
      obtain ⟨t, et⟩ := PyProof.Rows.IntsAre.int_at iu j us.toArray[j] (by simp at h1; simp [h1])
      obtain ⟨t', et'⟩ := PyProof.Rows.IntsAre.int_at iw j ws.toArray[j] (by simp at h2; simp [h2])
      rw [et, et']
      exact Ob.RcOp.ge_int _ _ _ _)
  rw [lu, lw] at R
  exact R X.prog X.w X.xe (EP X pins σ Q) ⟨.bl _, H, I, rfl, q⟩
/-- two pairs -/
theorem pc_gePP {i j k l : Int} (hu : X.A.units < cLine) (ha : PD X a Δ M (.dat (tupD [i, j])) M1) (hb : PD X b Δ M1 (.dat (tupD [k, l])) M2) : PCD X .GtE a b Δ M (decide (k < i ∨ (i = k ∧ l ≤ j))) M2 :=
  pcd (op_geT hu) ha hb fun x y B H Q rx ry g kk => by
    obtain ⟨t, rfl, ht⟩ := tupD_of rx
    obtain ⟨t', rfl, ht'⟩ := tupD_of ry
    refine ⟨t, t', [i, j], [k, l], rfl, rfl, SqT.of (g.bh _ _ ht), SqT.of (g.bh _ _ ht'), ?_⟩
    have e : Ob.lexAt (fun n => decide (([i, j] : List Int).getD n 0 = ([k, l] : List Int).getD n 0)) (fun n => decide (([k, l] : List Int).getD n 0 ≤ ([i, j] : List Int).getD n 0)) (decide (([k, l] : List Int).length ≤ ([i, j] : List Int).length)) 0 (min ([i, j] : List Int).length ([k, l] : List Int).length) = decide (k < i ∨ (i = k ∧ l ≤ j)) := by
      show Ob.lexAt _ _ _ 0 2 = _
      rw [Ob.lexAt_succ, Ob.lexAt_succ, Ob.lexAt_zero]
      simp only [List.getD_eq_getElem?_getD, decide_eq_true_eq]
      by_cases h1 : i = k
      · by_cases h2 : j = l
        · simp [h1, h2]
        · simp [h1, h2]
      · simp [h1]
        omega
    rw [e]
    exact kk

/-! ### methods that change a cell -/
theorem pd_meth {T id : String} {name : Str} {apos cpos : Pos} {rd : V → List V → Hp → VK → Prop} {p : Addr} {rs : List SD} {es : List Expr} (pa : PlainAttrs T) (slot : Slot T name id) (hty : typeOf (.builtin id) = pure (.type "method_descriptor")) (hmt : MtR X id rd) (ho : PD X o Δ M (.val (.ref p)) M1) (ha : PAD X (e :: es) Δ M1 rs M2)
    (ty : ∀ B H, Go M1 B H → tyV X.K T (.ref p) H) (hr : ∀ vs B H Q, RsA B vs rs → Go M2 B H → (∀ v B2 H2, Gr M2 B H M3 B2 H2 → Rs B2 v r → Q v H2) → rd (.ref p) vs H Q)
    (hbase : attributeBase o name X.env (eval o X.env) = eval o X.env := by rfl)
    (hfew : ((backTo cpos (starEach (e :: es) X.env)).all (fun x => !x.1) && (backToKw cpos (keywordEach [] X.env)).all (fun x => x.1.isSome) && decide ((e :: es).length + ([] : List Keyword).length + (if ([] : List Keyword).isEmpty then 0 else 1) < 30)) = true := by rfl)
    (hline : (apos.endLine == cpos.line) = true := by rfl) (hs : starEach (e :: es) X.env = (false, eval e X.env) :: starEach es X.env := by rfl) (hplain : (backTo cpos (starEach es X.env)).any (·.1) = false := by rfl) : PD X (.Call (.Attribute o name apos) (e :: es) [] cpos) Δ M r M3 :=
  PE.of (pe_bm pa slot hty hmt ho ha hbase hfew hline hs hplain) fun σ H Q ⟨B, h1, h2, h3⟩ => one_op h1 h2 fun x B1 H1 g rx => by
    obtain rfl : x = .ref p := rx
    exact ⟨ty B1 H1 g.go, B1, h1.mono g.bb, g.go, fun vs B2 H2 g2 rv => hr vs B2 H2 Q rv g2.go fun v B3 H3 g3 rv3 => h3 _ _ v B3 H3 ⟨rfl, rfl⟩ ((g.trans g2).trans g3) rv3⟩
theorem ty_cell {p : Addr} (hm : ∃ ds, (p, MD.ld ds) ∈ M1) : ∀ B H, Go M1 B H → tyV X.K "list" (.ref p) H := fun B H g => by
  obtain ⟨ds, hm⟩ := hm
  obtain ⟨⟨xs, hp, _⟩, _⟩ := g.ho.at_ p _ hm
  exact .inl ⟨rfl, xs, SqL.of hp⟩
theorem pd_append {p : Addr} {d : PyData} {apos cpos : Pos} (i : Nat) (ho : PD X o Δ M (.val (.ref p)) M1) (ha : PD X e Δ M1 (.dat d) M2) (h1 : ∃ ds, (p, MD.ld ds) ∈ M1) (h2 : M2[i]? = some (p, MD.ld ds)) (hz : ds.length < sizeLine)
    (hbase : attributeBase o "append" X.env (eval o X.env) = eval o X.env := by rfl)
    (hfew : ((backTo cpos (starEach [e] X.env)).all (fun x => !x.1) && (backToKw cpos (keywordEach [] X.env)).all (fun x => x.1.isSome) && decide ([e].length + ([] : List Keyword).length + (if ([] : List Keyword).isEmpty then 0 else 1) < 30)) = true := by rfl)
    (hline : (apos.endLine == cpos.line) = true := by rfl) (hs : starEach [e] X.env = (false, eval e X.env) :: starEach [] X.env := by rfl) (hplain : (backTo cpos (starEach [] X.env)).any (·.1) = false := by rfl) : PD X (.Call (.Attribute o "append" apos) [e] [] cpos) Δ M (.dat .none) (M2.set i (p, MD.ld (ds ++ [d]))) :=
  pd_meth PySem.F.plainAttrs_list PySem.F.slot_list_append PySem.F.type_list_append mt_append ho (pad_one ha hs) (ty_cell h1) (fun vs B H Q rv g k => by
    obtain ⟨v, rfl, hv⟩ := rs1 rv
    obtain ⟨⟨xs, hp, hx⟩, _⟩ := g.ho.at_ p _ (List.mem_of_getElem? h2)
    exact ⟨p, xs, v, rfl, rfl, hp, by rw [hx.length]; exact hz, k .non B _ (Gr.put (o := .lst (xs ++ [v])) g h2 ⟨_, upd_same, hx.append (.one hv)⟩) .none⟩) hbase hfew hline hs hplain
theorem pd_popAt {p : Addr} {d : PyData} {k : Nat} {apos cpos : Pos} (i : Nat) (ho : PD X o Δ M (.val (.ref p)) M1) (ha : PD X e Δ M1 (dI k) M2) (h1 : ∃ ds, (p, MD.ld ds) ∈ M1) (h2 : M2[i]? = some (p, MD.ld ds)) (hk : ds[k]? = some d) (hz : ds.length ≤ 1000)
    (hbase : attributeBase o "pop" X.env (eval o X.env) = eval o X.env := by rfl)
    (hfew : ((backTo cpos (starEach [e] X.env)).all (fun x => !x.1) && (backToKw cpos (keywordEach [] X.env)).all (fun x => x.1.isSome) && decide ([e].length + ([] : List Keyword).length + (if ([] : List Keyword).isEmpty then 0 else 1) < 30)) = true := by rfl)
    (hline : (apos.endLine == cpos.line) = true := by rfl) (hs : starEach [e] X.env = (false, eval e X.env) :: starEach [] X.env := by rfl) (hplain : (backTo cpos (starEach [] X.env)).any (·.1) = false := by rfl) : PD X (.Call (.Attribute o "pop" apos) [e] [] cpos) Δ M (.dat d) (M2.set i (p, MD.ld (ds.eraseIdx k))) :=
  pd_meth PySem.F.plainAttrs_list PySem.F.slot_list_pop PySem.F.type_list_pop mt_popAt ho (pad_one ha hs) (ty_cell h1) (fun vs B H Q rv g kk => by
    obtain ⟨v, rfl, hv⟩ := rs1 rv
    obtain ⟨⟨xs, hp, hx⟩, _⟩ := g.ho.at_ p _ (List.mem_of_getElem? h2)
    obtain ⟨y, hy, hyd⟩ := hx.get hk
    have hkl : k < ds.length := (List.getElem?_eq_some_iff.mp hk).1
    have hat := (ixN_seq (n := xs.length) (i := (k : Int)) (j := k) (by
      unfold ixN
      rw [hx.length, if_pos (by omega), if_pos (by omega)]
      simp)).1
    exact ⟨p, xs, k, k, y, rfl, by rw [dt_int.mp hv], hp, by omega, by omega, hat, hy, kk y B _ (Gr.put (o := .lst (xs.eraseIdx k)) g h2 ⟨_, upd_same, hx.eraseIdx k⟩) hyd⟩) hbase hfew hline hs hplain
theorem pd_remove {p : Addr} {z : Int} {ns : List Int} {j : Nat} {apos cpos : Pos} (i : Nat) (ho : PD X o Δ M (.val (.ref p)) M1) (ha : PD X e Δ M1 (dI z) M2) (h1 : ∃ ds, (p, MD.ld ds) ∈ M1) (h2 : M2[i]? = some (p, MD.ld (ns.map PyData.int))) (hj : ns[j]? = some z) (hn : ∀ m : Nat, m < j → ns[m]? ≠ some z)
    (hbase : attributeBase o "remove" X.env (eval o X.env) = eval o X.env := by rfl)
    (hfew : ((backTo cpos (starEach [e] X.env)).all (fun x => !x.1) && (backToKw cpos (keywordEach [] X.env)).all (fun x => x.1.isSome) && decide ([e].length + ([] : List Keyword).length + (if ([] : List Keyword).isEmpty then 0 else 1) < 30)) = true := by rfl)
    (hline : (apos.endLine == cpos.line) = true := by rfl) (hs : starEach [e] X.env = (false, eval e X.env) :: starEach [] X.env := by rfl) (hplain : (backTo cpos (starEach [] X.env)).any (·.1) = false := by rfl) : PD X (.Call (.Attribute o "remove" apos) [e] [] cpos) Δ M (.dat .none) (M2.set i (p, MD.ld ((ns.eraseIdx j).map PyData.int))) :=
  pd_meth PySem.F.plainAttrs_list PySem.F.slot_list_remove PySem.F.type_list_remove mt_remove ho (pad_one ha hs) (ty_cell h1) (fun vs B H Q rv g kk => by
    obtain ⟨v, rfl, hv⟩ := rs1 rv
    obtain ⟨⟨xs, hp, hx⟩, _⟩ := g.ho.at_ p _ (List.mem_of_getElem? h2)
    rw [dta_ints.mp hx] at hp
    exact ⟨p, ns, z, j, rfl, by rw [dt_int.mp hv], hp, hj, hn, kk .non B _ (Gr.put (o := .lst ((ns.eraseIdx j).map V.int)) g h2 ⟨_, upd_same, dta_ints.mpr rfl⟩) .none⟩) hbase hfew hline hs hplain
/-- o[i] = e, o a cell -/
theorem psx_setIx {p : Addr} {d : PyData} {j : Nat} {b : Expr} {tpos : Pos} {Nx : List SD → Ms → Prop} {Rt : SD → Ms → Prop} (i : Nat) (hv : PD X e Δ M (.dat d) M1) (ho : PD X o Δ M1 (.val (.ref p)) M2) (hb : PD X b Δ M2 (dI j) M3) (hm : M3[i]? = some (p, MD.ld ds)) (hj : j < ds.length)
    (k : Nx Δ (M3.set i (p, MD.ld (ds.set j d))))
    (hs : swapsWithSole [.Subscript o b tpos] e pos.line X.env = pure false := by rfl) (hw : swappedStores [.Subscript o b tpos] e X.env = pure none := by rfl) (h1 : (assignEach [.Subscript o b tpos] X.env).map (·.2) = [assign (.Subscript o b tpos) X.env] := by rfl)
    (ha : ∀ v, assign (.Subscript o b tpos) X.env v = (do
      let ov ← holding [v] (eval o X.env)
      let iv ← holding [v, ov] (eval b X.env)
      standAt tpos
      holding [v, ov, iv] (setItem ov iv v)
      release [v, ov, iv] []) := by intro _; rfl) : PSX X (.Assign [.Subscript o b tpos] e pos) Δ M Nx Rt :=
  PS.of (ps_asg hv (pg_sub ho hb set_list ha) hs hw h1) fun D σ H ⟨B, q1, q2, q3, q4⟩ => one_op q1 q2 fun x B1 H1 g rx => ⟨B1, q1.mono g.bb, g.go, fun r' M' ov B2 H2 e2 g2 ro => by
    obtain ⟨rfl, rfl⟩ := e2
    exact ⟨B2, q1.mono (g.bb.trans g2.bb), g2.go, fun r' M' iv B3 H3 e3 g3 ri => by
      obtain ⟨rfl, rfl⟩ := e3
      obtain rfl : ov = .ref p := ro
      obtain ⟨⟨xs, hp, hx⟩, _⟩ := g3.go.ho.at_ p _ (List.mem_of_getElem? hm)
      refine ⟨p, xs, j, j, rfl, dt_int.mp ri, hp, ?_, ?_⟩
      · unfold ixN
        rw [hx.length, if_pos (by omega), if_pos (by omega)]
        simp
      · have gg := (g.trans g2).trans g3
        exact q3 Δ _ σ B3 _ k (gg.trans (Gr.put (o := .lst (xs.set j x)) gg.go hm ⟨_, upd_same, hx.set ((rx.mono g2.bb).mono g3.bb) j⟩)) (q1.mono gg.bb)⟩⟩

/-! ### empty or not -/
def okD (d : PyData) : Prop := d.canLay0 = true ∧ d.depth ≤ 20
def okAll (ds : List PyData) : Prop := ∀ d ∈ ds, okD d
theorem canAll_of : ∀ {ds : List PyData}, (∀ d ∈ ds, d.canLay0 = true) → PyData.canLayAll0 ds = true
  | [], _ => by simp [PyData.canLayAll0]
  | d :: ds, h => by
    simp only [PyData.canLayAll0, Bool.and_eq_true]
    exact ⟨h d List.mem_cons_self, canAll_of fun x hx => h x (List.mem_cons_of_mem _ hx)⟩
theorem depthAll_of {k : Nat} : ∀ {ds : List PyData}, (∀ d ∈ ds, d.depth ≤ k) → PyData.depthAll ds ≤ k
  | [], _ => by simp [PyData.depthAll]
  | d :: ds, h => by
    have h1 := h d List.mem_cons_self
    have h2 := depthAll_of (ds := ds) fun x hx => h x (List.mem_cons_of_mem _ hx)
    simp only [PyData.depthAll]
    omega
theorem shaped_list {ds : List PyData} (h : okAll ds) : SeqAt.shaped (.list ds) = true := by
  have h1 := canAll_of fun d hd => (h d hd).1
  have h2 := depthAll_of fun d hd => (h d hd).2
  show (PyData.canLay0 (.list ds) && decide (PyData.depth (.list ds) ≤ 64)) = true
  rw [Bool.and_eq_true]
  refine ⟨by simp only [PyData.canLay0]; exact h1, decide_eq_true ?_⟩
  simp only [PyData.depth]
  omega
theorem okD_int (i : Int) : okD (.int i) := ⟨by simp [PyData.canLay0], by simp [PyData.depth]⟩
theorem okD_tup (ns : List Int) : okD (tupD ns) := by
  have h1 : ∀ d ∈ ns.map PyData.int, d.canLay0 = true := fun d hd => by
    obtain ⟨i, _, rfl⟩ := List.mem_map.mp hd
    simp [PyData.canLay0]
  have h2 : ∀ d ∈ ns.map PyData.int, d.depth ≤ 0 := fun d hd => by
    obtain ⟨i, _, rfl⟩ := List.mem_map.mp hd
    simp [PyData.depth]
  have := depthAll_of h2
  exact ⟨by unfold tupD; simp only [PyData.canLay0]; exact canAll_of h1, by unfold tupD; simp only [PyData.depth]; omega⟩
theorem okAll_ints (ns : List Int) : okAll (ns.map PyData.int) := fun d hd => by
  obtain ⟨i, _, rfl⟩ := List.mem_map.mp hd
  exact okD_int i
theorem okAll_tups (nss : List (List Int)) : okAll (nss.map tupD) := fun d hd => by
  obtain ⟨i, _, rfl⟩ := List.mem_map.mp hd
  exact okD_tup i
theorem okAll_nil : okAll [] := fun _ h => by cases h
theorem eqv_nil : ∀ ds : List PyData, PyData.eqv (.list ds) (.list []) = ds.isEmpty
  | [] => by simp [PyData.eqv, PyData.eqvAll]
  | d :: ds => by simp [PyData.eqv, PyData.eqvAll]
theorem LsD.dp {K : PySem.W.Frag} {B H : Hp} {v : V} {r : SD} {M : Ms} {ds : List PyData} (l : LsD r ds M) (h : Rs B v r) (g : Go M B H) (c : PyData.canLayAll0 ds = true) : Dp K H v (.list ds) := by
  obtain ⟨a, xs, rfl, ha, hx⟩ := l.of h g
  exact .lst (SqL.of ha) (DtA.dp g.bh c hx)
theorem pc_neL (hu : X.A.units + 64 < cLine) (ha : PD X a Δ M ra M1) (hb : PD X b Δ M1 rb M2) (hl : LsD ra ds M2) (hl' : LsD rb fs M2) (o1 : okAll ds) (o2 : okAll fs) : PCD X .NotEq a b Δ M (!PyData.eqv (.list ds) (.list fs)) M2 :=
  pcd (op_neD hu) ha hb fun x y B H Q rx ry g k => ⟨_, _, hl.dp rx g (canAll_of fun d hd => (o1 d hd).1), hl'.dp ry g (canAll_of fun d hd => (o2 d hd).1), shaped_list o1, shaped_list o2, k⟩
theorem pc_eqL (hu : X.A.units + 64 < cLine) (ha : PD X a Δ M ra M1) (hb : PD X b Δ M1 rb M2) (hl : LsD ra ds M2) (hl' : LsD rb fs M2) (o1 : okAll ds) (o2 : okAll fs) : PCD X .Eq a b Δ M (PyData.eqv (.list ds) (.list fs)) M2 :=
  pcd (op_eqD hu) ha hb fun x y B H Q rx ry g k => ⟨_, _, hl.dp rx g (canAll_of fun d hd => (o1 d hd).1), hl'.dp ry g (canAll_of fun d hd => (o2 d hd).1), shaped_list o1, shaped_list o2, k⟩
theorem pc_neNil {p2 : Pos} (hu : X.A.units + 64 < cLine) (ha : PD X a Δ M ra M1) (hl : LsD ra ds M1) (o1 : okAll ds) : PCD X .NotEq a (.List [] p2) Δ M (!ds.isEmpty) M1 := by
  have h := pc_neL hu ha (pl_lst (pos := p2) (ds := []) pad_nil (Nat.zero_le _)).pd hl .dat o1 okAll_nil
  rw [eqv_nil] at h
  exact h
theorem pc_eqNil {p2 : Pos} (hu : X.A.units + 64 < cLine) (ha : PD X a Δ M ra M1) (hl : LsD ra ds M1) (o1 : okAll ds) : PCD X .Eq a (.List [] p2) Δ M ds.isEmpty M1 := by
  have h := pc_eqL hu ha (pl_lst (pos := p2) (ds := []) pad_nil (Nat.zero_le _)).pd hl .dat o1 okAll_nil
  rw [eqv_nil] at h
  exact h
end
end KR

/-! KR, part E: further rules. -/
namespace KR
open PySem PySem.Spec PyProof.Rows L2
section
variable {X : Cx} {Δ Δ1 : List SD} {M M1 M2 M3 : Ms} {r ra rb : SD} {a b e o : Expr} {pos p : Pos} {ds fs : List PyData} {Nx : List SD → Ms → Prop} {Rt : SD → Ms → Prop} {rest : List Stmt}
theorem psx_asg {tg : Expr} {vs : List Nat} (h : PD X e Δ M r M1) (g : PGX X tg r Δ Δ1 vs) (k : Nx Δ1 M1) (hs : swapsWithSole [tg] e pos.line X.env = pure false := by rfl) (hw : swappedStores [tg] e X.env = pure none := by rfl)
    (h1 : (assignEach [tg] X.env).map (·.2) = [assign tg X.env] := by rfl) : PSX X (.Assign [tg] e pos) Δ M Nx Rt :=
  PS.of (ps_asg h g hs hw h1) fun D σ H ⟨B, q1, q2, q3, q4⟩ => one_op q1 q2 fun x B1 H1 gg rx => ⟨B1, q1.mono gg.bb, gg.bh, rx, fun σ' sl _ _ => q3 Δ1 M1 σ' B1 H1 k gg sl⟩
theorem pb_asg {tg : Expr} {vs : List Nat} (h : PD X e Δ M r M1) (g : PGX X tg r Δ Δ1 vs) (k : PBX X rest Δ1 M1 Nx Rt) (hs : swapsWithSole [tg] e pos.line X.env = pure false := by rfl) (hw : swappedStores [tg] e X.env = pure none := by rfl)
    (h1 : (assignEach [tg] X.env).map (·.2) = [assign tg X.env] := by rfl) : PBX X (.Assign [tg] e pos :: rest) Δ M Nx Rt :=
  pb_cons1 (psx_asg h g ⟨rfl, rfl⟩ hs hw h1) k
/-- a list taken apart -/
theorem pgx_unl {es : List Expr} {k n : Nat} {vs : List Nat} (hc : X.calm = true) (h : PGXs X es (ds.map SD.dat) Δ Δ1 vs) (hl : ds.length = n)
    (hn : (assignEach es X.env).length = n := by rfl) (hst : (assignEach es X.env).findIdx? (·.1) = none := by rfl) : PGX X (.Tuple es k pos) (.dat (.list ds)) Δ Δ1 vs :=
  PG.of (pg_unl hc h hn hst) fun v σ H Q ⟨B, h1, h2, h3, h4⟩ => by
    obtain ⟨p, xs, rfl, hb, hd⟩ := dt_list.mp h3
    exact ⟨p, xs, rfl, SqL.of (h2 _ _ hb), by rw [hd.length, hl], B, h1, h2, rsa_dat.mpr hd, h4⟩
/-- code that is never come to -/
theorem pbx_false {sts : List Stmt} (h : False) : PBX X sts Δ M Nx Rt := h.elim

/-- name = [..] on one line, no cell changed -/
theorem pb_setLcP {α : Type} {i : Nat} {y : Str} {py spos : Pos} {elt tg iter : Expr} {ifs : List Expr} {scope : Scope} {own : List (Str × Nat)} {P : Ms → Prop} (zs : List α) (td : α → PyData) (f : α → Option PyData) (hc : X.calm = true) (hN : X.N.Nodup) (hi : PIX X tg iter Δ M (zs.map td) P M1)
    (ok : BlkOk X.N X.env.scope scope own) (hz : zs.length ≤ sizeLine) (hP : P M1) (turn : ∀ z ∈ zs, CTurn X scope tg ifs elt (wipeD Δ (own.map (·.2))) (own.map (·.2)) (td z) M1 (f z) M1)
    (hsw : swapsWith (.ListComp elt [⟨tg, iter, ifs, 0⟩] scope pos) (some (.Name y py)) spos.line X.env = pure true) (k : PBX X rest (Δ.set i (.dat (.list (zs.filterMap f)))) M1 Nx Rt)
    (hy : X.N[i]? = some y := by rfl) (hyl : X.env.scope.names.lookup y = some .local := by rfl)
    (hs : ∀ x, foldedSetIterable iter X.env x = pure x := by intro _; rfl) : PBX X (.Assign [.Name y py] (.ListComp elt [⟨tg, iter, ifs, 0⟩] scope pos) spos :: rest) Δ M Nx Rt := by
  refine pb_cons1 (Δ1 := Δ.set i (.dat (.list (zs.filterMap f)))) (M1 := M1) ?_ k
  refine psx_setLc (i := i) (P := P) hc hN hi ok (by rw [List.length_map]; exact hz) (fun _ => M1) (fun j => (zs[j]?).bind f) rfl (fun _ => hP) (fun j d hd => ?_) ?_ hy hyl hsw hs
  · rw [List.getElem?_map] at hd
    cases hq : zs[j]? with
    | none => rw [hq] at hd; cases hd
    | some z =>
      rw [hq] at hd
      cases hd
      exact turn z (List.mem_of_getElem? hq)
  · rw [filterMap_range]
    exact ⟨rfl, rfl⟩
/-- a method that reads a list -/
theorem pd_methD {id : String} {name : Str} {apos cpos : Pos} {rd : V → List V → Hp → VK → Prop} {rs : List SD} {es : List Expr} (slot : Slot "list" name id) (hty : typeOf (.builtin id) = pure (.type "method_descriptor")) (hmt : MtR X id rd) (ho : PD X o Δ M ra M1) (hl1 : LsD ra ds M1) (ha : PAD X (e :: es) Δ M1 rs M2)
    (hr : ∀ x vs B H Q, Rs B x ra → RsA B vs rs → Go M2 B H → (∀ v B2 H2, Gr M2 B H M3 B2 H2 → Rs B2 v r → Q v H2) → rd x vs H Q)
    (hbase : attributeBase o name X.env (eval o X.env) = eval o X.env := by rfl)
    (hfew : ((backTo cpos (starEach (e :: es) X.env)).all (fun x => !x.1) && (backToKw cpos (keywordEach [] X.env)).all (fun x => x.1.isSome) && decide ((e :: es).length + ([] : List Keyword).length + (if ([] : List Keyword).isEmpty then 0 else 1) < 30)) = true := by rfl)
    (hline : (apos.endLine == cpos.line) = true := by rfl) (hs : starEach (e :: es) X.env = (false, eval e X.env) :: starEach es X.env := by rfl) (hplain : (backTo cpos (starEach es X.env)).any (·.1) = false := by rfl) : PD X (.Call (.Attribute o name apos) (e :: es) [] cpos) Δ M r M3 :=
  PE.of (pe_bm PySem.F.plainAttrs_list slot hty hmt ho ha hbase hfew hline hs hplain) fun σ H Q ⟨B, h1, h2, h3⟩ => one_op h1 h2 fun x B1 H1 g rx => by
    refine ⟨?_, B1, h1.mono g.bb, g.go, fun vs B2 H2 g2 rv => hr x vs B2 H2 Q (rx.mono g2.bb) rv g2.go fun v B3 H3 g3 rv3 => h3 _ _ v B3 H3 ⟨rfl, rfl⟩ ((g.trans g2).trans g3) rv3⟩
    obtain ⟨a, xs, rfl, ha', _⟩ := hl1.of rx g.go
    exact .inl ⟨rfl, xs, SqL.of ha'⟩
theorem pd_index {d z : PyData} {j : Nat} {apos cpos : Pos} (hu : X.A.units + 65 < cLine) (ho : PD X o Δ M ra M1) (ha : PD X e Δ M1 (.dat d) M2) (hl1 : LsD ra ds M1) (hl2 : LsD ra ds M2) (ok : okAll ds) (sd : SeqAt.shaped d = true) (hj : ds[j]? = some z) (hz : PyData.eqv z d = true)
    (hn : ∀ (m : Nat) (z' : PyData), m < j → ds[m]? = some z' → PyData.eqv z' d = false)
    (hbase : attributeBase o "index" X.env (eval o X.env) = eval o X.env := by rfl)
    (hfew : ((backTo cpos (starEach [e] X.env)).all (fun x => !x.1) && (backToKw cpos (keywordEach [] X.env)).all (fun x => x.1.isSome) && decide ([e].length + ([] : List Keyword).length + (if ([] : List Keyword).isEmpty then 0 else 1) < 30)) = true := by rfl)
    (hline : (apos.endLine == cpos.line) = true := by rfl) (hs : starEach [e] X.env = (false, eval e X.env) :: starEach [] X.env := by rfl) (hplain : (backTo cpos (starEach [] X.env)).any (·.1) = false := by rfl) : PD X (.Call (.Attribute o "index" apos) [e] [] cpos) Δ M (dI j) M2 :=
  pd_methD PySem.F.slot_list_index PySem.F.type_list_index (mt_indexD hu) ho hl1 (pad_one ha hs) (fun x vs B H Q rx rv g k => by
    obtain ⟨v, rfl, hv⟩ := rs1 rv
    obtain ⟨a, xs, rfl, ha', hx⟩ := hl2.of rx g
    exact ⟨a, v, d, ds, j, z, rfl, rfl, hl2.dp rx g (canAll_of fun y hy => (ok y hy).1), Dt.dp g.bh (SeqAt.canLay_of_shaped sd) hv, shaped_list ok, sd, hj, hz, hn, k _ B H (Gr.refl g) (.int _)⟩) hbase hfew hline hs hplain

/-! ### results that are told with a new address -/
theorem px_conv {R R' : SD → Ms → Prop} (h : PX X e Δ M R) (k : ∀ r M', R r M' → (∃ M2, M2.Sublist M' ∧ R' r M2) ∨ ∃ p ds F1 F2, r = .val (.ref p) ∧ M' = F1 ++ (p, MD.ld ds) :: F2 ∧ R' (.dat (.list ds)) (F1 ++ F2)) : PX X e Δ M R' :=
  PE.of h fun σ H Q ⟨B, h1, h2, h3⟩ => ⟨B, h1, h2, fun r M' v B2 H2 hr g rv => by
    rcases k r M' hr with ⟨M2, hs, hr'⟩ | ⟨p, ds, F1, F2, rfl, hM, hr'⟩
    · exact h3 r M2 v B2 H2 hr' (g.drop hs) rv
    · obtain rfl : v = .ref p := rv
      subst hM
      obtain ⟨⟨xs, hp, hd⟩, hb⟩ := g.ho.at_ p _ (List.mem_append_right _ List.mem_cons_self)
      have f := Gr.freeze g.go rfl hp
      exact h3 _ _ _ _ _ hr' (g.trans f) (.list upd_same (hd.mono f.bb))⟩
/-- arguments whose values are told with new addresses -/
def tAX (Δ : List SD) (M : Ms) (R : List SD → Ms → Prop) : TA := fun σ H Q => ∃ B, Sl B σ Δ ∧ Go M B H ∧ ∀ rs M' vs B2 H2, R rs M' → Gr M B H M' B2 H2 → RsA B2 vs rs → Q vs H2
def PAX (X : Cx) (es : List Expr) (Δ : List SD) (M : Ms) (R : List SD → Ms → Prop) : Prop := PA X es (tAX Δ M R)
theorem PA.of {es : List Expr} {t t' : TA} (h : PA X es t) (q : ∀ σ H Q, t' σ H Q → t σ H Q) : PA X es t' := ⟨fun pos pins s σ H Q I w => h.run pos pins s σ H Q I (q σ H Q w)⟩
theorem pax_nil {R : List SD → Ms → Prop} (h : R [] M) : PAX X [] Δ M R := PA.of pa_nil fun σ H Q ⟨B, h1, h2, h3⟩ => h3 [] M [] B H h (Gr.refl h2) trivial
def tAAny (X : Cx) (es : List Expr) : TA := fun σ H Q => ∃ Δ M R, PAX X es Δ M R ∧ tAX Δ M R σ H Q
theorem pa_any {es : List Expr} : PA X es (tAAny X es) := ⟨fun pos pins s σ H Q I ⟨_, _, _, h, w⟩ => h.run pos pins s σ H Q I w⟩
theorem pax_cons {es : List Expr} {Re : SD → Ms → Prop} {R : List SD → Ms → Prop} (ha : PX X e Δ M Re) (hr : ∀ r M1, Re r M1 → PAX X es Δ M1 (fun rs M' => R (r :: rs) M')) (hs : starEach (e :: es) X.env = (false, eval e X.env) :: starEach es X.env := by rfl) : PAX X (e :: es) Δ M R :=
  PA.of (pa_cons ha pa_any hs) fun σ H Q ⟨B, h1, h2, h3⟩ => ⟨B, h1, h2, fun r M1 x B1 H1 he g1 rx => ⟨Δ, M1, _, hr r M1 he, B1, h1.mono g1.bb, g1.go, fun rs M' vs B2 H2 hR g2 rv => h3 (r :: rs) M' (x :: vs) B2 H2 hR (g1.trans g2) ⟨rx.mono g2.bb, rv⟩⟩⟩
theorem pax_one {Re : SD → Ms → Prop} {R : List SD → Ms → Prop} (ha : PX X e Δ M Re) (hr : ∀ r M1, Re r M1 → R [r] M1) (hs : starEach [e] X.env = (false, eval e X.env) :: starEach [] X.env := by rfl) : PAX X [e] Δ M R :=
  pax_cons ha (fun r M1 h => pax_nil (hr r M1 h)) hs
/-- a, b, .. = x, y, ..: a tuple is made and taken apart -/
theorem psx_tupAsg {ts es : List Expr} {k k2 n : Nat} {pt pt2 : Pos} {R : List SD → Ms → Prop} (hc : X.calm = true) (ha : PAX X es Δ M R) (hz : ts.length ≤ sizeLine) (hl : ∀ rs M', R rs M' → rs.length = ts.length) (kk : ∀ rs M', R rs M' → ∃ Δ' vs, PGXs X ts rs Δ Δ' vs ∧ Nx Δ' M')
    (hw : swappedStores [.Tuple ts k pt] (.Tuple es k2 pt2) X.env = pure none := by rfl) (hs : swapsWithSole [.Tuple ts k pt] (.Tuple es k2 pt2) pos.line X.env = pure false := by rfl)
    (h1 : (assignEach [.Tuple ts k pt] X.env).map (·.2) = [assign (.Tuple ts k pt) X.env] := by rfl) (hn : (assignEach ts X.env).length = n := by rfl) (hnn : ts.length = n := by rfl) (hst : (assignEach ts X.env).findIdx? (·.1) = none := by rfl) : PSX X (.Assign [.Tuple ts k pt] (.Tuple es k2 pt2) pos) Δ M Nx Rt := by
  have pgs : PGs X ts (fun us σ H Q => ∃ rs Δ Δ' vs, PGXs X ts rs Δ Δ' vs ∧ tGXs rs Δ Δ' vs us σ H Q) := ⟨fun pins s σ H vs us Q I rv ⟨_, _, _, _, h, w⟩ => h.run pins s σ H vs us Q I rv w⟩
  refine PS.of (ps_asg (pe_tup ha) (pg_tup (n := n) hc pgs hn hst) hs hw h1) fun D σ H ⟨B, q1, q2, q3, q4⟩ => ⟨B, q1, q2, fun rs M' vs B2 H2 hR g rv => ?_⟩
  have lv : vs.length = ts.length := by rw [rv.length, hl rs M' hR]
  refine ⟨by rw [lv]; exact hz, fun p hp => ?_⟩
  obtain ⟨Δ', us, pg, hN⟩ := kk rs M' hR
  have g3 := Gr.new (p := p) (o := .tup vs) g.go hp
  exact ⟨p, vs, rfl, SqT.of upd_same, by rw [lv, hnn], rs, Δ, Δ', us, pg, _, (q1.mono g.bb).mono g3.bb, g3.bh, rv.mono g3.bb, fun σ' sl _ _ => q3 Δ' M' σ' _ _ hN (g.trans g3) sl⟩
/-- a, b = x, y: stored from the right -/
theorem psx_par {i j : Nat} {x y : Str} {a b : Expr} {px py pt : Pos} {kt k2 : Nat} {pt2 : Pos} {R : List SD → Ms → Prop} (hc : X.calm = true) (hN : X.N.Nodup) (hij : i ≠ j) (ha : PAX X [a, b] Δ M R) (kk : ∀ rs M', R rs M' → ∃ r1 r2, rs = [r1, r2] ∧ Nx ((Δ.set i r1).set j r2) M')
    (hw : swappedStores [.Tuple [.Name x px, .Name y py] kt pt] (.Tuple [a, b] k2 pt2) X.env = pure (some [x, y]) := by rfl) (hi : X.N[i]? = some x := by rfl) (hj : X.N[j]? = some y := by rfl) (hx : X.env.scope.names.lookup x = some .local := by rfl) (hy : X.env.scope.names.lookup y = some .local := by rfl)
    (hs : swapsWithSole [.Tuple [.Name x px, .Name y py] kt pt] (.Tuple [a, b] k2 pt2) pos.line X.env = pure false := by rfl) : PSX X (.Assign [.Tuple [.Name x px, .Name y py] kt pt] (.Tuple [a, b] k2 pt2) pos) Δ M Nx Rt :=
  PS.of (ps_par hc hN hi hj hij hx hy ha hw hs) fun D σ H ⟨B, q1, q2, q3, q4⟩ => ⟨B, q1, q2, fun rs M' vs B2 H2 hR g rv => by
    obtain ⟨r1, r2, rfl, hn⟩ := kk rs M' hR
    obtain ⟨v, w, rfl, h1, h2⟩ := rs2 rv
    exact ⟨v, w, rfl, q3 _ M' _ B2 H2 hn g (((q1.mono g.bb).set i h1).set j h2)⟩⟩
theorem psx_par3 {i j l : Nat} {x y z : Str} {a b c : Expr} {px py pz pt : Pos} {kt k2 : Nat} {pt2 : Pos} {R : List SD → Ms → Prop} (hc : X.calm = true) (hN : X.N.Nodup) (hij : i ≠ j) (hil : i ≠ l) (hjl : j ≠ l) (ha : PAX X [a, b, c] Δ M R) (kk : ∀ rs M', R rs M' → ∃ r1 r2 r3, rs = [r1, r2, r3] ∧ Nx (((Δ.set i r1).set j r2).set l r3) M')
    (hw : swappedStores [.Tuple [.Name x px, .Name y py, .Name z pz] kt pt] (.Tuple [a, b, c] k2 pt2) X.env = pure (some [x, y, z]) := by rfl) (hi : X.N[i]? = some x := by rfl) (hj : X.N[j]? = some y := by rfl) (hl : X.N[l]? = some z := by rfl)
    (hx : X.env.scope.names.lookup x = some .local := by rfl) (hy : X.env.scope.names.lookup y = some .local := by rfl) (hz : X.env.scope.names.lookup z = some .local := by rfl)
    (hs : swapsWithSole [.Tuple [.Name x px, .Name y py, .Name z pz] kt pt] (.Tuple [a, b, c] k2 pt2) pos.line X.env = pure false := by rfl) : PSX X (.Assign [.Tuple [.Name x px, .Name y py, .Name z pz] kt pt] (.Tuple [a, b, c] k2 pt2) pos) Δ M Nx Rt :=
  PS.of (ps_par3 hc hN hi hj hl hij hil hjl hx hy hz ha hw hs) fun D σ H ⟨B, q1, q2, q3, q4⟩ => ⟨B, q1, q2, fun rs M' vs B2 H2 hR g rv => by
    obtain ⟨r1, r2, r3, rfl, hn⟩ := kk rs M' hR
    match vs, rv with
    | [u, v, w], rv => exact ⟨u, v, w, rfl, q3 _ M' _ B2 H2 hn g ((((q1.mono g.bb).set i rv.1).set j rv.2.1).set l rv.2.2.1)⟩⟩
end
end KR

/-! KR, part N: nets and standings, plain. -/
namespace KR
abbrev Road := Nat × Nat × Nat
structure VNet (n : Nat) (rs : List Road) : Prop where
  n1 : 1 ≤ n
  n2 : n ≤ 60
  lt : ∀ r ∈ rs, r.1 < r.2.1 ∧ r.2.1 < n ∧ 1 ≤ r.2.2 ∧ r.2.2 ≤ 1000
  asc : rs.Pairwise fun a b => a.1 < b.1 ∨ (a.1 = b.1 ∧ a.2.1 < b.2.1)
  len : rs.length ≤ 30
structure VSt (rs : List Road) (st : List Nat) : Prop where
  len : st.length = rs.length
  le : ∀ (i : Nat) (r : Road) (k : Nat), rs[i]? = some r → st[i]? = some k → k ≤ r.2.2
/-- the keys ahead, by directions, in the order of the roads -/
def dirK : List Road → List Nat → List ((Nat × Nat) × Nat)
  | r :: rs, k :: ks => ((r.1, r.2.1), k) :: ((r.2.1, r.1), r.2.2 - k) :: dirK rs ks
  | _, _ => []
theorem mem_dirK {p : (Nat × Nat) × Nat} : ∀ {rs : List Road} {st : List Nat}, p ∈ dirK rs st ↔ ∃ (j : Nat) (r : Road) (k : Nat), rs[j]? = some r ∧ st[j]? = some k ∧ (p = ((r.1, r.2.1), k) ∨ p = ((r.2.1, r.1), r.2.2 - k))
  | [], st => by simp [dirK]
  | r :: rs, [] => by simp [dirK]
  | r :: rs, k :: ks => by
    unfold dirK
    rw [List.mem_cons, List.mem_cons, mem_dirK (rs := rs) (st := ks)]
    constructor
    · rintro (h | h | ⟨j, r', k', h1, h2, h3⟩)
      · exact ⟨0, r, k, rfl, rfl, .inl h⟩
      · exact ⟨0, r, k, rfl, rfl, .inr h⟩
      · exact ⟨j + 1, r', k', by simpa using h1, by simpa using h2, h3⟩
    · rintro ⟨j, r', k', h1, h2, h3⟩
      cases j with
      | zero =>
        have e1 : r = r' := by simpa using h1
        have e2 : k = k' := by simpa using h2
        subst e1 e2
        rcases h3 with h | h
        · exact .inl h
        · exact .inr (.inl h)
      | succ j => exact .inr (.inr ⟨j, r', k', by simpa using h1, by simpa using h2, h3⟩)
/-- v waits for u -/
def W (rs : List Road) (st : List Nat) (u v : Nat) : Bool := decide (((u, v), 0) ∈ dirK rs st)
def nbr0 (rs : List Road) (h : Nat) : List Nat := (rs.filterMap fun r => if r.2.1 = h then some r.1 else none) ++ rs.filterMap fun r => if r.1 = h then some r.2.1 else none
def nbr (rs : List Road) (h : Nat) : List Nat := (nbr0 rs h).mergeSort fun a b => decide (a ≤ b)
def dirs0 (rs : List Road) : List (Nat × Nat) := (rs.map fun r => (r.1, r.2.1)) ++ rs.map fun r => (r.2.1, r.1)
def codeP (p : Nat × Nat) : Nat := p.1 * 64 + p.2
def dirs (rs : List Road) : List (Nat × Nat) := (dirs0 rs).mergeSort fun a b => decide (codeP a ≤ codeP b)
theorem mem_dirs {rs : List Road} {p : Nat × Nat} : p ∈ dirs rs ↔ p ∈ dirs0 rs := (List.mergeSort_perm _ _).mem_iff
theorem mem_dirs0 {rs : List Road} {u v : Nat} : (u, v) ∈ dirs0 rs ↔ ∃ r ∈ rs, (r.1 = u ∧ r.2.1 = v) ∨ (r.2.1 = u ∧ r.1 = v) := by
  unfold dirs0
  rw [List.mem_append, List.mem_map, List.mem_map]
  constructor
  · rintro (⟨r, hr, e⟩ | ⟨r, hr, e⟩)
    · cases e; exact ⟨r, hr, .inl ⟨rfl, rfl⟩⟩
    · cases e; exact ⟨r, hr, .inr ⟨rfl, rfl⟩⟩
  · rintro ⟨r, hr, ⟨e1, e2⟩ | ⟨e1, e2⟩⟩
    · exact .inl ⟨r, hr, by rw [e1, e2]⟩
    · exact .inr ⟨r, hr, by rw [e1, e2]⟩
theorem mem_nbr {rs : List Road} {h m : Nat} : m ∈ nbr rs h ↔ (h, m) ∈ dirs0 rs := by
  have : m ∈ nbr rs h ↔ m ∈ nbr0 rs h := (List.mergeSort_perm _ _).mem_iff
  rw [this, mem_dirs0]
  unfold nbr0
  rw [List.mem_append, List.mem_filterMap, List.mem_filterMap]
  constructor
  · rintro (⟨r, hr, e⟩ | ⟨r, hr, e⟩)
    · split at e
      · cases e; exact ⟨r, hr, .inr ⟨by assumption, rfl⟩⟩
      · cases e
    · split at e
      · cases e; exact ⟨r, hr, .inl ⟨by assumption, rfl⟩⟩
      · cases e
  · rintro ⟨r, hr, ⟨e1, e2⟩ | ⟨e1, e2⟩⟩
    · exact .inr ⟨r, hr, by rw [if_pos e1, e2]⟩
    · exact .inl ⟨r, hr, by rw [if_pos e1, e2]⟩
section
variable {n : Nat} {rs : List Road} {st : List Nat}
theorem VNet.lt_at (v : VNet n rs) {i : Nat} {r : Road} (h : rs[i]? = some r) : r.1 < r.2.1 ∧ r.2.1 < n ∧ 1 ≤ r.2.2 ∧ r.2.2 ≤ 1000 := v.lt r (List.mem_of_getElem? h)
theorem VNet.uniq (v : VNet n rs) {i j : Nat} {r s : Road} (hi : rs[i]? = some r) (hj : rs[j]? = some s) (h1 : r.1 = s.1) (h2 : r.2.1 = s.2.1) : i = j := by
  obtain ⟨li, ei⟩ := List.getElem?_eq_some_iff.mp hi
  obtain ⟨lj, ej⟩ := List.getElem?_eq_some_iff.mp hj
  have asc := List.pairwise_iff_getElem.mp v.asc
  rcases Nat.lt_trichotomy i j with h | h | h
  · have := asc i j li lj h
    rw [ei, ej] at this
    omega
  · exact h
  · have := asc j i lj li h
    rw [ei, ej] at this
    omega
theorem VSt.at (v : VSt rs st) {i : Nat} {r : Road} (h : rs[i]? = some r) : ∃ k, st[i]? = some k := by
  have li := (List.getElem?_eq_some_iff.mp h).1
  exact ⟨st[i]'(by rw [v.len]; exact li), List.getElem?_eq_getElem _⟩
/-- the road of a direction -/
theorem road_of (v : VNet n rs) (s : VSt rs st) {u w : Nat} (h : (u, w) ∈ dirs0 rs) : ∃ (j : Nat) (r : Road) (k : Nat), rs[j]? = some r ∧ st[j]? = some k ∧ r.1 = min u w ∧ r.2.1 = max u w ∧ u ≠ w ∧ ((u, w), if u < w then k else r.2.2 - k) ∈ dirK rs st := by
  obtain ⟨r, hr, h⟩ := mem_dirs0.mp h
  obtain ⟨j, hj⟩ := List.mem_iff_getElem?.mp hr
  obtain ⟨k, hk⟩ := s.at hj
  have lt := (v.lt_at hj).1
  rcases h with ⟨e1, e2⟩ | ⟨e1, e2⟩
  · subst e1 e2
    refine ⟨j, r, k, hj, hk, by omega, by omega, by omega, ?_⟩
    rw [if_pos lt]
    exact mem_dirK.mpr ⟨j, r, k, hj, hk, .inl rfl⟩
  · subst e1 e2
    refine ⟨j, r, k, hj, hk, by omega, by omega, by omega, ?_⟩
    rw [if_neg (by omega)]
    exact mem_dirK.mpr ⟨j, r, k, hj, hk, .inr rfl⟩
theorem dirK_uniq (v : VNet n rs) {p : Nat × Nat} {k k' : Nat} (h : (p, k) ∈ dirK rs st) (h' : (p, k') ∈ dirK rs st) : k = k' := by
  obtain ⟨j, r, a, h1, h2, h3⟩ := mem_dirK.mp h
  obtain ⟨j', r', a', h1', h2', h3'⟩ := mem_dirK.mp h'
  have l := (v.lt_at h1).1
  have l' := (v.lt_at h1').1
  rcases h3 with e | e <;> rcases h3' with e' | e' <;> cases e
  · obtain ⟨e1, e2⟩ := Prod.mk.inj e'
    obtain ⟨e3, e4⟩ := Prod.mk.inj e1
    have := v.uniq h1 h1' e3 e4
    subst this
    rw [h2] at h2'
    cases h2'
    exact e2.symm
  · obtain ⟨e1, e2⟩ := Prod.mk.inj e'
    obtain ⟨e3, e4⟩ := Prod.mk.inj e1
    omega
  · obtain ⟨e1, e2⟩ := Prod.mk.inj e'
    obtain ⟨e3, e4⟩ := Prod.mk.inj e1
    omega
  · obtain ⟨e1, e2⟩ := Prod.mk.inj e'
    obtain ⟨e3, e4⟩ := Prod.mk.inj e1
    have := v.uniq h1 h1' e4 e3
    subst this
    rw [h1] at h1'
    rw [h2] at h2'
    cases h1'
    cases h2'
    exact e2.symm
theorem dirK_dirs (v : VNet n rs) {u w k : Nat} (h : ((u, w), k) ∈ dirK rs st) : (u, w) ∈ dirs0 rs := by
  obtain ⟨j, r, a, h1, h2, h3⟩ := mem_dirK.mp h
  rcases h3 with e | e <;> obtain ⟨e1, e2⟩ := Prod.mk.inj e <;> obtain ⟨e3, e4⟩ := Prod.mk.inj e1
  · exact mem_dirs0.mpr ⟨r, List.mem_of_getElem? h1, .inl ⟨e3.symm, e4.symm⟩⟩
  · exact mem_dirs0.mpr ⟨r, List.mem_of_getElem? h1, .inr ⟨e3.symm, e4.symm⟩⟩
theorem W_lt (v : VNet n rs) {u w : Nat} (h : W rs st u w = true) : u < n ∧ w < n ∧ u ≠ w := by
  obtain ⟨r, hr, h⟩ := mem_dirs0.mp (dirK_dirs v (of_decide_eq_true h))
  have := v.lt r hr
  omega
end
end KR

/-! KR, part O: numberings, plain. w u v: u is to have a lesser number than v. -/
namespace KR
/-- those that nobody left waits for -/
def freeOf (w : Nat → Nat → Bool) (left : List Nat) : List Nat := left.filter fun h => left.all fun m => !w h m
def numLoop (w : Nat → Nat → Bool) : Nat → List Nat → List Nat → Option (List Nat)
  | 0, found, _ => some found
  | m + 1, found, left => match (freeOf w left).getLast? with
    | none => none
    | some h => numLoop w m (found.set h m) (left.erase h)
def numF (w : Nat → Nat → Bool) (n : Nat) : Option (List Nat) := numLoop w n (List.replicate n 0) (List.range n)

structure Fit (n : Nat) (w : Nat → Nat → Bool) (f : Nat → Nat) : Prop where
  lt : ∀ i, i < n → f i < n
  inj : ∀ i j, i < n → j < n → f i = f j → i = j
  ord : ∀ u v, u < n → v < n → w u v = true → f u < f v
def LexLe (n : Nat) (f g : Nat → Nat) : Prop := (∀ j, j < n → f j = g j) ∨ ∃ i, i < n ∧ (∀ j, j < i → f j = g j) ∧ f i < g i
theorem LexLe.refl (n : Nat) (f : Nat → Nat) : LexLe n f f := .inl fun _ _ => rfl
theorem LexLe.trans {n : Nat} {f g h : Nat → Nat} (a : LexLe n f g) (b : LexLe n g h) : LexLe n f h := by
  rcases a with a | ⟨i, hi, a1, a2⟩
  · rcases b with b | ⟨i, hi, b1, b2⟩
    · exact .inl fun j hj => (a j hj).trans (b j hj)
    · exact .inr ⟨i, hi, fun j hj => (a j (by omega)).trans (b1 j hj), by rw [a i hi]; exact b2⟩
  · rcases b with b | ⟨k, hk, b1, b2⟩
    · exact .inr ⟨i, hi, fun j hj => (a1 j hj).trans (b j (by omega)), by rw [← b i hi]; exact a2⟩
    · rcases Nat.lt_trichotomy i k with h | h | h
      · exact .inr ⟨i, hi, fun j hj => (a1 j hj).trans (b1 j (by omega)), by rw [← b1 i h]; exact a2⟩
      · subst h
        exact .inr ⟨i, hi, fun j hj => (a1 j hj).trans (b1 j hj), by omega⟩
      · exact .inr ⟨k, hk, fun j hj => (a1 j (by omega)).trans (b1 j hj), by rw [a1 k h]; exact b2⟩
theorem LexLe.antisymm {n : Nat} {f g : Nat → Nat} (a : LexLe n f g) (b : LexLe n g f) : ∀ j, j < n → f j = g j := by
  rcases a with a | ⟨i, hi, a1, a2⟩
  · exact a
  · rcases b with b | ⟨k, hk, b1, b2⟩
    · exact fun j hj => (b j hj).symm
    · exfalso
      rcases Nat.lt_trichotomy i k with h | h | h
      · have := b1 i h; omega
      · subst h; omega
      · have := a1 k h; omega
/-! pigeons -/
theorem pigeon : ∀ (k : Nat) (l : List Nat), l.Nodup → (∀ x ∈ l, x < k) → l.length ≤ k
  | 0, [], _, _ => Nat.le_refl _
  | 0, x :: l, _, h => absurd (h x List.mem_cons_self) (Nat.not_lt_zero _)
  | k + 1, l, nd, h => by
    have h1 : (l.erase k).Nodup := nd.erase k
    have h2 : ∀ x ∈ l.erase k, x < k := fun x hx => by
      have hx' := (List.Nodup.mem_erase_iff nd).mp hx
      have := h x hx'.2
      have := hx'.1
      omega
    have ih := pigeon k (l.erase k) h1 h2
    by_cases hk : k ∈ l
    · rw [List.length_erase_of_mem hk] at ih
      omega
    · rw [List.erase_of_not_mem hk] at ih
      omega
theorem exists_max (f : Nat → Nat) : ∀ (l : List Nat), l ≠ [] → ∃ h ∈ l, ∀ x ∈ l, f x ≤ f h
  | [], h => absurd rfl h
  | [a], _ => ⟨a, List.mem_cons_self, fun x hx => by rw [List.mem_singleton.mp hx]; exact Nat.le_refl _⟩
  | a :: b :: l, _ => by
    obtain ⟨h, h1, h2⟩ := exists_max f (b :: l) (List.cons_ne_nil _ _)
    by_cases q : f h ≤ f a
    · exact ⟨a, List.mem_cons_self, fun x hx => by
        rcases List.mem_cons.mp hx with rfl | hx
        · exact Nat.le_refl _
        · exact Nat.le_trans (h2 x hx) q⟩
    · exact ⟨h, List.mem_cons_of_mem _ h1, fun x hx => by
        rcases List.mem_cons.mp hx with rfl | hx
        · omega
        · exact h2 x hx⟩
section
variable {n : Nat} {w : Nat → Nat → Bool}
theorem mem_free {left : List Nat} {h : Nat} : h ∈ freeOf w left ↔ h ∈ left ∧ ∀ m ∈ left, w h m = false := by
  unfold freeOf
  rw [List.mem_filter, List.all_eq_true]
  constructor
  · rintro ⟨h1, h2⟩
    exact ⟨h1, fun m hm => by have := h2 m hm; simpa using this⟩
  · rintro ⟨h1, h2⟩
    exact ⟨h1, fun m hm => by rw [h2 m hm]; rfl⟩
/-- what holds while it is numbered: left ascending, m of them, the others have the numbers from m on -/
structure NInv (n : Nat) (w : Nat → Nat → Bool) (m : Nat) (found left : List Nat) : Prop where
  asc : left.Pairwise (· < ·)
  sub : ∀ x ∈ left, x < n
  len : left.length = m
  flen : found.length = n
  out : ∀ x, x < n → x ∉ left → m ≤ found.getD x 0 ∧ found.getD x 0 < n
  all : ∀ l, m ≤ l → l < n → ∃ x, x < n ∧ x ∉ left ∧ found.getD x 0 = l
  inj : ∀ x y, x < n → y < n → x ∉ left → y ∉ left → found.getD x 0 = found.getD y 0 → x = y
  ord : ∀ u v, u < n → v < n → u ∉ left → w u v = true → v ∉ left ∧ found.getD u 0 < found.getD v 0
theorem NInv.start : NInv n w n (List.replicate n 0) (List.range n) where
  asc := List.pairwise_lt_range
  sub := fun x hx => List.mem_range.mp hx
  len := List.length_range
  flen := List.length_replicate
  out := fun x hx hn => absurd (List.mem_range.mpr hx) hn
  all := fun l h1 h2 => by omega
  inj := fun x y hx _ hn _ _ => absurd (List.mem_range.mpr hx) hn
  ord := fun u v hu _ hn _ => absurd (List.mem_range.mpr hu) hn
theorem NInv.nodup {m : Nat} {found left : List Nat} (I : NInv n w m found left) : left.Nodup := I.asc.imp fun h => Nat.ne_of_lt h
theorem getD_set {l : List Nat} {i j v : Nat} : (l.set i v).getD j 0 = if i = j ∧ i < l.length then v else l.getD j 0 := by
  rw [List.getD_eq_getElem?_getD, List.getD_eq_getElem?_getD]
  by_cases h : i = j
  · subst h
    by_cases hl : i < l.length
    · rw [List.getElem?_set_self hl, if_pos ⟨rfl, hl⟩]
      rfl
    · rw [if_neg (fun z => hl z.2), List.getElem?_eq_none (by rw [List.length_set]; omega), List.getElem?_eq_none (by omega)]
  · rw [List.getElem?_set_ne h, if_neg (fun z => h z.1)]
theorem NInv.step {m h : Nat} {found left : List Nat} (I : NInv n w (m + 1) found left) (hf : h ∈ freeOf w left) : NInv n w m (found.set h m) (left.erase h) := by
  obtain ⟨hl, hs⟩ := mem_free.mp hf
  have hn := I.sub h hl
  have fl := I.flen
  have nd := I.nodup
  have me : ∀ {x}, x ∈ left.erase h ↔ x ≠ h ∧ x ∈ left := fun {x} => List.Nodup.mem_erase_iff nd
  have out' : ∀ x, x ∉ left.erase h → x = h ∨ x ∉ left := fun x hx => by
    by_cases q : x = h
    · exact .inl q
    · exact .inr fun z => hx (me.mpr ⟨q, z⟩)
  have g1 : (found.set h m).getD h 0 = m := by rw [getD_set, if_pos ⟨rfl, by omega⟩]
  have g2 : ∀ x, x ≠ h → (found.set h m).getD x 0 = found.getD x 0 := fun x hx => by rw [getD_set, if_neg fun z => hx z.1.symm]
  have m1 : m + 1 ≤ n := by
    have := pigeon n left nd I.sub
    rw [I.len] at this
    exact this
  refine ⟨I.asc.sublist List.erase_sublist, fun x hx => I.sub x (me.mp hx).2, by rw [List.length_erase_of_mem hl, I.len]; rfl, by rw [List.length_set]; exact fl, fun x hx hn' => ?_, fun l h1 h2 => ?_, fun x y hx hy nx ny e => ?_, fun u v hu hv nu hw => ?_⟩
  · rcases out' x hn' with rfl | z
    · rw [g1]; omega
    · rw [g2 x (fun q => z (q ▸ hl))]
      have := I.out x hx z
      omega
  · by_cases q : l = m
    · subst q
      exact ⟨h, hn, fun z => (me.mp z).1 rfl, g1⟩
    · obtain ⟨x, hx, nx, e⟩ := I.all l (by omega) h2
      have ne : x ≠ h := fun z => nx (z ▸ hl)
      exact ⟨x, hx, fun z => nx (me.mp z).2, by rw [g2 x ne]; exact e⟩
  · rcases out' x nx with rfl | zx
    · rcases out' y ny with rfl | zy
      · rfl
      · have ne : y ≠ x := fun z => zy (z ▸ hl)
        rw [g1, g2 y ne] at e
        have := (I.out y hy zy).1
        omega
    · have nex : x ≠ h := fun z => zx (z ▸ hl)
      rcases out' y ny with rfl | zy
      · rw [g1, g2 x nex] at e
        have := (I.out x hx zx).1
        omega
      · have ney : y ≠ h := fun z => zy (z ▸ hl)
        rw [g2 x nex, g2 y ney] at e
        exact I.inj x y hx hy zx zy e
  · rcases out' u nu with rfl | zu
    · have hv' : v ∉ left := fun z => by rw [hs v z] at hw; cases hw
      have ne : v ≠ u := fun z => hv' (z ▸ hl)
      refine ⟨fun z => hv' (me.mp z).2, ?_⟩
      rw [g1, g2 v ne]
      have := (I.out v hv hv').1
      omega
    · have neu : u ≠ h := fun z => zu (z ▸ hl)
      obtain ⟨a, b⟩ := I.ord u v hu hv zu hw
      have nev : v ≠ h := fun z => a (z ▸ hl)
      exact ⟨fun z => a (me.mp z).2, by rw [g2 u neu, g2 v nev]; exact b⟩
/-- agrees with what is numbered -/
def Agree (n : Nat) (found left : List Nat) (f : Nat → Nat) : Prop := ∀ x, x < n → x ∉ left → f x = found.getD x 0
theorem Agree.lt {m : Nat} {found left : List Nat} (I : NInv n w m found left) {f : Nat → Nat} (F : Fit n w f) (A : Agree n found left f) {x : Nat} (hx : x ∈ left) : f x < m := by
  rcases Nat.lt_or_ge (f x) m with h | h
  · exact h
  · obtain ⟨y, hy, ny, e⟩ := I.all (f x) h (F.lt x (I.sub x hx))
    have := F.inj x y (I.sub x hx) hy (by rw [A y hy ny, e])
    exact absurd hx (this ▸ ny)
theorem map_nodup {f : Nat → Nat} : ∀ {l : List Nat}, l.Nodup → (∀ x ∈ l, ∀ y ∈ l, f x = f y → x = y) → (l.map f).Nodup
  | [], _, _ => List.nodup_nil
  | a :: l, nd, h => by
    have nd' := List.nodup_cons.mp nd
    rw [List.map_cons]
    refine List.nodup_cons.mpr ⟨fun z => ?_, map_nodup nd'.2 fun x hx y hy => h x (List.mem_cons_of_mem _ hx) y (List.mem_cons_of_mem _ hy)⟩
    obtain ⟨y, hy, e⟩ := List.mem_map.mp z
    have := h y (List.mem_cons_of_mem _ hy) a List.mem_cons_self e
    exact nd'.1 (this ▸ hy)
theorem last_max {l : List Nat} (asc : l.Pairwise (· < ·)) {h : Nat} (e : l.getLast? = some h) : ∀ x ∈ l, x ≤ h := by
  obtain ⟨ys, rfl⟩ := List.getLast?_eq_some_iff.mp e
  intro x hx
  rcases List.mem_append.mp hx with z | z
  · exact Nat.le_of_lt ((List.pairwise_append.mp asc).2.2 x z h (by simp))
  · have : x = h := by simpa using z
    omega
/-- a numbering may be turned so that the last free one has the greatest number left, and does not come later -/
theorem exchange {m h : Nat} {found left : List Nat} (I : NInv n w (m + 1) found left) (hl : (freeOf w left).getLast? = some h) {f : Nat → Nat} (F : Fit n w f) (A : Agree n found left f) :
    ∃ g, Fit n w g ∧ Agree n (found.set h m) (left.erase h) g ∧ LexLe n g f := by
  have hf : h ∈ freeOf w left := List.mem_of_getLast? hl
  obtain ⟨hin, hs⟩ := mem_free.mp hf
  have nd := I.nodup
  have hn := I.sub h hin
  obtain ⟨k, hk, hmax⟩ := exists_max f left (fun z => by rw [z] at hin; cases hin)
  have kn := I.sub k hk
  have fk : f k = m := by
    have h1 := A.lt I F hk
    have h2 := pigeon (f k + 1) (left.map f) (map_nodup nd fun x hx y hy e => F.inj x y (I.sub x hx) (I.sub y hy) e) (fun x hx => by
      obtain ⟨y, hy, rfl⟩ := List.mem_map.mp hx
      have := hmax y hy
      omega)
    rw [List.length_map, I.len] at h2
    omega
  have kf : k ∈ freeOf w left := mem_free.mpr ⟨hk, fun x hx => by
    cases q : w k x with
    | false => rfl
    | true =>
      have := F.ord k x kn (I.sub x hx) q
      have := hmax x hx
      omega⟩
  have kh : k ≤ h := last_max (I.asc.sublist List.filter_sublist) hl k kf
  have me : ∀ {x}, x ∈ left.erase h ↔ x ≠ h ∧ x ∈ left := fun {x} => List.Nodup.mem_erase_iff nd
  have fl := I.flen
  have g1 : (found.set h m).getD h 0 = m := by rw [getD_set, if_pos ⟨rfl, by omega⟩]
  have g2 : ∀ x, x ≠ h → (found.set h m).getD x 0 = found.getD x 0 := fun x hx => by rw [getD_set, if_neg fun z => hx z.1.symm]
  by_cases e : k = h
  · subst e
    refine ⟨f, F, fun x hx nx => ?_, .refl _ _⟩
    by_cases q : x = k
    · subst q; rw [g1]; exact fk
    · rw [g2 x q]
      exact A x hx fun z => nx (me.mpr ⟨q, z⟩)
  · -- h takes the number m, what was between goes one down
    have fh : f h < m := by
      have h1 := A.lt I F hin
      rcases Nat.lt_or_ge (f h) m with q | q
      · exact q
      · exact absurd (F.inj h k hn kn (by omega)) (fun z => e z.symm)
    have inl : ∀ x, x < n → x ∉ left → m + 1 ≤ f x := fun x hx nx => by rw [A x hx nx]; exact (I.out x hx nx).1
    refine ⟨fun x => if x = h then m else if f h < f x ∧ f x ≤ m then f x - 1 else f x, ⟨fun x hx => ?_, fun x y hx hy q => ?_, fun u v hu hv q => ?_⟩, fun x hx nx => ?_, ?_⟩
    · have := F.lt x hx
      have := F.lt k kn
      show (if x = h then m else if f h < f x ∧ f x ≤ m then f x - 1 else f x) < n
      split
      · omega
      · split <;> omega
    · have q : (if x = h then m else if f h < f x ∧ f x ≤ m then f x - 1 else f x) = (if y = h then m else if f h < f y ∧ f y ≤ m then f y - 1 else f y) := q
      have inj := F.inj x y hx hy
      have injx := F.inj x h hx hn
      have injy := F.inj y h hy hn
      by_cases hxh : x = h
      · by_cases hyh : y = h
        · rw [hxh, hyh]
        · rw [if_pos hxh, if_neg hyh] at q
          split at q <;> omega
      · rw [if_neg hxh] at q
        by_cases hyh : y = h
        · rw [if_pos hyh] at q
          split at q <;> omega
        · rw [if_neg hyh] at q
          have a1 : f x ≠ f h := fun z => hxh (injx z)
          have a2 : f y ≠ f h := fun z => hyh (injy z)
          apply inj
          split at q <;> split at q <;> omega
    · show (if u = h then m else if f h < f u ∧ f u ≤ m then f u - 1 else f u) < (if v = h then m else if f h < f v ∧ f v ≤ m then f v - 1 else f v)
      have o := F.ord u v hu hv q
      by_cases uh : u = h
      · have nv : v ∉ left := fun z => by rw [uh, hs v z] at q; cases q
        have := inl v hv nv
        have vh : v ≠ h := fun z => nv (z ▸ hin)
        rw [if_pos uh, if_neg vh, if_neg (by omega)]
        omega
      · rw [if_neg uh]
        by_cases vh : v = h
        · subst vh
          rw [if_pos rfl, if_neg (by omega)]
          omega
        · rw [if_neg vh]
          have a1 : f u ≠ f h := fun z => uh (F.inj u h hu hn z)
          split <;> split <;> omega
    · by_cases q : x = h
      · subst q
        show (if x = x then m else _) = _
        rw [if_pos rfl, g1]
      · have nx' : x ∉ left := fun z => nx (me.mpr ⟨q, z⟩)
        have := inl x hx nx'
        show (if x = h then m else if f h < f x ∧ f x ≤ m then f x - 1 else f x) = _
        rw [if_neg q, if_neg (by omega), g2 x q]
        exact A x hx nx'
    · -- the first place that differs goes down
      have kh' : k < h := by omega
      -- the least x below h with f x between
      have least : ∃ i, i < n ∧ i ≠ h ∧ (f h < f i ∧ f i ≤ m) ∧ ∀ j, j < i → ¬ (j ≠ h ∧ (f h < f j ∧ f j ≤ m)) ∧ j ≠ h := by
        have : ∀ d i, i + d = k → (∀ j, j < i → ¬ (j ≠ h ∧ (f h < f j ∧ f j ≤ m))) → ∃ i, i ≤ k ∧ (i ≠ h ∧ (f h < f i ∧ f i ≤ m)) ∧ ∀ j, j < i → ¬ (j ≠ h ∧ (f h < f j ∧ f j ≤ m)) := by
          intro d
          induction d with
          | zero => intro i hi hj; exact ⟨i, by omega, by subst hi; simp only [Nat.add_zero] at *; omega, hj⟩
          | succ d ih =>
            intro i hi hj
            by_cases q : i ≠ h ∧ (f h < f i ∧ f i ≤ m)
            · exact ⟨i, by omega, q, hj⟩
            · exact ih (i + 1) (by omega) fun j hj' => by
                rcases Nat.lt_succ_iff_lt_or_eq.mp hj' with z | z
                · exact hj j z
                · subst z; exact q
        obtain ⟨i, h1, h2, h3⟩ := this k 0 (by omega) (fun j hj => by omega)
        exact ⟨i, by omega, h2.1, h2.2, fun j hj => ⟨h3 j hj, by omega⟩⟩
      obtain ⟨i, h1, h2, h3, h4⟩ := least
      refine .inr ⟨i, h1, fun j hj => ?_, ?_⟩
      · obtain ⟨a, b⟩ := h4 j hj
        show (if j = h then m else if f h < f j ∧ f j ≤ m then f j - 1 else f j) = f j
        rw [if_neg b, if_neg fun z => a ⟨b, z⟩]
      · show (if i = h then m else if f h < f i ∧ f i ≤ m then f i - 1 else f i) < f i
        rw [if_neg h2, if_pos h3]
        omega
/-- THE NUMBERING: a fitting one, the first -/
theorem numLoop_some : ∀ (m : Nat) (found left ks : List Nat), NInv n w m found left → numLoop w m found left = some ks → ks.length = n ∧ Fit n w (fun i => ks.getD i 0) ∧ ∀ f, Fit n w f → Agree n found left f → LexLe n (fun i => ks.getD i 0) f
  | 0, found, left, ks, I, e => by
    have e' : found = ks := Option.some.inj e
    subst e'
    have hl : left = [] := List.eq_nil_of_length_eq_zero I.len
    subst hl
    exact ⟨I.flen, ⟨fun i hi => (I.out i hi (by simp)).2, fun i j hi hj q => I.inj i j hi hj (by simp) (by simp) q, fun u v hu hv q => (I.ord u v hu hv (by simp) q).2⟩, fun f F A => .inl fun j hj => (A j hj (by simp)).symm⟩
  | m + 1, found, left, ks, I, e => by
    unfold numLoop at e
    split at e
    · cases e
    · rename_i h hl
      have hf : h ∈ freeOf w left := List.mem_of_getLast? hl
      obtain ⟨a, b, c⟩ := numLoop_some m _ _ ks (I.step hf) e
      refine ⟨a, b, fun f F A => ?_⟩
      obtain ⟨g, G, A', le⟩ := exchange I hl F A
      exact (c g G A').trans le
/-- none: some houses each wait for one of them -/
theorem numLoop_none : ∀ (m : Nat) (found left : List Nat), NInv n w m found left → numLoop w m found left = none → ∃ S : List Nat, S ≠ [] ∧ (∀ x ∈ S, x < n) ∧ ∀ x ∈ S, ∃ y ∈ S, w x y = true
  | 0, found, left, I, e => by cases e
  | m + 1, found, left, I, e => by
    unfold numLoop at e
    split at e
    · rename_i hl
      have hn : freeOf w left = [] := List.getLast?_eq_none_iff.mp hl
      refine ⟨left, (fun z => by
        have := I.len
        rw [z] at this
        cases this), I.sub, fun x hx => ?_⟩
      have : ¬ (x ∈ left ∧ ∀ m ∈ left, w x m = false) := fun z => by
        have := mem_free.mpr z
        rw [hn] at this
        cases this
      have h2 : ¬ ∀ m ∈ left, w x m = false := fun z => this ⟨hx, z⟩
      by_cases q : ∃ y ∈ left, w x y = true
      · exact q
      · exact absurd (fun m hm => by
          cases r : w x m with
          | false => rfl
          | true => exact absurd ⟨m, hm, r⟩ q) h2
    · rename_i h hl
      have hf : h ∈ freeOf w left := List.mem_of_getLast? hl
      exact numLoop_none m _ _ (I.step hf) e
theorem numF_some {ks : List Nat} (e : numF w n = some ks) : ks.length = n ∧ Fit n w (fun i => ks.getD i 0) ∧ ∀ f, Fit n w f → LexLe n (fun i => ks.getD i 0) f := by
  obtain ⟨a, b, c⟩ := numLoop_some n _ _ ks NInv.start e
  exact ⟨a, b, fun f F => c f F fun x hx hn => absurd (List.mem_range.mpr hx) hn⟩
theorem no_fit {S : List Nat} (h0 : S ≠ []) (h1 : ∀ x ∈ S, x < n) (h2 : ∀ x ∈ S, ∃ y ∈ S, w x y = true) (f : Nat → Nat) (F : Fit n w f) : False := by
  obtain ⟨h, hS, hmax⟩ := exists_max f S h0
  obtain ⟨y, hy, q⟩ := h2 h hS
  have := F.ord h y (h1 h hS) (h1 y hy) q
  have := hmax y hy
  omega
theorem numF_none (e : numF w n = none) : ∃ S : List Nat, S ≠ [] ∧ (∀ x ∈ S, x < n) ∧ ∀ x ∈ S, ∃ y ∈ S, w x y = true := numLoop_none n _ _ NInv.start e
end
end KR

/-! KR, part P1: the program's kinds. -/
namespace KR
open PySem PySem.Spec PyProof.Rows L2
def topS (i : Nat) : Stmt := PySem.Challenge.pw_keyroads_k15_whole_numberings.main.body.getD i (.Pass ⟨0, 0, 0, 0⟩)
structure Bl (mg : Str → Option Value) : Prop where
  isinstance : mg "isinstance" = none
  int : mg "int" = none
  bool : mg "bool" = none
  tuple : mg "tuple" = none
  list : mg "list" = none
  len : mg "len" = none
  range : mg "range" = none
  zip : mg "zip" = none
  sorted : mg "sorted" = none
  min : mg "min" = none
  max : mg "max" = none
  sum : mg "sum" = none
  enumerate : mg "enumerate" = none
  repr : mg "repr" = none
  set : mg "set" = none
theorem b_int : bootBuiltins "int" = some (.type "int") := by decide +kernel
theorem b_bool : bootBuiltins "bool" = some (.type "bool") := by decide +kernel
theorem b_list : bootBuiltins "list" = some (.type "list") := by decide +kernel
theorem b_tuple : bootBuiltins "tuple" = some (.type "tuple") := by decide +kernel
abbrev sWhole : Stmt := topS 5
abbrev sBetween : Stmt := topS 6
theorem scWhole : FnScope ["value"] ["value"] (defScope sWhole) := ⟨rfl, rfl, rfl, by decide +kernel, rfl, by decide +kernel, by decide +kernel⟩
theorem scBetween : FnScope ["value", "low", "high"] ["value", "low", "high"] (defScope sBetween) := ⟨rfl, rfl, rfl, by decide +kernel, rfl, by decide +kernel, by decide +kernel⟩
def wholeD : PyData → Bool
  | .int _ => true
  | _ => false
theorem whole_isi : ∀ d : PyData, (isiD "int" d && !isiD "bool" d) = wholeD d
  | .none => by decide +kernel
  | .bool _ => by show ((kitB "bool" "int").getD false && !(kitB "bool" "bool").getD false) = false; decide +kernel
  | .int _ => by show ((kitB "int" "int").getD false && !(kitB "int" "bool").getD false) = true; decide +kernel
  | .str _ => by show ((kitB "str" "int").getD false && !(kitB "str" "bool").getD false) = false; decide +kernel
  | .list _ => by show ((kitB "list" "int").getD false && !(kitB "list" "bool").getD false) = false; decide +kernel
  | .tuple _ => by show ((kitB "tuple" "int").getD false && !(kitB "tuple" "bool").getD false) = false; decide +kernel
  | .dict _ => by show ((kitB "dict" "int").getD false && !(kitB "dict" "bool").getD false) = false; decide +kernel
def TWhole : Tr := fun rs M R => ∃ d, rs = [.dat d] ∧ M = [] ∧ R (dB (wholeD d)) []
section
variable {P : Program} {w : World} {K : PySem.W.Frag} {mg : Str → Option Value} {base : Heap}
theorem ok_whole {f : Addr} {fd : FuncData} (bl : Bl mg) (F : Fun K "is_whole" "is_whole" sWhole f fd) : FnOk P w K mg base CX0 1 f fd ["value"] (spX TWhole) := by
  refine fn_okX F scWhole (fun rs M R h => ?_) (fun cdv A outer s H E rs M R hr h => ?_)
  · obtain ⟨d, rfl, _⟩ := h
    rfl
  · obtain ⟨d, rfl, rfl, hR⟩ := h
    rw [← whole_isi] at hR
    refine pb_retD (pd_and (pd_isi bl.isinstance (pad_cons (pd_var 0) (pad_one (pd_blt bl.int b_int)))) fun _ => pd_one (pd_not (pd_isi bl.isinstance (pad_cons (pd_var 0) (pad_one (pd_blt bl.bool b_bool)))))) hR

/-! ### is_between -/
def oD : Option Int → PyData
  | none => .none
  | some i => .int i
def loOk (lo : Option Int) (v : Int) : Bool := match lo with | none => true | some l => decide (l ≤ v)
def hiOk (hi : Option Int) (v : Int) : Bool := match hi with | none => true | some h => decide (v ≤ h)
def betw : PyData → Option Int → Option Int → Bool
  | .int v, lo, hi => loOk lo v && hiOk hi v
  | _, _, _ => false
theorem whole_int : ∀ {d : PyData}, wholeD d = true → ∃ v, d = .int v
  | .int v, _ => ⟨v, rfl⟩
theorem betw_no : ∀ {d : PyData} {lo hi : Option Int}, wholeD d = false → betw d lo hi = false
  | .none, _, _, _ => rfl
  | .bool _, _, _, _ => rfl
  | .str _, _, _, _ => rfl
  | .list _, _, _, _ => rfl
  | .tuple _, _, _, _ => rfl
  | .dict _, _, _, _ => rfl
def TBetween : Tr := fun rs M R => ∃ d lo hi, rs = [.dat d, .dat (oD lo), .dat (oD hi)] ∧ M = [] ∧ R (dB (betw d lo hi)) []
theorem ok_between {f : Addr} {fd : FuncData} (CW : CalX P w K mg base 1 "is_whole" TWhole) (F : Fun K "is_between" "is_between" sBetween f fd) : FnOk P w K mg base CX0 2 f fd ["value", "low", "high"] (spX TBetween) := by
  refine fn_okX F scBetween (fun rs M R h => ?_) (fun cdv A outer s H E rs M R hr h => ?_)
  · obtain ⟨d, lo, hi, rfl, _⟩ := h
    rfl
  · obtain ⟨d, lo, hi, rfl, rfl, hR⟩ := h
    refine pb_if (ptd_not (ptd_val (pd_call CW hr (pad_one (pd_var 0)) ⟨d, rfl, rfl, rfl, rfl⟩))) (fun h => pb_retD pd_bl ?_) (fun h => ?_)
    · rw [betw_no (by simpa using h)] at hR
      exact hR
    · obtain ⟨v, rfl⟩ := whole_int (by simpa using h)
      refine pb_retD (pd_and (x := loOk lo v) (y := hiOk hi v) ?_ fun _ => pd_one ?_) hR
      · cases lo with
        | none =>
          exact pd_orT ((pd_cmp (pc_is (pd_var 1))).is rfl)
        | some l => exact pd_orF ((pd_cmp (pc_is (pd_var 1))).is rfl) (pd_one (pd_cmp (pc_ge (pd_var 0) (pd_var 1))))
      · cases hi with
        | none => exact pd_orT ((pd_cmp (pc_is (pd_var 2))).is rfl)
        | some l => exact pd_orF ((pd_cmp (pc_is (pd_var 2))).is rfl) (pd_one (pd_cmp (pc_le (pd_var 0) (pd_var 2))))
end

/-! ### nets and standings as data -/
def roadL (r : Road) : List Int := [(r.1 : Int), (r.2.1 : Int), (r.2.2 : Int)]
def roadD (r : Road) : PyData := tupD (roadL r)
def netD (n : Nat) (rs : List Road) : PyData := .tuple [.int n, .list (rs.map roadD)]
def castL (ks : List Nat) : List Int := ks.map fun (k : Nat) => (k : Int)
def natD (ks : List Nat) : List PyData := (castL ks).map PyData.int
theorem isi_tt (ds : List PyData) : isiD "tuple" (.tuple ds) = true := by show (kitB "tuple" "tuple").getD false = true; decide +kernel
theorem isi_ll (ds : List PyData) : isiD "list" (.list ds) = true := by show (kitB "list" "list").getD false = true; decide +kernel
theorem castL_get {ks : List Nat} {i k : Nat} (h : ks[i]? = some k) : (castL ks)[i]? = some (k : Int) := by unfold castL; rw [List.getElem?_map, h]; rfl
theorem natD_get {ks : List Nat} {i k : Nat} (h : ks[i]? = some k) : (natD ks)[i]? = some (.int (k : Int)) := by unfold natD; rw [List.getElem?_map, castL_get h]; rfl
theorem natD_len (ks : List Nat) : (natD ks).length = ks.length := by unfold natD castL; rw [List.length_map, List.length_map]
theorem sz_le {n : Nat} (h : n ≤ 100000) : n ≤ sizeLine := Nat.le_trans h (by decide)
theorem sz_lt {n : Nat} (h : n < 100000) : n < sizeLine := Nat.lt_of_lt_of_le h (by decide)
abbrev sRoad : Stmt := topS 7
abbrev sNet : Stmt := topS 8
abbrev sCheckNet : Stmt := topS 9
abbrev sStanding : Stmt := topS 10
abbrev sCheckSt : Stmt := topS 11
theorem scRoad : FnScope ["houses", "value"] ["houses", "value"] (defScope sRoad) := ⟨rfl, rfl, rfl, by decide +kernel, rfl, by decide +kernel, by decide +kernel⟩
abbrev nNet : List Str := ["value", "houses", "roads", "road", "at"]
theorem scNet : FnScope nNet ["value"] (defScope sNet) := ⟨rfl, rfl, rfl, by decide +kernel, rfl, by decide +kernel, by decide +kernel⟩
theorem scCheckNet : FnScope ["net"] ["net"] (defScope sCheckNet) := ⟨rfl, rfl, rfl, by decide +kernel, rfl, by decide +kernel, by decide +kernel⟩
abbrev nStanding : List Str := ["net", "value", "item", "road"]
theorem scStanding : FnScope nStanding ["net", "value"] (defScope sStanding) := ⟨rfl, rfl, rfl, by decide +kernel, rfl, by decide +kernel, by decide +kernel⟩
theorem scCheckSt : FnScope ["net", "standing"] ["net", "standing"] (defScope sCheckSt) := ⟨rfl, rfl, rfl, by decide +kernel, rfl, by decide +kernel, by decide +kernel⟩
section
variable {P : Program} {w : World} {K : PySem.W.Frag} {mg : Str → Option Value} {base : Heap}
def TRoad : Tr := fun rs M R => ∃ (n : Nat) (r : Road), rs = [dI n, .dat (roadD r)] ∧ r.1 < r.2.1 ∧ r.2.1 < n ∧ 1 ≤ r.2.2 ∧ M = [] ∧ R (dB true) []
theorem road_at0 (r : Road) : atI ((roadL r).map PyData.int) 0 = some (.int (r.1 : Int)) := rfl
theorem road_at1 (r : Road) : atI ((roadL r).map PyData.int) 1 = some (.int (r.2.1 : Int)) := rfl
theorem road_at2 (r : Road) : atI ((roadL r).map PyData.int) 2 = some (.int (r.2.2 : Int)) := rfl
theorem ok_road {f : Addr} {fd : FuncData} (bl : Bl mg) (CB : CalX P w K mg base 2 "is_between" TBetween) (F : Fun K "is_road" "is_road" sRoad f fd) : FnOk P w K mg base CX0 3 f fd ["houses", "value"] (spX TRoad) := by
  refine fn_okX F scRoad (fun rs M R h => ?_) (fun cdv A outer s H E rs M R hr h => ?_)
  · obtain ⟨n, r, rfl, _⟩ := h
    rfl
  · obtain ⟨n, r, rfl, h1, h2, h3, rfl, hR⟩ := h
    refine pb_if (t := false) (PWD.pt (pwd_orF (PTD.is (ptd_not (ptd_val (pd_isi bl.isinstance (pad_cons (pd_var 1) (pad_one (pd_blt bl.tuple b_tuple)))))) (by unfold roadD tupD; rw [isi_tt]; rfl))
      (pwd_orF (PTD.is (ptd_cmp (pc_neI (pd_lenT bl.len (pd_var 1)) pd_int)) rfl)
        (pwd_or1 (PTD.is (ptd_not (ptd_val (pd_call CB hr (pad_cons (pd_ixT (pd_var 1) pd_int (road_at0 r)) (pad_cons pd_int (pad_one (pd_sub (pd_var 0) pd_int)))) ⟨_, some 0, some (n - 1), rfl, rfl, rfl, rfl⟩))) ?_))))) (fun h => nomatch h) (fun _ => ?_)
    · simp only [betw, loOk, hiOk]
      simp
      omega
    · refine pb_retD (pd_andT (PD.is (pd_call CB hr (pad_cons (pd_ixT (pd_var 1) pd_int (road_at1 r)) (pad_cons (pd_add (pd_ixT (pd_var 1) pd_int (road_at0 r)) pd_int) (pad_one (pd_sub (pd_var 0) pd_int)))) ⟨_, some (r.1 + 1), some (n - 1), rfl, rfl, rfl, rfl⟩) ?_)
        (pd_one (PD.is (pd_call CB hr (pad_cons (pd_ixT (pd_var 1) pd_int (road_at2 r)) (pad_cons pd_int (pad_one pd_non))) ⟨_, some 1, none, rfl, rfl, rfl, rfl⟩) ?_))) hR
      · simp only [betw, loOk, hiOk]
        congr 2
        simp
        omega
      · simp only [betw, loOk, hiOk]
        congr 2
        simp
        omega

def TNet : Tr := fun rs M R => ∃ (n : Nat) (roads : List Road), rs = [.dat (netD n roads)] ∧ VNet n roads ∧ M = [] ∧ R (dB true) []
theorem filterMap_none {α β : Type} : ∀ zs : List α, zs.filterMap (fun _ => (none : Option β)) = []
  | [] => rfl
  | _ :: zs => by rw [List.filterMap_cons]; exact filterMap_none zs
theorem cut2 (r : Road) : cutD ((roadL r).map PyData.int) none (some 2) = ([(r.1 : Int), (r.2.1 : Int)] : List Int).map PyData.int := rfl
theorem roads_ok (roads : List Road) : okAll (roads.map roadD) := fun d hd => by
  obtain ⟨r, _, rfl⟩ := List.mem_map.mp hd
  exact okD_tup _
theorem notwhole (r : Road) : ¬ (HT.sIx ((roadL r).map PyData.int).length 0 none = 0 ∧ HT.sIx ((roadL r).map PyData.int).length ((roadL r).map PyData.int).length (some 2) = ((roadL r).map PyData.int).length) := by
  show ¬ (HT.sIx 3 0 none = 0 ∧ HT.sIx 3 3 (some 2) = 3)
  decide
theorem at_nat {ds : List PyData} {z : Int} {i : Nat} {d : PyData} (hz : z = (i : Int)) (h : ds[i]? = some d) : atI ds z = some d := by
  subst hz
  exact atI_nat h
theorem ok_net {f : Addr} {fd : FuncData} (bl : Bl mg) (CB : CalX P w K mg base 2 "is_between" TBetween) (CR : CalX P w K mg base 3 "is_road" TRoad) (F : Fun K "is_net" "is_net" sNet f fd) : FnOk P w K mg base CX0 4 f fd ["value"] (spX TNet) := by
  refine fn_okX F scNet (fun rs M R h => ?_) (fun cdv A outer s H E rs M R hr h => ?_)
  · obtain ⟨n, roads, rfl, _⟩ := h
    rfl
  · obtain ⟨n, roads, rfl, vn, rfl, hR⟩ := h
    refine pb_if (t := false) (PWD.pt (pwd_orF (PTD.is (ptd_not (ptd_val (pd_isi bl.isinstance (pad_cons (pd_var 0) (pad_one (pd_blt bl.tuple b_tuple)))))) (by unfold netD; rw [isi_tt]; rfl))
      (pwd_orF (PTD.is (ptd_cmp (pc_neI (pd_lenT bl.len (pd_var 0)) pd_int)) rfl)
        (pwd_or1 (PTD.is (ptd_not (ptd_val (pd_call CB (hr.mono (by decide)) (pad_cons (pd_ixT (d := .int n) (pd_var 0) pd_int rfl) (pad_cons pd_int (pad_one pd_non))) ⟨_, some 1, none, rfl, rfl, rfl, rfl⟩))) ?_))))) (fun h => nomatch h) (fun _ => ?_)
    · have := vn.n1
      simp only [betw, loOk, hiOk]
      simp
      omega
    refine pb_asg (pd_var 0) (pgx_tup (vs := [1, 2]) (ds := [.int n, .list (roads.map roadD)]) rfl (pgxs_cons (pgx_name 1 scNet.nd) (pgxs_cons (pgx_name 2 scNet.nd) pgxs_nil)) rfl) ?_
    have hlen := vn.len
    refine pb_if (t := false) (PWD.pt (pwd_orF (PTD.is (ptd_not (ptd_val (pd_isi bl.isinstance (pad_cons (pd_var 2) (pad_one (pd_blt bl.list b_list)))))) (by rw [isi_ll]; rfl))
      (pwd_or1 (PTD.is (ptd_cmp (pc_neNil hr.units
        (pl_compP roads roadD (fun _ => none) rfl scNet.nd (pix_list (pd_var 2)) (blkOk_by (N := nNet) (sc := defScope sNet) (own := [("road", 3)]) (by decide +kernel)) (sz_le (by omega)) trivial fun r hr' => ⟨_, fun s H C cl fp => pgx_name 3 scNet.nd, .inr ⟨rfl, fun s H C cl fp => ptx_one (PTD.is (ptd_not (ptd_val
          (pd_call CR hr (pad_cons (pd_var 1) (pad_one (pd_var 3))) ⟨n, r, rfl, (vn.lt r hr').1, (vn.lt r hr').2.1, (vn.lt r hr').2.2.1, rfl, rfl, rfl⟩))) rfl)⟩⟩).pd .dat (by rw [filterMap_none]; exact okAll_nil))) (by rw [filterMap_none]; rfl))))) (fun h => nomatch h) (fun _ => ?_)
    refine pb_retD (PD.is (pd_cmp (pc_eqNil hr.units (pl_compP (List.range ((((roads.map roadD).length : Nat) : Int) - 1).toNat) (fun (i : Nat) => .int (1 + (i : Int))) (fun _ => none) rfl scNet.nd
      (pix_range2 bl.range pd_int (pd_len (ds := roads.map roadD) bl.len (pd_var 2) .dat) (by rw [List.length_map]; omega)) (blkOk_by (N := nNet) (sc := defScope sNet) (own := [("at", 4)]) (by decide +kernel)) (by rw [List.length_range, List.length_map]; exact sz_le (by omega)) trivial fun i hi => ?_).pd .dat (by rw [filterMap_none]; exact okAll_nil))) (by rw [filterMap_none]; rfl)) hR
    have hi' : i + 1 < roads.length := by
      rw [List.mem_range, List.length_map] at hi
      omega
    have e1 : (roads.map roadD)[i]? = some (roadD roads[i]) := by rw [List.getElem?_map, List.getElem?_eq_getElem (by omega)]; rfl
    have e2 : (roads.map roadD)[i + 1]? = some (roadD roads[i + 1]) := by rw [List.getElem?_map, List.getElem?_eq_getElem hi']; rfl
    have asc := List.pairwise_iff_getElem.mp vn.asc i (i + 1) (by omega) hi' (by omega)
    refine ⟨_, fun s H C cl fp => pgx_name 4 scNet.nd, .inr ⟨rfl, fun s H C cl fp => ptx_one (PTD.is (ptd_cmp (pc_gePP (i := roads[i].1) (j := roads[i].2.1) (k := roads[i + 1].1) (l := roads[i + 1].2.1) hr.units0
      (pd_sliceT (pd_ix (pd_var 2) (pd_sub (pd_var 4) pd_int) .dat (at_nat (by omega) e1)) pod_none (pod_some pd_int) (notwhole _))
      (pd_sliceT (pd_ix (pd_var 2) (pd_var 4) .dat (at_nat (by omega) e2)) pod_none (pod_some pd_int) (notwhole _)))) ?_)⟩⟩
    simp only [decide_eq_false_iff_not]
    omega

def TCheckNet : Tr := fun rs M R => ∃ (n : Nat) (roads : List Road), rs = [.dat (netD n roads)] ∧ VNet n roads ∧ M = [] ∧ R (.dat .none) []
theorem ok_checkNet {f : Addr} {fd : FuncData} (CN : CalX P w K mg base 4 "is_net" TNet) (F : Fun K "check_net" "check_net" sCheckNet f fd) : FnOk P w K mg base CX0 5 f fd ["net"] (spX TCheckNet) := by
  refine fn_okX F scCheckNet (fun rs M R h => ?_) (fun cdv A outer s H E rs M R hr h => ?_)
  · obtain ⟨n, roads, rfl, _⟩ := h
    rfl
  · obtain ⟨n, roads, rfl, vn, rfl, hR⟩ := h
    exact pb_if (t := false) (PTD.is (ptd_not (ptd_val (pd_call CN hr (pad_one (pd_var 0)) ⟨n, roads, rfl, vn, rfl, rfl, rfl⟩))) rfl) (fun h => nomatch h) (fun _ => pb_nil hR)
def stD (st : List Nat) : PyData := .list (natD st)
def TStanding : Tr := fun rs M R => ∃ (n : Nat) (roads : List Road) (st : List Nat), rs = [.dat (netD n roads), .dat (stD st)] ∧ VNet n roads ∧ VSt roads st ∧ M = [] ∧ R (dB true) []
theorem net_at0 (n : Nat) (roads : List Road) : atI [PyData.int n, .list (roads.map roadD)] 0 = some (.int n) := rfl
theorem net_at1 (n : Nat) (roads : List Road) : atI [PyData.int n, .list (roads.map roadD)] 1 = some (.list (roads.map roadD)) := rfl
theorem ok_standing {f : Addr} {fd : FuncData} (bl : Bl mg) (CB : CalX P w K mg base 2 "is_between" TBetween) (F : Fun K "is_standing" "is_standing" sStanding f fd) : FnOk P w K mg base CX0 3 f fd ["net", "value"] (spX TStanding) := by
  refine fn_okX F scStanding (fun rs M R h => ?_) (fun cdv A outer s H E rs M R hr h => ?_)
  · obtain ⟨n, roads, st, rfl, _⟩ := h
    rfl
  · obtain ⟨n, roads, st, rfl, vn, vs, rfl, hR⟩ := h
    have hlen := vn.len
    have hsl := vs.len
    refine pb_if (t := false) (PWD.pt (pwd_orF (PTD.is (ptd_not (ptd_val (pd_isi bl.isinstance (pad_cons (pd_var 1) (pad_one (pd_blt bl.list b_list)))))) (by unfold stD; rw [isi_ll]; rfl))
      (pwd_or1 (PTD.is (ptd_cmp (pc_neI (pd_len (ds := natD st) bl.len (pd_var 1) .dat) (pd_len (ds := roads.map roadD) bl.len (pd_ixT (ds := [PyData.int n, .list (roads.map roadD)]) (pd_var 0) pd_int (net_at1 n roads)) .dat))) ?_)))) (fun h => nomatch h) (fun _ => ?_)
    · rw [natD_len, List.length_map, hsl]
      simp
    have hz : zipD (natD st) (roads.map roadD) = (st.zip roads).map fun p => .tuple [.int (p.1 : Int), roadD p.2] := by
      unfold zipD natD castL
      rw [List.map_map, List.zip_map, List.map_map]
      rfl
    refine pb_retD (PD.is (pd_cmp (pc_eqNil hr.units (pl_compP (st.zip roads) (fun p => .tuple [.int (p.1 : Int), roadD p.2]) (fun _ => none) rfl scStanding.nd
      (hz ▸ pix_zip bl.zip (pd_var 1) (pd_ixT (ds := [PyData.int n, .list (roads.map roadD)]) (pd_var 0) pd_int (net_at1 n roads))) (blkOk_by (N := nStanding) (sc := defScope sStanding) (own := [("item", 2), ("road", 3)]) (by decide +kernel)) (by rw [List.length_zip]; exact sz_le (by omega)) trivial fun p hp => ?_).pd .dat (by rw [filterMap_none]; exact okAll_nil))) (by rw [filterMap_none]; rfl)) hR
    obtain ⟨k, r⟩ := p
    obtain ⟨i, hi⟩ := List.mem_iff_getElem?.mp hp
    have h1 : st[i]? = some k ∧ roads[i]? = some r := by
      rw [List.zip, List.getElem?_zipWith] at hi
      cases e1 : st[i]? with
      | none => rw [e1] at hi; simp at hi
      | some a =>
        cases e2 : roads[i]? with
        | none => rw [e1, e2] at hi; simp at hi
        | some b => rw [e1, e2] at hi; simpa using hi
    have hle := vs.le i r k h1.2 h1.1
    refine ⟨_, fun s H C cl fp => pgx_tup (ds := [.int (k : Int), roadD r]) rfl (pgxs_cons (pgx_name 2 scStanding.nd) (pgxs_cons (pgx_name 3 scStanding.nd) pgxs_nil)) rfl, .inr ⟨rfl, fun s H C cl fp => ptx_one (PTD.is (ptd_not (ptd_val
      (pd_call CB hr (pad_cons (pd_var 2) (pad_cons pd_int (pad_one (pd_ixT (ds := (roadL r).map PyData.int) (pd_var 3) pd_int (road_at2 r))))) ⟨.int k, some 0, some r.2.2, rfl, rfl, rfl, rfl⟩))) ?_)⟩⟩
    simp only [betw, loOk, hiOk]
    simp
    omega
def TCheckSt : Tr := fun rs M R => ∃ (n : Nat) (roads : List Road) (st : List Nat), rs = [.dat (netD n roads), .dat (stD st)] ∧ VNet n roads ∧ VSt roads st ∧ M = [] ∧ R (.dat .none) []
theorem ok_checkSt {f : Addr} {fd : FuncData} (CN : CalX P w K mg base 5 "check_net" TCheckNet) (CS : CalX P w K mg base 3 "is_standing" TStanding) (F : Fun K "check_standing" "check_standing" sCheckSt f fd) : FnOk P w K mg base CX0 6 f fd ["net", "standing"] (spX TCheckSt) := by
  refine fn_okX F scCheckSt (fun rs M R h => ?_) (fun cdv A outer s H E rs M R hr h => ?_)
  · obtain ⟨n, roads, st, rfl, _⟩ := h
    rfl
  · obtain ⟨n, roads, st, rfl, vn, vs, rfl, hR⟩ := h
    refine pb_expr (pd_call CN hr (pad_one (pd_var 0)) ⟨n, roads, rfl, vn, rfl, rfl, rfl⟩) ?_
    exact pb_if (t := false) (PTD.is (ptd_not (ptd_val (pd_call CS (hr.mono (by decide)) (pad_cons (pd_var 0) (pad_one (pd_var 1))) ⟨n, roads, st, rfl, vn, vs, rfl, rfl, rfl⟩))) rfl) (fun h => nomatch h) (fun _ => pb_nil hR)
end
end KR

/-! KR, part P2: neighbours, directions, keys. -/
namespace KR
open PySem PySem.Spec PyProof.Rows L2
theorem int_inj_list : ∀ {a b : List Int}, a.map PyData.int = b.map PyData.int → a = b
  | [], [], _ => rfl
  | [], _ :: _, h => by cases h
  | _ :: _, [], h => by cases h
  | x :: a, y :: b, h => by
    injection h with h1 h2
    injection h1 with h1
    rw [h1, int_inj_list h2]
/-- a list of naturals, each kept or not -/
theorem natD_keep {α : Type} (g : α → Option Nat) : ∀ zs : List α, zs.filterMap (fun z => (g z).map fun (k : Nat) => PyData.int (k : Int)) = natD (zs.filterMap g)
  | [] => rfl
  | z :: zs => by
    have ih := natD_keep g zs
    rw [List.filterMap_cons, List.filterMap_cons]
    cases g z with
    | none => exact ih
    | some k =>
      show PyData.int (k : Int) :: _ = natD (k :: _)
      rw [ih]
      rfl
theorem natD_app (a b : List Nat) : natD a ++ natD b = natD (a ++ b) := by unfold natD castL; rw [List.map_append, List.map_append]
theorem sort_nat {ks : List Nat} {ns : List Int} (hp : ns.Perm (castL ks)) (hs : ns.Pairwise (· ≤ ·)) : ns = castL (ks.mergeSort fun a b => decide (a ≤ b)) := by
  refine List.Perm.eq_of_pairwise (le := (· ≤ ·)) (fun a b _ _ h1 h2 => by omega) hs ?_ (hp.trans ?_)
  · have h := List.pairwise_mergeSort (le := fun a b : Nat => decide (a ≤ b)) (fun a b c h1 h2 => by
      have := of_decide_eq_true h1
      have := of_decide_eq_true h2
      exact decide_eq_true (by omega)) (fun a b => by
      rw [Bool.or_eq_true, decide_eq_true_eq, decide_eq_true_eq]
      omega) ks
    unfold castL
    rw [List.pairwise_map]
    refine h.imp fun {a b} z => ?_
    have := of_decide_eq_true z
    omega
  · unfold castL
    exact ((List.mergeSort_perm ks _).map _).symm
abbrev sNbr : Stmt := topS 12
abbrev sDir : Stmt := topS 13
abbrev sRoadAt : Stmt := topS 14
abbrev sKeys : Stmt := topS 15
abbrev nNbr : List Str := ["net", "house", "found", "low", "high", "many"]
abbrev nDir : List Str := ["net", "low", "high", "many"]
abbrev nRoadAt : List Str := ["net", "one", "other", "road"]
abbrev nKeys : List Str := ["net", "standing", "one", "other", "at"]
theorem scNbr : FnScope nNbr ["net", "house"] (defScope sNbr) := ⟨rfl, rfl, rfl, by decide +kernel, rfl, by decide +kernel, by decide +kernel⟩
theorem scDir : FnScope nDir ["net"] (defScope sDir) := ⟨rfl, rfl, rfl, by decide +kernel, rfl, by decide +kernel, by decide +kernel⟩
theorem scRoadAt : FnScope nRoadAt ["net", "one", "other"] (defScope sRoadAt) := ⟨rfl, rfl, rfl, by decide +kernel, rfl, by decide +kernel, by decide +kernel⟩
theorem scKeys : FnScope nKeys ["net", "standing", "one", "other"] (defScope sKeys) := ⟨rfl, rfl, rfl, by decide +kernel, rfl, by decide +kernel, by decide +kernel⟩
section
variable {P : Program} {w : World} {K : PySem.W.Frag} {mg : Str → Option Value} {base : Heap}
def TNbr : Tr := fun rs M R => ∃ (n : Nat) (roads : List Road) (h : Nat), rs = [.dat (netD n roads), dI h] ∧ VNet n roads ∧ M = [] ∧ R (.dat (.list (natD (nbr roads h)))) []
theorem road_ds (r : Road) : (roadL r).map PyData.int = [.int (r.1 : Int), .int (r.2.1 : Int), .int (r.2.2 : Int)] := rfl
theorem filterMap_len {α β : Type} (f : α → Option β) (zs : List α) : (zs.filterMap f).length ≤ zs.length := List.length_filterMap_le f zs
theorem ok_nbr {f : Addr} {fd : FuncData} (bl : Bl mg) (F : Fun K "neighbours_of" "neighbours_of" sNbr f fd) : FnOk P w K mg base CX0 1 f fd ["net", "house"] (spX TNbr) := by
  refine fn_okX F scNbr (fun rs M R h => ?_) (fun cdv A outer s H E rs M R hr h => ?_)
  · obtain ⟨n, roads, h, rfl, _⟩ := h
    rfl
  · obtain ⟨n, roads, h, rfl, vn, rfl, hR⟩ := h
    have hlen := vn.len
    refine pb_setLcP (i := 2) roads roadD (fun r => (if r.2.1 = h then some r.1 else none : Option Nat).map fun (k : Nat) => PyData.int (k : Int)) rfl scNbr.nd (pix_list (ds := roads.map roadD) (pd_ixT (ds := [PyData.int n, .list (roads.map roadD)]) (pd_var 0) pd_int (net_at1 n roads)))
      (blkOk_by (N := nNbr) (sc := defScope sNbr) (own := [("low", 3), ("high", 4), ("many", 5)]) (by decide +kernel)) (sz_le (by omega)) trivial (fun r hr' => ?_) (sw_true rfl rfl rfl (by decide +kernel)) ?_
    · refine ⟨_, fun s H C cl fp => pgx_tup (ds := [.int (r.1 : Int), .int (r.2.1 : Int), .int (r.2.2 : Int)]) rfl (pgxs_cons (pgx_name 3 scNbr.nd) (pgxs_cons (pgx_name 4 scNbr.nd) (pgxs_cons (pgx_name 5 scNbr.nd) pgxs_nil))) rfl, ?_⟩
      by_cases q : r.2.1 = h
      · refine .inl ⟨_, .int (r.1 : Int), by rw [if_pos q]; rfl, fun s H C cl fp => ptx_one (PTD.is (ptd_cmp (pc_eqI (pd_var 4) (pd_var 1))) (by rw [q]; exact decide_eq_true rfl)), fun s H C cl fp => pd_var 3⟩
      · refine .inr ⟨by rw [if_neg q]; rfl, fun s H C cl fp => ptx_one (PTD.is (ptd_cmp (pc_eqI (pd_var 4) (pd_var 1))) (decide_eq_false (by omega)))⟩
    · rw [natD_keep]
      have l1 := filterMap_len (fun r : Road => if r.2.1 = h then some r.1 else none) roads
      have l2 := filterMap_len (fun r : Road => if r.1 = h then some r.2.1 else none) roads
      refine pb_retD (PL.pd (pl_sortI (ns := castL (nbr0 roads h)) bl.sorted (PL.pd (PL.is (pl_cat (ds := natD (roads.filterMap fun r => if r.2.1 = h then some r.1 else none)) (fs := natD (roads.filterMap fun r => if r.1 = h then some r.2.1 else none)) (pd_var 2)
        (PL.pd (PL.is (pl_compP roads roadD (fun r => (if r.1 = h then some r.2.1 else none : Option Nat).map fun (k : Nat) => PyData.int (k : Int)) rfl scNbr.nd (pix_list (ds := roads.map roadD) (pd_ixT (ds := [PyData.int n, .list (roads.map roadD)]) (pd_var 0) pd_int (net_at1 n roads)))
          (blkOk_by (N := nNbr) (sc := defScope sNbr) (own := [("low", 3), ("high", 4), ("many", 5)]) (by decide +kernel)) (sz_le (by omega)) trivial fun r hr' => ?_) (natD_keep _ _))) .dat .dat (by rw [natD_len, natD_len]; exact sz_le (by omega))) (natD_app _ _))) .dat fun ns hp hs => sort_nat hp hs)) hR
      refine ⟨_, fun s H C cl fp => pgx_tup (ds := [.int (r.1 : Int), .int (r.2.1 : Int), .int (r.2.2 : Int)]) rfl (pgxs_cons (pgx_name 3 scNbr.nd) (pgxs_cons (pgx_name 4 scNbr.nd) (pgxs_cons (pgx_name 5 scNbr.nd) pgxs_nil))) rfl, ?_⟩
      by_cases q : r.1 = h
      · refine .inl ⟨_, .int (r.2.1 : Int), by rw [if_pos q]; rfl, fun s H C cl fp => ptx_one (PTD.is (ptd_cmp (pc_eqI (pd_var 3) (pd_var 1))) (by rw [q]; exact decide_eq_true rfl)), fun s H C cl fp => pd_var 4⟩
      · refine .inr ⟨by rw [if_neg q]; rfl, fun s H C cl fp => ptx_one (PTD.is (ptd_cmp (pc_eqI (pd_var 3) (pd_var 1))) (decide_eq_false (by omega)))⟩

def pairL (p : Nat × Nat) : List Int := [(p.1 : Int), (p.2 : Int)]
def pairsD (ps : List (Nat × Nat)) : List PyData := (ps.map pairL).map tupD
theorem pairsD_app (a b : List (Nat × Nat)) : pairsD a ++ pairsD b = pairsD (a ++ b) := by unfold pairsD; rw [List.map_append, List.map_append]
theorem pairsD_of {α : Type} (g : α → Nat × Nat) : ∀ zs : List α, zs.filterMap (fun z => some (tupD (pairL (g z)))) = pairsD (zs.map g)
  | [] => rfl
  | z :: zs => by
    rw [List.filterMap_cons]
    show tupD _ :: _ = pairsD (g z :: zs.map g)
    rw [pairsD_of g zs]
    rfl
theorem dirs0_lt {n : Nat} {rs : List Road} (v : VNet n rs) {p : Nat × Nat} (h : p ∈ dirs0 rs) : p.1 < 60 ∧ p.2 < 60 := by
  obtain ⟨u, w⟩ := p
  obtain ⟨r, hr, h⟩ := mem_dirs0.mp h
  have := v.lt r hr
  have := v.n2
  omega
theorem code_pairL (p : Nat × Nat) : TS.code 64 (pairL p) = ((p.1 * 64 + p.2 : Nat) : Int) := by
  unfold pairL
  rw [code_pair]
  omega
theorem sort_dirs {n : Nat} {rs : List Road} (v : VNet n rs) {kss : List (List Int)} (hp : kss.Perm ((dirs0 rs).map pairL)) (hs : kss.Pairwise (fun x y => TS.code 64 x ≤ TS.code 64 y)) : kss = (dirs rs).map pairL := by
  refine List.Perm.eq_of_pairwise (le := fun x y => TS.code 64 x ≤ TS.code 64 y) (fun a b ha hb h1 h2 => ?_) hs ?_ (hp.trans ?_)
  · obtain ⟨p, hp', rfl⟩ := List.mem_map.mp (hp.mem_iff.mp ha)
    obtain ⟨q, hq, rfl⟩ := List.mem_map.mp hb
    have b1 := dirs0_lt v hp'
    have b2 := dirs0_lt v (mem_dirs.mp hq)
    rw [code_pairL, code_pairL] at h1 h2
    have e1 : p.1 = q.1 := by omega
    have e2 : p.2 = q.2 := by omega
    unfold pairL
    rw [e1, e2]
  · rw [List.pairwise_map]
    have h := List.pairwise_mergeSort (le := fun a b : Nat × Nat => decide (codeP a ≤ codeP b)) (fun a b c h1 h2 => by
      have := of_decide_eq_true h1
      have := of_decide_eq_true h2
      exact decide_eq_true (by omega)) (fun a b => by
      rw [Bool.or_eq_true, decide_eq_true_eq, decide_eq_true_eq]
      omega) (dirs0 rs)
    refine h.imp fun {a b} z => ?_
    have z := of_decide_eq_true z
    rw [code_pairL, code_pairL]
    unfold codeP at z
    omega
  · exact ((List.mergeSort_perm (dirs0 rs) _).map _).symm
theorem dirs_len (rs : List Road) : (dirs rs).length = 2 * rs.length := by
  have := (List.mergeSort_perm (dirs0 rs) (fun a b => decide (codeP a ≤ codeP b))).length_eq
  unfold dirs
  rw [this]
  unfold dirs0
  rw [List.length_append, List.length_map, List.length_map]
  omega
def TDir : Tr := fun rs M R => ∃ (n : Nat) (roads : List Road), rs = [.dat (netD n roads)] ∧ VNet n roads ∧ M = [] ∧ R (.dat (.list (pairsD (dirs roads)))) []
theorem ok_dir {f : Addr} {fd : FuncData} (bl : Bl mg) (F : Fun K "directions_of" "directions_of" sDir f fd) : FnOk P w K mg base CX0 1 f fd ["net"] (spX TDir) := by
  refine fn_okX F scDir (fun rs M R h => ?_) (fun cdv A outer s H E rs M R hr h => ?_)
  · obtain ⟨n, roads, rfl, _⟩ := h
    rfl
  · obtain ⟨n, roads, rfl, vn, rfl, hR⟩ := h
    have hlen := vn.len
    have hl0 : (dirs0 roads).length = 2 * roads.length := by
      unfold dirs0
      rw [List.length_append, List.length_map, List.length_map]
      omega
    refine pb_retD (PL.pd (pl_sortT (nss := (dirs0 roads).map pairL) (mss := (dirs roads).map pairL) (d := 2) (C := 64) (by decide) bl.sorted (PL.pd (PL.is (pl_cat (ds := pairsD (roads.map fun r => (r.1, r.2.1))) (fs := pairsD (roads.map fun r => (r.2.1, r.1)))
      (PL.pd (PL.is (pl_compP roads roadD (fun r => some (tupD (pairL (r.1, r.2.1)))) rfl scDir.nd (pix_list (ds := roads.map roadD) (pd_ixT (ds := [PyData.int n, .list (roads.map roadD)]) (pd_var 0) pd_int (net_at1 n roads)))
        (blkOk_by (N := nDir) (sc := defScope sDir) (own := [("low", 1), ("high", 2), ("many", 3)]) (by decide +kernel)) (sz_le (by omega)) trivial fun r hr' => ?_) (pairsD_of (fun r : Road => (r.1, r.2.1)) roads)))
      (PL.pd (PL.is (pl_compP roads roadD (fun r => some (tupD (pairL (r.2.1, r.1)))) rfl scDir.nd (pix_list (ds := roads.map roadD) (pd_ixT (ds := [PyData.int n, .list (roads.map roadD)]) (pd_var 0) pd_int (net_at1 n roads)))
        (blkOk_by (N := nDir) (sc := defScope sDir) (own := [("low", 1), ("high", 2), ("many", 3)]) (by decide +kernel)) (sz_le (by omega)) trivial fun r hr' => ?_) (pairsD_of (fun r : Road => (r.2.1, r.1)) roads)))
      .dat .dat (by unfold pairsD; rw [List.length_map, List.length_map, List.length_map, List.length_map, List.length_map, List.length_map]; exact sz_le (by omega))) (pairsD_app _ _))) .dat (by rw [List.length_map]; omega) (fun ns hns => ?_) fun kss hp hs => sort_dirs vn hp hs)) hR
    · exact ⟨_, fun s H C cl fp => pgx_tup (ds := [.int (r.1 : Int), .int (r.2.1 : Int), .int (r.2.2 : Int)]) rfl (pgxs_cons (pgx_name 1 scDir.nd) (pgxs_cons (pgx_name 2 scDir.nd) (pgxs_cons (pgx_name 3 scDir.nd) pgxs_nil))) rfl,
        .inl ⟨_, _, rfl, fun s H C cl fp => ptx_nil, fun s H C cl fp => pd_tup (ds := [.int (r.1 : Int), .int (r.2.1 : Int)]) (pad_cons (pd_var 1) (pad_one (pd_var 2))) (sz_le (by show 2 ≤ 100000; decide))⟩⟩
    · exact ⟨_, fun s H C cl fp => pgx_tup (ds := [.int (r.1 : Int), .int (r.2.1 : Int), .int (r.2.2 : Int)]) rfl (pgxs_cons (pgx_name 1 scDir.nd) (pgxs_cons (pgx_name 2 scDir.nd) (pgxs_cons (pgx_name 3 scDir.nd) pgxs_nil))) rfl,
        .inl ⟨_, _, rfl, fun s H C cl fp => ptx_nil, fun s H C cl fp => pd_tup (ds := [.int (r.2.1 : Int), .int (r.1 : Int)]) (pad_cons (pd_var 2) (pad_one (pd_var 1))) (sz_le (by show 2 ≤ 100000; decide))⟩⟩
    · obtain ⟨p, hp, rfl⟩ := List.mem_map.mp hns
      have := dirs0_lt vn hp
      refine ⟨rfl, fun m hm => ?_⟩
      have hm' : m = (p.1 : Int) ∨ m = (p.2 : Int) := by simpa [pairL] using hm
      omega
theorem hu65 {A : Around} {k : Nat} (hr : Room k A) : A.units + 65 < cLine := by
  have := hr.un
  omega
/-- the place of a road -/
theorem eqv_pair (a b c d : Int) : PyData.eqv (tupD [a, b]) (tupD [c, d]) = decide (a = c ∧ b = d) := by
  have e : PyData.eqv (tupD [a, b]) (tupD [c, d]) = ((a == c) && ((b == d) && true)) := by simp only [tupD, List.map_cons, List.map_nil, PyData.eqv, PyData.eqvAll]
  rw [e]
  by_cases h1 : a = c <;> by_cases h2 : b = d <;> simp [h1, h2]
def TRoadAt : Tr := fun rs M R => ∃ (n : Nat) (roads : List Road) (u v j : Nat) (r : Road), rs = [.dat (netD n roads), dI u, dI v] ∧ VNet n roads ∧ roads[j]? = some r ∧ r.1 = min u v ∧ r.2.1 = max u v ∧ M = [] ∧ R (dI j) []
theorem ok_roadAt {f : Addr} {fd : FuncData} (bl : Bl mg) (F : Fun K "road_at" "road_at" sRoadAt f fd) : FnOk P w K mg base CX0 1 f fd ["net", "one", "other"] (spX TRoadAt) := by
  refine fn_okX F scRoadAt (fun rs M R h => ?_) (fun cdv A outer s H E rs M R hr h => ?_)
  · obtain ⟨n, roads, u, v, j, r, rfl, _⟩ := h
    rfl
  · obtain ⟨n, roads, u, v, j, r, rfl, vn, hj, h1, h2, rfl, hR⟩ := h
    have hlen := vn.len
    have e0 : pairsD (roads.map fun r => (r.1, r.2.1)) = roads.map fun r => tupD (pairL (r.1, r.2.1)) := by unfold pairsD; rw [List.map_map, List.map_map]; rfl
    refine pb_retD (pd_index (ds := pairsD (roads.map fun r => (r.1, r.2.1))) (d := tupD [((min u v : Nat) : Int), ((max u v : Nat) : Int)]) (z := tupD (pairL (r.1, r.2.1))) (hu65 hr)
      (PL.pd (PL.is (pl_compP roads roadD (fun r => some (tupD (pairL (r.1, r.2.1)))) rfl scRoadAt.nd (pix_list (ds := roads.map roadD) (pd_ixT (ds := [PyData.int n, .list (roads.map roadD)]) (pd_var 0) pd_int (net_at1 n roads)))
        (blkOk_by (N := nRoadAt) (sc := defScope sRoadAt) (own := [("road", 3)]) (by decide +kernel)) (sz_le (by omega)) trivial fun r hr' => ⟨_, fun s H C cl fp => pgx_name 3 scRoadAt.nd,
          .inl ⟨_, _, rfl, fun s H C cl fp => ptx_nil, fun s H C cl fp => pd_sliceT (pd_var 3) pod_none (pod_some pd_int) (notwhole r)⟩⟩) (pairsD_of (fun r : Road => (r.1, r.2.1)) roads)))
      (PD.is (pd_tup (ds := [.int (if (v : Int) < u then v else u), .int (if (v : Int) > u then v else u)]) (pad_cons (pd_min rfl bl.min (pad_cons (pd_var 1) (pad_one (pd_var 2)))) (pad_one (pd_max rfl bl.max (pad_cons (pd_var 1) (pad_one (pd_var 2)))))) (sz_le (by show 2 ≤ 100000; decide))) ?_)
      .dat .dat (okAll_tups _) ?_ ?_ ?_ ?_) hR
    · show SD.dat (.tuple _) = .dat (.tuple _)
      have e1 : (if (v : Int) < u then (v : Int) else u) = ((min u v : Nat) : Int) := by split <;> omega
      have e2 : (if (v : Int) > u then (v : Int) else u) = ((max u v : Nat) : Int) := by split <;> omega
      rw [e1, e2]
      rfl
    · have := okD_tup [((min u v : Nat) : Int), ((max u v : Nat) : Int)]
      show (PyData.canLay0 _ && decide (PyData.depth _ ≤ 64)) = true
      rw [Bool.and_eq_true]
      exact ⟨this.1, decide_eq_true (by have := this.2; omega)⟩
    · rw [e0, List.getElem?_map, hj]
      rfl
    · unfold pairL
      rw [eqv_pair]
      exact decide_eq_true (by simp only; omega)
    · intro m z' hm hz
      rw [e0, List.getElem?_map] at hz
      cases hq : roads[m]? with
      | none => rw [hq] at hz; cases hz
      | some r' =>
        rw [hq] at hz
        cases hz
        unfold pairL
        rw [eqv_pair]
        refine decide_eq_false fun ⟨c1, c2⟩ => ?_
        have := vn.uniq hq hj (by simp only at c1; omega) (by simp only at c2; omega)
        omega
def TKeys : Tr := fun rs M R => ∃ (n : Nat) (roads : List Road) (st : List Nat) (u v k : Nat), rs = [.dat (netD n roads), .dat (stD st), dI u, dI v] ∧ VNet n roads ∧ VSt roads st ∧ ((u, v), k) ∈ dirK roads st ∧ M = [] ∧ R (dI k) []
theorem ok_keys {f : Addr} {fd : FuncData} (CR : CalX P w K mg base 1 "road_at" TRoadAt) (F : Fun K "keys_in" "keys_in" sKeys f fd) : FnOk P w K mg base CX0 2 f fd ["net", "standing", "one", "other"] (spX TKeys) := by
  refine fn_okX F scKeys (fun rs M R h => ?_) (fun cdv A outer s H E rs M R hr h => ?_)
  · obtain ⟨n, roads, st, u, v, k, rfl, _⟩ := h
    rfl
  · obtain ⟨n, roads, st, u, v, k, rfl, vn, vs, hk, rfl, hR⟩ := h
    obtain ⟨j, r, a, hj, ha, h1, h2, h3, h4⟩ := road_of vn vs (dirK_dirs vn hk)
    have hka := dirK_uniq vn hk h4
    have hle := vs.le j r a hj ha
    refine pb_set 4 scKeys.nd (pd_call CR hr (pad_cons (pd_var 0) (pad_cons (pd_var 2) (pad_one (pd_var 3)))) ⟨n, roads, u, v, j, r, rfl, vn, hj, h1, h2, rfl, rfl, rfl⟩) ?_
    have hd : (roads.map roadD)[j]? = some (roadD r) := by rw [List.getElem?_map, hj]; rfl
    by_cases q : u < v
    · rw [if_pos q] at hka
      subst hka
      exact pb_retD (pd_ifT (PTD.is (ptd_cmp (pc_gt (pd_var 3) (pd_var 2))) (decide_eq_true (by omega))) (pd_ix (ds := natD st) (pd_var 1) (pd_var 4) .dat (atI_nat (natD_get ha)))) hR
    · rw [if_neg q] at hka
      subst hka
      refine pb_retD (pd_ifF (PTD.is (ptd_cmp (pc_gt (pd_var 3) (pd_var 2))) (decide_eq_false (by omega))) (PD.is (pd_sub (pd_ixT (ds := (roadL r).map PyData.int) (pd_ix (ds := roads.map roadD) (pd_ixT (ds := [PyData.int n, .list (roads.map roadD)]) (pd_var 0) pd_int (net_at1 n roads)) (pd_var 4) .dat (atI_nat hd)) pd_int (road_at2 r)) (pd_ix (ds := natD st) (pd_var 1) (pd_var 4) .dat (atI_nat (natD_get ha)))) ?_)) hR
      show dI _ = dI _
      congr 2
      omega
end
end KR

/-! KR, part P3: waits, behind, numbering, is_numbering. -/
namespace KR
open PySem PySem.Spec PyProof.Rows L2
abbrev sWaits : Stmt := topS 17
abbrev sBehind : Stmt := topS 18
abbrev sNum : Stmt := topS 19
abbrev sIsNum : Stmt := topS 20
abbrev nWaits : List Str := ["net", "standing", "item"]
abbrev nBehind : List Str := ["net", "standing", "house", "mate"]
abbrev nNum : List Str := ["net", "standing", "found", "left", "free", "house", "mate"]
abbrev nIsNum : List Str := ["net", "standing", "value", "item"]
theorem scWaits : FnScope nWaits ["net", "standing"] (defScope sWaits) := ⟨rfl, rfl, rfl, by decide +kernel, rfl, by decide +kernel, by decide +kernel⟩
theorem scBehind : FnScope nBehind ["net", "standing", "house"] (defScope sBehind) := ⟨rfl, rfl, rfl, by decide +kernel, rfl, by decide +kernel, by decide +kernel⟩
theorem scNum : FnScope nNum ["net", "standing"] (defScope sNum) := ⟨rfl, rfl, rfl, by decide +kernel, rfl, by decide +kernel, by decide +kernel⟩
theorem scIsNum : FnScope nIsNum ["net", "standing", "value"] (defScope sIsNum) := ⟨rfl, rfl, rfl, by decide +kernel, rfl, by decide +kernel, by decide +kernel⟩
/-- the keys ahead of a direction -/
theorem keyOf {n : Nat} {rs : List Road} {st : List Nat} (v : VNet n rs) (s : VSt rs st) {u w : Nat} (h : (u, w) ∈ dirs0 rs) : ∃ k : Nat, ((u, w), k) ∈ dirK rs st ∧ decide ((k : Int) = 0) = W rs st u w := by
  obtain ⟨j, r, a, _, _, _, _, _, h4⟩ := road_of v s h
  refine ⟨_, h4, ?_⟩
  unfold W
  rw [Bool.eq_iff_iff, decide_eq_true_eq, decide_eq_true_eq]
  constructor
  · intro e
    have e' : (if u < w then a else r.2.2 - a) = 0 := by exact_mod_cast e
    rw [e'] at h4
    exact h4
  · intro e
    have := dirK_uniq v h4 e
    rw [this]
    rfl
theorem pairsD_map (ps : List (Nat × Nat)) : pairsD ps = ps.map fun p => tupD (pairL p) := by unfold pairsD; rw [List.map_map]; rfl
theorem pairs_keep {t : Nat × Nat → Bool} : ∀ ps : List (Nat × Nat), ps.filterMap (fun p => if t p = true then some (tupD (pairL p)) else none) = pairsD (ps.filter t)
  | [] => rfl
  | p :: ps => by
    have ih := pairs_keep (t := t) ps
    rw [List.filterMap_cons, List.filter_cons]
    cases q : t p with
    | true => rw [if_pos rfl, if_pos rfl, ih]; rfl
    | false => rw [if_neg Bool.false_ne_true, if_neg Bool.false_ne_true, ih]
theorem pairL_at0 (p : Nat × Nat) : atI ((pairL p).map PyData.int) 0 = some (.int (p.1 : Int)) := rfl
theorem pairL_at1 (p : Nat × Nat) : atI ((pairL p).map PyData.int) 1 = some (.int (p.2 : Int)) := rfl
def waitsL (rs : List Road) (st : List Nat) : List (Nat × Nat) := (dirs rs).filter fun p => W rs st p.1 p.2
/-- a turn whose item is kept or not, no cell changed -/
theorem cturn_if {X : Cx} {scope : Scope} {tg elt : Expr} {ifs : List Expr} {Δ Δ2 : List SD} {vs : List Nat} {d f : PyData} {M : Ms} {b : Bool} (g : ∀ s H C cl fp, PGX (X.blk s H scope (compEnvC scope cl C X.env) fp) tg (.dat d) Δ Δ2 vs)
    (t : ∀ s H C cl fp, PTsX (X.blk s H scope (compEnvC scope cl C X.env) fp) ifs Δ2 M b M) (e : ∀ s H C cl fp, PD (X.blk s H scope (compEnvC scope cl C X.env) fp) elt Δ2 M (.dat f) M) : CTurn X scope tg ifs elt Δ vs d M (if b = true then some f else none) M := by
  refine ⟨Δ2, g, ?_⟩
  cases b with
  | true => exact .inl ⟨M, f, by rw [if_pos rfl], t, e⟩
  | false => exact .inr ⟨by rw [if_neg Bool.false_ne_true], t⟩
section
variable {P : Program} {w : World} {K : PySem.W.Frag} {mg : Str → Option Value} {base : Heap}
def TWaits : Tr := fun rs M R => ∃ (n : Nat) (roads : List Road) (st : List Nat), rs = [.dat (netD n roads), .dat (stD st)] ∧ VNet n roads ∧ VSt roads st ∧ M = [] ∧ R (.dat (.list (pairsD (waitsL roads st)))) []
theorem ok_waits {f : Addr} {fd : FuncData} (CD : CalX P w K mg base 1 "directions_of" TDir) (CK : CalX P w K mg base 2 "keys_in" TKeys) (F : Fun K "waits" "waits" sWaits f fd) : FnOk P w K mg base CX0 3 f fd ["net", "standing"] (spX TWaits) := by
  refine fn_okX F scWaits (fun rs M R h => ?_) (fun cdv A outer s H E rs M R hr h => ?_)
  · obtain ⟨n, roads, st, rfl, _⟩ := h
    rfl
  · obtain ⟨n, roads, st, rfl, vn, vs, rfl, hR⟩ := h
    have hlen := vn.len
    have hdl := dirs_len roads
    refine pb_retD (PL.pd (PL.is (pl_compP (dirs roads) (fun p => tupD (pairL p)) (fun p => if W roads st p.1 p.2 = true then some (tupD (pairL p)) else none) rfl scWaits.nd
      (pix_list (PD.is (pd_call CD (hr.mono (by decide)) (pad_one (pd_var 0)) ⟨n, roads, rfl, vn, rfl, rfl, rfl⟩) (by rw [pairsD_map])))
      (blkOk_by (N := nWaits) (sc := defScope sWaits) (own := [("item", 2)]) (by decide +kernel)) (sz_le (by omega)) trivial fun p hp => ?_) (pairs_keep (t := fun p => W roads st p.1 p.2) _))) hR
    obtain ⟨k, hk, e⟩ := keyOf vn vs (u := p.1) (w := p.2) (mem_dirs.mp hp)
    exact cturn_if (fun s H C cl fp => pgx_name 2 scWaits.nd) (fun s H C cl fp => ptx_one (PTD.is (ptd_cmp (pc_eqI (pd_call CK hr (pad_cons (pd_var 0) (pad_cons (pd_var 1) (pad_cons (pd_ixT (ds := (pairL p).map PyData.int) (pd_var 2) pd_int (pairL_at0 p)) (pad_one (pd_ixT (ds := (pairL p).map PyData.int) (pd_var 2) pd_int (pairL_at1 p))))))
      ⟨n, roads, st, p.1, p.2, k, rfl, vn, vs, hk, rfl, rfl, rfl⟩) pd_int)) e)) fun s H C cl fp => pd_var 2

def behindL (rs : List Road) (st : List Nat) (h : Nat) : List Nat := (nbr rs h).filter fun m => W rs st h m
theorem keep_map {t : Nat → Bool} (ks : List Nat) : ks.filterMap (fun k => if t k = true then some (PyData.int (k : Int)) else none) = natD (ks.filter t) := by
  induction ks with
  | nil => rfl
  | cons k ks ih =>
    rw [List.filterMap_cons, List.filter_cons]
    cases q : t k with
    | true => rw [if_pos rfl, if_pos rfl, ih]; rfl
    | false => rw [if_neg Bool.false_ne_true, if_neg Bool.false_ne_true, ih]
theorem natD_map (ks : List Nat) : natD ks = ks.map fun (k : Nat) => PyData.int (k : Int) := by unfold natD castL; rw [List.map_map]; rfl
theorem nbr_len (rs : List Road) (h : Nat) : (nbr rs h).length ≤ 2 * rs.length := by
  have := (List.mergeSort_perm (nbr0 rs h) (fun a b => decide (a ≤ b))).length_eq
  unfold nbr
  rw [this]
  unfold nbr0
  rw [List.length_append]
  have l1 := filterMap_len (fun r : Road => if r.2.1 = h then some r.1 else none) rs
  have l2 := filterMap_len (fun r : Road => if r.1 = h then some r.2.1 else none) rs
  omega
def TBehind : Tr := fun rs M R => ∃ (n : Nat) (roads : List Road) (st : List Nat) (h : Nat), rs = [.dat (netD n roads), .dat (stD st), dI h] ∧ VNet n roads ∧ VSt roads st ∧ M = [] ∧ R (.dat (.list (natD (behindL roads st h)))) []
theorem ok_behind {f : Addr} {fd : FuncData} (CN : CalX P w K mg base 1 "neighbours_of" TNbr) (CK : CalX P w K mg base 2 "keys_in" TKeys) (F : Fun K "behind" "behind" sBehind f fd) : FnOk P w K mg base CX0 3 f fd ["net", "standing", "house"] (spX TBehind) := by
  refine fn_okX F scBehind (fun rs M R h => ?_) (fun cdv A outer s H E rs M R hr h => ?_)
  · obtain ⟨n, roads, st, h, rfl, _⟩ := h
    rfl
  · obtain ⟨n, roads, st, h, rfl, vn, vs, rfl, hR⟩ := h
    have hlen := vn.len
    have hdl := nbr_len roads h
    refine pb_retD (PL.pd (PL.is (pl_compP (nbr roads h) (fun (m : Nat) => .int (m : Int)) (fun (m : Nat) => if W roads st h m = true then some (PyData.int (m : Int)) else none) rfl scBehind.nd
      (pix_list (PD.is (pd_call CN (hr.mono (by decide)) (pad_cons (pd_var 0) (pad_one (pd_var 2))) ⟨n, roads, h, rfl, vn, rfl, rfl, rfl⟩) (by rw [natD_map])))
      (blkOk_by (N := nBehind) (sc := defScope sBehind) (own := [("mate", 3)]) (by decide +kernel)) (sz_le (by omega)) trivial fun m hm => ?_) (keep_map (t := fun m => W roads st h m) _))) hR
    obtain ⟨k, hk, e⟩ := keyOf vn vs (mem_nbr.mp hm)
    exact cturn_if (fun s H C cl fp => pgx_name 3 scBehind.nd) (fun s H C cl fp => ptx_one (PTD.is (ptd_cmp (pc_eqI (pd_call CK hr (pad_cons (pd_var 0) (pad_cons (pd_var 1) (pad_cons (pd_var 2) (pad_one (pd_var 3)))))
      ⟨n, roads, st, h, m, k, rfl, vn, vs, hk, rfl, rfl, rfl⟩) pd_int)) e)) fun s H C cl fp => pd_var 3

/-! ### the numbering -/
theorem inner_empty {rs : List Road} {st left : List Nat} {n : Nat} (v : VNet n rs) (h : Nat) : ((behindL rs st h).filter fun m => decide (m ∈ left)).isEmpty = left.all fun m => !W rs st h m := by
  rw [Bool.eq_iff_iff, List.isEmpty_iff, List.all_eq_true, List.filter_eq_nil_iff]
  constructor
  · intro q m hm
    cases r : W rs st h m with
    | false => rfl
    | true =>
      have h1 : m ∈ behindL rs st h := List.mem_filter.mpr ⟨mem_nbr.mpr (dirK_dirs v (of_decide_eq_true r)), r⟩
      exact absurd (decide_eq_true hm) (q m h1)
  · intro q m hm z
    have h1 := (List.mem_filter.mp hm).2
    have h2 := q m (of_decide_eq_true z)
    rw [h1] at h2
    cases h2
theorem natD_empty (ks : List Nat) : (natD ks).isEmpty = ks.isEmpty := by cases ks <;> rfl
theorem at_last {l : List Nat} {h : Nat} (e : l.getLast? = some h) : atI (natD l) (-1) = some (.int (h : Int)) := by
  obtain ⟨ys, rfl⟩ := List.getLast?_eq_some_iff.mp e
  have len : (natD (ys ++ [h])).length = ys.length + 1 := by rw [natD_len, List.length_append]; rfl
  have e1 : ixN (natD (ys ++ [h])).length (-1) = some ys.length := by
    unfold ixN
    rw [len, if_neg (by omega), if_pos (by omega)]
    congr 1
    omega
  unfold atI
  rw [e1]
  show (natD (ys ++ [h]))[ys.length]? = _
  exact natD_get (by simp)
theorem first_at : ∀ {l : List Nat} {h : Nat}, h ∈ l → ∃ j : Nat, l[j]? = some h ∧ (∀ m : Nat, m < j → l[m]? ≠ some h) ∧ l.eraseIdx j = l.erase h
  | x :: l, h, hm => by
    by_cases q : x = h
    · subst q
      exact ⟨0, rfl, fun m hm => absurd hm (Nat.not_lt_zero _), by simp⟩
    · have hm' : h ∈ l := by
        rcases List.mem_cons.mp hm with e | e
        · exact absurd e.symm q
        · exact e
      obtain ⟨j, h1, h2, h3⟩ := first_at hm'
      refine ⟨j + 1, by simpa using h1, fun m hm => ?_, ?_⟩
      · cases m with
        | zero => simpa using q
        | succ m => simpa using h2 m (by omega)
      · rw [List.eraseIdx_cons_succ, h3, List.erase_cons_tail (by simpa using q)]
theorem castL_erase (l : List Nat) (j : Nat) : (castL l).eraseIdx j = castL (l.eraseIdx j) := by
  unfold castL
  induction l generalizing j with
  | nil => rfl
  | cons x l ih =>
    cases j with
    | zero => rfl
    | succ j => rw [List.map_cons, List.eraseIdx_cons_succ, List.eraseIdx_cons_succ, ih]; rfl
theorem natD_set (l : List Nat) (i k : Nat) : (natD l).set i (.int (k : Int)) = natD (l.set i k) := by rw [natD_map, natD_map, List.map_set]
theorem okAll_nat (ks : List Nat) : okAll (natD ks) := okAll_ints _
theorem rgD_nat (n : Nat) : rgD 0 ((n : Nat) : Int).toNat = natD (List.range n) := by
  rw [natD_map]
  unfold rgD
  rw [Int.toNat_natCast]
  apply List.map_congr_left
  intro i _
  rw [Int.zero_add]
theorem rep_nat (n : Nat) : (List.replicate ((n : Nat) : Int).toNat [PyData.int 0]).flatten = natD (List.replicate n 0) := by
  rw [Int.toNat_natCast, natD_map, List.map_replicate]
  induction n with
  | zero => rfl
  | succ n ih => rw [List.replicate_succ, List.flatten_cons, ih, List.replicate_succ]; rfl
theorem mem_castL (m : Nat) (l : List Nat) : decide ((m : Int) ∈ castL l) = decide (m ∈ l) := by
  unfold castL
  rw [Bool.eq_iff_iff, decide_eq_true_eq, decide_eq_true_eq, List.mem_map]
  constructor
  · rintro ⟨a, h1, h2⟩
    have : a = m := by omega
    exact this ▸ h1
  · exact fun h => ⟨m, h, rfl⟩
def RNum : Option (List Nat) → SD → Ms → Prop
  | none, r, M' => r = .dat .none ∧ ∃ p q ds fs, M' = [(p, MD.ld ds), (q, MD.ld fs)]
  | some ks, r, M' => ∃ p q fs, r = .val (.ref p) ∧ M' = [(p, MD.ld (natD ks)), (q, MD.ld fs)]
def TNum : Tr := fun rs M R => ∃ (n : Nat) (roads : List Road) (st : List Nat), rs = [.dat (netD n roads), .dat (stD st)] ∧ VNet n roads ∧ VSt roads st ∧ M = [] ∧ ∀ r M', RNum (numF (W roads st) n) r M' → R r M'
def ivNum (n : Nat) (roads : List Road) (st : List Nat) (m : Nat) (Δ : List SD) (M : Ms) : Prop := ∃ found left fr p q, NInv n (W roads st) m found left ∧ numLoop (W roads st) m found left = numF (W roads st) n ∧
  Δ = [.dat (netD n roads), .dat (stD st), .val (.ref p), .val (.ref q), fr, .nil, .nil] ∧ M = [(p, MD.ld (natD found)), (q, MD.ld (natD left))]
theorem ok_num {f : Addr} {fd : FuncData} (bl : Bl mg) (CC : CalX P w K mg base 6 "check_standing" TCheckSt) (CB : CalX P w K mg base 3 "behind" TBehind) (F : Fun K "numbering" "numbering" sNum f fd) : FnOk P w K mg base CX0 7 f fd ["net", "standing"] (spX TNum) := by
  refine fn_okX F scNum (fun rs M R h => ?_) (fun cdv A outer s H E rs M R hr h => ?_)
  · obtain ⟨n, roads, st, rfl, _⟩ := h
    rfl
  · obtain ⟨n, roads, st, rfl, vn, vs, rfl, hR⟩ := h
    have hlen := vn.len
    have hn := vn.n2
    refine pb_expr (pd_call CC hr (pad_cons (pd_var 0) (pad_one (pd_var 1))) ⟨n, roads, st, rfl, vn, vs, rfl, rfl, rfl⟩) ?_
    refine pb_cons (Nx1 := ivNum n roads st n) (psx_tupAsg (R := fun rs M' => ∃ p q, rs = [.val (.ref p), .val (.ref q)] ∧ M' = [(p, MD.ld (natD (List.replicate n 0))), (q, MD.ld (natD (List.range n)))]) rfl
      (pax_cons (PL.cell (PL.is (pl_rep (ds := [PyData.int 0]) (pl_lst (ds := [PyData.int 0]) (pad_one pd_int) (by decide)).pd (pd_ixT (ds := [PyData.int n, .list (roads.map roadD)]) (pd_var 0) pd_int (net_at0 n roads)) .dat (by omega) (by rw [Int.toNat_natCast]; exact sz_le (by simp; omega))) (rep_nat n)))
        fun r M1 ⟨p, e1, e2⟩ => pax_one (PL.cell (PL.is (pl_listRg rfl bl.list bl.range (pd_ixT (ds := [PyData.int n, .list (roads.map roadD)]) (pd_var 0) pd_int (net_at0 n roads)) (by omega)) (rgD_nat n)))
          fun r2 M2 ⟨q, e3, e4⟩ => ⟨p, q, by rw [e1, e3], by rw [e4, e2]; rfl⟩) (by decide) (fun rs M' ⟨p, q, e, _⟩ => by rw [e]; rfl) fun rs M' ⟨p, q, e, e'⟩ => ?_) fun Δ' M' hI => ?_
    · subst e
      exact ⟨_, [2, 3], pgxs_cons (pgx_name 2 scNum.nd) (pgxs_cons (pgx_name 3 scNum.nd) pgxs_nil), _, _, .nil, p, q, NInv.start, rfl, rfl, e'⟩
    refine pb_cons (Nx1 := ivNum n roads st 0) (psx_while (ivNum n roads st) n PassesOwn.never hI fun m Δ2 M2 h => ?_) fun Δ2 M2 h => ?_
    · obtain ⟨found, left, fr, p, q, I, hL, rfl, rfl⟩ := h
      refine ⟨!left.isEmpty, PTD.is (ptd_cmp (pc_neNil (ds := natD left) hr.units (pd_var 3) (.cell (by simp)) (okAll_nat _))) (by rw [natD_empty]), fun hb => ?_, fun hb => ?_⟩
      · have hne : left ≠ [] := by simpa using hb
        cases m with
        | zero => exact absurd (List.eq_nil_of_length_eq_zero I.len) hne
        | succ m =>
        have hll : left.length ≤ 60 := by
          have := pigeon n left I.nodup I.sub
          omega
        refine pb_setLcP (i := 4) left (fun (h : Nat) => .int (h : Int)) (fun h => if (left.all fun m => !W roads st h m) = true then some (PyData.int (h : Int)) else none) rfl scNum.nd
          (natD_map left ▸ pix_cell (p := q) (ds := natD left) (pd_var 3) (by simp)) (blkOk_by (N := nNum) (sc := defScope sNum) (own := [("house", 5)]) (by decide +kernel)) (sz_le (by omega)) (by rw [← natD_map]; simp) (fun h hh => ?_) (sw_true rfl rfl rfl (by decide +kernel)) ?_
        · exact cturn_if (fun s H C cl fp => pgx_name 5 scNum.nd) (fun s H C cl fp => ptx_one (PTD.is (ptd_cmp (pc_eqNil hr.units (pl_compP (behindL roads st h) (fun (m : Nat) => .int (m : Int)) (fun m => if decide (m ∈ left) = true then some (PyData.int (m : Int)) else none) rfl scNum.nd
            (pix_list (PD.is (pd_call CB (hr.mono (by decide)) (pad_cons (pd_var 0) (pad_cons (pd_var 1) (pad_one (pd_var 5)))) ⟨n, roads, st, h, rfl, vn, vs, rfl, rfl, rfl⟩) (by rw [natD_map])))
            (blkOk_by (N := nNum) (own := [("mate", 6)]) rfl) (sz_le (by have := List.length_filter_le (fun m => W roads st h m) (nbr roads h); have := nbr_len roads h; unfold behindL; omega)) trivial fun m hm =>
              cturn_if (fun s H C cl fp => pgx_name 6 scNum.nd) (fun s H C cl fp => ptx_one (PTD.is (ptd_cmp (pc_inI (ns := castL left) (pd_var 6) (pd_var 3) (.cell (by simp [natD])))) (mem_castL _ _))) fun s H C cl fp => pd_var 6).pd .dat (by rw [keep_map]; exact okAll_nat _)))
            (by rw [keep_map, natD_empty, inner_empty vn]))) fun s H C cl fp => pd_var 5
        · rw [keep_map]
          show PBX _ _ [.dat (netD n roads), .dat (stD st), .val (.ref p), .val (.ref q), .dat (.list (natD (freeOf (W roads st) left))), .nil, .nil] _ _ _
          refine pb_if (PTD.is (ptd_cmp (pc_eqNil (ds := natD (freeOf (W roads st) left)) hr.units (pd_var 4) .dat (okAll_nat _))) (natD_empty _)) (fun hb => ?_) (fun hb => ?_)
          · have hf : freeOf (W roads st) left = [] := by simpa using hb
            refine pb_retD pd_non (hR _ _ ?_)
            have : numF (W roads st) n = none := by
              rw [← hL]
              unfold numLoop
              rw [hf]
              rfl
            rw [this]
            exact ⟨rfl, p, q, _, _, rfl⟩
          · have hf : freeOf (W roads st) left ≠ [] := by simpa using hb
            obtain ⟨h, hh⟩ : ∃ h, (freeOf (W roads st) left).getLast? = some h := ⟨_, List.getLast?_eq_some_getLast hf⟩
            have hmem : h ∈ freeOf (W roads st) left := List.mem_of_getLast? hh
            have hin := (mem_free.mp hmem).1
            have hlt := I.sub h hin
            obtain ⟨j, hj1, hj2, hj3⟩ := first_at hin
            refine pb_cons1 (psx_setIx (ds := natD found) 0 (PD.is (pd_sub (pd_len (ds := natD left) bl.len (pd_var 3) (.cell (by simp))) pd_int) (show _ = dI (m : Nat) from ?_)) (pd_var 2) (pd_ix (ds := natD (freeOf (W roads st) left)) (pd_var 4) (pd_neg pd_int) .dat (at_last hh)) rfl (by rw [natD_len, I.flen]; exact hlt) ⟨rfl, rfl⟩) ?_
            · rw [natD_len, I.len]
              show dI _ = dI _
              congr 2
              omega
            refine pb_one (psx_expr (PD.px (R := fun r M' => M' = _) (pd_remove (ns := castL left) (j := j) 1 (pd_var 3) (pd_ix (ds := natD (freeOf (W roads st) left)) (pd_var 4) (pd_neg pd_int) .dat (at_last hh)) ⟨natD left, by simp⟩ rfl (castL_get hj1) (fun k hk => ?_)) rfl) fun r M' e => ?_)
            · intro z
              unfold castL at z
              rw [List.getElem?_map] at z
              cases y : left[k]? with
              | none => rw [y] at z; cases z
              | some x =>
                rw [y] at z
                have z' : (x : Int) = h := by simpa using z
                have : x = h := by omega
                exact hj2 k hk (by rw [y, this])
            · subst e
              refine ⟨m, Nat.lt_succ_self m, found.set h m, left.erase h, _, p, q, I.step hmem, ?_, rfl, ?_⟩
              · rw [← hL]
                conv => rhs; unfold numLoop
                rw [hh]
              · rw [castL_erase, hj3]
                show [(p, MD.ld _), (q, MD.ld _)] = _
                rw [natD_set]
                rfl
      · have hl : left = [] := by simpa using hb
        have hm : m = 0 := by rw [← I.len, hl]; rfl
        subst hm
        exact ⟨found, left, fr, p, q, I, hL, rfl, rfl⟩
    · obtain ⟨found, left, fr, p, q, I, hL, rfl, rfl⟩ := h
      refine pb_retD (pd_var 2) (hR _ _ ?_)
      have : numF (W roads st) n = some found := hL.symm
      rw [this]
      exact ⟨p, q, _, rfl, rfl⟩

/-! ### is_numbering -/
def natOf : PyData → Option Nat
  | .int (.ofNat k) => some k
  | _ => none
def natsOf : List PyData → Option (List Nat)
  | [] => some []
  | d :: ds => match natOf d, natsOf ds with
    | some k, some ks => some (k :: ks)
    | _, _ => none
theorem natOf_some : ∀ {d : PyData} {k : Nat}, natOf d = some k → d = .int (k : Int)
  | .int (.ofNat k), _, h => by cases h; rfl
theorem natOf_betw : ∀ d : PyData, betw d (some 0) none = (natOf d).isSome
  | .int (.ofNat k) => by
    show (decide ((0 : Int) ≤ Int.ofNat k) && true) = true
    rw [Bool.and_true, decide_eq_true_eq]
    exact Int.natCast_nonneg k
  | .int (.negSucc k) => by
    show (decide ((0 : Int) ≤ Int.negSucc k) && true) = false
    rw [Bool.and_true, decide_eq_false_iff_not]
    have := Int.negSucc_lt_zero k
    omega
  | .none => rfl
  | .bool _ => rfl
  | .str _ => rfl
  | .list _ => rfl
  | .tuple _ => rfl
  | .dict _ => rfl
theorem natsOf_some : ∀ {ds : List PyData} {ks : List Nat}, natsOf ds = some ks → ds = natD ks
  | [], ks, h => by cases h; rfl
  | d :: ds, ks, h => by
    unfold natsOf at h
    split at h
    · rename_i k ks' e1 e2
      cases h
      rw [natOf_some e1, natsOf_some e2]
      rfl
    · cases h
theorem natsOf_empty : ∀ ds : List PyData, (ds.filterMap fun d => if (!betw d (some 0) none) = true then some d else none).isEmpty = (natsOf ds).isSome
  | [] => rfl
  | d :: ds => by
    have ih := natsOf_empty ds
    rw [List.filterMap_cons]
    unfold natsOf
    rw [natOf_betw] at *
    cases h1 : natOf d with
    | none => rfl
    | some k =>
      show (ds.filterMap _).isEmpty = _
      rw [ih]
      cases natsOf ds <;> rfl
theorem natsOf_natD (ks : List Nat) : natsOf (natD ks) = some ks := by
  induction ks with
  | nil => rfl
  | cons k ks ih =>
    show (match natOf (.int (k : Int)), natsOf (natD ks) with | some k, some ks => some (k :: ks) | _, _ => none) = _
    rw [ih]
    rfl
def sortN (ks : List Nat) : List Nat := ks.mergeSort fun a b => decide (a ≤ b)
/-- the answer of is_numbering -/
def fitsL (rs : List Road) (st : List Nat) (ks : List Nat) : Bool := (waitsL rs st).all fun p => decide (ks.getD p.1 0 < ks.getD p.2 0)
def isNumO (n : Nat) (rs : List Road) (st : List Nat) : Option (List Nat) → Bool
  | some ks => decide (sortN ks = List.range n) && fitsL rs st ks
  | none => false
def isNum (n : Nat) (rs : List Road) (st : List Nat) : PyData → Bool
  | .list ds => isNumO n rs st (natsOf ds)
  | _ => false
theorem isi_list : ∀ d : PyData, isiD "list" d = match d with | .list _ => true | _ => false
  | .none => by show (kitB "NoneType" "list").getD false = false; decide +kernel
  | .bool _ => by show (kitB "bool" "list").getD false = false; decide +kernel
  | .int _ => by show (kitB "int" "list").getD false = false; decide +kernel
  | .str _ => by show (kitB "str" "list").getD false = false; decide +kernel
  | .list _ => by show (kitB "list" "list").getD false = true; decide +kernel
  | .tuple _ => by show (kitB "tuple" "list").getD false = false; decide +kernel
  | .dict _ => by show (kitB "dict" "list").getD false = false; decide +kernel
theorem eqv_ints : ∀ a b : List Nat, PyData.eqv (.list (natD a)) (.list (natD b)) = decide (a = b)
  | [], [] => by simp [natD, castL, PyData.eqv, PyData.eqvAll]
  | [], y :: b => by simp [natD, castL, PyData.eqv, PyData.eqvAll]
  | x :: a, [] => by simp [natD, castL, PyData.eqv, PyData.eqvAll]
  | x :: a, y :: b => by
    have ih := eqv_ints a b
    have ih' : PyData.eqvAll (natD a) (natD b) = decide (a = b) := by rw [← ih]; simp only [PyData.eqv]
    show PyData.eqv (.list (.int (x : Int) :: natD a)) (.list (.int (y : Int) :: natD b)) = _
    simp only [PyData.eqv, PyData.eqvAll, ih']
    by_cases h : x = y
    · subst h; simp
    · have h' : ¬ (x : Int) = y := by omega
      simp [h, h']
theorem mem_filterMap_if {f : PyData} {ds : List PyData} {t : PyData → Bool} (h : f ∈ ds.filterMap fun d => if t d = true then some d else none) : f ∈ ds := by
  obtain ⟨d, h1, h2⟩ := List.mem_filterMap.mp h
  split at h2
  · cases h2; exact h1
  · cases h2
theorem pairsD_empty (ps : List (Nat × Nat)) : (pairsD ps).isEmpty = ps.isEmpty := by cases ps <;> rfl
theorem okAll_pairs (ps : List (Nat × Nat)) : okAll (pairsD ps) := okAll_tups _
theorem all_filter {α : Type} (t : α → Bool) (l : List α) : (l.filter fun x => !t x).isEmpty = l.all t := by
  induction l with
  | nil => rfl
  | cons a l ih =>
    rw [List.filter_cons, List.all_cons]
    cases t a with
    | true => simpa using ih
    | false => rfl
theorem range_get {ks : List Nat} {n i : Nat} (h : sortN ks = List.range n) (hi : i < n) : ks[i]? = some (ks.getD i 0) := by
  have hl : ks.length = n := by
    have := (List.mergeSort_perm ks (fun a b => decide (a ≤ b))).length_eq
    unfold sortN at h
    rw [h, List.length_range] at this
    exact this.symm
  rw [List.getD_eq_getElem?_getD, List.getElem?_eq_getElem (by omega)]
  rfl
def TIsNum : Tr := fun rs M R => ∃ (n : Nat) (roads : List Road) (st : List Nat) (d : PyData), rs = [.dat (netD n roads), .dat (stD st), .dat d] ∧ VNet n roads ∧ VSt roads st ∧ (∀ ds, d = .list ds → okAll ds ∧ ds.length ≤ 1000) ∧ M = [] ∧ R (dB (isNum n roads st d)) []
theorem ok_isNum {f : Addr} {fd : FuncData} (bl : Bl mg) (CC : CalX P w K mg base 6 "check_standing" TCheckSt) (CB : CalX P w K mg base 2 "is_between" TBetween) (CW : CalX P w K mg base 3 "waits" TWaits) (F : Fun K "is_numbering" "is_numbering" sIsNum f fd) : FnOk P w K mg base CX0 7 f fd ["net", "standing", "value"] (spX TIsNum) := by
  refine fn_okX F scIsNum (fun rs M R h => ?_) (fun cdv A outer s H E rs M R hr h => ?_)
  · obtain ⟨n, roads, st, d, rfl, _⟩ := h
    rfl
  · obtain ⟨n, roads, st, d, rfl, vn, vs, hd, rfl, hR⟩ := h
    have hlen := vn.len
    have hn := vn.n2
    refine pb_expr (pd_call CC hr (pad_cons (pd_var 0) (pad_one (pd_var 1))) ⟨n, roads, st, rfl, vn, vs, rfl, rfl, rfl⟩) ?_
    by_cases hl : isiD "list" d = true
    · obtain ⟨ds, rfl⟩ : ∃ ds, d = .list ds := by
        rw [isi_list] at hl
        split at hl
        · exact ⟨_, rfl⟩
        · cases hl
      obtain ⟨hok, hz⟩ := hd ds rfl
      refine pb_if (t := !(natsOf ds).isSome) (PWD.pt (pwd_orF (PTD.is (ptd_not (ptd_val (pd_isi bl.isinstance (pad_cons (pd_var 2) (pad_one (pd_blt bl.list b_list)))))) (by rw [hl]; rfl))
        (pwd_or1 (PTD.is (ptd_cmp (pc_neNil hr.units (PL.pd (pl_compP ds (fun d => d) (fun d => if (!betw d (some 0) none) = true then some d else none) rfl scIsNum.nd
          (pix_list (ds := ds.map fun d => d) (PD.is (pd_var 2) (by rw [List.map_id'])))
          (blkOk_by (N := nIsNum) (sc := defScope sIsNum) (own := [("item", 3)]) (by decide +kernel)) (sz_le (by omega)) trivial fun d hd =>
            cturn_if (fun s H C cl fp => pgx_name 3 scIsNum.nd) (fun s H C cl fp => ptx_one (ptd_not (ptd_val (pd_call CB (hr.mono (by decide)) (pad_cons (pd_var 3) (pad_cons pd_int (pad_one pd_non))) ⟨d, some 0, none, rfl, rfl, rfl, rfl⟩)))) fun s H C cl fp => pd_var 3))
          .dat (fun f hf => hok f (mem_filterMap_if hf)))) (by rw [natsOf_empty]))))) (fun hb => pb_retD pd_bl ?_) (fun hb => ?_)
      · have : isNum n roads st (.list ds) = false := by
          show isNumO n roads st (natsOf ds) = false
          cases q : natsOf ds with
          | none => rfl
          | some ks => rw [q] at hb; cases hb
        rw [this] at hR
        exact hR
      · obtain ⟨ks, hks⟩ : ∃ ks, natsOf ds = some ks := by
          cases q : natsOf ds with
          | none => rw [q] at hb; cases hb
          | some ks => exact ⟨ks, rfl⟩
        have hds := natsOf_some hks
        subst hds
        refine pb_if (PTD.is (ptd_cmp (pc_neL (ds := natD (sortN ks)) (fs := natD (List.range n)) hr.units (PL.pd (pl_sortI (ns := castL ks) (ms := castL (sortN ks)) bl.sorted (pd_var 2) .dat fun ns hp hs => sort_nat hp hs))
          (PL.pd (PL.is (pl_listRg rfl bl.list bl.range (pd_ixT (ds := [PyData.int n, .list (roads.map roadD)]) (pd_var 0) pd_int (net_at0 n roads)) (by omega)) (rgD_nat n))) .dat .dat (okAll_nat _) (okAll_nat _))) (by rw [eqv_ints])) (fun hb => pb_retD pd_bl ?_) (fun hb => ?_)
        · have hne : decide (sortN ks = List.range n) = false := by simpa using hb
          have : isNum n roads st (.list (natD ks)) = false := by
            show isNumO n roads st (natsOf (natD ks)) = _
            rw [hks]
            show (decide (sortN ks = List.range n) && _) = false
            rw [hne]
            rfl
          rw [this] at hR
          exact hR
        · have he : sortN ks = List.range n := by simpa using hb
          have : isNum n roads st (.list (natD ks)) = fitsL roads st ks := by
            show isNumO n roads st (natsOf (natD ks)) = _
            rw [hks]
            show (decide (sortN ks = List.range n) && _) = _
            rw [decide_eq_true he]
            rfl
          rw [this] at hR
          have hwl : (waitsL roads st).length ≤ 60 := by
            have := List.length_filter_le (fun p : Nat × Nat => W roads st p.1 p.2) (dirs roads)
            have := dirs_len roads
            unfold waitsL
            omega
          refine pb_retD (PD.is (pd_cmp (pc_eqNil hr.units (PL.pd (PL.is (pl_compP (waitsL roads st) (fun p => tupD (pairL p)) (fun p => if (!decide (ks.getD p.1 0 < ks.getD p.2 0)) = true then some (tupD (pairL p)) else none) rfl scIsNum.nd
            (pix_list (PD.is (pd_call CW (hr.mono (by decide)) (pad_cons (pd_var 0) (pad_one (pd_var 1))) ⟨n, roads, st, rfl, vn, vs, rfl, rfl, rfl⟩) (by rw [pairsD_map])))
            (blkOk_by (N := nIsNum) (sc := defScope sIsNum) (own := [("item", 3)]) (by decide +kernel)) (sz_le (by omega)) trivial fun p hp => ?_) (pairs_keep (t := fun p => !decide (ks.getD p.1 0 < ks.getD p.2 0)) _))) .dat (okAll_pairs _))) (by rw [pairsD_empty, all_filter]; rfl)) hR
          have hw := W_lt vn (List.mem_filter.mp hp).2
          refine cturn_if (fun s H C cl fp => pgx_name 3 scIsNum.nd) (fun s H C cl fp => ptx_one (PTD.is (ptd_cmp (pc_ge
            (pd_ix (ds := natD ks) (pd_var 2) (pd_ixT (ds := (pairL p).map PyData.int) (pd_var 3) pd_int (pairL_at0 p)) .dat (atI_nat (natD_get (range_get he hw.1))))
            (pd_ix (ds := natD ks) (pd_var 2) (pd_ixT (ds := (pairL p).map PyData.int) (pd_var 3) pd_int (pairL_at1 p)) .dat (atI_nat (natD_get (range_get he hw.2.1)))))) ?_)) fun s H C cl fp => pd_var 3
          rw [Bool.eq_iff_iff]
          simp
    · have hl' : isiD "list" d = false := by simpa using hl
      have : isNum n roads st d = false := by
        rw [isi_list] at hl'
        unfold isNum
        split
        · cases hl'
        · rfl
      rw [this] at hR
      exact pb_if (t := true) (PWD.pt (pwd_orT (PTD.is (ptd_not (ptd_val (pd_isi bl.isinstance (pad_cons (pd_var 2) (pad_one (pd_blt bl.list b_list)))))) (by rw [hl']; rfl)))) (fun hb => pb_retD pd_bl hR) (fun h => nomatch h)
end
end KR

/-! KR, part P4: the law's draws. -/
namespace KR
open PySem PySem.Spec PyProof.Rows L2
abbrev sHash : Stmt := topS 22
abbrev sRandom : Stmt := topS 23
abbrev sCell : Stmt := topS 24
abbrev sGen : Stmt := topS 25
abbrev nHash : List Str := ["_law_seed", "_law_index", "_law_mixed"]
abbrev nRandom : List Str := ["_law_generator_here", "_law_bound", "_law_drawn", "_law_turn"]
abbrev nCell : List Str := ["_law_script", "_law_index"]
abbrev nGen : List Str := ["_law_script", "_law_index", "_law_seed"]
theorem scHash : FnScope nHash ["_law_seed", "_law_index"] (defScope sHash) := ⟨rfl, rfl, rfl, by decide +kernel, rfl, by decide +kernel, by decide +kernel⟩
theorem scRandom : FnScope nRandom ["_law_generator_here", "_law_bound"] (defScope sRandom) := ⟨rfl, rfl, rfl, by decide +kernel, rfl, by decide +kernel, by decide +kernel⟩
theorem scCell : FnScope nCell ["_law_script", "_law_index"] (defScope sCell) := ⟨rfl, rfl, rfl, by decide +kernel, rfl, by decide +kernel, by decide +kernel⟩
theorem scGen : FnScope nGen ["_law_script", "_law_index"] (defScope sGen) := ⟨rfl, rfl, rfl, by decide +kernel, rfl, by decide +kernel, by decide +kernel⟩
/-! ### plain -/
def hash1 (s i : Nat) : Nat := (s * 1140671 + 27644437 * i * i + 131 * i + 19) % 2147483629
def hash2 (s i : Nat) : Nat := (hash1 s i * hash1 s i + 62089 * i + 32416187) % 2147483587
def hashN (s i : Nat) : Nat := hash2 s i * 48271 % 2147483647
theorem cast1 (s i a b c d m : Nat) : (((s * a + b * i * i + c * i + d) % m : Nat) : Int) = ((s : Int) * a + (b : Int) * i * i + (c : Int) * i + d) % m := by
  push_cast
  rfl
theorem cast2 (h i b d m : Nat) : (((h * h + b * i + d) % m : Nat) : Int) = ((h : Int) * h + (b : Int) * i + d) % m := by
  push_cast
  rfl
theorem cast3 (h b m : Nat) : ((h * b % m : Nat) : Int) = (h : Int) * b % m := by
  push_cast
  rfl
structure Gen where
  a : Nat
  s : Nat
  c : Nat
def rnd (G : Gen) (b : Nat) : Nat := if 0 < G.a then G.a % b else hashN G.s (G.c + 1) % b
def nxt (G : Gen) (b : Nat) : Gen := if 0 < G.a then ⟨G.a / b, G.s, G.c⟩ else ⟨G.a, G.s, G.c + 1⟩
structure GOk (k : Nat) (G : Gen) : Prop where
  s : G.s < 2147483647
  c : G.c ≤ k
  k : k < 1000000
theorem rnd_lt (G : Gen) {b : Nat} (h : 0 < b) : rnd G b < b := by
  unfold rnd
  split
  · exact Nat.mod_lt _ h
  · exact Nat.mod_lt _ h
theorem nxt_ok {k : Nat} {G : Gen} (h : GOk k G) (b : Nat) (hk : k + 1 < 1000000) : GOk (k + 1) (nxt G b) := by
  unfold nxt
  have := h.s
  have := h.c
  split
  · exact ⟨h.s, by show G.c ≤ k + 1; omega, hk⟩
  · exact ⟨h.s, by show G.c + 1 ≤ k + 1; omega, hk⟩
theorem GOk.mono {j k : Nat} {G : Gen} (h : GOk j G) (hjk : j ≤ k) (hk : k < 1000000) : GOk k G := ⟨h.s, by have := h.c; omega, hk⟩
def genD (G : Gen) : MD := .ld (natD [G.a, G.s, G.c])
section
variable {P : Program} {w : World} {K : PySem.W.Frag} {mg : Str → Option Value} {base : Heap}
theorem PAD.is {X : Cx} {Δ : List SD} {M M1 M2 : Ms} {es : List Expr} {rs : List SD} (h : PAD X es Δ M rs M1) (q : M1 = M2) : PAD X es Δ M rs M2 := q ▸ h
def THash : Tr := fun rs M R => ∃ s i : Nat, rs = [dI s, dI i] ∧ s < 2147483647 ∧ i < 1000001 ∧ M = [] ∧ R (dI (hashN s i)) []
theorem ok_hash {f : Addr} {fd : FuncData} (bl : Bl mg) (F : Fun K "_law_hash" "_law_hash" sHash f fd) : FnOk P w K mg base CX0 1 f fd ["_law_seed", "_law_index"] (spX THash) := by
  refine fn_okX F scHash (fun rs M R h => ?_) (fun cdv A outer s H E rs M R hr h => ?_)
  · obtain ⟨s, i, rfl, _⟩ := h
    rfl
  · obtain ⟨x, i, rfl, hx, hi, rfl, hR⟩ := h
    have h1 : hash1 x i < 2147483629 := Nat.mod_lt _ (by decide)
    have h2 : hash2 x i < 2147483587 := Nat.mod_lt _ (by decide)
    refine pb_set 2 scHash.nd (r := dI (hash1 x i)) (PD.is (pd_mod (pd_intI bl.int (pd_add (pd_add (pd_add (pd_mul (pd_var 0) pd_int (.inr (by omega))) (pd_mul (pd_mul pd_int (pd_var 1) (.inl (by omega))) (pd_var 1) (.inr (by omega)))) (pd_mul pd_int (pd_var 1) (.inl (by omega)))) pd_int)) pd_int (by decide)) ?_) ?_
    · exact congrArg dI (cast1 x i 1140671 27644437 131 19 2147483629).symm
    refine pb_set 2 scHash.nd (r := dI (hash2 x i)) (PD.is (pd_mod (pd_intI bl.int (pd_add (pd_add (pd_mul (i := hash1 x i) (j := hash1 x i) (pd_var 2) (pd_var 2) (.inl (by omega))) (pd_mul pd_int (pd_var 1) (.inl (by omega)))) pd_int)) pd_int (by decide)) ?_) ?_
    · exact congrArg dI (cast2 (hash1 x i) i 62089 32416187 2147483587).symm
    refine pb_retD (r := dI (hashN x i)) (PD.is (pd_mod (pd_intI bl.int (pd_mul (i := hash2 x i) (pd_var 2) pd_int (.inr (by omega)))) pd_int (by decide)) ?_) hR
    · exact congrArg dI (cast3 (hash2 x i) 48271 2147483647).symm
theorem pd_bits {X : Cx} {Δ : List SD} {M M1 : Ms} {o : Expr} {i : Int} {apos pos : Pos} (ho : PD X o Δ M (dI i) M1) (hbase : attributeBase o "bit_length" X.env (eval o X.env) = eval o X.env := by rfl) (hline : (apos.endLine == pos.line) = true := by rfl) :
    PD X (.Call (.Attribute o "bit_length" apos) [] [] pos) Δ M (dI (Builtin.Int.intBits i : Nat)) M1 :=
  PE.of (pe_bits ho hbase hline) fun σ H Q ⟨B, h1, h2, h3⟩ => one_op h1 h2 fun x B2 H2 g rx => ⟨i, dt_int.mp rx, h3 _ _ _ B2 H2 ⟨rfl, rfl⟩ g (.int _)⟩
def TRandom : Tr := fun rs M R => ∃ (g : Addr) (G : Gen) (b k : Nat), rs = [.val (.ref g), dI b] ∧ 0 < b ∧ b < 64 ∧ GOk k G ∧ M = [(g, genD G)] ∧ R (dI (rnd G b)) [(g, genD (nxt G b))]
theorem ok_random {f : Addr} {fd : FuncData} (bl : Bl mg) (CH : CalX P w K mg base 1 "_law_hash" THash) (F : Fun K "_law_random" "_law_random" sRandom f fd) : FnOk P w K mg base CX0 2 f fd ["_law_generator_here", "_law_bound"] (spX TRandom) := by
  refine fn_okX F scRandom (fun rs M R h => ?_) (fun cdv A outer s H E rs M R hr h => ?_)
  · obtain ⟨g, G, b, k, rfl, _⟩ := h
    rfl
  · obtain ⟨g, G, b, k, rfl, hb0, hb1, hG, rfl, hR⟩ := h
    have hs := hG.s
    have hc := hG.c
    have hk := hG.k
    refine pb_if (t := decide (0 < G.a)) (PTD.is (ptd_cmp (pc_gt (pd_ix (ds := natD [G.a, G.s, G.c]) (i := 0) (pd_var 0) pd_int (.cell (by simp [genD])) rfl) pd_int)) (by by_cases h : 0 < G.a <;> simp [h])) (fun ha => ?_) (fun ha => ?_)
    · have ha : 0 < G.a := of_decide_eq_true ha
      unfold rnd nxt at hR
      rw [if_pos ha, if_pos ha] at hR
      refine pb_set 2 scRandom.nd (r := dI (G.a % b : Nat)) (PD.is (pd_mod (pd_intI bl.int (pd_ix (ds := natD [G.a, G.s, G.c]) (i := 0) (pd_var 0) pd_int (.cell (by simp [genD])) rfl)) (pd_var 1) (by omega)) (by show dI _ = dI _; push_cast; rfl)) ?_
      refine pb_cons1 (psx_setIx (ds := natD [G.a, G.s, G.c]) (d := .int (G.a / b : Nat)) (j := 0) 0 (PD.is (pd_fdiv (pd_ix (ds := natD [G.a, G.s, G.c]) (i := 0) (pd_var 0) pd_int (.cell (by simp [genD])) rfl) (pd_var 1) ⟨by omega, by omega⟩) (by show dI _ = dI _; push_cast; rfl)) (pd_var 0) pd_int rfl (by rw [natD_len]; simp) ⟨rfl, rfl⟩) ?_
      exact pb_retD (pd_var 2) hR
    · have ha : ¬ 0 < G.a := of_decide_eq_false ha
      unfold rnd nxt at hR
      rw [if_neg ha, if_neg ha] at hR
      refine pb_set 2 scRandom.nd pd_int ?_
      have hbits : (Builtin.Int.intBits (b : Int)) ≤ 6 := PyProof.Rows.intBits_le (by simp; omega)
      refine pb_cons (Nx1 := fun Δ' M' => ∃ t, Δ' = [.val (.ref g), dI b, dI (hashN G.s (G.c + 1)), t] ∧ M' = [(g, genD ⟨G.a, G.s, G.c + 1⟩)]) (psx_for (fun i Δ' M' => (i = 0 ∧ Δ' = [.val (.ref g), dI b, dI 0, .nil] ∧ M' = [(g, genD G)]) ∨ (i = 1 ∧ ∃ t, Δ' = [.val (.ref g), dI b, dI (hashN G.s (G.c + 1)), t] ∧ M' = [(g, genD ⟨G.a, G.s, G.c + 1⟩)])) PassesOwn.never rfl
        (pix_range1 (n := 1) bl.range (PD.is (pd_add pd_int (pd_fdiv (pd_bits (pd_var 1)) pd_int ⟨by decide, by decide⟩)) (show _ = dI 1 from ?_)) (by decide)) (.inl ⟨rfl, rfl, rfl⟩) (fun _ _ _ _ => trivial) (fun i d Δ' M' hd hI => ?_) (fun Δ' M' hI => ?_)) fun Δ' M' hN => ?_
      · show dI _ = dI _
        congr 2
        omega
      · obtain ⟨hi, rfl⟩ := rgD_get hd
        rcases hI with ⟨rfl, rfl, rfl⟩ | ⟨rfl, _⟩
        · refine ⟨_, [3], pgx_name 3 scRandom.nd, ?_⟩
          refine pb_cons1 (psx_setIx (ds := natD [G.a, G.s, G.c]) (d := .int ((G.c + 1 : Nat) : Int)) (j := 2) 0 (PD.is (pd_add (pd_ix (ds := natD [G.a, G.s, G.c]) (i := 2) (pd_var 0) pd_int (.cell (by simp [genD])) rfl) pd_int) (by show dI _ = dI _; push_cast; rfl)) (pd_var 0) pd_int rfl (by rw [natD_len]; simp) ⟨rfl, rfl⟩) ?_
          refine pb_one (psx_set 2 scRandom.nd (R := R1 (dI (hashN G.s (G.c + 1))) [(g, genD ⟨G.a, G.s, G.c + 1⟩)]) (PD.is (pd_add (pd_mul (i := 0) (pd_var 2) pd_int (.inl (by decide))) (pd_call CH hr (pad_cons (pd_ix (ds := natD [G.a, G.s, G.c + 1]) (i := 1) (pd_var 0) pd_int (.cell (by simp [genD, natD, castL])) rfl) (pad_one (pd_ix (ds := natD [G.a, G.s, G.c + 1]) (i := 2) (pd_var 0) pd_int (.cell (by simp [genD, natD, castL])) rfl))) ⟨G.s, G.c + 1, rfl, hs, by omega, rfl, rfl, rfl⟩)) (by rw [Int.zero_mul, Int.zero_add])) fun r M' e => ?_)
          obtain ⟨rfl, rfl⟩ := e
          exact .inr ⟨rfl, _, rfl, rfl⟩
        · exact absurd hi (by decide)
      · rcases hI with ⟨h, _⟩ | ⟨_, h⟩
        · exact absurd h (by decide)
        · exact h
      · obtain ⟨t, rfl, rfl⟩ := hN
        refine pb_retD (r := dI (hashN G.s (G.c + 1) % b : Nat)) (PD.is (pd_mod (pd_intI bl.int (pd_var 2)) (pd_var 1) (by omega)) (by show dI _ = dI _; push_cast; rfl)) hR

/-! ### the script, the generator -/
def Scr (K : PySem.W.Frag) (a : Addr) (ns : List Int) (M : Ms) : Prop := ns.length ≤ 63 ∧ ∀ B H, Go M B H → SqL K H a (ns.map V.int)
section
variable {X : Cx} {Δ : List SD} {M M1 M2 : Ms} {a b e : Expr} {p pos : Pos} {q : Addr} {ns : List Int}
theorem pd_lenS (hm : X.mg "len" = none) (hs : Scr X.K q ns M1) (ha : PD X a Δ M (.val (.ref q)) M1) (hg : Gl X "len" := by rfl) (he : starEach [a] X.env = (false, eval a X.env) :: starEach [] X.env := by rfl) (hpl : (backTo pos (starEach [] X.env)).any (·.1) = false := by rfl) :
    PD X (.Call (.Name "len" p) [a] [] pos) Δ M (dI ns.length) M1 :=
  pd_bltn call_len_seq hm PySem.boot_len (pad_one ha he) (fun vs B H Q rv g k => by
    obtain ⟨v, rfl, h⟩ := rs1 rv
    obtain rfl : v = .ref q := h
    exact ⟨q, _, rfl, .inl (hs.2 B H g), k _ B H (Gr.refl g) (by rw [List.length_map]; exact .int _)⟩) hg (he := he) (hpl := hpl)
theorem pd_ixS {i : Nat} {z : Int} (hs : Scr X.K q ns M2) (ha : PD X a Δ M (.val (.ref q)) M1) (hb : PD X b Δ M1 (dI i) M2) (hz : ns[i]? = some z) (hp : PlainIx b := by exact fun _ _ => rfl) : PD X (.Subscript a b pos) Δ M (dI z) M2 :=
  PE.of (pe_ix ix_list ha hb hp) fun σ H Q ⟨B, h1, h2, h3⟩ => two_ops h1 h2 fun x y B2 H2 g rx ry => by
    obtain rfl : x = .ref q := rx
    refine ⟨q, _, i, .int z, rfl, dt_int.mp ry, hs.2 B2 H2 g.go, atI_nat ?_, h3 _ _ _ B2 H2 ⟨rfl, rfl⟩ g (.int _)⟩
    rw [List.getElem?_map, hz]
    rfl
def cutI (ns : List Int) (lo hi : Option Int) : List Int := (ns.drop (HT.sIx ns.length 0 lo)).take (HT.sIx ns.length ns.length hi - HT.sIx ns.length 0 lo)
theorem cutI_V (ns : List Int) (lo hi : Option Int) : cutV (ns.map V.int) lo hi = (cutI ns lo hi).map V.int := by
  unfold cutV cutI
  rw [List.length_map, List.map_take, List.map_drop]
theorem pl_sliceS {lo hi : Option Expr} {zl zh : Option Int} {p2 : Pos} (hs : Scr X.K q ns M1) (ha : PD X a Δ M (.val (.ref q)) M1) (h1 : POD X lo Δ M1 zl) (h2 : POD X hi Δ M1 zh) : PL X (.Subscript a (.Slice lo hi none p2) pos) Δ M ((cutI ns zl zh).map PyData.int) M1 :=
  PE.of (pe_slice sl_list ha h1 h2) fun σ H Q ⟨B, q1, q2, q3⟩ => one_op q1 q2 fun x B1 H1 g rx => ⟨B1, q1.mono g.bb, g.go, fun B2 H2 g2 => ⟨B2, q1.mono (g.bb.trans g2.bb), g2.go, fun B3 H3 g3 => by
    have gg := (g.trans g2).trans g3
    obtain rfl : x = .ref q := rx
    exact ⟨q, _, rfl, hs.2 B3 H3 gg.go, fun t ht => q3 t _ B3 _ (gg.trans (Gr.alloc gg.go ht)) (th_none gg ht) (gg.go.bh.free ht) upd_same (by rw [cutI_V]; exact dta_ints.mpr rfl) (notin_of gg.go ht)⟩⟩⟩
theorem pd_sum (hc : X.calm = true) (hm : X.mg "sum" = none) (ha : PD X a Δ M (.dat (.list (ns.map PyData.int))) M1) (hg : Gl X "sum" := by rfl) (he : starEach [a] X.env = (false, eval a X.env) :: starEach [] X.env := by rfl) (hpl : (backTo pos (starEach [] X.env)).any (·.1) = false := by rfl) :
    PD X (.Call (.Name "sum" p) [a] [] pos) Δ M (dI ns.sum) M1 :=
  pd_bltn (cr_sum hc) hm (by decide +kernel) (pad_one ha he) (fun vs B H Q rv g k => by
    obtain ⟨v, rfl, h⟩ := rs1 rv
    obtain ⟨q, xs, rfl, hq, hd⟩ := dt_list.mp h
    rw [dta_ints.mp hd] at hq
    exact ⟨q, ns, rfl, SqL.of (g.bh _ _ hq), k _ B H (Gr.refl g) (.int _)⟩) hg (he := he) (hpl := hpl)
def CPowW (i j : Int) : Prop := 0 ≤ j ∧ (Builtin.Int.intBits i : Int) * j ≤ 2 ^ 27
theorem op_powW : OpR X (binaryOp .Pow) (rI CPowW fun i j => .int (i ^ j.toNat)) := opI fun _ _ _ _ _ _ _ hc q => PyProof.Rows.pow_int hc.1 hc.2 q
end
def cellV (ns : List Int) (i : Nat) : Int := match ns[i]? with
  | some z => z
  | none => (cutI ns none (some 1)).sum % 1000003
def TCell (K : PySem.W.Frag) : Tr := fun rs M R => ∃ (q : Addr) (ns : List Int) (i : Nat), rs = [.val (.ref q), dI i] ∧ Scr K q ns M ∧ R (dI (cellV ns i)) M
theorem ok_cell {f : Addr} {fd : FuncData} (bl : Bl mg) (F : Fun K "_law_cell" "_law_cell" sCell f fd) : FnOk P w K mg base CX0 1 f fd ["_law_script", "_law_index"] (spX (TCell K)) := by
  refine fn_okX F scCell (fun rs M R h => ?_) (fun cdv A outer s H E rs M R hr h => ?_)
  · obtain ⟨q, ns, i, rfl, _⟩ := h
    rfl
  · obtain ⟨q, ns, i, rfl, hs, hR⟩ := h
    refine pb_if (t := decide (i < ns.length)) (PTD.is (ptd_cmp (pc_lt (pd_var 1) (pd_lenS bl.len hs (pd_var 0)))) (by rw [Bool.eq_iff_iff]; simp)) (fun ht => ?_) (fun ht => ?_)
    · have hi : i < ns.length := of_decide_eq_true ht
      have e : cellV ns i = ns[i] := by unfold cellV; rw [List.getElem?_eq_getElem hi]
      exact pb_retD (pd_ixS hs (pd_var 0) (pd_var 1) (List.getElem?_eq_getElem hi)) (e ▸ hR)
    · have hi : ¬ i < ns.length := of_decide_eq_false ht
      have e : cellV ns i = (cutI ns none (some 1)).sum % 1000003 := by unfold cellV; rw [List.getElem?_eq_none (by omega)]
      exact pb_retD (pd_mod (pd_sum rfl bl.sum (PL.pd (pl_sliceS hs (pd_var 0) pod_none (pod_some pd_int)))) pd_int (by decide)) (e ▸ hR)
def bigP : Int := ((10 : Int) ^ (60 : Int).toNat) ^ (10 : Int).toNat
theorem bigP_pos : 0 < bigP := Int.pow_pos (Int.pow_pos (by decide))
def lowP : Int := (10 : Int) ^ (18 : Int).toNat
def bigV (z : Int) : Int := (if (0 : Int) > z - lowP then 0 else z - lowP) % bigP
def genOf (ns : List Int) (i : Nat) : Gen := ⟨(bigV (cellV ns i)).toNat, (cellV ns i % 2147483647).toNat, 1000 * i⟩
theorem genOf_ok (ns : List Int) (i : Nat) (hi : i < 4) : GOk (1000 * i) (genOf ns i) := by
  refine ⟨?_, Nat.le_refl _, by omega⟩
  have h1 := Int.emod_lt_of_pos (cellV ns i) (show (0 : Int) < 2147483647 by decide)
  have h2 := Int.emod_nonneg (cellV ns i) (show (2147483647 : Int) ≠ 0 by decide)
  show (cellV ns i % 2147483647).toNat < 2147483647
  omega
theorem genOf_list (ns : List Int) (i : Nat) : [PyData.int (bigV (cellV ns i)), .int (cellV ns i % 2147483647), .int (1000 * (i : Int))] = natD [(genOf ns i).a, (genOf ns i).s, (genOf ns i).c] := by
  have h1 : ((bigV (cellV ns i)).toNat : Int) = bigV (cellV ns i) := Int.toNat_of_nonneg (Int.emod_nonneg _ (Int.ne_of_gt bigP_pos))
  have h2 : ((cellV ns i % 2147483647).toNat : Int) = cellV ns i % 2147483647 := Int.toNat_of_nonneg (Int.emod_nonneg _ (by decide))
  show _ = [PyData.int ((bigV (cellV ns i)).toNat : Int), .int ((cellV ns i % 2147483647).toNat : Int), .int ((1000 * i : Nat) : Int)]
  rw [h1, h2, Int.natCast_mul]
  rfl
def TGen (K : PySem.W.Frag) : Tr := fun rs M R => ∃ (q : Addr) (ns : List Int) (i : Nat), rs = [.val (.ref q), dI i] ∧ i < 4 ∧ Scr K q ns M ∧ ∀ p, R (.val (.ref p)) (M ++ [(p, genD (genOf ns i))])
theorem ok_gen {f : Addr} {fd : FuncData} (bl : Bl mg) (CC : CalX P w K mg base 1 "_law_cell" (TCell K)) (F : Fun K "_law_generator" "_law_generator" sGen f fd) : FnOk P w K mg base CX0 2 f fd ["_law_script", "_law_index"] (spX (TGen K)) := by
  refine fn_okX F scGen (fun rs M R h => ?_) (fun cdv A outer s H E rs M R hr h => ?_)
  · obtain ⟨q, ns, i, rfl, _⟩ := h
    rfl
  · obtain ⟨q, ns, i, rfl, hi, hs, hR⟩ := h
    refine pb_set 2 scGen.nd (pd_callM (F := []) (Mc' := M) CC hr (PAD.is (pad_cons (pd_var 0) (pad_one (pd_var 1))) (List.append_nil M).symm) ⟨q, ns, i, rfl, hs, rfl, rfl⟩) ?_
    rw [List.append_nil]
    refine pb_ret (PX.mono (PL.cell (PL.is (pl_lst (ds := [PyData.int (bigV (cellV ns i)), .int (cellV ns i % 2147483647), .int (1000 * (i : Int))])
      (pad_cons (pd_mod (pd_intI bl.int (pd_max rfl bl.max (pad_cons (pd_sub (pd_var 2) (pd_ii op_pow ⟨by decide, by decide, by decide⟩ pd_int pd_int)) (pad_one pd_int)))) (pd_ii op_powW ⟨by decide, by decide +kernel⟩ (pd_ii op_pow ⟨by decide, by decide, by decide⟩ pd_int pd_int) pd_int) bigP_pos)
      (pad_cons (pd_mod (pd_intI bl.int (pd_var 2)) pd_int (by decide)) (pad_one (pd_mul pd_int (pd_var 1) (.inl (by decide)))))) (sz_le (by show 3 ≤ 100000; decide))) (genOf_list ns i))) fun r M' ⟨p, e1, e2⟩ => ?_)
    subst e1 e2
    exact hR p
end
end KR

/-! KR, part P5: dicts with pairs for keys. -/
namespace KR
open PySem PySem.Spec PyProof.Rows L2
def kyL (ns : List Int) : List L2.Key := ns.map Sum.inl
theorem kyL_V (ns : List Int) : (kyL ns).map kV = ns.map V.int := by unfold kyL; rw [List.map_map]; rfl
section
variable {X : Cx} {Δ : List SD} {M M1 M2 M3 : Ms} {a b e o i : Expr} {pos : Pos} {p : Addr} {kvs : List (List L2.Key × V)} {ns : List Int}
theorem tup_key {B H : Hp} {v : V} (g : Same B H) (h : Dt B v (tupD ns)) : ∃ t, v = .ref t ∧ H t = some (.tup ((kyL ns).map kV)) := by
  obtain ⟨t, e, hb⟩ := tupD_of h
  exact ⟨t, e, by rw [kyL_V]; exact g _ _ hb⟩
/-- {}, a dict to be filled -/
theorem px_dict {R : SD → Ms → Prop} (h : ∀ p, R (.val (.ref p)) (M ++ [(p, MD.dic [])])) : PX X (.Dict [] [] pos) Δ M R :=
  PE.of pe_dnewT fun σ H Q ⟨B, h1, h2, h3⟩ => fun q hq => h3 _ _ _ B _ (h q) (Gr.cell (o := .dT []) h2 hq upd_same) rfl
/-- d[k] = z -/
theorem psx_dput {z : Int} {pos' : Pos} {Nx : List SD → Ms → Prop} {Rt : SD → Ms → Prop} (j : Nat) (hu : X.A.units + 1 < cLine) (hv : PD X e Δ M (dI z) M1) (ho : PD X o Δ M1 (.val (.ref p)) M2) (hi : PD X i Δ M2 (.dat (tupD ns)) M3)
    (hm : M3[j]? = some (p, MD.dic kvs)) (hz : kvs.length < sizeLine) (k : Nx Δ (M3.set j (p, MD.dic (putK kvs (kyL ns) (.int z))))) (hs : swapsWith e (some (.Subscript o i pos')) pos.line X.env = pure false := by rfl) : PSX X (.Assign [.Subscript o i pos'] e pos) Δ M Nx Rt :=
  PS.of (ps_dput hu ho hi hv hs) fun D σ H ⟨B, q1, q2, q3, q4⟩ => one_op q1 q2 fun x B1 H1 g rx => ⟨B1, q1.mono g.bb, g.go, fun r' M' ov B2 H2 e2 g2 ro => by
    obtain ⟨rfl, rfl⟩ := e2
    exact ⟨B2, q1.mono (g.bb.trans g2.bb), g2.go, fun r' M' iv B3 H3 e3 g3 ri => by
      obtain ⟨rfl, rfl⟩ := e3
      obtain rfl : ov = .ref p := ro
      obtain ⟨t, rfl, ht⟩ := tup_key g3.go.bh ri
      have hp := (g3.go.ho.at_ p _ (List.mem_of_getElem? hm)).1
      have gg := (g.trans g2).trans g3
      refine ⟨p, _, rfl, DPut.t hp ht hz, q3 Δ _ σ B3 _ k (gg.trans (Gr.put gg.go hm ?_)) (q1.mono gg.bb)⟩
      rw [dt_int.mp rx]
      exact upd_same⟩⟩
/-- d[k], d locked or not -/
theorem pd_dget {z : Int} (hu : X.A.units + 1 < cLine) (ho : PD X o Δ M (.val (.ref p)) M1) (hi : PD X i Δ M1 (.dat (tupD ns)) M2) (hm : (∃ od, (p, MD.fdic od kvs) ∈ M2) ∨ (p, MD.dic kvs) ∈ M2) (hv : valV kvs (kyL ns) = some (.int z))
    (hs : NoSl i := by exact fun _ _ => rfl) : PD X (.Subscript o i pos) Δ M (dI z) M2 :=
  PE.of (pe_dget hu ho hi hs) fun σ H Q ⟨B, h1, h2, h3⟩ => two_ops h1 h2 fun x y B2 H2 g rx ry => by
    obtain rfl : x = .ref p := rx
    obtain ⟨t, rfl, ht⟩ := tup_key g.go.bh ry
    refine ⟨p, .int z, rfl, .inr ⟨kvs, kyL ns, t, ?_, rfl, ht, hv.symm⟩, h3 _ _ _ B2 H2 ⟨rfl, rfl⟩ g (.int _)⟩
    rcases hm with ⟨od, hm⟩ | hm
    · exact .inr ⟨od, (g.go.ho.at_ p _ hm).1⟩
    · exact .inl (g.go.ho.at_ p _ hm).1
/-- what is read of a dict while it is locked -/
theorem pl_lock {j : Nat} {ds : List PyData} (hm : M[j]? = some (p, MD.dic kvs)) (h : ∀ od, PL X e Δ (M.set j (p, MD.fdic od kvs)) ds (M.set j (p, MD.fdic od kvs))) : PL X e Δ M ds M := by
  have any : PE X e fun σ H Q => ∃ od, tN Δ (M.set j (p, MD.fdic od kvs)) ds (M.set j (p, MD.fdic od kvs)) σ H Q := ⟨fun pins s σ H Q I ⟨od, w⟩ => (h od).run pins s σ H Q I w⟩
  refine PE.of (pe_lock any) fun σ H Q ⟨B, h1, h2, h3⟩ => ?_
  have hp := (h2.ho.at_ p _ (List.mem_of_getElem? hm)).1
  have hjl := (List.getElem?_eq_some_iff.mp hm).1
  refine ⟨p, .dT kvs, hp, trivial, fun od => ⟨od, ?_⟩⟩
  have g1 := Gr.put (o := .frz od (.dT kvs)) (m' := MD.fdic od kvs) h2 hm upd_same
  refine ⟨B, h1, g1.go, fun q xs B2 H2 g n0 nb hx hd hn => ?_⟩
  have hm2 : (M.set j (p, MD.fdic od kvs))[j]? = some (p, MD.fdic od kvs) := List.getElem?_set_self hjl
  have hp2 : H2 p = some (.frz od (.dT kvs)) := (g.go.ho.at_ p _ (List.mem_of_getElem? hm2)).1
  refine ⟨hp2, ?_⟩
  have g2 := Gr.put (o := .dT kvs) (m' := MD.dic kvs) g.go hm2 upd_same
  have e : (M.set j (p, MD.fdic od kvs)).set j (p, MD.dic kvs) = M := by
    rw [List.set_set]
    apply List.ext_getElem?
    intro i
    by_cases hij : j = i
    · subst hij
      rw [List.getElem?_set_self hjl, hm]
    · rw [List.getElem?_set_ne hij]
  rw [e] at g2
  have qp : q ≠ p := fun z => by rw [z, hp2] at hx; cases hx
  have q0 : H q = none := by
    rw [upd_ne qp] at n0
    exact n0
  refine h3 q xs B2 _ ((g1.trans g).trans g2) q0 nb (by rw [upd_ne qp]; exact hx) hd fun z => hn ?_
  rw [ad_set hm]
  exact z
/-- for k in d, d locked -/
theorem pix_keys {tg : Expr} {od : Obj} {ds : List PyData} (h : PD X e Δ M (.val (.ref p)) M1) (hm : (p, MD.fdic od kvs) ∈ M1) (len : ds.length = kvs.length)
    (hk : ∀ (i : Nat) (k : List L2.Key) (v : V), kvs[i]? = some (k, v) → ∃ es, ds[i]? = some (.tuple es) ∧ ∀ B, DtA B (k.map kV) es) : PIX X tg e Δ M ds (fun M' => (p, MD.fdic od kvs) ∈ M') M1 :=
  PI.of (pi_keys h) fun σ H R ⟨B, h1, h2, h3⟩ => ⟨B, h1, h2, fun r' M' v B1 H1 q g rv => by
    obtain ⟨rfl, rfl⟩ := q
    obtain rfl : v = .ref p := rv
    exact ⟨p, od, rfl, .inr ⟨kvs, (g.go.ho.at_ p _ hm).1, h3 _ B1 H1 g (wk_keys len hk)⟩⟩⟩
end

/-! ### the keys of a standing, by directions -/
abbrev DK := List ((Nat × Nat) × Nat)
def kvOf (l : DK) : List (List L2.Key × V) := l.map fun x => (kyL (pairL x.1), V.int (x.2 : Int))
theorem kyL_inj {a b : List Int} (h : kyL a = kyL b) : a = b := by
  have h' : (kyL a).map kV = (kyL b).map kV := by rw [h]
  rw [kyL_V, kyL_V] at h'
  have e : ∀ l : List Int, (l.map V.int).map (fun v => match v with | .int i => i | _ => 0) = l := fun l => by
    rw [List.map_map]
    exact List.map_id _
  rw [← e a, ← e b, h']
theorem pairL_inj {p q : Nat × Nat} (h : pairL p = pairL q) : p = q := by
  obtain ⟨a, b⟩ := p
  obtain ⟨c, d⟩ := q
  unfold pairL at h
  injection h with h1 h2
  injection h2 with h2 _
  have : a = c := Int.natCast_inj.mp h1
  have : b = d := Int.natCast_inj.mp h2
  subst_vars
  rfl
theorem kvOf_val : ∀ {l : DK} {p : Nat × Nat} {k : Nat}, (l.map (·.1)).Nodup → (p, k) ∈ l → valV (kvOf l) (kyL (pairL p)) = some (.int (k : Int))
  | x :: l, p, k, nd, h => by
    have nd' := List.nodup_cons.mp nd
    rcases List.mem_cons.mp h with e | h'
    · subst e
      exact valV_pos rfl
    · have ne : ¬ kyL (pairL x.1) = kyL (pairL p) := fun z => by
        have := pairL_inj (kyL_inj z)
        exact nd'.1 (List.mem_map.mpr ⟨(p, k), h', this.symm⟩)
      show valV ((kyL (pairL x.1), V.int (x.2 : Int)) :: kvOf l) _ = _
      rw [valV_neg ne]
      exact kvOf_val nd'.2 h'
theorem kvOf_none : ∀ {l : DK} {p : Nat × Nat}, p ∉ l.map (·.1) → valV (kvOf l) (kyL (pairL p)) = none
  | [], p, _ => rfl
  | x :: l, p, h => by
    have ne : ¬ kyL (pairL x.1) = kyL (pairL p) := fun z => by
      have := pairL_inj (kyL_inj z)
      exact h (by rw [List.map_cons, this]; exact List.mem_cons_self)
    show valV ((kyL (pairL x.1), V.int (x.2 : Int)) :: kvOf l) _ = _
    rw [valV_neg ne]
    exact kvOf_none fun z => h (by rw [List.map_cons]; exact List.mem_cons_of_mem _ z)
theorem kvOf_put {l : DK} {p : Nat × Nat} {k : Nat} (h : p ∉ l.map (·.1)) : putK (kvOf l) (kyL (pairL p)) (.int (k : Int)) = kvOf (l ++ [(p, k)]) := by
  rw [putK_new _ (kvOf_none h)]
  unfold kvOf
  rw [List.map_append]
  rfl
theorem kvOf_len (l : DK) : (kvOf l).length = l.length := List.length_map _
def keysD (l : DK) : List PyData := l.map fun x => tupD (pairL x.1)
theorem keysD_ok (l : DK) : ∀ (i : Nat) (k : List L2.Key) (v : V), (kvOf l)[i]? = some (k, v) → ∃ es, (keysD l)[i]? = some (.tuple es) ∧ ∀ B, DtA B (k.map kV) es := fun i k v h => by
  unfold kvOf at h
  rw [List.getElem?_map] at h
  cases q : l[i]? with
  | none => rw [q] at h; cases h
  | some x =>
    rw [q] at h
    have h' : (kyL (pairL x.1), V.int (x.2 : Int)) = (k, v) := Option.some.inj h
    obtain ⟨rfl, rfl⟩ := Prod.mk.inj h'
    refine ⟨(pairL x.1).map PyData.int, ?_, fun B => by rw [kyL_V]; exact dta_ints.mpr rfl⟩
    unfold keysD
    rw [List.getElem?_map, q]
    rfl
theorem dirK_nodup {n : Nat} {rs : List Road} {st : List Nat} (v : VNet n rs) : ((dirK rs st).map (·.1)).Nodup := by
  have key : ∀ (rs : List Road) (st : List Nat), (∀ r ∈ rs, r.1 < r.2.1) → (rs.Pairwise fun a b => a.1 < b.1 ∨ (a.1 = b.1 ∧ a.2.1 < b.2.1)) → ((dirK rs st).map (·.1)).Nodup := by
    intro rs
    induction rs with
    | nil => intro st _ _; exact List.nodup_nil
    | cons r rs ih =>
      intro st lt asc
      cases st with
      | nil => exact List.nodup_nil
      | cons k ks =>
        have asc' := List.pairwise_cons.mp asc
        have rl := lt r List.mem_cons_self
        have no : ∀ p : Nat × Nat, (p = (r.1, r.2.1) ∨ p = (r.2.1, r.1)) → p ∉ (dirK rs ks).map (·.1) := fun p hp z => by
          obtain ⟨x, hx, e⟩ := List.mem_map.mp z
          obtain ⟨j, r', k', h1, h2, h3⟩ := mem_dirK.mp hx
          have hr := List.mem_of_getElem? h1
          have l1 := lt r' (List.mem_cons_of_mem _ hr)
          have l2 := asc'.1 r' hr
          obtain ⟨u, w⟩ := p
          rcases h3 with e3 | e3 <;> subst e3 <;> rcases hp with e4 | e4 <;> rw [e4] at e <;> obtain ⟨e5, e6⟩ := Prod.mk.inj e <;> omega
        show ((r.1, r.2.1) :: (r.2.1, r.1) :: (dirK rs ks).map (·.1)).Nodup
        refine List.nodup_cons.mpr ⟨fun z => ?_, List.nodup_cons.mpr ⟨no _ (.inr rfl), ih ks (fun r' h => lt r' (List.mem_cons_of_mem _ h)) asc'.2⟩⟩
        rcases List.mem_cons.mp z with e | z
        · obtain ⟨e1, e2⟩ := Prod.mk.inj e
          omega
        · exact no _ (.inl rfl) z
  exact key rs st (fun r h => (v.lt r h).1) v.asc
theorem dirK_take : ∀ (rs : List Road) (st : List Nat) (i : Nat) (r : Road) (k : Nat), rs[i]? = some r → st[i]? = some k → dirK (rs.take (i + 1)) (st.take (i + 1)) = dirK (rs.take i) (st.take i) ++ [((r.1, r.2.1), k), ((r.2.1, r.1), r.2.2 - k)]
  | r0 :: rs, k0 :: ks, 0, r, k, h1, h2 => by
    cases h1
    cases h2
    simp [dirK]
  | r0 :: rs, k0 :: ks, i + 1, r, k, h1, h2 => by
    have ih := dirK_take rs ks i r k (by simpa using h1) (by simpa using h2)
    show dirK (r0 :: rs.take (i + 1)) (k0 :: ks.take (i + 1)) = dirK (r0 :: rs.take i) (k0 :: ks.take i) ++ _
    unfold dirK
    rw [ih]
    rfl
  | [], _, _, _, _, h1, _ => by simp at h1
  | _ :: _, [], _, _, _, _, h2 => by simp at h2
theorem dirK_len : ∀ (rs : List Road) (st : List Nat), (dirK rs st).length ≤ 2 * rs.length
  | [], _ => by simp [dirK]
  | r :: rs, [] => by simp [dirK]
  | r :: rs, k :: ks => by
    have := dirK_len rs ks
    unfold dirK
    simp only [List.length_cons]
    omega
theorem VNet.take {n : Nat} {rs : List Road} (v : VNet n rs) (i : Nat) : VNet n (rs.take i) :=
  ⟨v.n1, v.n2, fun r h => v.lt r (List.mem_of_mem_take h), v.asc.sublist (List.take_sublist _ _), by have := v.len; rw [List.length_take]; omega⟩
end KR

/-! KR, part P6: the law's keys, standings. -/
namespace KR
open PySem PySem.Spec PyProof.Rows L2
abbrev sKeysL : Stmt := topS 26
abbrev sStL : Stmt := topS 28
abbrev sFree : Stmt := topS 29
abbrev nKeysL : List Str := ["_law_net_here", "_law_standing_here", "_law_found", "_law_at", "_law_road", "_law_low", "_law_high", "_law_many"]
abbrev nStL : List Str := ["_law_generator_here", "_law_net_here", "_law_low", "_law_high", "_law_many"]
abbrev nFree : List Str := ["_law_generator_here", "_law_net_here", "_law_order", "_law_left", "_law_found", "_law_turn", "_law_low", "_law_high", "_law_many", "_law_ahead"]
theorem scKeysL : FnScope nKeysL ["_law_net_here", "_law_standing_here"] (defScope sKeysL) := ⟨rfl, rfl, rfl, by decide +kernel, rfl, by decide +kernel, by decide +kernel⟩
theorem scStL : FnScope nStL ["_law_generator_here", "_law_net_here"] (defScope sStL) := ⟨rfl, rfl, rfl, by decide +kernel, rfl, by decide +kernel, by decide +kernel⟩
theorem scFree : FnScope nFree ["_law_generator_here", "_law_net_here"] (defScope sFree) := ⟨rfl, rfl, rfl, by decide +kernel, rfl, by decide +kernel, by decide +kernel⟩
/-- cells that are not told on -/
theorem PD.drop {X : Cx} {e : Expr} {Δ : List SD} {M M1 M2 : Ms} {r : SD} {R : SD → Ms → Prop} (h : PD X e Δ M r M1) (hs : M2.Sublist M1) (hr : R r M2) : PX X e Δ M R :=
  px_conv (R := R1 r M1) h fun r' M' e => by
    obtain ⟨rfl, rfl⟩ := e
    exact .inl ⟨M2, hs, hr⟩
/-- a def that knows all the cells there are -/
theorem pd_callE {X : Cx} {Δ : List SD} {M M1 M2 : Ms} {x : Str} {p pos : Pos} {e : Expr} {es : List Expr} {rs : List SD} {T : Tr} {k : Nat} {r : SD} (C : CalX X.prog X.w X.K X.mg X.base k x T) (hr : Room k X.A) (ha : PAD X (e :: es) Δ M rs M1) (hT : T rs M1 (R1 r M2)) (hg : Gl X x := by rfl) (hdb : (x == ("__debug__" : Str)) = false := by decide)
    (he : starEach (e :: es) X.env = (false, eval e X.env) :: starEach es X.env := by rfl) (hpl : (backTo pos (starEach es X.env)).any (·.1) = false := by rfl) : PD X (.Call (.Name x p) (e :: es) [] pos) Δ M r M2 := by
  have h := pd_callM (p := p) (pos := pos) (F := []) (Mc := M1) (Mc' := M2) C hr (PAD.is ha (List.append_nil M1).symm) hT hg hdb he hpl
  rw [List.append_nil] at h
  exact h
theorem enumD_get {ds : List PyData} {i : Nat} {d : PyData} (h : (enumD ds)[i]? = some d) : ∃ f, ds[i]? = some f ∧ d = .tuple [.int (i : Int), f] := by
  unfold enumD at h
  rw [List.getElem?_map, List.getElem?_zipIdx] at h
  cases q : ds[i]? with
  | none => rw [q] at h; cases h
  | some f =>
    rw [q] at h
    have h' : PyData.tuple [.int ((0 + i : Nat) : Int), f] = d := Option.some.inj h
    rw [Nat.zero_add] at h'
    exact ⟨f, rfl, h'.symm⟩
theorem enumD_len (ds : List PyData) : (enumD ds).length = ds.length := by unfold enumD; rw [List.length_map, List.length_zipIdx]
theorem map_get {α β : Type} {f : α → β} {l : List α} {i : Nat} {b : β} (h : (l.map f)[i]? = some b) : ∃ a, l[i]? = some a ∧ f a = b := by
  rw [List.getElem?_map] at h
  cases q : l[i]? with
  | none => rw [q] at h; cases h
  | some a => rw [q] at h; exact ⟨a, rfl, Option.some.inj h⟩
section
variable {P : Program} {w : World} {K : PySem.W.Frag} {mg : Str → Option Value} {base : Heap}
def TKeysL : Tr := fun rs M R => ∃ (n : Nat) (roads : List Road) (st : List Nat), rs = [.dat (netD n roads), .dat (stD st)] ∧ VNet n roads ∧ VSt roads st ∧ M = [] ∧ ∀ p, R (.val (.ref p)) [(p, .dic (kvOf (dirK roads st)))]
theorem ok_keysL {f : Addr} {fd : FuncData} (bl : Bl mg) (F : Fun K "_law_keys" "_law_keys" sKeysL f fd) : FnOk P w K mg base CX0 1 f fd ["_law_net_here", "_law_standing_here"] (spX TKeysL) := by
  refine fn_okX F scKeysL (fun rs M R h => ?_) (fun cdv A outer s H E rs M R hr h => ?_)
  · obtain ⟨n, roads, st, rfl, _⟩ := h
    rfl
  · obtain ⟨n, roads, st, rfl, vn, vs, rfl, hR⟩ := h
    have hlen := vn.len
    have hu : ∀ {A : Around} {k : Nat}, Room k A → A.units + 1 < cLine := fun h => by have := h.un; omega
    refine pb_setR 2 scKeysL.nd (R := fun r M' => ∃ p, r = .val (.ref p) ∧ M' = [(p, MD.dic [])]) (px_dict fun p => ⟨p, rfl, rfl⟩) fun r M' h => ?_
    obtain ⟨p, rfl, rfl⟩ := h
    refine pb_cons (Nx1 := fun Δ' M' => Δ'[2]? = some (.val (.ref p)) ∧ M' = [(p, .dic (kvOf (dirK roads st)))]) (psx_for (fun i Δ' M' => ∃ a b c d e, Δ' = [.dat (netD n roads), .dat (stD st), .val (.ref p), a, b, c, d, e] ∧ M' = [(p, .dic (kvOf (dirK (roads.take i) (st.take i))))]) PassesOwn.never rfl
      (pix_enum (ds := roads.map roadD) bl.enumerate (pd_ixT (ds := [PyData.int n, .list (roads.map roadD)]) (pd_var 0) pd_int (net_at1 n roads))) ⟨_, _, _, _, _, rfl, rfl⟩ (fun _ _ _ _ => trivial) (fun i d Δ' M' hd hI => ?_) (fun Δ' M' hI => ?_)) fun Δ' M' hN => ?_
    · obtain ⟨a, b, c, d', e, rfl, rfl⟩ := hI
      obtain ⟨f, hf, rfl⟩ := enumD_get hd
      obtain ⟨r, hr', rfl⟩ := map_get hf
      obtain ⟨k, hk⟩ := vs.at hr'
      have hle := vs.le i r k hr' hk
      have hnd : ((dirK (roads.take (i + 1)) (st.take (i + 1))).map (·.1)).Nodup := dirK_nodup (vn.take _)
      have htk := dirK_take roads st i r k hr' hk
      rw [htk, List.map_append] at hnd
      have hnd2 := List.nodup_append.mp hnd
      have n1 : (r.1, r.2.1) ∉ (dirK (roads.take i) (st.take i)).map (·.1) := fun z => hnd2.2.2 _ z (r.1, r.2.1) (by simp) rfl
      have n2 : (r.2.1, r.1) ∉ (dirK (roads.take i) (st.take i) ++ [((r.1, r.2.1), k)]).map (·.1) := fun z => by
        rw [List.map_append] at z
        rcases List.mem_append.mp z with z | z
        · exact hnd2.2.2 _ z (r.2.1, r.1) (by simp) rfl
        · have lt := (vn.lt_at hr').1
          have e : (r.2.1, r.1) = (r.1, r.2.1) := by simpa using z
          obtain ⟨e1, _⟩ := Prod.mk.inj e
          omega
      have hl := dirK_len (roads.take i) (st.take i)
      have htl : (roads.take i).length ≤ 30 := by rw [List.length_take]; omega
      refine ⟨_, [3, 4], pgx_tup (ds := [.int (i : Int), roadD r]) rfl (pgxs_cons (pgx_name 3 scKeysL.nd) (pgxs_cons (pgx_name 4 scKeysL.nd) pgxs_nil)) rfl, ?_⟩
      refine pb_asg (pd_var 4) (pgx_tup (vs := [5, 6, 7]) (ds := [.int (r.1 : Int), .int (r.2.1 : Int), .int (r.2.2 : Int)]) rfl (pgxs_cons (pgx_name 5 scKeysL.nd) (pgxs_cons (pgx_name 6 scKeysL.nd) (pgxs_cons (pgx_name 7 scKeysL.nd) pgxs_nil))) rfl) ?_
      refine pb_cons1 (psx_dput (ns := pairL (r.1, r.2.1)) (z := (k : Int)) 0 (hu hr) (pd_ix (ds := natD st) (pd_var 1) (pd_var 3) .dat (atI_nat (natD_get hk))) (pd_var 2) (pd_tup (ds := [.int (r.1 : Int), .int (r.2.1 : Int)]) (pad_cons (pd_var 5) (pad_one (pd_var 6))) (sz_le (by show 2 ≤ 100000; decide))) rfl (by rw [kvOf_len]; exact sz_lt (by omega)) ⟨rfl, rfl⟩) ?_
      rw [kvOf_put n1]
      refine pb_one (psx_dput (ns := pairL (r.2.1, r.1)) (z := ((r.2.2 - k : Nat) : Int)) 0 (hu hr) (PD.is (pd_sub (pd_var 7) (pd_ix (ds := natD st) (pd_var 1) (pd_var 3) .dat (atI_nat (natD_get hk)))) (by show dI _ = dI _; congr 2; omega)) (pd_var 2) (pd_tup (ds := [.int (r.2.1 : Int), .int (r.1 : Int)]) (pad_cons (pd_var 6) (pad_one (pd_var 5))) (sz_le (by show 2 ≤ 100000; decide))) rfl (by rw [kvOf_len, List.length_append]; exact sz_lt (by simp; omega)) ?_)
      rw [kvOf_put n2]
      refine ⟨_, _, _, _, _, rfl, ?_⟩
      rw [htk, List.append_assoc]
      rfl
    · obtain ⟨a, b, c, d', e, rfl, rfl⟩ := hI
      refine ⟨rfl, ?_⟩
      rw [enumD_len, List.length_map, List.take_length, List.take_of_length_le (by rw [vs.len]; exact Nat.le_refl _)]
    · obtain ⟨h2, rfl⟩ := hN
      exact pb_retD (pd_var 2 h2) (hR p)
/-! ### standings that are drawn -/
def gAt (G : Gen) (bs : List Nat) (i : Nat) : Gen := (bs.take i).foldl nxt G
theorem gAt_succ (G : Gen) {bs : List Nat} {i b : Nat} (h : bs[i]? = some b) : gAt G bs (i + 1) = nxt (gAt G bs i) b := by
  unfold gAt
  rw [List.take_succ, h]
  simp
theorem gAt_ok {k : Nat} {G : Gen} (h : GOk k G) (bs : List Nat) : ∀ i, k + i < 1000000 → GOk (k + i) (gAt G bs i)
  | 0, _ => by simpa [gAt] using h
  | i + 1, hi => by
    have ih := gAt_ok h bs i (by omega)
    cases q : bs[i]? with
    | none =>
      have : gAt G bs (i + 1) = gAt G bs i := by
        unfold gAt
        rw [List.take_succ, q]
        simp
      rw [this]
      exact ih.mono (by omega) hi
    | some b =>
      rw [gAt_succ G q]
      exact nxt_ok ih b hi
def drawL (G : Gen) (bs : List Nat) : List Nat := (List.range bs.length).map fun i => rnd (gAt G bs i) (bs.getD i 0)
def bndL (rs : List Road) : List Nat := rs.map fun r => r.2.2 + 1
theorem drawL_st {G : Gen} {rs : List Road} : VSt rs (drawL G (bndL rs)) := by
  refine ⟨by unfold drawL bndL; rw [List.length_map, List.length_range, List.length_map], fun i r k hr hk => ?_⟩
  obtain ⟨j, hj, e⟩ := map_get hk
  have hjl := (List.getElem?_eq_some_iff.mp hj).1
  have ej : j = i := by
    have := (List.getElem?_eq_some_iff.mp hj).2
    simpa using this.symm
  subst ej
  have eb : (bndL rs).getD j 0 = r.2.2 + 1 := by
    unfold bndL
    rw [List.getD_eq_getElem?_getD, List.getElem?_map, hr]
    rfl
  rw [eb] at e
  have := rnd_lt (gAt G (bndL rs) j) (show 0 < r.2.2 + 1 by omega)
  omega
def TStL : Tr := fun rs M R => ∃ (g : Addr) (G : Gen) (k n : Nat) (roads : List Road), rs = [.val (.ref g), .dat (netD n roads)] ∧ VNet n roads ∧ (∀ r ∈ roads, r.2.2 < 60) ∧ GOk k G ∧ k + 100 < 1000000 ∧ M = [(g, genD G)] ∧ R (.dat (stD (drawL G (bndL roads)))) [(g, genD (gAt G (bndL roads) roads.length))]
theorem ok_stL {f : Addr} {fd : FuncData} (CR : CalX P w K mg base 2 "_law_random" TRandom) (F : Fun K "_law_standing" "_law_standing" sStL f fd) : FnOk P w K mg base CX0 3 f fd ["_law_generator_here", "_law_net_here"] (spX TStL) := by
  refine fn_okX F scStL (fun rs M R h => ?_) (fun cdv A outer s H E rs M R hr h => ?_)
  · obtain ⟨g, G, k, n, roads, rfl, _⟩ := h
    rfl
  · obtain ⟨g, G, k, n, roads, rfl, vn, hm, hG, hk, rfl, hR⟩ := h
    have hlen := vn.len
    have hl : (roads.map roadD).length = roads.length := List.length_map _
    have hbl : (bndL roads).length = roads.length := List.length_map _
    have out_eq : (List.range (roads.map roadD).length).filterMap (fun i => some (PyData.int (rnd (gAt G (bndL roads) i) ((bndL roads).getD i 0) : Nat))) = natD (drawL G (bndL roads)) := by
      rw [natD_map]
      unfold drawL
      rw [List.map_map, hl, hbl]
      show List.filterMap (some ∘ fun i => PyData.int (rnd (gAt G (bndL roads) i) ((bndL roads).getD i 0) : Nat)) _ = _
      rw [List.filterMap_eq_map]
      rfl
    refine pb_retD (PL.pd (PL.is (pl_comp rfl scStL.nd (pix_list (ds := roads.map roadD) (pd_ixT (ds := [PyData.int n, .list (roads.map roadD)]) (pd_var 1) pd_int (net_at1 n roads)))
      (blkOk_by (N := nStL) (sc := defScope sStL) (own := [("_law_low", 2), ("_law_high", 3), ("_law_many", 4)]) (by decide +kernel)) (by rw [hl]; exact sz_le (by omega)) (fun i => [(g, genD (gAt G (bndL roads) i))]) (fun i => some (PyData.int (rnd (gAt G (bndL roads) i) ((bndL roads).getD i 0) : Nat))) rfl (fun _ => trivial) fun i d hd => ?_) out_eq)) (by rw [hl]; exact hR)
    obtain ⟨r, hr', rfl⟩ := map_get hd
    have hb : (bndL roads)[i]? = some (r.2.2 + 1) := by unfold bndL; rw [List.getElem?_map, hr']; rfl
    have hg : (bndL roads).getD i 0 = r.2.2 + 1 := by rw [List.getD_eq_getElem?_getD, hb]; rfl
    have hil : i < roads.length := (List.getElem?_eq_some_iff.mp hr').1
    have hrm := hm r (List.mem_of_getElem? hr')
    rw [hg, gAt_succ G hb]
    refine ⟨_, fun s H C cl fp => pgx_tup (ds := [.int (r.1 : Int), .int (r.2.1 : Int), .int (r.2.2 : Int)]) rfl (pgxs_cons (pgx_name 2 scStL.nd) (pgxs_cons (pgx_name 3 scStL.nd) (pgxs_cons (pgx_name 4 scStL.nd) pgxs_nil))) rfl, .inl ⟨_, _, rfl, fun s H C cl fp => ptx_nil, fun s H C cl fp => ?_⟩⟩
    exact pd_callE CR hr (pad_cons (pd_var 0) (pad_one (PD.is (pd_add (pd_var 4) pd_int) (show _ = dI ((r.2.2 + 1 : Nat) : Int) from by push_cast; rfl)))) ⟨g, _, r.2.2 + 1, k + i, rfl, by omega, by omega, gAt_ok hG _ i (by omega), rfl, rfl, rfl⟩

/-- a list cell that is told as data, others dropped -/
theorem PD.take {X : Cx} {e : Expr} {Δ : List SD} {M F1 F2 M2 : Ms} {p : Addr} {ds : List PyData} {R : SD → Ms → Prop} (h : PD X e Δ M (.val (.ref p)) (F1 ++ (p, MD.ld ds) :: F2)) (hs : M2.Sublist (F1 ++ F2)) (hr : R (.dat (.list ds)) M2) : PX X e Δ M R :=
  px_conv (R := R1 (.dat (.list ds)) (F1 ++ F2)) (px_conv (R := R1 (.val (.ref p)) (F1 ++ (p, MD.ld ds) :: F2)) h fun r' M' e => by
    obtain ⟨rfl, rfl⟩ := e
    exact .inr ⟨p, ds, F1, F2, rfl, rfl, rfl, rfl⟩) fun r' M' e => by
    obtain ⟨rfl, rfl⟩ := e
    exact .inl ⟨M2, hs, hr⟩
theorem natD_erase (l : List Nat) (j : Nat) : (natD l).eraseIdx j = natD (l.eraseIdx j) := by
  rw [natD_map, natD_map]
  induction l generalizing j with
  | nil => rfl
  | cons x l ih =>
    cases j with
    | zero => rfl
    | succ j => rw [List.map_cons, List.eraseIdx_cons_succ, List.eraseIdx_cons_succ, ih, List.map_cons]
theorem natD_snoc (l : List Nat) (x : Nat) : natD l ++ [.int (x : Int)] = natD (l ++ [x]) := (natD_app l [x]).symm ▸ rfl
theorem shaped_int (i : Int) : SeqAt.shaped (.int i) = true := by
  show (PyData.canLay0 (.int i) && decide (PyData.depth (.int i) ≤ 64)) = true
  simp [PyData.canLay0, PyData.depth]
theorem eqv_int (a b : Int) : PyData.eqv (.int a) (.int b) = decide (a = b) := by
  have e : PyData.eqv (.int a) (.int b) = (a == b) := by simp only [PyData.eqv]
  rw [e, dec_beq]
theorem perm_erase : ∀ {l : List Nat} {j v : Nat}, l[j]? = some v → (v :: l.eraseIdx j).Perm l
  | x :: l, 0, v, h => by
    cases h
    exact .refl _
  | x :: l, j + 1, v, h => by
    have ih := perm_erase (l := l) (j := j) (v := v) (by simpa using h)
    rw [List.eraseIdx_cons_succ]
    exact (List.Perm.swap x v _).trans (ih.cons x)
theorem perm_pop {order left : List Nat} {j : Nat} {v : Nat} (h : left[j]? = some v) : ((order ++ [v]) ++ left.eraseIdx j).Perm (order ++ left) := by
  rw [List.append_assoc]
  exact List.Perm.append_left order (perm_erase h)
theorem pd_indexN {X : Cx} {Δ : List SD} {M M1 M2 : Ms} {ra : SD} {o e : Expr} {ks : List Nat} {v j : Nat} {apos cpos : Pos} (hu : X.A.units + 65 < cLine) (ho : PD X o Δ M ra M1) (ha : PD X e Δ M1 (dI v) M2) (hl1 : LsD ra (natD ks) M1) (hl2 : LsD ra (natD ks) M2) (hj : ks[j]? = some v) (hn : ∀ m : Nat, m < j → ks[m]? ≠ some v)
    (hbase : attributeBase o "index" X.env (eval o X.env) = eval o X.env := by rfl)
    (hfew : ((backTo cpos (starEach [e] X.env)).all (fun x => !x.1) && (backToKw cpos (keywordEach [] X.env)).all (fun x => x.1.isSome) && decide ([e].length + ([] : List Keyword).length + (if ([] : List Keyword).isEmpty then 0 else 1) < 30)) = true := by rfl)
    (hline : (apos.endLine == cpos.line) = true := by rfl) (hs : starEach [e] X.env = (false, eval e X.env) :: starEach [] X.env := by rfl) (hplain : (backTo cpos (starEach [] X.env)).any (·.1) = false := by rfl) : PD X (.Call (.Attribute o "index" apos) [e] [] cpos) Δ M (dI j) M2 :=
  pd_index (ds := natD ks) (d := .int (v : Int)) (z := .int (v : Int)) hu ho ha hl1 hl2 (okAll_nat ks) (shaped_int _) (natD_get hj) (by rw [eqv_int]; exact decide_eq_true rfl) (fun m z' hm hz => by
    cases q : ks[m]? with
    | none =>
      rw [natD_map, List.getElem?_map, q] at hz
      cases hz
    | some x =>
      rw [natD_get q] at hz
      cases hz
      rw [eqv_int]
      refine decide_eq_false fun z => hn m hm ?_
      rw [q]
      congr 1
      omega) hbase hfew hline hs hplain
def TFree : Tr := fun rs M R => ∃ (g : Addr) (G : Gen) (k n : Nat) (roads : List Road), rs = [.val (.ref g), .dat (netD n roads)] ∧ VNet n roads ∧ (∀ r ∈ roads, r.2.2 < 60) ∧ GOk k G ∧ k + 200 < 1000000 ∧ M = [(g, genD G)] ∧ ∀ st G', VSt roads st → GOk (k + 200) G' → R (.dat (stD st)) [(g, genD G')]
theorem ok_free {f : Addr} {fd : FuncData} (bl : Bl mg) (CR : CalX P w K mg base 2 "_law_random" TRandom) (F : Fun K "_law_free_standing" "_law_free_standing" sFree f fd) : FnOk P w K mg base CX0 3 f fd ["_law_generator_here", "_law_net_here"] (spX TFree) := by
  refine fn_okX F scFree (fun rs M R h => ?_) (fun cdv A outer s H E rs M R hr h => ?_)
  · obtain ⟨g, G, k, n, roads, rfl, _⟩ := h
    rfl
  · obtain ⟨g, G0, k, n, roads, rfl, vn, hm, hG0, hk, rfl, hR⟩ := h
    have hlen := vn.len
    have hn := vn.n2
    refine pb_cons (Nx1 := fun Δ' M' => ∃ po pl pf, Δ' = [.val (.ref g), .dat (netD n roads), .val (.ref po), .val (.ref pl), .val (.ref pf), .nil, .nil, .nil, .nil, .nil] ∧ M' = [(g, genD G0), (po, .ld (natD [])), (pl, .ld (natD (List.range n))), (pf, .ld (natD []))])
      (psx_par3 (i := 2) (j := 3) (l := 4) (R := fun rs M' => ∃ po pl pf, rs = [.val (.ref po), .val (.ref pl), .val (.ref pf)] ∧ M' = [(g, genD G0), (po, .ld (natD [])), (pl, .ld (natD (List.range n))), (pf, .ld (natD []))]) rfl scFree.nd (by decide) (by decide) (by decide)
        (pax_cons (PL.cell (pl_lst (ds := []) pad_nil (Nat.zero_le _))) fun r M1 ⟨po, e1, e2⟩ => pax_cons (PL.cell (PL.is (pl_listRg rfl bl.list bl.range (pd_ixT (ds := [PyData.int n, .list (roads.map roadD)]) (pd_var 1) pd_int (net_at0 n roads)) (by omega)) (rgD_nat n))) fun r2 M2 ⟨pl, e3, e4⟩ =>
          pax_one (PL.cell (pl_lst (ds := []) pad_nil (Nat.zero_le _))) fun r3 M3 ⟨pf, e5, e6⟩ => ⟨po, pl, pf, by rw [e1, e3, e5], by rw [e6, e4, e2]; rfl⟩)
        fun rs M' ⟨po, pl, pf, e, e'⟩ => ⟨_, _, _, e, po, pl, pf, rfl, e'⟩) fun Δ' M' hN => ?_
    obtain ⟨po, pl, pf, rfl, rfl⟩ := hN
    refine pb_cons (Nx1 := fun Δ' M' => ∃ order G t, order.Perm (List.range n) ∧ GOk (k + n) G ∧ Δ' = [.val (.ref g), .dat (netD n roads), .val (.ref po), .val (.ref pl), .val (.ref pf), t, .nil, .nil, .nil, .nil] ∧ M' = [(g, genD G), (po, .ld (natD order)), (pl, .ld (natD [])), (pf, .ld (natD []))])
      (psx_for (fun i Δ' M' => ∃ order left G t, (order ++ left).Perm (List.range n) ∧ order.length = i ∧ GOk (k + i) G ∧ Δ' = [.val (.ref g), .dat (netD n roads), .val (.ref po), .val (.ref pl), .val (.ref pf), t, .nil, .nil, .nil, .nil] ∧ M' = [(g, genD G), (po, .ld (natD order)), (pl, .ld (natD left)), (pf, .ld (natD []))]) PassesOwn.never rfl
        (pix_range1 (n := (n : Int)) bl.range (pd_ixT (ds := [PyData.int n, .list (roads.map roadD)]) (pd_var 1) pd_int (net_at0 n roads)) (by omega)) ⟨[], List.range n, G0, _, .refl _, rfl, hG0, rfl, rfl⟩ (fun _ _ _ _ => trivial) (fun i d Δ' M' hd hI => ?_) (fun Δ' M' hI => ?_)) fun Δ' M' hN => ?_
    · obtain ⟨hi, rfl⟩ := rgD_get hd
      obtain ⟨order, left, G, t, hp, hol, hG, rfl, rfl⟩ := hI
      have hll := hp.length_eq
      rw [List.length_append, List.length_range] at hll
      have hin : i < n := by omega
      have hrl := rnd_lt G (show 0 < left.length by omega)
      obtain ⟨v, hv⟩ : ∃ v, left[rnd G left.length]? = some v := ⟨_, List.getElem?_eq_getElem hrl⟩
      refine ⟨_, [5], pgx_name 5 scFree.nd, ?_⟩
      refine pb_one (psx_expr (PD.px (R := fun r M' => M' = _) (pd_append (d := .int (v : Int)) 1 (pd_var 2) (pd_popAt (d := .int (v : Int)) (k := rnd G left.length) 2 (pd_var 3)
        (pd_callM (Mc := [(g, genD G)]) (Mc' := [(g, genD (nxt G left.length))]) (F := [(po, MD.ld (natD order)), (pl, .ld (natD left)), (pf, .ld (natD []))]) CR hr (pad_cons (pd_var 0) (pad_one (PD.is (pd_len (ds := natD left) bl.len (pd_var 3) (.cell (by simp))) (by rw [natD_len]))))
          ⟨g, G, left.length, k + i, rfl, by omega, by omega, hG, rfl, rfl, rfl⟩) ⟨natD left, by simp⟩ rfl (natD_get hv) (by rw [natD_len]; omega)) ⟨natD order, by simp⟩ rfl (by rw [natD_len]; exact sz_lt (by omega))) rfl) fun r M' e => ?_)
      subst e
      refine ⟨order ++ [v], left.eraseIdx (rnd G left.length), _, _, (perm_pop hv).trans hp, by rw [List.length_append, hol]; rfl, nxt_ok hG left.length (by omega), rfl, ?_⟩
      show [(g, genD _), (po, MD.ld (natD order ++ [_])), (pl, MD.ld ((natD left).eraseIdx _)), _] = _
      rw [natD_snoc, natD_erase]
    · obtain ⟨order, left, G, t, hp, hol, hG, rfl, rfl⟩ := hI
      rw [rgD_len, Int.toNat_natCast] at hol hG
      have hll := hp.length_eq
      rw [List.length_append, List.length_range] at hll
      have hle : left = [] := List.eq_nil_of_length_eq_zero (by omega)
      subst hle
      rw [List.append_nil] at hp
      exact ⟨order, G, t, hp, hG, rfl, rfl⟩
    · obtain ⟨order, G1, t, hp, hG1, rfl, rfl⟩ := hN
      refine pb_cons (Nx1 := fun Δ' M' => ∃ found G, VSt roads found ∧ GOk (k + 200) G ∧ Δ'[4]? = some (.val (.ref pf)) ∧ M' = [(g, genD G), (po, .ld (natD order)), (pl, .ld (natD [])), (pf, .ld (natD found))])
        (psx_for (fun i Δ' M' => ∃ found G t a b c d, found.length = i ∧ (∀ (j : Nat) (r : Road) (x : Nat), roads[j]? = some r → found[j]? = some x → x ≤ r.2.2) ∧ GOk (k + n + 2 * i) G ∧ Δ' = [.val (.ref g), .dat (netD n roads), .val (.ref po), .val (.ref pl), .val (.ref pf), t, a, b, c, d] ∧ M' = [(g, genD G), (po, .ld (natD order)), (pl, .ld (natD [])), (pf, .ld (natD found))]) PassesOwn.never rfl
          (pix_list (ds := roads.map roadD) (pd_ixT (ds := [PyData.int n, .list (roads.map roadD)]) (pd_var 1) pd_int (net_at1 n roads))) ⟨[], G1, _, _, _, _, _, rfl, fun j r x _ h => by simp at h, hG1, rfl, rfl⟩ (fun _ _ _ _ => trivial) (fun i d Δ' M' hd hI => ?_) (fun Δ' M' hI => ?_)) fun Δ' M' hN => ?_
      · obtain ⟨found, G, t, a, b, c, d', hfl, hfx, hG, rfl, rfl⟩ := hI
        obtain ⟨r, hr', rfl⟩ := map_get hd
        have hil : i < roads.length := (List.getElem?_eq_some_iff.mp hr').1
        have hlt := vn.lt_at hr'
        have hrm := hm r (List.mem_of_getElem? hr')
        obtain ⟨jl, hjl, hjl2, _⟩ := first_at (hp.mem_iff.mpr (List.mem_range.mpr (show r.1 < n by omega)))
        obtain ⟨jh, hjh, hjh2, _⟩ := first_at (hp.mem_iff.mpr (List.mem_range.mpr hlt.2.1))
        have hr1 := rnd_lt G (show 0 < r.2.2 by omega)
        have hr2 := rnd_lt (nxt G r.2.2) (show 0 < r.2.2 by omega)
        obtain ⟨a3, hle3, pick⟩ : ∃ a3 : Nat, a3 ≤ r.2.2 ∧ atI [PyData.int ((1 + rnd G r.2.2 : Nat) : Int), .int (rnd (nxt G r.2.2) r.2.2 : Nat)] (if decide ((jh : Int) < (jl : Int)) = true then 1 else 0) = some (.int (a3 : Int)) := by
          cases decide ((jh : Int) < (jl : Int)) with
          | true => exact ⟨rnd (nxt G r.2.2) r.2.2, by omega, rfl⟩
          | false => exact ⟨1 + rnd G r.2.2, by omega, rfl⟩
        refine ⟨_, [6, 7, 8], pgx_tup (ds := [.int (r.1 : Int), .int (r.2.1 : Int), .int (r.2.2 : Int)]) rfl (pgxs_cons (pgx_name 6 scFree.nd) (pgxs_cons (pgx_name 7 scFree.nd) (pgxs_cons (pgx_name 8 scFree.nd) pgxs_nil))) rfl, ?_⟩
        refine pb_set 9 scFree.nd (pd_ix (PL.pd (pl_lst (ds := [PyData.int ((1 + rnd G r.2.2 : Nat) : Int), .int (rnd (nxt G r.2.2) r.2.2 : Nat)]) (pad_cons (PD.is (pd_add pd_int (pd_callM (Mc := [(g, genD G)]) (Mc' := [(g, genD (nxt G r.2.2))]) (F := [(po, MD.ld (natD order)), (pl, .ld (natD [])), (pf, .ld (natD found))]) CR hr (pad_cons (pd_var 0) (pad_one (pd_var 8)))
            ⟨g, G, r.2.2, _, rfl, by omega, by omega, hG, rfl, rfl, rfl⟩)) (by show dI _ = dI _; congr 2)) (pad_one (pd_callM (Mc := [(g, genD (nxt G r.2.2))]) (Mc' := [(g, genD (nxt (nxt G r.2.2) r.2.2))]) (F := [(po, MD.ld (natD order)), (pl, .ld (natD [])), (pf, .ld (natD found))]) CR hr (pad_cons (pd_var 0) (pad_one (pd_var 8)))
            ⟨g, nxt G r.2.2, r.2.2, _, rfl, by omega, by omega, nxt_ok hG _ (by omega), rfl, rfl, rfl⟩))) (sz_le (by show 2 ≤ 100000; decide))))
          (pd_intB bl.int (pd_cmp (pc_gt (pd_indexN (ks := order) (v := r.1) (j := jl) (hu65 hr) (pd_var 2) (pd_var 6) (.cell (by simp)) (.cell (by simp)) hjl hjl2) (pd_indexN (ks := order) (v := r.2.1) (j := jh) (hu65 hr) (pd_var 2) (pd_var 7) (.cell (by simp)) (.cell (by simp)) hjh hjh2))))
          .dat pick) ?_
        refine pb_one (psx_expr (PD.px (R := fun r0 M' => M' = _) (pd_append (ds := natD found) 3 (pd_var 4) (pd_var 9) ⟨natD found, by simp⟩ rfl (by rw [natD_len]; exact sz_lt (by omega))) rfl) fun r0 M' e => ?_)
        subst e
        refine ⟨found ++ [a3], _, _, _, _, _, _, by rw [List.length_append, hfl]; rfl, fun j r2 x h1 h2 => ?_, (nxt_ok (nxt_ok hG r.2.2 (by omega)) r.2.2 (by omega)).mono (by omega) (by omega), rfl, ?_⟩
        · by_cases hj : j < found.length
          · rw [List.getElem?_append_left hj] at h2
            exact hfx j r2 x h1 h2
          · have hjl2 : j < (found ++ [a3]).length := (List.getElem?_eq_some_iff.mp h2).1
            have hj2 : j = i := by
              rw [List.length_append, List.length_singleton] at hjl2
              omega
            subst hj2
            rw [hr'] at h1
            cases h1
            rw [List.getElem?_append_right (by omega), hfl, Nat.sub_self] at h2
            have h2' := Option.some.inj h2
            omega
        · show [(g, genD _), (po, MD.ld _), (pl, MD.ld _), (pf, MD.ld (natD found ++ [_]))] = _
          rw [natD_snoc]
      · obtain ⟨found, G, t, a, b, c, d', hfl, hfx, hG, rfl, rfl⟩ := hI
        rw [List.length_map] at hfl hG
        exact ⟨found, G, ⟨hfl, hfx⟩, hG.mono (by omega) (by omega), rfl, rfl⟩
      · obtain ⟨found, G, hst, hG, h4, rfl⟩ := hN
        exact pb_ret (PD.take (F1 := [(g, genD G), (po, MD.ld (natD order)), (pl, MD.ld (natD []))]) (F2 := []) (M2 := [(g, genD G)]) (ds := natD found) (pd_var 4 h4) (by simp) (hR found G hst hG))
end
end KR

/-! KR, part P7: the law's net. -/
namespace KR
open PySem PySem.Spec PyProof.Rows L2
/-! ### plain: roads drawn between houses of an order -/
structure RInv (n : Nat) (order : List Nat) (hi lo : Nat) (roads : List Road) : Prop where
  of : ∀ r ∈ roads, ∃ l h, l < h ∧ h < n ∧ (h < hi ∨ (h = hi ∧ l < lo)) ∧ r.1 = min (order.getD l 0) (order.getD h 0) ∧ r.2.1 = max (order.getD l 0) (order.getD h 0) ∧ 1 ≤ r.2.2 ∧ r.2.2 ≤ 3
  nd : (roads.map fun r => (r.1, r.2.1)).Nodup
theorem RInv.nil {n : Nat} {order : List Nat} {hi lo : Nat} : RInv n order hi lo [] := ⟨(fun r h => by cases h), List.nodup_nil⟩
theorem RInv.mono {n : Nat} {order : List Nat} {hi lo hi' lo' : Nat} {roads : List Road} (R : RInv n order hi lo roads) (h : ∀ h l, (h < hi ∨ (h = hi ∧ l < lo)) → (h < hi' ∨ (h = hi' ∧ l < lo'))) : RInv n order hi' lo' roads :=
  ⟨fun r hr => let ⟨l, m, h1, h2, h3, h4⟩ := R.of r hr; ⟨l, m, h1, h2, h m l h3, h4⟩, R.nd⟩
theorem nd_at {l : List Nat} (nd : l.Nodup) {i j x : Nat} (h1 : l[i]? = some x) (h2 : l[j]? = some x) : i = j := by
  obtain ⟨a, b⟩ := List.getElem?_eq_some_iff.mp h1
  obtain ⟨c, d⟩ := List.getElem?_eq_some_iff.mp h2
  unfold List.Nodup at nd
  rw [List.pairwise_iff_getElem] at nd
  rcases Nat.lt_trichotomy i j with z | z | z
  · exact absurd (b.trans d.symm) (nd i j a c z)
  · exact z
  · exact absurd (d.trans b.symm) (nd j i c a z)
theorem order_inj {n : Nat} {order : List Nat} (hp : order.Perm (List.range n)) {i j : Nat} (hi : i < n) (hj : j < n) (e : order.getD i 0 = order.getD j 0) : i = j := by
  have hl : order.length = n := by rw [hp.length_eq, List.length_range]
  have nd : order.Nodup := hp.nodup_iff.mpr List.nodup_range
  rw [List.getD_eq_getElem?_getD, List.getD_eq_getElem?_getD, List.getElem?_eq_getElem (by omega), List.getElem?_eq_getElem (by omega)] at e
  have e' : order[i] = order[j] := e
  exact nd_at nd (List.getElem?_eq_getElem (by omega)) (by rw [e']; exact List.getElem?_eq_getElem (by omega))
theorem order_lt {n : Nat} {order : List Nat} (hp : order.Perm (List.range n)) {i : Nat} (hi : i < n) : order.getD i 0 < n := by
  have hl : order.length = n := by rw [hp.length_eq, List.length_range]
  rw [List.getD_eq_getElem?_getD, List.getElem?_eq_getElem (by omega)]
  exact List.mem_range.mp (hp.mem_iff.mp (List.getElem_mem _))
theorem RInv.add {n : Nat} {order : List Nat} {hi lo : Nat} {roads : List Road} (hp : order.Perm (List.range n)) (R : RInv n order hi lo roads) (hl : lo < hi) (hh : hi < n) {m : Nat} (h1 : 1 ≤ m) (h3 : m ≤ 3) :
    RInv n order hi (lo + 1) (roads ++ [(min (order.getD lo 0) (order.getD hi 0), max (order.getD lo 0) (order.getD hi 0), m)]) := by
  refine ⟨fun r hr => ?_, ?_⟩
  · rcases List.mem_append.mp hr with h | h
    · obtain ⟨l, x, a, b, c, d⟩ := R.of r h
      exact ⟨l, x, a, b, by omega, d⟩
    · have e := List.mem_singleton.mp h
      subst e
      exact ⟨lo, hi, hl, hh, by omega, rfl, rfl, h1, h3⟩
  · rw [List.map_append]
    refine List.nodup_append.mpr ⟨R.nd, by simp, fun p hp1 q hq => ?_⟩
    obtain ⟨r, hr, rfl⟩ := List.mem_map.mp hp1
    have hq' : q = (min (order.getD lo 0) (order.getD hi 0), max (order.getD lo 0) (order.getD hi 0)) := by simpa using hq
    subst hq'
    intro e
    obtain ⟨e1, e2⟩ := Prod.mk.inj e
    obtain ⟨l, h, a, b, c, d1, d2, _⟩ := R.of r hr
    rw [d1] at e1
    rw [d2] at e2
    have i1 := order_inj hp (show l < n by omega) (show lo < n by omega)
    have i2 := order_inj hp b hh
    have i3 := order_inj hp (show l < n by omega) hh
    have i4 := order_inj hp b (show lo < n by omega)
    by_cases q : order.getD l 0 = order.getD lo 0
    · have := i1 q
      have q2 : order.getD h 0 = order.getD hi 0 := by omega
      have := i2 q2
      omega
    · have q2 : order.getD l 0 = order.getD hi 0 := by omega
      have q3 : order.getD h 0 = order.getD lo 0 := by omega
      have := i3 q2
      have := i4 q3
      omega
def codeR (r : Road) : Nat := r.1 * 4096 + r.2.1 * 64 + r.2.2
def sortR (rs : List Road) : List Road := rs.mergeSort fun a b => decide (codeR a ≤ codeR b)
theorem code_roadL (r : Road) : TS.code 64 (roadL r) = ((codeR r : Nat) : Int) := by
  have e2 : (64 : Int) ^ 2 = 4096 := by decide
  have e1 : (64 : Int) ^ 1 = 64 := by decide
  have e0 : (64 : Int) ^ 0 = 1 := by decide
  show (r.1 : Int) * 64 ^ 2 + ((r.2.1 : Int) * 64 ^ 1 + ((r.2.2 : Int) * 64 ^ 0 + 0)) = _
  rw [e2, e1, e0]
  unfold codeR
  omega
theorem sortR_pw (rs : List Road) : (sortR rs).Pairwise fun a b => codeR a ≤ codeR b := by
  have h := List.pairwise_mergeSort (le := fun a b : Road => decide (codeR a ≤ codeR b)) (fun a b c h1 h2 => by
    have := of_decide_eq_true h1
    have := of_decide_eq_true h2
    exact decide_eq_true (by omega)) (fun a b => by
    rw [Bool.or_eq_true, decide_eq_true_eq, decide_eq_true_eq]
    omega) rs
  exact h.imp fun {a b} z => of_decide_eq_true z
theorem sort_roads {rs : List Road} (b : ∀ r ∈ rs, r.1 < 64 ∧ r.2.1 < 64 ∧ r.2.2 < 64) {kss : List (List Int)} (hp : kss.Perm (rs.map roadL)) (hs : kss.Pairwise (fun x y => TS.code 64 x ≤ TS.code 64 y)) : kss = (sortR rs).map roadL := by
  refine List.Perm.eq_of_pairwise (le := fun x y => TS.code 64 x ≤ TS.code 64 y) (fun x y ha hb h1 h2 => ?_) hs ?_ (hp.trans ?_)
  · obtain ⟨p, hp', rfl⟩ := List.mem_map.mp (hp.mem_iff.mp ha)
    obtain ⟨q, hq, rfl⟩ := List.mem_map.mp hb
    have b1 := b p hp'
    have b2 := b q ((List.mergeSort_perm rs _).mem_iff.mp hq)
    rw [code_roadL, code_roadL] at h1 h2
    unfold codeR at h1 h2
    have e1 : p.1 = q.1 := by omega
    have e2 : p.2.1 = q.2.1 := by omega
    have e3 : p.2.2 = q.2.2 := by omega
    unfold roadL
    rw [e1, e2, e3]
  · rw [List.pairwise_map]
    refine (sortR_pw rs).imp fun {a b} z => ?_
    rw [code_roadL, code_roadL]
    omega
  · exact ((List.mergeSort_perm rs _).map _).symm
theorem RInv.vnet {n : Nat} {order : List Nat} {hi lo : Nat} {roads : List Road} (hp : order.Perm (List.range n)) (R : RInv n order hi lo roads) (h1 : 1 ≤ n) (h5 : n ≤ 5) : VNet n (sortR roads) ∧ (∀ r ∈ sortR roads, r.2.2 < 60) ∧ (∀ r ∈ roads, r.1 < 64 ∧ r.2.1 < 64 ∧ r.2.2 < 64) ∧ roads.length ≤ 25 := by
  have mem : ∀ r, r ∈ sortR roads ↔ r ∈ roads := fun r => (List.mergeSort_perm roads _).mem_iff
  have lt : ∀ r ∈ roads, r.1 < r.2.1 ∧ r.2.1 < n ∧ 1 ≤ r.2.2 ∧ r.2.2 ≤ 3 := fun r hr => by
    obtain ⟨l, h, a, b, c, d1, d2, d3, d4⟩ := R.of r hr
    have ne : order.getD l 0 ≠ order.getD h 0 := fun z => by
      have := order_inj hp (show l < n by omega) b z
      omega
    have b1 := order_lt hp (show l < n by omega)
    have b2 := order_lt hp b
    omega
  have hl : roads.length ≤ 25 := by
    have nd : (roads.map fun r => r.1 * 5 + r.2.1).Nodup := by
      have h := R.nd
      have e : (roads.map fun r => r.1 * 5 + r.2.1) = (roads.map fun r => (r.1, r.2.1)).map fun p => p.1 * 5 + p.2 := by rw [List.map_map]; rfl
      rw [e]
      unfold List.Nodup
      rw [List.pairwise_map]
      refine List.Pairwise.imp_of_mem (fun {p q} hp1 hq1 ne z => ne ?_) h
      obtain ⟨r, hr, rfl⟩ := List.mem_map.mp hp1
      obtain ⟨r', hr', rfl⟩ := List.mem_map.mp hq1
      have := lt r hr
      have := lt r' hr'
      have z : r.1 * 5 + r.2.1 = r'.1 * 5 + r'.2.1 := z
      have e1 : r.1 = r'.1 := by omega
      have e2 : r.2.1 = r'.2.1 := by omega
      rw [e1, e2]
    have := pigeon 25 _ nd fun x hx => by
      obtain ⟨r, hr, rfl⟩ := List.mem_map.mp hx
      have := lt r hr
      omega
    rw [List.length_map] at this
    exact this
  refine ⟨⟨h1, by omega, fun r hr => by have := lt r ((mem r).mp hr); omega, ?_, ?_⟩, fun r hr => by have := lt r ((mem r).mp hr); omega, fun r hr => by have := lt r hr; omega, hl⟩
  · have nd : ((sortR roads).map fun r => (r.1, r.2.1)).Nodup := ((List.mergeSort_perm roads _).map _).nodup_iff.mpr R.nd
    unfold List.Nodup at nd
    rw [List.pairwise_map] at nd
    have pw := sortR_pw roads
    rw [List.pairwise_iff_getElem] at nd pw ⊢
    intro i j hi hj hij
    have a1 := nd i j hi hj hij
    have a2 := pw i j hi hj hij
    have b1 := lt _ ((mem _).mp (List.getElem_mem hi))
    have b2 := lt _ ((mem _).mp (List.getElem_mem hj))
    unfold codeR at a2
    have a3 : ¬ ((sortR roads)[i].1 = (sortR roads)[j].1 ∧ (sortR roads)[i].2.1 = (sortR roads)[j].2.1) := fun z => a1 (by rw [z.1, z.2])
    omega
  · have := (List.mergeSort_perm roads (fun a b => decide (codeR a ≤ codeR b))).length_eq
    unfold sortR
    omega

abbrev sNetL : Stmt := topS 27
abbrev nNetL : List Str := ["_law_generator_here", "_law_houses", "_law_most", "_law_joined", "_law_roads", "_law_share", "_law_order", "_law_left", "_law_turn", "_law_high", "_law_partner", "_law_low"]
theorem scNetL : FnScope nNetL ["_law_generator_here", "_law_houses", "_law_most", "_law_joined"] (defScope sNetL) := ⟨rfl, rfl, rfl, by decide +kernel, rfl, by decide +kernel, by decide +kernel⟩
section
variable {P : Program} {w : World} {K : PySem.W.Frag} {mg : Str → Option Value} {base : Heap}
def roadsM (rs : List Road) : MD := .ld ((rs.map roadL).map tupD)
theorem roadsM_snoc (rs : List Road) (a b c : Nat) : MD.ld ((rs.map roadL).map tupD ++ [.tuple [.int (a : Int), .int (b : Int), .int (c : Int)]]) = roadsM (rs ++ [(a, b, c)]) := by
  unfold roadsM
  rw [List.map_append, List.map_append]
  rfl
def TNetL : Tr := fun rs M R => ∃ (g : Addr) (G : Gen) (k n m : Nat), rs = [.val (.ref g), dI n, dI m, dB false] ∧ 1 ≤ n ∧ n ≤ 5 ∧ 1 ≤ m ∧ m ≤ 3 ∧ GOk k G ∧ k + 200 < 1000000 ∧ M = [(g, genD G)] ∧
  ∀ roads G', VNet n roads → (∀ r ∈ roads, r.2.2 < 60) → GOk (k + 200) G' → R (.dat (netD n roads)) [(g, genD G')]
theorem ok_netL {f : Addr} {fd : FuncData} (bl : Bl mg) (CR : CalX P w K mg base 2 "_law_random" TRandom) (F : Fun K "_law_net" "_law_net" sNetL f fd) : FnOk P w K mg base CX0 3 f fd ["_law_generator_here", "_law_houses", "_law_most", "_law_joined"] (spX TNetL) := by
  refine fn_okX F scNetL (fun rs M R h => ?_) (fun cdv A outer s H E rs M R hr h => ?_)
  · obtain ⟨g, G, k, n, m, rfl, _⟩ := h
    rfl
  · obtain ⟨g, G0, k, n, m, rfl, hn1, hn5, hm1, hm3, hG0, hk, rfl, hR⟩ := h
    have hsh := rnd_lt G0 (show 0 < 3 by decide)
    refine pb_cons (Nx1 := fun Δ' M' => ∃ pr po pl, Δ' = [.val (.ref g), dI n, dI m, dB false, .val (.ref pr), dI ((1 + rnd G0 3 : Nat) : Int), .val (.ref po), .val (.ref pl), .nil, .nil, .nil, .nil] ∧ M' = [(g, genD (nxt G0 3)), (pr, roadsM []), (po, .ld (natD [])), (pl, .ld (natD (List.range n)))])
      (psx_tupAsg (R := fun rs M' => ∃ pr po pl, rs = [.val (.ref pr), dI ((1 + rnd G0 3 : Nat) : Int), .val (.ref po), .val (.ref pl)] ∧ M' = [(g, genD (nxt G0 3)), (pr, roadsM []), (po, .ld (natD [])), (pl, .ld (natD (List.range n)))]) rfl
        (pax_cons (PL.cell (pl_lst (ds := []) pad_nil (Nat.zero_le _))) fun r M1 ⟨pr, e1, e2⟩ => pax_cons (Re := R1 (dI ((1 + rnd G0 3 : Nat) : Int)) [(g, genD (nxt G0 3)), (pr, roadsM [])]) (e2 ▸ PD.is (pd_add pd_int (pd_callM (Mc := [(g, genD G0)]) (Mc' := [(g, genD (nxt G0 3))]) (F := [(pr, roadsM [])]) CR hr (pad_cons (pd_var 0) (pad_one pd_int))
            ⟨g, G0, 3, k, rfl, by decide, by decide, hG0, rfl, rfl, rfl⟩)) (by show dI _ = dI _; congr 2)) fun r2 M2 ⟨e3, e4⟩ => pax_cons (PL.cell (pl_lst (ds := []) pad_nil (Nat.zero_le _))) fun r3 M3 ⟨po, e5, e6⟩ =>
          pax_one (PL.cell (PL.is (pl_listRg rfl bl.list bl.range (pd_var 1) (by omega)) (rgD_nat n))) fun r4 M4 ⟨pl, e7, e8⟩ => ⟨pr, po, pl, by rw [e1, e3, e5, e7], by rw [e8, e6, e4]; rfl⟩)
        (by decide) (fun rs M' ⟨pr, po, pl, e, _⟩ => by rw [e]; rfl) fun rs M' ⟨pr, po, pl, e, e'⟩ => ?_) fun Δ' M' hN => ?_
    · subst e
      exact ⟨_, [4, 5, 6, 7], pgxs_cons (pgx_name 4 scNetL.nd) (pgxs_cons (pgx_name 5 scNetL.nd) (pgxs_cons (pgx_name 6 scNetL.nd) (pgxs_cons (pgx_name 7 scNetL.nd) pgxs_nil))), pr, po, pl, rfl, e'⟩
    obtain ⟨pr, po, pl, rfl, rfl⟩ := hN
    have hG1 : GOk (k + 1) (nxt G0 3) := nxt_ok hG0 3 (by omega)
    generalize nxt G0 3 = G1 at hG1
    generalize hsv : 1 + rnd G0 3 = sh
    refine pb_cons (Nx1 := fun Δ' M' => ∃ order G t, order.Perm (List.range n) ∧ GOk (k + 1 + n) G ∧ Δ' = [.val (.ref g), dI n, dI m, dB false, .val (.ref pr), dI sh, .val (.ref po), .val (.ref pl), t, .nil, .nil, .nil] ∧ M' = [(g, genD G), (pr, roadsM []), (po, .ld (natD order)), (pl, .ld (natD []))])
      (psx_for (fun i Δ' M' => ∃ order left G t, (order ++ left).Perm (List.range n) ∧ order.length = i ∧ GOk (k + 1 + i) G ∧ Δ' = [.val (.ref g), dI n, dI m, dB false, .val (.ref pr), dI sh, .val (.ref po), .val (.ref pl), t, .nil, .nil, .nil] ∧ M' = [(g, genD G), (pr, roadsM []), (po, .ld (natD order)), (pl, .ld (natD left))]) PassesOwn.never rfl
        (pix_range1 (n := (n : Int)) bl.range (pd_var 1) (by omega)) ⟨[], List.range n, G1, _, .refl _, rfl, hG1, rfl, rfl⟩ (fun _ _ _ _ => trivial) (fun i d Δ' M' hd hI => ?_) (fun Δ' M' hI => ?_)) fun Δ' M' hN => ?_
    · obtain ⟨hi, rfl⟩ := rgD_get hd
      obtain ⟨order, left, G, t, hp, hol, hG, rfl, rfl⟩ := hI
      have hll := hp.length_eq
      rw [List.length_append, List.length_range] at hll
      have hin : i < n := by omega
      have hrl := rnd_lt G (show 0 < left.length by omega)
      obtain ⟨v, hv⟩ : ∃ v, left[rnd G left.length]? = some v := ⟨_, List.getElem?_eq_getElem hrl⟩
      refine ⟨_, [8], pgx_name 8 scNetL.nd, ?_⟩
      refine pb_one (psx_expr (PD.px (R := fun r M' => M' = _) (pd_append (d := .int (v : Int)) 2 (pd_var 6) (pd_popAt (d := .int (v : Int)) (k := rnd G left.length) 3 (pd_var 7)
        (pd_callM (Mc := [(g, genD G)]) (Mc' := [(g, genD (nxt G left.length))]) (F := [(pr, roadsM []), (po, MD.ld (natD order)), (pl, .ld (natD left))]) CR hr (pad_cons (pd_var 0) (pad_one (PD.is (pd_len (ds := natD left) bl.len (pd_var 7) (.cell (by simp))) (by rw [natD_len]))))
          ⟨g, G, left.length, k + 1 + i, rfl, by omega, by omega, hG, rfl, rfl, rfl⟩) ⟨natD left, by simp⟩ rfl (natD_get hv) (by rw [natD_len]; omega)) ⟨natD order, by simp⟩ rfl (by rw [natD_len]; exact sz_lt (by omega))) rfl) fun r M' e => ?_)
      subst e
      refine ⟨order ++ [v], left.eraseIdx (rnd G left.length), _, _, (perm_pop hv).trans hp, by rw [List.length_append, hol]; rfl, nxt_ok hG left.length (by omega), rfl, ?_⟩
      show [(g, genD _), (pr, _), (po, MD.ld (natD order ++ [_])), (pl, MD.ld ((natD left).eraseIdx _))] = _
      rw [natD_snoc, natD_erase]
    · obtain ⟨order, left, G, t, hp, hol, hG, rfl, rfl⟩ := hI
      rw [rgD_len, Int.toNat_natCast] at hol hG
      have hll := hp.length_eq
      rw [List.length_append, List.length_range] at hll
      have hle : left = [] := List.eq_nil_of_length_eq_zero (by omega)
      subst hle
      rw [List.append_nil] at hp
      exact ⟨order, G, t, hp, hG, rfl, rfl⟩
    obtain ⟨order, G2, t, hp, hG2, rfl, rfl⟩ := hN
    have hol : order.length = n := by rw [hp.length_eq, List.length_range]
    have hoAt : ∀ i, i < n → (natD order)[i]? = some (.int (order.getD i 0 : Nat)) := fun i hi => natD_get (by rw [List.getD_eq_getElem?_getD, List.getElem?_eq_getElem (by omega)]; rfl)
    refine pb_cons (Nx1 := fun Δ' M' => ∃ roads G hi, RInv n order hi 0 roads ∧ GOk (k + 200) G ∧ Δ'[4]? = some (.val (.ref pr)) ∧ Δ'[1]? = some (dI n) ∧ M' = [(g, genD G), (pr, roadsM roads), (po, .ld (natD order)), (pl, .ld (natD []))])
      (psx_for (fun i Δ' M' => ∃ roads G t a b c, RInv n order (i + 1) 0 roads ∧ GOk (k + 1 + n + 20 * i) G ∧ Δ' = [.val (.ref g), dI n, dI m, dB false, .val (.ref pr), dI sh, .val (.ref po), .val (.ref pl), t, a, b, c] ∧ M' = [(g, genD G), (pr, roadsM roads), (po, .ld (natD order)), (pl, .ld (natD []))]) PassesOwn.never rfl
        (pix_range2 (i := 1) (j := (n : Int)) bl.range pd_int (pd_var 1) (by omega)) ⟨[], G2, _, _, _, _, .nil, hG2, rfl, rfl⟩ (fun _ _ _ _ => trivial) (fun i d Δ' M' hd hI => ?_) (fun Δ' M' hI => ?_)) fun Δ' M' hN => ?_
    · obtain ⟨hi, rfl⟩ := rgD_get hd
      obtain ⟨roads, G, t, a, b, c, hRI, hG, rfl, rfl⟩ := hI
      have hin : i + 1 < n := by omega
      have e1 : (1 : Int) + (i : Int) = ((i + 1 : Nat) : Int) := by omega
      rw [e1]
      refine ⟨_, [9], pgx_name 9 scNetL.nd, ?_⟩
      refine pb_set 10 scNetL.nd (pd_callM (Mc := [(g, genD G)]) (Mc' := [(g, genD (nxt G (i + 1)))]) (F := [(pr, roadsM roads), (po, MD.ld (natD order)), (pl, .ld (natD []))]) CR hr (pad_cons (pd_var 0) (pad_one (pd_var 9))) ⟨g, G, i + 1, _, rfl, by omega, by omega, hG, rfl, rfl, rfl⟩) ?_
      have hG' : GOk (k + 1 + n + 20 * i + 1) (nxt G (i + 1)) := nxt_ok hG _ (by omega)
      generalize nxt G (i + 1) = G3 at hG'
      generalize rnd G (i + 1) = pt
      refine pb_one (psx_for (fun j Δ' M' => ∃ roads G t a b, RInv n order (i + 1) j roads ∧ GOk (k + 1 + n + 20 * i + 1 + 2 * j) G ∧ Δ' = [.val (.ref g), dI n, dI m, dB false, .val (.ref pr), dI sh, .val (.ref po), .val (.ref pl), t, dI ((i + 1 : Nat) : Int), a, b] ∧ M' = [(g, genD G), (pr, roadsM roads), (po, .ld (natD order)), (pl, .ld (natD []))]) PassesOwn.never rfl
        (pix_range1 (n := ((i + 1 : Nat) : Int)) bl.range (pd_var 9) (by omega)) ⟨roads, G3, _, _, _, hRI, hG', rfl, rfl⟩ (fun _ _ _ _ => trivial) (fun j d Δ' M' hd hI => ?_) (fun Δ' M' hI => ?_))
      · obtain ⟨hj, rfl⟩ := rgD_get hd
        obtain ⟨roads, G, t, a, b, hRI, hG, rfl, rfl⟩ := hI
        have hji : j < i + 1 := by omega
        have e0 : (0 : Int) + (j : Int) = (j : Int) := Int.zero_add _
        rw [e0]
        have hbnd := (hRI.vnet hp hn1 hn5).2.2.2
        refine ⟨_, [11], pgx_name 11 scNetL.nd, ?_⟩
        refine pb_one (psx_if (t := decide (((rnd G 4 : Nat) : Int) < (sh : Int))) (PWD.pt (pwd_orF (PWD.pt (pwd_andF (ptd_val (pd_var 3)))) (pwd_or1 (ptd_cmp (pc_lt (pd_callM (Mc := [(g, genD G)]) (Mc' := [(g, genD (nxt G 4))]) (F := [(pr, roadsM roads), (po, MD.ld (natD order)), (pl, .ld (natD []))]) CR hr (pad_cons (pd_var 0) (pad_one pd_int)) ⟨g, G, 4, _, rfl, by decide, by decide, hG, rfl, rfl, rfl⟩) (pd_var 5))))))
          (fun _ => ?_) (fun _ => pb_nil ⟨roads, nxt G 4, _, _, _, hRI.mono (fun h l z => by omega), (nxt_ok hG 4 (by omega)).mono (by omega) (by omega), rfl, rfl⟩))
        have hG4 := nxt_ok hG 4 (by omega)
        generalize nxt G 4 = G4 at hG4
        have hrm := rnd_lt G4 (show 0 < m by omega)
        refine pb_one (psx_expr (PD.px (R := fun r M' => M' = _) (pd_append (d := .tuple [.int ((min (order.getD j 0) (order.getD (i + 1) 0) : Nat) : Int), .int ((max (order.getD j 0) (order.getD (i + 1) 0) : Nat) : Int), .int ((1 + rnd G4 m : Nat) : Int)]) (ds := (roads.map roadL).map tupD) 1 (pd_var 4)
          (pd_tup (ds := [.int ((min (order.getD j 0) (order.getD (i + 1) 0) : Nat) : Int), .int ((max (order.getD j 0) (order.getD (i + 1) 0) : Nat) : Int), .int ((1 + rnd G4 m : Nat) : Int)])
            (pad_cons (PD.is (pd_min rfl bl.min (pad_cons (pd_ix (ds := natD order) (pd_var 6) (pd_var 11) (.cell (by simp)) (atI_nat (hoAt j (by omega)))) (pad_one (pd_ix (ds := natD order) (pd_var 6) (pd_var 9) (.cell (by simp)) (atI_nat (hoAt (i + 1) hin)))))) (by show dI _ = dI _; congr 2; split <;> omega))
            (pad_cons (PD.is (pd_max rfl bl.max (pad_cons (pd_ix (ds := natD order) (pd_var 6) (pd_var 11) (.cell (by simp)) (atI_nat (hoAt j (by omega)))) (pad_one (pd_ix (ds := natD order) (pd_var 6) (pd_var 9) (.cell (by simp)) (atI_nat (hoAt (i + 1) hin)))))) (by show dI _ = dI _; congr 2; split <;> omega))
            (pad_one (PD.is (pd_add pd_int (pd_callM (Mc := [(g, genD G4)]) (Mc' := [(g, genD (nxt G4 m))]) (F := [(pr, roadsM roads), (po, MD.ld (natD order)), (pl, .ld (natD []))]) CR hr (pad_cons (pd_var 0) (pad_one (pd_var 2))) ⟨g, G4, m, _, rfl, by omega, by omega, hG4, rfl, rfl, rfl⟩)) (by show dI _ = dI _; congr 2)))))
            (sz_le (by show 3 ≤ 100000; decide))) ⟨_, List.mem_of_getElem? (i := 1) rfl⟩ rfl (by rw [List.length_map, List.length_map]; exact sz_lt (by omega))) rfl) fun r M' e => ?_)
        subst e
        refine ⟨_, nxt G4 m, _, _, _, hRI.add hp hji hin (show 1 ≤ 1 + rnd G4 m by omega) (show 1 + rnd G4 m ≤ 3 by omega), (nxt_ok hG4 m (by omega)).mono (by omega) (by omega), rfl, ?_⟩
        show [(g, genD _), (pr, MD.ld (_ ++ [_])), (po, _), (pl, _)] = _
        rw [roadsM_snoc]
      · obtain ⟨roads, G, t, a, b, hRI, hG, rfl, rfl⟩ := hI
        rw [rgD_len, Int.toNat_natCast] at hRI hG
        exact ⟨roads, G, _, _, _, _, hRI.mono (fun h l z => by omega), hG.mono (by omega) (by omega), rfl, rfl⟩
    · obtain ⟨roads, G, t, a, b, c, hRI, hG, rfl, rfl⟩ := hI
      rw [rgD_len] at hRI hG
      exact ⟨roads, G, _, hRI, hG.mono (by omega) (by omega), rfl, rfl, rfl⟩
    obtain ⟨roads, G, hi, hRI, hG, h4, h1, rfl⟩ := hN
    obtain ⟨vn, hm60, b64, hl25⟩ := hRI.vnet hp hn1 hn5
    refine pb_ret (PD.drop (M2 := [(g, genD G)]) (r := .dat (netD n (sortR roads))) (PD.is (pd_tup (ds := [.int (n : Int), .list (((sortR roads).map roadL).map tupD)]) (pad_cons (pd_var 1 h1) (pad_one (PL.pd (pl_sortT (nss := roads.map roadL) (mss := (sortR roads).map roadL) (d := 3) (C := 64) (by decide) bl.sorted (pd_var 4 h4) (.cell (List.mem_of_getElem? (i := 1) rfl)) (by rw [List.length_map]; omega) (fun ns hns => ?_) fun kss hp hs => sort_roads b64 hp hs)))) (sz_le (by show 2 ≤ 100000; decide))) (by unfold netD; rw [List.map_map]; rfl)) (by simp) (hR _ _ vn hm60 hG))
    obtain ⟨r, hr', rfl⟩ := List.mem_map.mp hns
    have := b64 r hr'
    refine ⟨rfl, fun x hx => ?_⟩
    have hx' : x = (r.1 : Int) ∨ x = (r.2.1 : Int) ∨ x = (r.2.2 : Int) := by simpa [roadL] using hx
    omega
end
end KR

/-! KR, part S: sorted(set(xs)), xs a list of ints. -/
namespace KR
open PySem PySem.Spec PyProof.Rows L2
abbrev freshS (w : World) : Obj := { cls := .type "set", dict := none, data := .set #[] 0 (.fresh 0 0 (!w.params.followText "set-order")) }
section
variable {P : Program} {w : World} {A : Around} {E : Value → Shared → Prop} {s : Shared}
/-- a set made of a list of ints, with the table's own reading -/
theorem set_of_list {l : Addr} {items : Array Value} (ns : List Int) {Q : Value → Shared → Prop} (hh : A.handled = none) (hl : s.heap.IsList l items) (hit : IntsAre items.toList ns) (hb : ns.length + 1 < scanBound)
    (kk : ∀ (h2 : Heap) (tk c : Nat), SetR w h2 s.heap.objs.size (fun j => decide (j ∈ ns)) c → c ≤ ns.length → (∀ b o, s.heap.get? b = some o → h2.get? b = some o) → Q (.ref s.heap.objs.size) { s with heap := h2, toks := tk }) :
    wpAny (model P w) A (call (.type "set") [Value.ref l]) Q E s := by
  have hisz : items.size = ns.length := by rw [← Array.length_toList]; exact IntsAre.length hit
  obtain ⟨mc, ml, hmro⟩ := F.called_set.mro
  have hmade := F.called_set.made; have hsub := F.called_set.sub
  refine wpAny_call (codeAny_of_tree ?_); show wpAny _ _ (callAny (.type "set") _) _ _ _
  refine wpAny_pure ⟨Code.quiet_builtin _ (by decide +kernel), codeAny_builtin F.entry_type_call ?_⟩; rw [Around.under_plain (weight_type_call_type "set" [.ref l] []) rfl]
  have h1 := F.called_set.notType; have h2 := F.called_set.canCreate; have hct := F.typeCall_set_1 (.ref l); repeat (any_goals (first | assumption | wp_step))
  refine codeAny_mono (code_set_led1 (.ref l) (E := E) (Q₁ := fun v z => v = .ref s.heap.objs.size ∧ z = { s with heap := s.heap.push (freshS w) }) ⟨rfl, rfl⟩) fun res z hres => ?_
  cases res with
  | error x => exact hres
  | ok fl =>
    cases fl with
    | ret v =>
      obtain ⟨rfl, rfl⟩ := hres
      have gS : (s.heap.push (freshS w)).get? s.heap.objs.size = some (freshS w) := Heap.get?_push_size _ rfl
      have tS : Shared.TypeIs { s with heap := s.heap.push (freshS w) } (.ref s.heap.objs.size) "set" := ⟨_, gS, rfl⟩
      have hli := F.called_set.init.lookup; have hbi := F.called_set.init.bind (.ref s.heap.objs.size); repeat (any_goals (first | assumption | wp_step))
      refine codeAny_mono (codeAny_call_builtin (R := wants (fun v z => v = .none ∧ ∃ h2 tk c, z = { s with heap := h2, toks := tk } ∧ SetR w h2 s.heap.objs.size (fun j => decide (j ∈ ns)) c ∧ c ≤ ns.length ∧ ∀ b o, s.heap.get? b = some o → h2.get? b = some o) E)
        F.called_set.init.plain F.entry_set_init (check_set_init_1 tS ?_)) fun res2 z2 hres2 => ?_
      · obtain ⟨⟨lc, ld, ldata, lsl⟩, hol, hcl, nl, hdl⟩ := hl
        simp only at hcl hdl; subst hcl; subst hdl
        have hol2 : (s.heap.push (freshS w)).get? l = some { cls := .type "list", dict := ld, data := .seq items nl, slots := lsl } := Heap.get?_push_of_some _ hol
        have s1 := F.sub_list_set; have s2 := F.sub_list_frozenset
        have nd : (Value.type "list" == Value.type "dict") = false := by decide
        have isl : (s.heap.push (freshS w)).IsList l items := ⟨_, hol2, rfl, nl, rfl⟩
        unfold Builtin.«set.__init__» noKeywords Builtin.Frozenset.updateFrom; generalize hPI : pyIter = PI; wp_walk; subst hPI
        refine wpAny_pyIter_list isl (wpAny_bind (wpAny_runValue ?_))
        have llt : l < s.heap.objs.size := Heap.lt_size hol
        have han : A.in1.in1.in1.handled = none := by simp [hh]
        have nI : l ≠ (s.heap.push (freshS w)).objs.size := fun q => by
          rw [Heap.size_push] at q
          exact absurd q (Nat.ne_of_lt (Nat.lt_succ_of_lt llt))
        have nS : s.heap.objs.size ∉ [(s.heap.push (freshS w)).objs.size, l] := fun z => by
          rcases List.mem_cons.mp z with q | q
          · rw [Heap.size_push] at q
            exact absurd q (Nat.ne_of_lt (Nat.lt_succ_self _))
          · exact absurd (List.mem_singleton.mp q) (Nat.ne_of_gt llt)
        have val : ∀ (i : Nat) (v : Value), items[i]? = some v → ∃ k t, ns[i]? = some k ∧ v = .int k t := fun i v hv => by
          have il : i < ns.length := by rw [← hisz]; exact (Array.getElem?_eq_some_iff.mp hv).1
          obtain ⟨tk, e⟩ := PyProof.Rows.IntsAre.int_at hit i v (by rw [Array.getElem?_toList]; exact hv)
          exact ⟨ns[i], tk, List.getElem?_eq_getElem il, by rw [e, List.getD_eq_getElem?_getD, List.getElem?_eq_getElem il] <;> rfl⟩
        refine set_update_ints ((Walks.list han _ l nI items).toS) s.heap.objs.size nS ns hisz hb val (items.size - 0) 0 _ (by omega) (Nat.zero_le _) ⟨⟨_, Heap.get?_push_size _ rfl, rfl, rfl⟩, isl.push _⟩ ?start ?fin
        case start => exact ⟨0, Nat.le_refl 0, setR_new_at (Heap.get?_push_of_some _ gS)⟩
        case fin =>
          intro z3 c3 mv hc3 hS3
          obtain ⟨h3, g3, d3, t3, o3⟩ := z3
          obtain rfl : g3 = s.gens := mv.gens
          obtain rfl : d3 = s.drawn := mv.drawn
          obtain rfl : o3 = s.os := mv.os
          show wpAny _ _ _ _ _ _
          refine wpAny_pure (show wpAny _ _ (ret Value.none) _ _ _ from ?_)
          rw [hisz] at hc3
          refine wpAny_pure ⟨rfl, h3, t3, c3, rfl, hS3, hc3, fun b o e => ?_⟩
          have lt := Heap.lt_size e
          refine mv.heap b o (fun q => ?_) (Heap.get?_push_of_some _ (Heap.get?_push_of_some _ e))
          rcases List.mem_cons.mp q with q | q
          · exact absurd q (Nat.ne_of_lt lt)
          · have q := List.mem_singleton.mp q
            rw [Heap.size_push] at q
            exact absurd q (Nat.ne_of_lt (Nat.lt_succ_of_lt lt))
      · cases res2 with
        | error x => exact hres2
        | ok fl2 =>
          cases fl2 with
          | ret v2 =>
            obtain ⟨rfl, h3, t3, c3, rfl, hS3, hc3, keep⟩ := hres2; repeat (any_goals (first | assumption | wp_step))
            exact kk _ _ _ hS3 hc3 keep
          | _ => exact hres2.elim
    | _ => exact hres.elim
end
/-- set(xs) -/
def rSetOfI (K : PySem.W.Frag) (w : World) : List V → Hp → VK → Prop := fun xs H Q => ∃ (l : Addr) (ns : List Int), xs = [V.ref l] ∧ SqL K H l (ns.map V.int) ∧ ns.length < 64 ∧ ∀ a c, H a = none → c ≤ ns.length → Q (.ref a) (upd H a (SetO w a (fun j => decide (j ∈ ns)) c))
theorem cr_setOfI {X : Cx} (hc : X.calm = true) : CallR X (.type "set") (rSetOfI X.K X.w) := by
  intro pins s σ H xs us Q I r h
  obtain ⟨l, ns, rfl, hl, h64, q⟩ := h
  rw [Vals.ref1 r]
  obtain ⟨its, rv, pl, hz⟩ := I.list hl
  have hn : H s.heap.objs.size = none := I.hok.fresh (Nat.le_refl _)
  refine set_of_list ns (I.ok.hd hc) pl.isList (by simpa using rv.ints) (by unfold scanBound; omega) fun h2 tk c R hcn k => ?_
  exact ⟨.ref s.heap.objs.size, _, I.laid (t' := tk) k (Nat.le_refl _) (setO_new R), rfl, q _ c hn hcn⟩
section
variable {X : Cx} {Δ : List SD} {M M1 : Ms} {ra : SD} {a : Expr} {p p2 pos pos2 : Pos} {ns ms : List Int}
theorem pl_sortSet (hc : X.calm = true) (hm : X.mg "sorted" = none) (hm2 : X.mg "set" = none) (ha : PD X a Δ M ra M1) (hl : LsD ra (ns.map PyData.int) M1) (h64 : ns.length < 64) (hs : ∀ ns' : List Int, ns'.Pairwise (· < ·) → (∀ k, k ∈ ns' ↔ k ∈ ns) → ns' = ms)
    (hg : Gl X "sorted" := by rfl) (hg2 : Gl X "set" := by rfl) (he : starEach [a] X.env = (false, eval a X.env) :: starEach [] X.env := by rfl) (hpl : (backTo pos2 (starEach [] X.env)).any (·.1) = false := by rfl)
    (he2 : starEach [.Call (.Name "set" p2) [a] [] pos2] X.env = (false, eval (.Call (.Name "set" p2) [a] [] pos2) X.env) :: starEach [] X.env := by rfl) (hpl2 : (backTo pos (starEach [] X.env)).any (·.1) = false := by rfl) :
    PL X (.Call (.Name "sorted" p) [.Call (.Name "set" p2) [a] [] pos2] [] pos) Δ M (ms.map PyData.int) M1 := by
  have h1 := pe_callTy (p := p2) (pos := pos2) (cr_setOfI hc) hg2 hm2 PyProof.Rows.boot_set (pad_one ha he) (by decide) (by decide) he hpl
  have h2 := pe_callB (p := p) (pos := pos) (cr_sortedSet hc) hg hm PyProof.Rows.boot_sorted (pa_cons h1 pa_nil he2) (by decide) (by decide) he2 hpl2
  refine PE.of h2 fun σ H Q ⟨B, q1, q2, q3⟩ => ?_
  refine ⟨B, q1, q2, fun vs B1 H1 g rv => ?_⟩
  obtain ⟨v, rfl, rx⟩ := rs1 rv
  obtain ⟨l, xs, rfl, hx, hd⟩ := hl.of rx g.go
  rw [dta_ints.mp hd] at hx
  refine ⟨l, ns, rfl, SqL.of hx, h64, fun b c hb hcn => ?_⟩
  have g2 := g.trans (Gr.alloc (p := b) (o := SetO X.w b (fun j => decide (j ∈ ns)) c) g.go hb)
  refine ⟨b, _, c, rfl, upd_same, by omega, fun ns' t h1 h2 h3 ht => ?_⟩
  have e : ns' = ms := hs ns' h1 fun k => (h2 k).trans decide_eq_true_iff
  subst e
  exact q3 t _ B1 _ (g2.trans (Gr.alloc g2.go ht)) (th_none g2 ht) (g2.go.bh.free ht) upd_same (dta_ints.mpr rfl) (notin_of g2.go ht)
end
end KR

/-! KR, part Q: orders and rings, plain. -/
namespace KR
/-! ### all orders -/
def extR (n : Nat) (r : List Nat) : List (List Nat) := ((List.range n).filter fun h => !decide (h ∈ r)).map fun h => r ++ [h]
def stepR (n : Nat) (fs : List (List Nat)) : List (List Nat) := fs.flatMap (extR n)
def ordersT (n : Nat) : Nat → List (List Nat)
  | 0 => [[]]
  | t + 1 => stepR n (ordersT n t)
theorem extR_len (n : Nat) (r : List Nat) : (extR n r).length ≤ n := by
  unfold extR
  rw [List.length_map]
  have := List.length_filter_le (fun h => !decide (h ∈ r)) (List.range n)
  rw [List.length_range] at this
  exact this
theorem stepR_len (n : Nat) : ∀ fs : List (List Nat), (stepR n fs).length ≤ n * fs.length
  | [] => by simp [stepR]
  | r :: fs => by
    have ih := stepR_len n fs
    have := extR_len n r
    unfold stepR at ih ⊢
    rw [List.flatMap_cons, List.length_append, List.length_cons, Nat.mul_add, Nat.mul_one]
    omega
theorem ordersT_len (n : Nat) : ∀ t, (ordersT n t).length ≤ n ^ t
  | 0 => by simp [ordersT]
  | t + 1 => by
    have ih := ordersT_len n t
    have := stepR_len n (ordersT n t)
    show (stepR n (ordersT n t)).length ≤ _
    rw [Nat.pow_succ, Nat.mul_comm]
    exact Nat.le_trans this (Nat.mul_le_mul_left n ih)
theorem mem_extR {n : Nat} {r q : List Nat} : q ∈ extR n r ↔ ∃ h, h < n ∧ h ∉ r ∧ q = r ++ [h] := by
  unfold extR
  rw [List.mem_map]
  constructor
  · rintro ⟨h, h1, rfl⟩
    have h2 := List.mem_filter.mp h1
    exact ⟨h, List.mem_range.mp h2.1, by simpa using h2.2, rfl⟩
  · rintro ⟨h, h1, h2, rfl⟩
    exact ⟨h, List.mem_filter.mpr ⟨List.mem_range.mpr h1, by simpa using h2⟩, rfl⟩
theorem mem_orders {n : Nat} : ∀ {t : Nat} {q : List Nat}, q ∈ ordersT n t ↔ q.length = t ∧ q.Nodup ∧ ∀ x ∈ q, x < n
  | 0, q => by
    unfold ordersT
    rw [List.mem_singleton]
    constructor
    · rintro rfl; simp
    · rintro ⟨h, _⟩; exact List.eq_nil_of_length_eq_zero h
  | t + 1, q => by
    show q ∈ stepR n (ordersT n t) ↔ _
    unfold stepR
    rw [List.mem_flatMap]
    constructor
    · rintro ⟨r, hr, hq⟩
      obtain ⟨h, h1, h2, rfl⟩ := mem_extR.mp hq
      obtain ⟨a, b, c⟩ := mem_orders.mp hr
      refine ⟨by rw [List.length_append, a]; rfl, List.nodup_append.mpr ⟨b, by simp, fun x hx y hy e => ?_⟩, fun x hx => ?_⟩
      · have : y = h := by simpa using hy
        subst this e
        exact h2 hx
      · rcases List.mem_append.mp hx with z | z
        · exact c x z
        · have : x = h := by simpa using z
          omega
    · rintro ⟨a, b, c⟩
      have hne : q ≠ [] := fun z => by rw [z] at a; cases a
      obtain ⟨r, h, rfl⟩ : ∃ r h, q = r ++ [h] := ⟨q.dropLast, q.getLast hne, (List.dropLast_concat_getLast hne).symm⟩
      have b' := List.nodup_append.mp b
      refine ⟨r, mem_orders.mpr ⟨by rw [List.length_append] at a; simpa using a, b'.1, fun x hx => c x (List.mem_append_left _ hx)⟩, mem_extR.mpr ⟨h, c h (by simp), fun z => b'.2.2 h z h (by simp) rfl, rfl⟩⟩
/-- strictly before: at the first place that differs -/
def LexL (t : Nat) (f g : List Nat) : Prop := ∃ i, i < t ∧ (∀ j, j < i → f.getD j 0 = g.getD j 0) ∧ f.getD i 0 < g.getD i 0
theorem LexL.snoc {t : Nat} {f g : List Nat} (h : LexL t f g) (hf : f.length = t) (hg : g.length = t) (x y : Nat) : LexL (t + 1) (f ++ [x]) (g ++ [y]) := by
  obtain ⟨i, h1, h2, h3⟩ := h
  have e1 : ∀ j, j < t → (f ++ [x]).getD j 0 = f.getD j 0 := fun j hj => by rw [List.getD_eq_getElem?_getD, List.getElem?_append_left (by omega), List.getD_eq_getElem?_getD]
  have e2 : ∀ j, j < t → (g ++ [y]).getD j 0 = g.getD j 0 := fun j hj => by rw [List.getD_eq_getElem?_getD, List.getElem?_append_left (by omega), List.getD_eq_getElem?_getD]
  exact ⟨i, by omega, fun j hj => by rw [e1 j (by omega), e2 j (by omega)]; exact h2 j hj, by rw [e1 i h1, e2 i h1]; exact h3⟩
theorem orders_asc {n : Nat} : ∀ t, (ordersT n t).Pairwise (LexL t)
  | 0 => List.pairwise_singleton _ _
  | t + 1 => by
    show (stepR n (ordersT n t)).Pairwise _
    unfold stepR
    rw [List.pairwise_flatMap]
    refine ⟨fun r hr => ?_, (orders_asc t).imp_of_mem fun {a b} ha hb hab x hx y hy => ?_⟩
    · have hl := (mem_orders.mp hr).1
      unfold extR
      rw [List.pairwise_map]
      refine List.Pairwise.sublist List.filter_sublist (List.pairwise_lt_range.imp fun {x y} hxy => ?_)
      have e : ∀ z, (r ++ [z]).getD t 0 = z := fun z => by rw [List.getD_eq_getElem?_getD, List.getElem?_append_right (by omega), hl, Nat.sub_self]; rfl
      refine ⟨t, by omega, fun j hj => ?_, by rw [e, e]; exact hxy⟩
      rw [List.getD_eq_getElem?_getD, List.getElem?_append_left (by omega), List.getD_eq_getElem?_getD, List.getElem?_append_left (by omega)]
    · obtain ⟨u, _, _, rfl⟩ := mem_extR.mp hx
      obtain ⟨v, _, _, rfl⟩ := mem_extR.mp hy
      exact hab.snoc (mem_orders.mp ha).1 (mem_orders.mp hb).1 u v
/-! ### fitting lists -/
def fitB (w : Nat → Nat → Bool) (n : Nat) (ks : List Nat) : Bool := (List.range n).all fun u => (List.range n).all fun v => !w u v || decide (ks.getD u 0 < ks.getD v 0)
theorem fitB_iff {w : Nat → Nat → Bool} {n : Nat} {ks : List Nat} : fitB w n ks = true ↔ ∀ u v, u < n → v < n → w u v = true → ks.getD u 0 < ks.getD v 0 := by
  unfold fitB
  rw [List.all_eq_true]
  constructor
  · intro h u v hu hv hw
    have := List.all_eq_true.mp (h u (List.mem_range.mpr hu)) v (List.mem_range.mpr hv)
    rw [hw] at this
    simpa using this
  · intro h u hu
    rw [List.all_eq_true]
    intro v hv
    cases q : w u v with
    | false => rfl
    | true => simpa using h u v (List.mem_range.mp hu) (List.mem_range.mp hv) q
theorem fit_of {w : Nat → Nat → Bool} {n : Nat} {ks : List Nat} (h1 : ks ∈ ordersT n n) (h2 : fitB w n ks = true) : Fit n w fun i => ks.getD i 0 := by
  obtain ⟨a, b, c⟩ := mem_orders.mp h1
  have g : ∀ i, i < n → ks[i]? = some (ks.getD i 0) := fun i hi => by
    rw [List.getD_eq_getElem?_getD, List.getElem?_eq_getElem (by omega)]
    rfl
  refine ⟨fun i hi => c _ (List.mem_of_getElem? (g i hi)), fun i j hi hj e => ?_, fitB_iff.mp h2⟩
  have e1 := g i hi
  have e2 := g j hj
  rw [show ks.getD i 0 = ks.getD j 0 from e] at e1
  obtain ⟨l1, x1⟩ := List.getElem?_eq_some_iff.mp e1
  obtain ⟨l2, x2⟩ := List.getElem?_eq_some_iff.mp e2
  unfold List.Nodup at b
  rw [List.pairwise_iff_getElem] at b
  rcases Nat.lt_trichotomy i j with z | z | z
  · exact absurd (x1.trans x2.symm) (b i j l1 l2 z)
  · exact z
  · exact absurd (x2.trans x1.symm) (b j i l2 l1 z)
theorem of_fit {w : Nat → Nat → Bool} {n : Nat} {ks : List Nat} (hl : ks.length = n) (F : Fit n w fun i => ks.getD i 0) : ks ∈ ordersT n n ∧ fitB w n ks = true := by
  have g : ∀ i (hi : i < ks.length), ks[i] = ks.getD i 0 := fun i hi => by
    rw [List.getD_eq_getElem?_getD, List.getElem?_eq_getElem hi]
    rfl
  refine ⟨mem_orders.mpr ⟨hl, ?_, fun x hx => ?_⟩, fitB_iff.mpr F.ord⟩
  · unfold List.Nodup
    rw [List.pairwise_iff_getElem]
    intro i j hi hj hij e
    rw [g i hi, g j hj] at e
    have := F.inj i j (by omega) (by omega) e
    omega
  · obtain ⟨i, hi, rfl⟩ := List.getElem_of_mem hx
    rw [g i hi]
    exact F.lt i (by omega)
/-- the first of the fitting orders is the numbering -/
theorem head_good (w : Nat → Nat → Bool) (n : Nat) : ((ordersT n n).filter (fitB w n)).head? = numF w n := by
  cases e : numF w n with
  | none =>
    obtain ⟨S, h0, h1, h2⟩ := numF_none e
    rw [List.head?_eq_none_iff, List.filter_eq_nil_iff]
    intro ks hk hf
    exact no_fit h0 h1 h2 _ (fit_of hk hf)
  | some ks =>
    obtain ⟨a, b, c⟩ := numF_some e
    obtain ⟨m1, m2⟩ := of_fit a b
    have hmem : ks ∈ (ordersT n n).filter (fitB w n) := List.mem_filter.mpr ⟨m1, m2⟩
    have asc : ((ordersT n n).filter (fitB w n)).Pairwise (LexL n) := (orders_asc n).sublist List.filter_sublist
    cases q : (ordersT n n).filter (fitB w n) with
    | nil => rw [q] at hmem; cases hmem
    | cons r rest =>
      rw [q] at hmem asc
      rcases List.mem_cons.mp hmem with z | z
      · rw [z]; rfl
      · exfalso
        obtain ⟨i, h1, h2, h3⟩ := (List.pairwise_cons.mp asc).1 ks z
        have hr := List.mem_filter.mp (show r ∈ (ordersT n n).filter (fitB w n) by rw [q]; exact List.mem_cons_self)
        rcases c _ (fit_of hr.1 hr.2) with y | ⟨j, y1, y2, y3⟩
        · have := y i h1
          simp only at this
          omega
        · simp only at y2 y3
          rcases Nat.lt_trichotomy i j with x | x | x
          · have := y2 i x; omega
          · subst x; omega
          · have := h2 j x; omega

/-! ### rings -/
def newN (w : Nat → Nat → Bool) (n : Nat) (r : List Nat) : List Nat := (List.range n).filter fun v => !decide (v ∈ r) && r.any fun u => w u v
def reachN (w : Nat → Nat → Bool) (n h : Nat) : Nat → List Nat
  | 0 => [h]
  | t + 1 => reachN w n h t ++ newN w n (reachN w n h t)
def roundN (w : Nat → Nat → Bool) (n : Nat) : Bool := (List.range n).any fun h => (reachN w n h n).any fun u => w u h
section
variable {w : Nat → Nat → Bool} {n : Nat}
theorem mem_newN {r : List Nat} {v : Nat} : v ∈ newN w n r ↔ v < n ∧ v ∉ r ∧ ∃ u ∈ r, w u v = true := by
  unfold newN
  rw [List.mem_filter, List.mem_range, Bool.and_eq_true, List.any_eq_true]
  constructor
  · rintro ⟨a, b, c⟩
    exact ⟨a, by simpa using b, c⟩
  · rintro ⟨a, b, c⟩
    exact ⟨a, by simpa using b, c⟩
theorem reach_mem {h : Nat} : ∀ t, h ∈ reachN w n h t
  | 0 => List.mem_singleton.mpr rfl
  | t + 1 => List.mem_append_left _ (reach_mem t)
theorem reach_lt {h : Nat} (hh : h < n) : ∀ t, ∀ x ∈ reachN w n h t, x < n
  | 0, x, hx => by
    have : x = h := List.mem_singleton.mp hx
    omega
  | t + 1, x, hx => by
    rcases List.mem_append.mp hx with z | z
    · exact reach_lt hh t x z
    · exact (mem_newN.mp z).1
theorem reach_nodup {h : Nat} : ∀ t, (reachN w n h t).Nodup
  | 0 => by simp [reachN]
  | t + 1 => by
    refine List.nodup_append.mpr ⟨reach_nodup t, List.nodup_range.sublist List.filter_sublist, fun a ha b hb e => ?_⟩
    subst e
    exact (mem_newN.mp hb).2.1 ha
/-- the least closed list -/
theorem reach_least {h : Nat} {C : List Nat} (hC : h ∈ C) (cl : ∀ u ∈ C, ∀ v, w u v = true → v ∈ C) : ∀ t, ∀ x ∈ reachN w n h t, x ∈ C
  | 0, x, hx => by
    have : x = h := List.mem_singleton.mp hx
    rw [this]; exact hC
  | t + 1, x, hx => by
    rcases List.mem_append.mp hx with z | z
    · exact reach_least hC cl t x z
    · obtain ⟨_, _, u, hu, q⟩ := mem_newN.mp z
      exact cl u (reach_least hC cl t u hu) x q
theorem reach_stop {h t : Nat} (e : newN w n (reachN w n h t) = []) : ∀ k, reachN w n h (t + k) = reachN w n h t
  | 0 => rfl
  | k + 1 => by
    show reachN w n h (t + k) ++ newN w n (reachN w n h (t + k)) = _
    rw [reach_stop e k, e, List.append_nil]
theorem reach_grow {h : Nat} (hh : h < n) : ∀ t, (∃ s, s ≤ t ∧ newN w n (reachN w n h s) = []) ∨ t + 2 ≤ (reachN w n h (t + 1)).length
  | 0 => by
    by_cases q : newN w n (reachN w n h 0) = []
    · exact .inl ⟨0, Nat.le_refl _, q⟩
    · refine .inr ?_
      show 2 ≤ (reachN w n h 0 ++ newN w n (reachN w n h 0)).length
      have := List.length_pos_iff.mpr q
      rw [List.length_append]
      show 2 ≤ 1 + _
      omega
  | t + 1 => by
    rcases reach_grow hh t with ⟨s, h1, h2⟩ | h1
    · exact .inl ⟨s, by omega, h2⟩
    · by_cases q : newN w n (reachN w n h (t + 1)) = []
      · exact .inl ⟨t + 1, Nat.le_refl _, q⟩
      · refine .inr ?_
        show t + 1 + 2 ≤ (reachN w n h (t + 1) ++ newN w n (reachN w n h (t + 1))).length
        have := List.length_pos_iff.mpr q
        rw [List.length_append]
        omega
theorem reach_closed (wl : ∀ u v, w u v = true → v < n) {h : Nat} (hh : h < n) : ∀ u ∈ reachN w n h n, ∀ v, w u v = true → v ∈ reachN w n h n := by
  have st : ∃ s, s ≤ n ∧ newN w n (reachN w n h s) = [] := by
    rcases reach_grow (w := w) hh n with h1 | h1
    · exact h1
    · have := pigeon n _ (reach_nodup (w := w) (n := n) (h := h) (n + 1)) (reach_lt hh _)
      omega
  obtain ⟨s, h1, h2⟩ := st
  have e : reachN w n h n = reachN w n h s := by
    have := reach_stop h2 (n - s)
    rw [show s + (n - s) = n by omega] at this
    exact this
  rw [e]
  intro u hu v hw
  by_cases q : v ∈ reachN w n h s
  · exact q
  · have : v ∈ newN w n (reachN w n h s) := mem_newN.mpr ⟨wl u v hw, q, u, hu, hw⟩
    rw [h2] at this
    cases this
theorem sub_len : ∀ {l m : List Nat}, l.Nodup → (∀ x ∈ l, x ∈ m) → l.length ≤ m.length
  | [], m, _, _ => Nat.zero_le _
  | a :: l, m, nd, h => by
    have nd' := List.nodup_cons.mp nd
    have ha := h a List.mem_cons_self
    have ih := sub_len (l := l) (m := m.erase a) nd'.2 fun x hx => by
      have ne : x ≠ a := fun z => nd'.1 (z ▸ hx)
      exact (List.mem_erase_of_ne ne).mpr (h x (List.mem_cons_of_mem _ hx))
    rw [List.length_erase_of_mem ha] at ih
    have := List.length_pos_of_mem ha
    rw [List.length_cons]
    omega
theorem round_iff (wl : ∀ u v, w u v = true → u < n ∧ v < n) : roundN w n = (numF w n).isNone := by
  have wl2 : ∀ u v, w u v = true → v < n := fun u v h => (wl u v h).2
  cases e : numF w n with
  | some ks =>
    obtain ⟨a, F, c⟩ := numF_some e
    show roundN w n = false
    cases q : roundN w n with
    | false => rfl
    | true =>
      exfalso
      unfold roundN at q
      obtain ⟨h, h1, h2⟩ := List.any_eq_true.mp q
      obtain ⟨u, h3, h4⟩ := List.any_eq_true.mp h2
      have hh := List.mem_range.mp h1
      have key : ∀ t, ∀ x ∈ reachN w n h t, ks.getD h 0 ≤ ks.getD x 0 := by
        intro t
        induction t with
        | zero =>
          intro x hx
          have : x = h := List.mem_singleton.mp hx
          rw [this]
          exact Nat.le_refl _
        | succ t ih =>
          intro x hx
          rcases List.mem_append.mp hx with z | z
          · exact ih x z
          · obtain ⟨b1, _, y, hy, b2⟩ := mem_newN.mp z
            have := ih y hy
            have := F.ord y x (wl y x b2).1 b1 b2
            omega
      have k1 := key n u h3
      have k2 := F.ord u h (wl u h h4).1 hh h4
      omega
  | none =>
    obtain ⟨S, h0, h1, h2⟩ := numF_none e
    show roundN w n = true
    obtain ⟨x, hx, hmax⟩ := exists_max (fun x => n - (reachN w n x n).length) S h0
    obtain ⟨y, hy, hw⟩ := h2 x hx
    have hxn := h1 x hx
    have hyn := h1 y hy
    have yx : y ∈ reachN w n x n := reach_closed wl2 hxn x (reach_mem n) y hw
    have sub := reach_least yx (reach_closed wl2 hxn) (n := n) n
    by_cases q : x ∈ reachN w n y n
    · unfold roundN
      exact List.any_eq_true.mpr ⟨y, List.mem_range.mpr hyn, List.any_eq_true.mpr ⟨x, q, hw⟩⟩
    · exfalso
      have l1 := sub_len (l := x :: reachN w n y n) (m := reachN w n x n) (List.nodup_cons.mpr ⟨q, reach_nodup n⟩) fun z hz => by
        rcases List.mem_cons.mp hz with z' | z'
        · rw [z']; exact reach_mem n
        · exact sub z z'
      have l2 := pigeon n _ (reach_nodup (w := w) (n := n) (h := x) n) (reach_lt hxn _)
      have l3 := hmax y hy
      rw [List.length_cons] at l1
      omega
end
end KR

/-! KR, part P8: orders, fits, round. -/
namespace KR
open PySem PySem.Spec PyProof.Rows L2
abbrev sOrders : Stmt := topS 32
abbrev sFits : Stmt := topS 33
abbrev sRound : Stmt := topS 34
abbrev nOrders : List Str := ["_law_houses", "_law_found", "_law_turn", "_law_longer", "_law_row", "_law_house"]
abbrev nFits : List Str := ["_law_keys_here", "_law_row", "_law_pair"]
abbrev nRound : List Str := ["_law_houses", "_law_keys_here", "_law_house", "_law_reached", "_law_turn", "_law_pair"]
theorem scOrders : FnScope nOrders ["_law_houses"] (defScope sOrders) := ⟨rfl, rfl, rfl, by decide +kernel, rfl, by decide +kernel, by decide +kernel⟩
theorem scFits : FnScope nFits ["_law_keys_here", "_law_row"] (defScope sFits) := ⟨rfl, rfl, rfl, by decide +kernel, rfl, by decide +kernel, by decide +kernel⟩
theorem scRound : FnScope nRound ["_law_houses", "_law_keys_here"] (defScope sRound) := ⟨rfl, rfl, rfl, by decide +kernel, rfl, by decide +kernel, by decide +kernel⟩
def rowD (r : List Nat) : PyData := .list (natD r)
def rowsD (rss : List (List Nat)) : List PyData := rss.map rowD
theorem rowsD_app (a b : List (List Nat)) : rowsD a ++ rowsD b = rowsD (a ++ b) := by unfold rowsD; rw [List.map_append]
theorem rowsD_len (a : List (List Nat)) : (rowsD a).length = a.length := List.length_map _
theorem extR_D (n : Nat) (r : List Nat) : (List.range n).filterMap (fun h => if (!decide (h ∈ r)) = true then some (rowD (r ++ [h])) else none) = rowsD (extR n r) := by
  unfold extR rowsD
  rw [List.map_map]
  generalize List.range n = l
  induction l with
  | nil => rfl
  | cons h l ih =>
    rw [List.filterMap_cons, List.filter_cons]
    cases q : (!decide (h ∈ r)) with
    | true => rw [if_pos rfl, if_pos rfl, ih]; rfl
    | false => rw [if_neg Bool.false_ne_true, if_neg Bool.false_ne_true, ih]
theorem stepR_take (n : Nat) {fs : List (List Nat)} {i : Nat} {r : List Nat} (h : fs[i]? = some r) : stepR n (fs.take (i + 1)) = stepR n (fs.take i) ++ extR n r := by
  unfold stepR
  rw [List.take_succ, h, List.flatMap_append]
  simp
section
variable {P : Program} {w : World} {K : PySem.W.Frag} {mg : Str → Option Value} {base : Heap}
def TOrders : Tr := fun rs M R => ∃ n : Nat, rs = [dI n] ∧ n ≤ 5 ∧ M = [] ∧ R (.dat (.list (rowsD (ordersT n n)))) []
theorem pow5 {n t : Nat} (hn : n ≤ 5) (ht : t ≤ 5) : n ^ t ≤ 3125 := by
  have h1 := Nat.pow_le_pow_left hn t
  have h2 := Nat.pow_le_pow_right (show 0 < 5 by decide) ht
  have h3 : 5 ^ 5 = 3125 := by decide
  omega
theorem ok_orders {f : Addr} {fd : FuncData} (bl : Bl mg) (F : Fun K "_law_orders" "_law_orders" sOrders f fd) : FnOk P w K mg base CX0 1 f fd ["_law_houses"] (spX TOrders) := by
  refine fn_okX F scOrders (fun rs M R h => ?_) (fun cdv A outer s H E rs M R hr h => ?_)
  · obtain ⟨n, rfl, _⟩ := h
    rfl
  · obtain ⟨n, rfl, hn, rfl, hR⟩ := h
    refine pb_set 1 scOrders.nd (PL.pd (pl_lst (ds := rowsD [[]]) (pad_one (PL.pd (pl_lst (ds := []) pad_nil (Nat.zero_le _)))) (sz_le (by show 1 ≤ 100000; decide)))) ?_
    refine pb_cons (Nx1 := fun Δ' M' => Δ'[1]? = some (.dat (.list (rowsD (ordersT n n)))) ∧ M' = []) (psx_for (fun i Δ' M' => ∃ a b c d, i ≤ n ∧ Δ' = [dI n, .dat (.list (rowsD (ordersT n i))), a, b, c, d] ∧ M' = []) PassesOwn.never rfl
      (pix_range1 (n := (n : Int)) bl.range (pd_var 0) (by omega)) ⟨_, _, _, _, Nat.zero_le _, rfl, rfl⟩ (fun _ _ _ _ => trivial) (fun i d Δ' M' hd hI => ?_) (fun Δ' M' hI => ?_)) fun Δ' M' hN => ?_
    · obtain ⟨hi, rfl⟩ := rgD_get hd
      rw [Int.toNat_natCast] at hi
      obtain ⟨a, b, c, d', hin, rfl, rfl⟩ := hI
      refine ⟨_, [2], pgx_name 2 scOrders.nd, ?_⟩
      refine pb_set 3 scOrders.nd (PL.pd (pl_lst (ds := rowsD []) pad_nil (Nat.zero_le _))) ?_
      have hfl : (ordersT n i).length ≤ 3125 := Nat.le_trans (ordersT_len n i) (pow5 hn (by omega))
      refine pb_cons (Nx1 := fun Δ' M' => ∃ a c d, Δ' = [dI n, .dat (.list (rowsD (ordersT n i))), a, .dat (.list (rowsD (ordersT n (i + 1)))), c, d] ∧ M' = []) (psx_for (fun j Δ' M' => ∃ a c d, Δ' = [dI n, .dat (.list (rowsD (ordersT n i))), a, .dat (.list (rowsD (stepR n ((ordersT n i).take j)))), c, d] ∧ M' = []) PassesOwn.never rfl
        (pix_list (ds := rowsD (ordersT n i)) (pd_var 1)) ⟨_, _, _, rfl, rfl⟩ (fun _ _ _ _ => trivial) (fun j d Δ' M' hd hI => ?_) (fun Δ' M' hI => ?_)) fun Δ' M' hN => ?_
      · obtain ⟨a, c, d', rfl, rfl⟩ := hI
        obtain ⟨r, hr', rfl⟩ := map_get hd
        have hrl := (mem_orders.mp (List.mem_of_getElem? hr')).1
        refine ⟨_, [4], pgx_name 4 scOrders.nd, ?_⟩
        have l1 := stepR_len n ((ordersT n i).take j)
        have l2 : ((ordersT n i).take j).length ≤ 3125 := by rw [List.length_take]; omega
        have l3 := extR_len n r
        have l4 : n * ((ordersT n i).take j).length ≤ 5 * 3125 := Nat.mul_le_mul hn l2
        refine pb_one (psx_set 3 scOrders.nd (R := R1 (.dat (.list (rowsD (stepR n ((ordersT n i).take (j + 1)))))) []) (PL.pd (PL.is (pl_cat (ds := rowsD (stepR n ((ordersT n i).take j))) (fs := rowsD (extR n r)) (pd_var 3)
          (PL.pd (PL.is (pl_compP (List.range n) (fun (h : Nat) => .int (h : Int)) (fun h => if (!decide (h ∈ r)) = true then some (rowD (r ++ [h])) else none) rfl scOrders.nd
            ((natD_map (List.range n) ▸ rgD_nat n) ▸ pix_range1 (n := (n : Int)) bl.range (pd_var 0) (by omega)) (blkOk_by (N := nOrders) (sc := defScope sOrders) (own := [("_law_house", 5)]) (by decide +kernel)) (by rw [List.length_range]; exact sz_le (by omega)) trivial fun h hh => ?_) (extR_D n r)))
          .dat .dat (by rw [rowsD_len, rowsD_len]; exact sz_le (by omega))) (by rw [rowsD_app, stepR_take n hr']))) fun r' M' e => ?_)
        · exact cturn_if (fun s H C cl fp => pgx_name 5 scOrders.nd) (fun s H C cl fp => ptx_one (PTD.is (ptd_cmp (pc_ninI (ns := castL r) (pd_var 5) (pd_var 4) .dat)) (by rw [mem_castL]))) fun s H C cl fp =>
            PD.is (PL.pd (pl_cat (ds := natD r) (fs := natD [h]) (pd_var 4) (PL.pd (pl_lst (ds := natD [h]) (pad_one (pd_var 5)) (sz_le (by rw [natD_len]; show 1 ≤ 100000; decide)))) .dat .dat (by rw [natD_len, natD_len]; exact sz_le (by simp; omega)))) (by rw [natD_app]; rfl)
        · obtain ⟨rfl, rfl⟩ := e
          exact ⟨_, _, _, rfl, rfl⟩
      · obtain ⟨a, c, d', rfl, rfl⟩ := hI
        rw [rowsD_len, List.take_length]
        exact ⟨_, _, _, rfl, rfl⟩
      · obtain ⟨a, c, d', rfl, rfl⟩ := hN
        refine pb_one (psx_set 1 scOrders.nd (R := R1 (.dat (.list (rowsD (ordersT n (i + 1))))) []) (pd_var 3) fun r' M' e => ?_)
        obtain ⟨rfl, rfl⟩ := e
        exact ⟨_, _, _, _, by omega, rfl, rfl⟩
    · obtain ⟨a, b, c, d', hin, rfl, rfl⟩ := hI
      rw [rgD_len, Int.toNat_natCast]
      exact ⟨rfl, rfl⟩
    · obtain ⟨h1, rfl⟩ := hN
      exact pb_retD (pd_var 1 h1) hR

/-! ### fits -/
theorem dirK_mem {n : Nat} {rs : List Road} {st : List Nat} (v : VNet n rs) {x : (Nat × Nat) × Nat} (h : x ∈ dirK rs st) : x.1.1 < n ∧ x.1.2 < n ∧ decide ((x.2 : Int) = 0) = W rs st x.1.1 x.1.2 := by
  obtain ⟨⟨u, w⟩, k⟩ := x
  obtain ⟨r, hr, h2⟩ := mem_dirs0.mp (dirK_dirs v h)
  have := v.lt r hr
  refine ⟨by show u < n; omega, by show w < n; omega, ?_⟩
  unfold W
  rw [Bool.eq_iff_iff, decide_eq_true_eq, decide_eq_true_eq]
  constructor
  · intro e
    have e' : k = 0 := by exact_mod_cast e
    rw [e'] at h
    exact h
  · intro e
    rw [dirK_uniq v h e]
    rfl
theorem all_fit {n : Nat} {rs : List Road} {st : List Nat} (v : VNet n rs) (ks : List Nat) : ((dirK rs st).all fun x => !(W rs st x.1.1 x.1.2 && !decide (ks.getD x.1.1 0 < ks.getD x.1.2 0))) = fitB (W rs st) n ks := by
  rw [Bool.eq_iff_iff, fitB_iff, List.all_eq_true]
  constructor
  · intro h u w hu hw q
    have := h ((u, w), 0) (of_decide_eq_true q)
    rw [show W rs st ((u, w), 0).1.1 ((u, w), 0).1.2 = true from q] at this
    simpa using this
  · intro h x hx
    obtain ⟨h1, h2, _⟩ := dirK_mem v hx
    cases q : W rs st x.1.1 x.1.2 with
    | false => rfl
    | true => simpa using h _ _ h1 h2 q
theorem hu1 {A : Around} {k : Nat} (h : Room k A) : A.units + 1 < cLine := by
  have := h.un
  omega
theorem keysP_keep {t : (Nat × Nat) × Nat → Bool} : ∀ l : DK, (l.filterMap fun x => if t x = true then some (tupD (pairL x.1)) else none) = keysD (l.filter t)
  | [] => rfl
  | p :: ps => by
    have ih := keysP_keep (t := t) ps
    rw [List.filterMap_cons, List.filter_cons]
    cases q : t p with
    | true => rw [if_pos rfl, if_pos rfl, ih]; rfl
    | false => rw [if_neg Bool.false_ne_true, if_neg Bool.false_ne_true, ih]
theorem keysD_empty (l : DK) : (keysD l).isEmpty = l.isEmpty := by cases l <;> rfl
theorem keysD_all (l : DK) : okAll (keysD l) := fun d hd => by
  obtain ⟨x, _, rfl⟩ := List.mem_map.mp hd
  exact okD_tup _
def TFits : Tr := fun rs M R => ∃ (p : Addr) (n : Nat) (roads : List Road) (st ks : List Nat), rs = [.val (.ref p), .dat (rowD ks)] ∧ VNet n roads ∧ VSt roads st ∧ ks.length = n ∧ M = [(p, .dic (kvOf (dirK roads st)))] ∧ R (dB (fitB (W roads st) n ks)) M
theorem ok_fits {f : Addr} {fd : FuncData} (F : Fun K "_law_fits" "_law_fits" sFits f fd) : FnOk P w K mg base CX0 1 f fd ["_law_keys_here", "_law_row"] (spX TFits) := by
  refine fn_okX F scFits (fun rs M R h => ?_) (fun cdv A outer s H E rs M R hr h => ?_)
  · obtain ⟨p, n, roads, st, ks, rfl, _⟩ := h
    rfl
  · obtain ⟨p, n, roads, st, ks, rfl, vn, vs, hk, rfl, hR⟩ := h
    have hlen := vn.len
    have hl := dirK_len roads st
    refine pb_retD (PD.is (pd_cmp (pc_eqNil hr.units (PL.pd (pl_lock (j := 0) rfl fun od => PL.is (pl_compP (dirK roads st) (fun x => tupD (pairL x.1)) (fun x => if (W roads st x.1.1 x.1.2 && !decide (ks.getD x.1.1 0 < ks.getD x.1.2 0)) = true then some (tupD (pairL x.1)) else none) rfl scFits.nd
      (pix_keys (kvs := kvOf (dirK roads st)) (ds := keysD (dirK roads st)) (od := od) (p := p) (pd_var 0) (by simp) (by unfold keysD kvOf; rw [List.length_map, List.length_map]) (keysD_ok _))
      (blkOk_by (N := nFits) (sc := defScope sFits) (own := [("_law_pair", 2)]) (by decide +kernel)) (sz_le (by omega)) (by simp) fun x hx => ?_) (keysP_keep (t := fun x => W roads st x.1.1 x.1.2 && !decide (ks.getD x.1.1 0 < ks.getD x.1.2 0)) _))) .dat (keysD_all _))) (show _ = dB (fitB (W roads st) n ks) from ?_)) hR
    · obtain ⟨h1, h2, h3⟩ := dirK_mem vn hx
      have g : ∀ i, i < n → (natD ks)[i]? = some (.int (ks.getD i 0 : Nat)) := fun i hi => natD_get (by rw [List.getD_eq_getElem?_getD, List.getElem?_eq_getElem (by omega)]; rfl)
      exact cturn_if (fun s H C cl fp => pgx_name 2 scFits.nd) (fun s H C cl fp => ptx_one (PWD.pt (pwd_and (PTD.is (ptd_cmp (pc_eqI (pd_dget (ns := pairL x.1) (z := (x.2 : Int)) (kvs := kvOf (dirK roads st)) (p := p) (hu1 hr) (pd_var 0) (pd_var 2) (.inl ⟨od, by simp⟩) (kvOf_val (dirK_nodup vn) hx)) pd_int)) h3)
        fun _ => pwd_and1 (PTD.is (ptd_cmp (pc_ge (pd_ix (ds := natD ks) (pd_var 1) (pd_ixT (ds := (pairL x.1).map PyData.int) (pd_var 2) pd_int (pairL_at0 x.1)) .dat (atI_nat (g _ h1))) (pd_ix (ds := natD ks) (pd_var 1) (pd_ixT (ds := (pairL x.1).map PyData.int) (pd_var 2) pd_int (pairL_at1 x.1)) .dat (atI_nat (g _ h2))))) (by rw [Bool.eq_iff_iff]; simp))))) fun s H C cl fp => pd_var 2
    · rw [keysD_empty, ← all_fit vn ks, ← all_filter]
      congr 3
      funext x
      rw [Bool.not_not]

/-! ### round -/
def candL (w : Nat → Nat → Bool) (l : DK) (r : List Nat) : List Nat := (l.filter fun x => w x.1.1 x.1.2 && (decide (x.1.1 ∈ r) && !decide (x.1.2 ∈ r))).map fun x => x.1.2
theorem candL_D {t : (Nat × Nat) × Nat → Bool} : ∀ l : DK, (l.filterMap fun x => if t x = true then some (PyData.int (x.1.2 : Int)) else none) = natD ((l.filter t).map fun x => x.1.2)
  | [] => rfl
  | p :: ps => by
    have ih := candL_D (t := t) ps
    rw [List.filterMap_cons, List.filter_cons]
    cases q : t p with
    | true => rw [if_pos rfl, if_pos rfl, ih]; rfl
    | false => rw [if_neg Bool.false_ne_true, if_neg Bool.false_ne_true, ih]
theorem mem_castI (k : Int) (l : List Nat) : k ∈ castL l ↔ ∃ m ∈ l, (m : Int) = k := by unfold castL; rw [List.mem_map]
theorem candL_new {n : Nat} {rs : List Road} {st : List Nat} (v : VNet n rs) (r : List Nat) (m : Nat) : m ∈ candL (W rs st) (dirK rs st) r ↔ m ∈ newN (W rs st) n r := by
  rw [mem_newN]
  unfold candL
  rw [List.mem_map]
  constructor
  · rintro ⟨x, hx, rfl⟩
    obtain ⟨h1, h2⟩ := List.mem_filter.mp hx
    rw [Bool.and_eq_true, Bool.and_eq_true] at h2
    obtain ⟨a, b, _⟩ := dirK_mem v h1
    exact ⟨b, by simpa using h2.2.2, x.1.1, of_decide_eq_true h2.2.1, h2.1⟩
  · rintro ⟨h1, h2, u, hu, hw⟩
    refine ⟨((u, m), 0), List.mem_filter.mpr ⟨of_decide_eq_true hw, ?_⟩, rfl⟩
    rw [Bool.and_eq_true, Bool.and_eq_true]
    exact ⟨hw, decide_eq_true hu, by simpa using h2⟩
theorem asc_uniq {a b : List Int} (ha : a.Pairwise (· < ·)) (hb : b.Pairwise (· < ·)) (h : ∀ k, k ∈ a ↔ k ∈ b) : a = b := by
  have na : a.Nodup := ha.imp fun {x y} z => Int.ne_of_lt z
  have nb : b.Nodup := hb.imp fun {x y} z => Int.ne_of_lt z
  exact List.Perm.eq_of_pairwise (le := (· < ·)) (fun x y _ _ h1 h2 => by omega) ha hb ((List.perm_ext_iff_of_nodup na nb).mpr h)
theorem newN_asc (w : Nat → Nat → Bool) (n : Nat) (r : List Nat) : (castL (newN w n r)).Pairwise (· < ·) := by
  unfold castL newN
  rw [List.pairwise_map]
  exact (List.pairwise_lt_range.sublist List.filter_sublist).imp fun {a b} z => by omega
theorem ring_any {n : Nat} {rs : List Road} {st : List Nat} (r : List Nat) (h : Nat) : ((dirK rs st).filter fun x => W rs st x.1.1 x.1.2 && (decide (x.1.1 ∈ r) && decide (x.1.2 = h))).isEmpty = !r.any fun u => W rs st u h := by
  rw [Bool.eq_iff_iff, List.isEmpty_iff, List.filter_eq_nil_iff]
  constructor
  · intro q
    cases z : r.any fun u => W rs st u h with
    | false => rfl
    | true =>
      exfalso
      obtain ⟨u, hu, hw⟩ := List.any_eq_true.mp z
      refine q ((u, h), 0) (of_decide_eq_true hw) ?_
      rw [Bool.and_eq_true, Bool.and_eq_true]
      exact ⟨hw, decide_eq_true hu, decide_eq_true rfl⟩
  · intro q x hx z
    rw [Bool.and_eq_true, Bool.and_eq_true] at z
    have : (r.any fun u => W rs st u h) = true := List.any_eq_true.mpr ⟨x.1.1, of_decide_eq_true z.2.1, by rw [← of_decide_eq_true z.2.2]; exact z.1⟩
    rw [this] at q
    cases q
theorem roundN_snoc {w : Nat → Nat → Bool} {n : Nat} (h : ∀ h, h < n → ((reachN w n h n).any fun u => w u h) = false) : roundN w n = false := by
  cases q : roundN w n with
  | false => rfl
  | true =>
    unfold roundN at q
    obtain ⟨x, h1, h2⟩ := List.any_eq_true.mp q
    rw [h x (List.mem_range.mp h1)] at h2
    cases h2
def TRound : Tr := fun rs M R => ∃ (p : Addr) (n : Nat) (roads : List Road) (st : List Nat), rs = [dI n, .val (.ref p)] ∧ VNet n roads ∧ VSt roads st ∧ M = [(p, .dic (kvOf (dirK roads st)))] ∧ R (dB (roundN (W roads st) n)) M
theorem ok_round {f : Addr} {fd : FuncData} (bl : Bl mg) (F : Fun K "_law_round" "_law_round" sRound f fd) : FnOk P w K mg base CX0 1 f fd ["_law_houses", "_law_keys_here"] (spX TRound) := by
  refine fn_okX F scRound (fun rs M R h => ?_) (fun cdv A outer s H E rs M R hr h => ?_)
  · obtain ⟨p, n, roads, st, rfl, _⟩ := h
    rfl
  · obtain ⟨p, n, roads, st, rfl, vn, vs, rfl, hR⟩ := h
    have hlen := vn.len
    have hn := vn.n2
    have hl := dirK_len roads st
    refine pb_cons (Nx1 := fun Δ' M' => roundN (W roads st) n = false ∧ M' = [(p, .dic (kvOf (dirK roads st)))]) (psx_for (fun i Δ' M' => ∃ a b c, (∀ h, h < i → ((reachN (W roads st) n h n).any fun u => W roads st u h) = false) ∧ Δ' = [dI n, .val (.ref p), a, b, c, .nil] ∧ M' = [(p, .dic (kvOf (dirK roads st)))]) PassesOwn.never rfl
      (pix_range1 (n := (n : Int)) bl.range (pd_var 0) (by omega)) ⟨_, _, _, (fun h hh => absurd hh (Nat.not_lt_zero h)), rfl, rfl⟩ (fun _ _ _ _ => trivial) (fun i d Δ' M' hd hI => ?_) (fun Δ' M' hI => ?_)) fun Δ' M' hN => ?_
    · obtain ⟨hi, rfl⟩ := rgD_get hd
      rw [Int.toNat_natCast] at hi
      obtain ⟨a, b, c, hno, rfl, rfl⟩ := hI
      have e0 : (0 : Int) + (i : Int) = (i : Int) := Int.zero_add _
      rw [e0]
      refine ⟨_, [2], pgx_name 2 scRound.nd, ?_⟩
      refine pb_set 3 scRound.nd (PL.pd (pl_lst (ds := natD [i]) (pad_one (pd_var 2)) (sz_le (by rw [natD_len]; show 1 ≤ 100000; decide)))) ?_
      refine pb_cons (Nx1 := fun Δ' M' => ∃ c, Δ' = [dI n, .val (.ref p), dI i, .dat (.list (natD (reachN (W roads st) n i n))), c, .nil] ∧ M' = [(p, .dic (kvOf (dirK roads st)))]) (psx_for (fun t Δ' M' => ∃ c, Δ' = [dI n, .val (.ref p), dI i, .dat (.list (natD (reachN (W roads st) n i t))), c, .nil] ∧ M' = [(p, .dic (kvOf (dirK roads st)))]) PassesOwn.never rfl
        (pix_range1 (n := (n : Int)) bl.range (pd_var 0) (by omega)) ⟨_, rfl, rfl⟩ (fun _ _ _ _ => trivial) (fun t d Δ' M' hd hI => ?_) (fun Δ' M' hI => ?_)) fun Δ' M' hN => ?_
      · obtain ⟨c, rfl, rfl⟩ := hI
        have hrl : (reachN (W roads st) n i t).length ≤ n := pigeon n _ (reach_nodup t) (reach_lt hi t)
        have hnl : (newN (W roads st) n (reachN (W roads st) n i t)).length ≤ n := by
          have := List.length_filter_le (fun v => !decide (v ∈ reachN (W roads st) n i t) && (reachN (W roads st) n i t).any fun u => W roads st u v) (List.range n)
          rw [List.length_range] at this
          exact this
        have hcl : (castL (candL (W roads st) (dirK roads st) (reachN (W roads st) n i t))).length < 64 := by
          unfold castL candL
          rw [List.length_map, List.length_map]
          have := List.length_filter_le (fun x : (Nat × Nat) × Nat => W roads st x.1.1 x.1.2 && (decide (x.1.1 ∈ reachN (W roads st) n i t) && !decide (x.1.2 ∈ reachN (W roads st) n i t))) (dirK roads st)
          omega
        generalize hre : reachN (W roads st) n i t = re at hrl hnl hcl ⊢
        refine ⟨_, [4], pgx_name 4 scRound.nd, ?_⟩
        refine pb_one (psx_set 3 scRound.nd (R := R1 (.dat (.list (natD (reachN (W roads st) n i (t + 1))))) [(p, .dic (kvOf (dirK roads st)))]) (PL.pd (PL.is (pl_cat (ds := natD re) (fs := natD (newN (W roads st) n re)) (pd_var 3)
          (PL.pd (pl_sortSet (ns := castL (candL (W roads st) (dirK roads st) re)) (ms := castL (newN (W roads st) n re)) rfl bl.sorted bl.set (PL.pd (PL.is (pl_lock (j := 0) rfl fun od => pl_compP (dirK roads st) (fun x => tupD (pairL x.1)) (fun x => if (W roads st x.1.1 x.1.2 && (decide (x.1.1 ∈ re) && !decide (x.1.2 ∈ re))) = true then some (PyData.int (x.1.2 : Int)) else none) rfl scRound.nd
            (pix_keys (kvs := kvOf (dirK roads st)) (ds := keysD (dirK roads st)) (od := od) (p := p) (pd_var 1) (by simp) (by unfold keysD kvOf; rw [List.length_map, List.length_map]) (keysD_ok _))
            (blkOk_by (N := nRound) (sc := defScope sRound) (own := [("_law_pair", 5)]) (by decide +kernel)) (sz_le (by omega)) (by simp) fun x hx => ?_) (candL_D (t := fun x => W roads st x.1.1 x.1.2 && (decide (x.1.1 ∈ re) && !decide (x.1.2 ∈ re))) _))) .dat hcl
            fun ns' h1 h2 => asc_uniq h1 (newN_asc _ _ _) fun k => by
              rw [h2 k, mem_castI, mem_castI]
              constructor
              · rintro ⟨m, hm, e⟩; exact ⟨m, (candL_new vn re m).mp hm, e⟩
              · rintro ⟨m, hm, e⟩; exact ⟨m, (candL_new vn re m).mpr hm, e⟩))
          .dat .dat (by rw [natD_len, natD_len]; exact sz_le (by omega))) (by rw [natD_app, ← hre]; rfl))) fun r' M' e => ?_)
        · obtain ⟨_, _, h3⟩ := dirK_mem vn hx
          exact cturn_if (fun s H C cl fp => pgx_name 5 scRound.nd) (fun s H C cl fp => ptx_one (PWD.pt (pwd_and (PTD.is (ptd_cmp (pc_eqI (pd_dget (ns := pairL x.1) (z := (x.2 : Int)) (kvs := kvOf (dirK roads st)) (p := p) (hu1 hr) (pd_var 1) (pd_var 5) (.inl ⟨od, by simp⟩) (kvOf_val (dirK_nodup vn) hx)) pd_int)) h3)
            fun _ => pwd_and (PTD.is (ptd_cmp (pc_inI (ns := castL re) (pd_ixT (ds := (pairL x.1).map PyData.int) (pd_var 5) pd_int (pairL_at0 x.1)) (pd_var 3) .dat)) (mem_castL _ _)) fun _ => pwd_and1 (PTD.is (ptd_cmp (pc_ninI (ns := castL re) (pd_ixT (ds := (pairL x.1).map PyData.int) (pd_var 5) pd_int (pairL_at1 x.1)) (pd_var 3) .dat)) (by rw [mem_castL]))))) fun s H C cl fp =>
            pd_ixT (ds := (pairL x.1).map PyData.int) (pd_var 5) pd_int (pairL_at1 x.1)
        · obtain ⟨rfl, rfl⟩ := e
          exact ⟨_, rfl, rfl⟩
      · obtain ⟨c, rfl, rfl⟩ := hI
        rw [rgD_len, Int.toNat_natCast]
        exact ⟨_, rfl, rfl⟩
      · obtain ⟨c, rfl, rfl⟩ := hN
        refine pb_if (t := (reachN (W roads st) n i n).any fun u => W roads st u i) (PTD.is (ptd_cmp (pc_neNil hr.units (PL.pd (pl_lock (j := 0) rfl fun od => PL.is (pl_compP (dirK roads st) (fun x => tupD (pairL x.1)) (fun x => if (W roads st x.1.1 x.1.2 && (decide (x.1.1 ∈ reachN (W roads st) n i n) && decide (x.1.2 = i))) = true then some (tupD (pairL x.1)) else none) rfl scRound.nd
          (pix_keys (kvs := kvOf (dirK roads st)) (ds := keysD (dirK roads st)) (od := od) (p := p) (pd_var 1) (by simp) (by unfold keysD kvOf; rw [List.length_map, List.length_map]) (keysD_ok _))
          (blkOk_by (N := nRound) (sc := defScope sRound) (own := [("_law_pair", 5)]) (by decide +kernel)) (sz_le (by omega)) (by simp) fun x hx => ?_) (keysP_keep (t := fun x => W roads st x.1.1 x.1.2 && (decide (x.1.1 ∈ reachN (W roads st) n i n) && decide (x.1.2 = i))) _))) .dat (keysD_all _)))
          (by rw [keysD_empty, ring_any (n := n), Bool.not_not])) (fun ht => ?_) (fun ht => ?_)
        · obtain ⟨_, _, h3⟩ := dirK_mem vn hx
          exact cturn_if (fun s H C cl fp => pgx_name 5 scRound.nd) (fun s H C cl fp => ptx_one (PWD.pt (pwd_and (PTD.is (ptd_cmp (pc_eqI (pd_dget (ns := pairL x.1) (z := (x.2 : Int)) (kvs := kvOf (dirK roads st)) (p := p) (hu1 hr) (pd_var 1) (pd_var 5) (.inl ⟨od, by simp⟩) (kvOf_val (dirK_nodup vn) hx)) pd_int)) h3)
            fun _ => pwd_and (PTD.is (ptd_cmp (pc_inI (ns := castL (reachN (W roads st) n i n)) (pd_ixT (ds := (pairL x.1).map PyData.int) (pd_var 5) pd_int (pairL_at0 x.1)) (pd_var 3) .dat)) (mem_castL _ _)) fun _ => pwd_and1 (PTD.is (ptd_cmp (pc_eqI (pd_ixT (ds := (pairL x.1).map PyData.int) (pd_var 5) pd_int (pairL_at1 x.1)) (pd_var 2))) (by rw [Bool.eq_iff_iff, decide_eq_true_eq, decide_eq_true_eq]; omega))))) fun s H C cl fp => pd_var 5
        · refine pb_retD pd_bl ?_
          have : roundN (W roads st) n = true := by
            unfold roundN
            exact List.any_eq_true.mpr ⟨i, List.mem_range.mpr hi, ht⟩
          rw [this] at hR
          exact hR
        · refine pb_nil ⟨_, _, _, fun h hh => ?_, rfl, rfl⟩
          by_cases q : h < i
          · exact hno h q
          · have : h = i := by omega
            rw [this]
            exact ht
    · obtain ⟨a, b, c, hno, rfl, rfl⟩ := hI
      rw [rgD_len, Int.toNat_natCast] at hno
      exact ⟨roundN_snoc hno, rfl⟩
    · obtain ⟨h1, rfl⟩ := hN
      rw [h1] at hR
      exact pb_retD pd_bl hR
end
end KR

/-! KR, part P9: six houses. -/
namespace KR
open PySem PySem.Spec PyProof.Rows L2
abbrev sSix : Stmt := topS 35
abbrev nSix : List Str := ["_law_generator_here", "_law_roads", "_law_standing_here", "_law_low", "_law_high", "_law_many"]
theorem scSix : FnScope nSix ["_law_generator_here"] (defScope sSix) := ⟨rfl, rfl, rfl, by decide +kernel, rfl, by decide +kernel, by decide +kernel⟩
def rA : List Road := [(0, 1, 1), (0, 2, 1), (1, 2, 1), (2, 3, 2), (3, 4, 1), (3, 5, 1), (4, 5, 1)]
def rB : List Road := [(0, 1, 1), (0, 2, 1), (1, 2, 1), (3, 4, 1), (3, 5, 1), (4, 5, 1)]
theorem rA_net : VNet 6 rA := ⟨by decide, by decide, by decide, by decide, by decide⟩
theorem rB_net : VNet 6 rB := ⟨by decide, by decide, by decide, by decide, by decide⟩
theorem len7 : ∀ {l : List Nat}, l.length = 7 → ∃ a b c d e f g, l = [a, b, c, d, e, f, g]
  | [a, b, c, d, e, f, g], _ => ⟨a, b, c, d, e, f, g, rfl⟩
theorem stA_iff {a b c d e f g : Nat} : VSt rA [a, b, c, d, e, f, g] ↔ a ≤ 1 ∧ b ≤ 1 ∧ c ≤ 1 ∧ d ≤ 2 ∧ e ≤ 1 ∧ f ≤ 1 ∧ g ≤ 1 := by
  constructor
  · intro h
    exact ⟨h.le 0 _ _ rfl rfl, h.le 1 _ _ rfl rfl, h.le 2 _ _ rfl rfl, h.le 3 _ _ rfl rfl, h.le 4 _ _ rfl rfl, h.le 5 _ _ rfl rfl, h.le 6 _ _ rfl rfl⟩
  · rintro ⟨h0, h1, h2, h3, h4, h5, h6⟩
    refine ⟨rfl, fun i r k hr hk => ?_⟩
    match i, hr, hk with
    | 0, hr, hk => cases hr; cases hk; exact h0
    | 1, hr, hk => cases hr; cases hk; exact h1
    | 2, hr, hk => cases hr; cases hk; exact h2
    | 3, hr, hk => cases hr; cases hk; exact h3
    | 4, hr, hk => cases hr; cases hk; exact h4
    | 5, hr, hk => cases hr; cases hk; exact h5
    | 6, hr, hk => cases hr; cases hk; exact h6
    | i + 7, hr, hk => simp [rA] at hr
theorem stB_of {a b c e f g : Nat} (h0 : a ≤ 1) (h1 : b ≤ 1) (h2 : c ≤ 1) (h4 : e ≤ 1) (h5 : f ≤ 1) (h6 : g ≤ 1) : VSt rB [a, b, c, e, f, g] := by
  refine ⟨rfl, fun i r k hr hk => ?_⟩
  match i, hr, hk with
  | 0, hr, hk => cases hr; cases hk; exact h0
  | 1, hr, hk => cases hr; cases hk; exact h1
  | 2, hr, hk => cases hr; cases hk; exact h2
  | 3, hr, hk => cases hr; cases hk; exact h4
  | 4, hr, hk => cases hr; cases hk; exact h5
  | 5, hr, hk => cases hr; cases hk; exact h6
  | i + 6, hr, hk => simp [rB] at hr
def pk (k : Nat) : Nat × Nat × Nat := if k = 0 then (0, 1, 0) else (1, 0, 1)
theorem pk_le (k : Nat) : (pk k).1 ≤ 1 ∧ (pk k).2.1 ≤ 1 ∧ (pk k).2.2 ≤ 1 := by
  unfold pk
  split <;> decide
def pkL (k : Nat) : List Nat := [(pk k).1, (pk k).2.1, (pk k).2.2]
theorem pk_at {k : Nat} (h : k < 2) : atI [PyData.list (natD [0, 1, 0]), .list (natD [1, 0, 1])] (k : Int) = some (.list (natD (pkL k))) := by
  match k, h with
  | 0, _ => rfl
  | 1, _ => rfl
section
variable {X : Cx} {Δ : List SD} {M : Ms} {p1 p2 p3 : Pos} {j0 j1 j2 j3 j4 j5 : Nat} {q0 q1 q2 q3 q4 q5 : Pos}
theorem pd_pk : PAD X [.List [.Constant (.int 0) j0 q0, .Constant (.int 1) j1 q1, .Constant (.int 0) j2 q2] p1, .List [.Constant (.int 1) j3 q3, .Constant (.int 0) j4 q4, .Constant (.int 1) j5 q5] p2] Δ M ([PyData.list (natD [0, 1, 0]), .list (natD [1, 0, 1])].map SD.dat) M :=
  pad_cons (PL.pd (pl_lst (ds := natD [0, 1, 0]) (pad_cons pd_int (pad_cons pd_int (pad_one pd_int))) (sz_le (by rw [natD_len]; show 3 ≤ 100000; decide)))) (pad_one (PL.pd (pl_lst (ds := natD [1, 0, 1]) (pad_cons pd_int (pad_cons pd_int (pad_one pd_int))) (sz_le (by rw [natD_len]; show 3 ≤ 100000; decide)))))
end
section
variable {P : Program} {w : World} {K : PySem.W.Frag} {mg : Str → Option Value} {base : Heap}
def TSix : Tr := fun rs M R => ∃ (g : Addr) (G : Gen) (k : Nat), rs = [.val (.ref g)] ∧ GOk k G ∧ k + 100 < 1000000 ∧ M = [(g, genD G)] ∧ ∀ roads st G', VNet 6 roads → VSt roads st → GOk (k + 100) G' → R (.dat (.list [netD 6 roads, stD st])) [(g, genD G')]
theorem ok_six {f : Addr} {fd : FuncData} (bl : Bl mg) (CR : CalX P w K mg base 2 "_law_random" TRandom) (F : Fun K "_law_six" "_law_six" sSix f fd) : FnOk P w K mg base CX0 3 f fd ["_law_generator_here"] (spX TSix) := by
  refine fn_okX F scSix (fun rs M R h => ?_) (fun cdv A outer s H E rs M R hr h => ?_)
  · obtain ⟨g, G, k, rfl, _⟩ := h
    rfl
  · obtain ⟨g, G0, k, rfl, hG0, hk, rfl, hR⟩ := h
    have s3 : ∀ {ds : List PyData}, ds.length = 3 → ds.length ≤ sizeLine := fun h => sz_le (by rw [h]; decide)
    refine pb_cons (Nx1 := fun Δ' M' => ∃ ps, Δ' = [.val (.ref g), .dat (.list (rA.map roadD)), .val (.ref ps), .nil, .nil, .nil] ∧ M' = [(g, genD G0), (ps, .ld (natD []))])
      (psx_par (i := 1) (j := 2) (R := fun rs M' => ∃ ps, rs = [.dat (.list (rA.map roadD)), .val (.ref ps)] ∧ M' = [(g, genD G0), (ps, .ld (natD []))]) rfl scSix.nd (by decide)
        (pax_cons (Re := R1 (.dat (.list (rA.map roadD))) [(g, genD G0)]) (PL.pd (pl_lst (ds := rA.map roadD) (pad_cons (pd_tup (ds := [.int 0, .int 1, .int 1]) (pad_cons pd_int (pad_cons pd_int (pad_one pd_int))) (s3 rfl)) (pad_cons (pd_tup (ds := [.int 0, .int 2, .int 1]) (pad_cons pd_int (pad_cons pd_int (pad_one pd_int))) (s3 rfl))
            (pad_cons (pd_tup (ds := [.int 1, .int 2, .int 1]) (pad_cons pd_int (pad_cons pd_int (pad_one pd_int))) (s3 rfl)) (pad_cons (pd_tup (ds := [.int 2, .int 3, .int 2]) (pad_cons pd_int (pad_cons pd_int (pad_one pd_int))) (s3 rfl))
            (pad_cons (pd_tup (ds := [.int 3, .int 4, .int 1]) (pad_cons pd_int (pad_cons pd_int (pad_one pd_int))) (s3 rfl)) (pad_cons (pd_tup (ds := [.int 3, .int 5, .int 1]) (pad_cons pd_int (pad_cons pd_int (pad_one pd_int))) (s3 rfl))
            (pad_one (pd_tup (ds := [.int 4, .int 5, .int 1]) (pad_cons pd_int (pad_cons pd_int (pad_one pd_int))) (s3 rfl))))))))) (sz_le (by rw [List.length_map]; decide))))
          fun r M1 ⟨e1, e2⟩ => pax_one (PL.cell (pl_lst (ds := []) pad_nil (Nat.zero_le _))) fun r2 M2 ⟨ps, e3, e4⟩ => ⟨ps, by rw [e1, e3], by rw [e4, e2]; rfl⟩)
        fun rs M' ⟨ps, e, e'⟩ => ⟨_, _, e, ps, rfl, e'⟩) fun Δ' M' hN => ?_
    obtain ⟨ps, rfl, rfl⟩ := hN
    refine pb_cons (Nx1 := fun Δ' M' => ∃ st G a b c, st.length = 7 ∧ VSt rA st ∧ GOk (k + 7) G ∧ Δ' = [.val (.ref g), .dat (.list (rA.map roadD)), .val (.ref ps), a, b, c] ∧ M' = [(g, genD G), (ps, .ld (natD st))])
      (psx_for (fun i Δ' M' => ∃ st G a b c, st.length = i ∧ (∀ (j : Nat) (r : Road) (x : Nat), rA[j]? = some r → st[j]? = some x → x ≤ r.2.2) ∧ GOk (k + i) G ∧ Δ' = [.val (.ref g), .dat (.list (rA.map roadD)), .val (.ref ps), a, b, c] ∧ M' = [(g, genD G), (ps, .ld (natD st))]) PassesOwn.never rfl
        (pix_list (ds := rA.map roadD) (pd_var 1)) ⟨[], G0, _, _, _, rfl, fun j r x _ h => by simp at h, hG0, rfl, rfl⟩ (fun _ _ _ _ => trivial) (fun i d Δ' M' hd hI => ?_) (fun Δ' M' hI => ?_)) fun Δ' M' hN => ?_
    · obtain ⟨st, G, a, b, c, hl, hx, hG, rfl, rfl⟩ := hI
      obtain ⟨r, hr', rfl⟩ := map_get hd
      have hil : i < 7 := (List.getElem?_eq_some_iff.mp hr').1
      have hlt := rA_net.lt_at hr'
      have hr2 : r.2.2 ≤ 2 := by
        have : ∀ r ∈ rA, r.2.2 ≤ 2 := by decide
        exact this r (List.mem_of_getElem? hr')
      have hrl := rnd_lt G (show 0 < r.2.2 + 1 by omega)
      refine ⟨_, [3, 4, 5], pgx_tup (ds := [.int (r.1 : Int), .int (r.2.1 : Int), .int (r.2.2 : Int)]) rfl (pgxs_cons (pgx_name 3 scSix.nd) (pgxs_cons (pgx_name 4 scSix.nd) (pgxs_cons (pgx_name 5 scSix.nd) pgxs_nil))) rfl, ?_⟩
      refine pb_one (psx_expr (PD.px (R := fun r0 M' => M' = _) (pd_append (d := .int (rnd G (r.2.2 + 1) : Nat)) (ds := natD st) 1 (pd_var 2) (pd_callM (Mc := [(g, genD G)]) (Mc' := [(g, genD (nxt G (r.2.2 + 1)))]) (F := [(ps, MD.ld (natD st))]) CR hr (pad_cons (pd_var 0) (pad_one (PD.is (pd_add (pd_var 5) pd_int) (show _ = dI ((r.2.2 + 1 : Nat) : Int) from by push_cast; rfl))))
        ⟨g, G, r.2.2 + 1, _, rfl, by omega, by omega, hG, rfl, rfl, rfl⟩) ⟨natD st, by simp⟩ rfl (by rw [natD_len]; exact sz_lt (by omega))) rfl) fun r0 M' e => ?_)
      subst e
      refine ⟨st ++ [rnd G (r.2.2 + 1)], _, _, _, _, by rw [List.length_append, hl]; rfl, fun j r2 x h1 h2 => ?_, nxt_ok hG (r.2.2 + 1) (by omega), rfl, ?_⟩
      · by_cases hj : j < st.length
        · rw [List.getElem?_append_left hj] at h2
          exact hx j r2 x h1 h2
        · have hjl := (List.getElem?_eq_some_iff.mp h2).1
          have hj2 : j = i := by
            rw [List.length_append, List.length_singleton] at hjl
            omega
          subst hj2
          rw [hr'] at h1
          cases h1
          rw [List.getElem?_append_right (by omega), hl, Nat.sub_self] at h2
          have h2' := Option.some.inj h2
          omega
      · show [(g, genD _), (ps, MD.ld (natD st ++ [_]))] = _
        rw [natD_snoc]
    · obtain ⟨st, G, a, b, c, hl, hx, hG, rfl, rfl⟩ := hI
      rw [List.length_map] at hl hG
      exact ⟨st, G, _, _, _, hl, ⟨hl, hx⟩, hG, rfl, rfl⟩
    obtain ⟨st0, G1, a, b, c, hl, hst, hG1, rfl, rfl⟩ := hN
    refine pb_cons (Nx1 := fun Δ' M' => ∃ r st G x, (r = .dat (stD st) ∨ (r = .val (.ref ps) ∧ x = natD st)) ∧ VSt rA st ∧ GOk (k + 10) G ∧ Δ' = [.val (.ref g), .dat (.list (rA.map roadD)), r, a, b, c] ∧ M' = [(g, genD G), (ps, .ld x)])
      (psx_if (t := decide ((0 : Int) < (rnd G1 3 : Nat))) (ptd_cmp (pc_gt (pd_callM (Mc := [(g, genD G1)]) (Mc' := [(g, genD (nxt G1 3))]) (F := [(ps, MD.ld (natD st0))]) CR hr (pad_cons (pd_var 0) (pad_one pd_int)) ⟨g, G1, 3, _, rfl, by decide, by decide, hG1, rfl, rfl, rfl⟩) pd_int)) (fun _ => ?_) (fun _ => ?_)) fun Δ' M' hN => ?_
    · have hG2 := nxt_ok hG1 3 (by omega)
      generalize nxt G1 3 = G2 at hG2
      obtain ⟨a0, a1, a2, a3, a4, a5, a6, rfl⟩ := len7 hl
      have h3 := (stA_iff.mp hst).2.2.2.1
      have k1 := rnd_lt G2 (show 0 < 2 by decide)
      have k2 := rnd_lt (nxt G2 2) (show 0 < 2 by decide)
      refine pb_one (psx_set 2 scSix.nd (R := R1 (.dat (stD (pkL (rnd G2 2) ++ [a3] ++ pkL (rnd (nxt G2 2) 2)))) [(g, genD (nxt (nxt G2 2) 2)), (ps, MD.ld (natD [a0, a1, a2, a3, a4, a5, a6]))])
        (PL.pd (PL.is (pl_cat (ds := natD (pkL (rnd G2 2) ++ [a3])) (fs := natD (pkL (rnd (nxt G2 2) 2))) (PL.pd (PL.is (pl_cat (ds := natD (pkL (rnd G2 2))) (fs := natD [a3])
          (pd_ix (PL.pd (pl_lst pd_pk (sz_le (by show 2 ≤ 100000; decide)))) (pd_callM (Mc := [(g, genD G2)]) (Mc' := [(g, genD (nxt G2 2))]) (F := [(ps, MD.ld (natD [a0, a1, a2, a3, a4, a5, a6]))]) CR hr (pad_cons (pd_var 0) (pad_one pd_int)) ⟨g, G2, 2, _, rfl, by decide, by decide, hG2, rfl, rfl, rfl⟩) .dat (pk_at k1))
          (PL.pd (PL.is (pl_slice (ds := natD [a0, a1, a2, a3, a4, a5, a6]) (pd_var 2) (pod_some pd_int) (pod_some pd_int) (.cell (by simp))) rfl)) .dat .dat (sz_le (by show 4 ≤ 100000; decide))) (natD_app _ _)))
          (pd_ix (PL.pd (pl_lst pd_pk (sz_le (by show 2 ≤ 100000; decide)))) (pd_callM (Mc := [(g, genD (nxt G2 2))]) (Mc' := [(g, genD (nxt (nxt G2 2) 2))]) (F := [(ps, MD.ld (natD [a0, a1, a2, a3, a4, a5, a6]))]) CR hr (pad_cons (pd_var 0) (pad_one pd_int)) ⟨g, nxt G2 2, 2, _, rfl, by decide, by decide, nxt_ok hG2 2 (by omega), rfl, rfl, rfl⟩) .dat (pk_at k2))
          .dat .dat (sz_le (by show 7 ≤ 100000; decide))) (natD_app _ _))) fun r' M' e => ?_)
      obtain ⟨rfl, rfl⟩ := e
      have p1 := pk_le (rnd G2 2)
      have p2 := pk_le (rnd (nxt G2 2) 2)
      refine ⟨_, pkL (rnd G2 2) ++ [a3] ++ pkL (rnd (nxt G2 2) 2), _, _, .inl rfl, stA_iff.mpr ⟨p1.1, p1.2.1, p1.2.2, h3, p2.1, p2.2.1, p2.2.2⟩, (nxt_ok (nxt_ok hG2 2 (by omega)) 2 (by omega)).mono (by omega) (by omega), rfl, rfl⟩
    · exact pb_nil ⟨_, st0, _, _, .inr ⟨rfl, rfl⟩, hst, (nxt_ok hG1 3 (by omega)).mono (by omega) (by omega), rfl, rfl⟩
    obtain ⟨r, st, G3, x, hrx, hst2, hG3, rfl, rfl⟩ := hN
    obtain ⟨a0, a1, a2, a3, a4, a5, a6, rfl⟩ := len7 (l := st) hst2.len
    obtain ⟨h0, h1, h2, h3, h4, h5, h6⟩ := stA_iff.mp hst2
    have hG4 := nxt_ok hG3 3 (by omega)
    have hne : r ≠ .nil := by
      rcases hrx with z | ⟨z, _⟩ <;> rw [z] <;> exact fun q => nomatch q
    have hls : LsD r (natD [a0, a1, a2, a3, a4, a5, a6]) [(g, genD (nxt G3 3)), (ps, .ld x)] := by
      rcases hrx with z | ⟨z, z2⟩
      · exact .inl z
      · exact .inr ⟨ps, z, by rw [z2]; simp⟩
    have v2 : ∀ {pos : Pos} M, PD (cxOf CX0 P w K mg base nSix "_law_six" (defScope sSix) f cdv A outer s H E).nox (.Name "_law_standing_here" pos) [.val (.ref g), .dat (.list (rA.map roadD)), r, a, b, c] M r M := fun M => pd_var 2 rfl hne
    refine pb_if (t := decide (((rnd G3 3 : Nat) : Int) = 0)) (ptd_cmp (pc_eqI (pd_callM (Mc := [(g, genD G3)]) (Mc' := [(g, genD (nxt G3 3))]) (F := [(ps, MD.ld x)]) CR hr (pad_cons (pd_var 0) (pad_one pd_int)) ⟨g, G3, 3, _, rfl, by decide, by decide, hG3, rfl, rfl, rfl⟩) pd_int)) (fun _ => ?_) (fun _ => ?_)
    · refine pb_ret (PD.drop (r := .dat (.list [netD 6 rB, stD [a0, a1, a2, a4, a5, a6]])) (M2 := [(g, genD (nxt G3 3))]) (PL.pd (pl_lst (ds := [netD 6 rB, stD [a0, a1, a2, a4, a5, a6]])
        (pad_cons (pd_tup (ds := [.int 6, .list (rB.map roadD)]) (pad_cons pd_int (pad_one (PL.pd (PL.is (pl_cat (ds := (rA.take 3).map roadD) (fs := (rA.drop 4).map roadD) (PL.pd (PL.is (pl_slice (ds := rA.map roadD) (pd_var 1) pod_none (pod_some pd_int) .dat) rfl)) (PL.pd (PL.is (pl_slice (ds := rA.map roadD) (pd_var 1) (pod_some pd_int) pod_none .dat) rfl)) .dat .dat (sz_le (by show 6 ≤ 100000; decide))) rfl)))) (sz_le (by show 2 ≤ 100000; decide)))
          (pad_one (PL.pd (PL.is (pl_cat (ds := natD [a0, a1, a2]) (fs := natD [a4, a5, a6]) (PL.pd (PL.is (pl_slice (v2 _) pod_none (pod_some pd_int) hls) rfl)) (PL.pd (PL.is (pl_slice (v2 _) (pod_some pd_int) pod_none hls) rfl)) .dat .dat (sz_le (by show 6 ≤ 100000; decide))) rfl)))) (sz_le (by show 2 ≤ 100000; decide))))
        (by simp) (hR rB _ _ rB_net (stB_of h0 h1 h2 h4 h5 h6) (hG4.mono (by omega) (by omega))))
    · have vv : ∀ {pos : Pos}, PD (cxOf CX0 P w K mg base nSix "_law_six" (defScope sSix) f cdv A outer s H E).nox (.Name "_law_standing_here" pos) [.val (.ref g), .dat (.list (rA.map roadD)), r, a, b, c] [(g, genD (nxt G3 3)), (ps, .ld x)] (.dat (stD [a0, a1, a2, a3, a4, a5, a6])) [(g, genD (nxt G3 3))] := fun {pos} => by
        rcases hrx with z | ⟨z, z2⟩
        · subst z
          exact PD.drop (v2 _) (by simp) ⟨rfl, rfl⟩
        · subst z z2
          exact PD.take (F1 := [(g, genD (nxt G3 3))]) (F2 := []) (M2 := [(g, genD (nxt G3 3))]) (ds := natD [a0, a1, a2, a3, a4, a5, a6]) (v2 _) (by simp) ⟨rfl, rfl⟩
      exact pb_retD (PL.pd (pl_lst (ds := [netD 6 rA, stD [a0, a1, a2, a3, a4, a5, a6]]) (pad_cons (pd_tup (ds := [.int 6, .list (rA.map roadD)]) (pad_cons pd_int (pad_one (pd_var 1))) (sz_le (by show 2 ≤ 100000; decide))) (pad_one vv)) (sz_le (by show 2 ≤ 100000; decide)))) (hR rA _ _ rA_net hst2 (hG4.mono (by omega) (by omega)))
end
end KR

/-! KR, part G: defs of which is known that no repr is under way; repr. -/
namespace KR
open PySem PySem.Spec PyProof.Rows L2
structure FnG (P : Program) (w : World) (K : PySem.W.Frag) (mg : Str → Option Value) (base : Heap) (k : Nat) (f : Addr) (fd : FuncData) (ps : List Str) (T : Tr) : Prop where
  len : ∀ rs M R, T rs M R → rs.length = ps.length
  go : ∀ (A : Around) (fs : List Env) (s : Shared) (H : Hp) (args : Args) (us : List Value) (vs : List V) (Q : VK) (E : XK), Room k A → A.guards = some [] → Env0 P w K mg base A fs s H → BindsTo s fd args (ps.zip us) → Vals vs us → spX T vs H Q E →
    codeAny (model P w) A (.call (.ref f) args) (CR CX0 fs P w H s Q E) s
section
variable {P : Program} {w : World} {K : PySem.W.Frag} {mg : Str → Option Value} {base : Heap}
/-- a def's code at its entry, run where A is fixed -/
theorem code_at {k : Nat} {f : Addr} {name qual : Str} {params : Arguments} {body : List Stmt} {sc : Scope} {dV kV doc pm cdv ct oc : Value} {an od : Option Addr} {osl : Array (Option Value)} {N ps : List Str}
    (lk : K.lookup f = some ⟨oc, od, .func (PySem.W.fnOf name qual params body sc dV kV doc pm an cdv ct), osl⟩) (cd : PySem.W.codeIn K cdv qual = true) (S : FnScope N ps sc) {A : Around} {fs : List Env} {s : Shared} {H : Hp} {args : Args} {us : List Value} {vs : List V} {Q : VK} {E : XK}
    (hr : Room (k + 1) A) (e0 : Env0 P w K mg base A fs s H) (hb : BindsTo s (PySem.W.fnOf name qual params body sc dV kV doc pm an cdv ct) args (ps.zip us)) (rv : Vals vs us) (hl : vs.length = ps.length)
    (hbody : ∃ t, PSs (cxOf CX0 P w K mg base N qual sc f cdv A fs s H E) body t ∧ t { nx := fun _ H' => Q .non H', rt := Q } (start N vs) H) :
    codeAny (model P w) A (.call (.ref f) args) (CR CX0 fs P w H s Q E) s := by
  have kin : K.In s.heap := e0.mod.kin.keeps fun c u e => (e0.bs c u e).1
  have nl : s.heap.NoLimit := e0.mod.nolimit.keeps fun c u e => (e0.bs c u e).1
  have kinds : ∀ y ∈ ps.zip us, sc.names.lookup y.1 = some .local ∨ (sc.names.lookup y.1 = some .cell ∧ ((cellsFrom (s.heap.objs.size + 1) sc.names []).lookup y.1).isSome = true) := by
    rintro ⟨n, v⟩ hy
    have hn := S.par n (List.of_mem_zip hy).1
    exact hn.imp id fun q => ⟨q, PySem.W.cellsFrom_some _ _ _ (.inl q)⟩
  refine codeAny_call_function hr.depth (kin _ _ lk) rfl S.co S.gen rfl (PySem.W.codeRec_of kin cd) (hb _ _ _ _ (wpAny_newFunctionEnv_cells S.kind kinds fun env he s1 x => ?_)); subst he
  refine ⟨nl.keeps x.toInCall.keep, codeAny_func ?_⟩
  obtain ⟨t, ht, q⟩ := hbody
  have I := inv_start (CX := CX0) (E := E) S hr.hd e0 hl rv x
  refine wpAny_mono (ht.run [] s1 (start N vs) H _ I q) (fun fl s2 hs => ?_) fun _ _ h => h
  have done : ∀ {σ2 : L2.St} {H2 : Hp} {v : V} {u : Value}, Inv (cxOf CX0 P w K mg base N qual sc f cdv A fs s H E) [] σ2 H2 s2 → RelV v u → Q v H2 → CE fs P w H s Q u s2 := fun J a b => ⟨_, _, J.os, J.bare, J.base, J.hok, a, b⟩
  match fl, hs with
  | .ret u, ⟨v, σ2, H2, J, a, b⟩ => exact done J a b
  | .next, ⟨σ2, H2, J, b⟩ => exact done (v := V.non) (u := Value.none) J rfl b
  | .brk, ⟨_, _, _, b⟩ => exact b.elim
  | .cont, ⟨_, _, _, b⟩ => exact b.elim
theorem fn_okG {x qual : Str} {st : Stmt} {f : Addr} {fd : FuncData} {N ps : List Str} {k : Nat} {T : Tr} (F : Fun K x qual st f fd) (S : FnScope N ps (defScope st)) (len : ∀ rs M R, T rs M R → rs.length = ps.length)
    (hbody : ∀ (cdv : Value) (A : Around) (outer : List Env) (s : Shared) (H : Hp) (E : XK) (rs : List SD) (M : Ms) (R : SD → Ms → Prop), Room k (A.deeper (envOfC qual (defScope st) s.heap.objs.size f cdv)) → (A.deeper (envOfC qual (defScope st) s.heap.objs.size f cdv)).guards = some [] → T rs M R →
      PBX (cxOf CX0 P w K mg base N qual (defScope st) f cdv A outer s H E).nox (defBody st) (rs ++ List.replicate (N.length - rs.length) .nil) M (fun _ M' => R (.dat .none) M') R) : FnG P w K mg base (k + 1) f fd ps T := by
  obtain ⟨oc, od, kV, doc, pm, an, cdv, ct, osl, rfl, lk, hcd⟩ := F.ex
  refine ⟨len, fun A fs s H args us vs Q E hr hg e0 hb rv h => ?_⟩
  obtain ⟨B, rs, M, R, hT, hv, g, q⟩ := h
  exact code_at lk hcd S hr e0 hb rv (by rw [hv.length]; exact len _ _ _ hT) ⟨_, PSs.nox (hbody cdv A fs s H E rs M R (hr.deeper _) hg hT), B, sl_start hv, g, fun Δ' M' σ' B2 H2 hn g2 _ => q _ M' .non B2 H2 hn g2 .none, fun r M' v B2 H2 hr' g2 rv => q r M' v B2 H2 hr' g2 rv⟩
structure CalG (P : Program) (w : World) (K : PySem.W.Frag) (mg : Str → Option Value) (base : Heap) (k : Nat) (x : Str) (T : Tr) : Prop where
  ex : ∃ (f : Addr) (fd : FuncData) (ps : List Str), FnG P w K mg base k f fd ps T ∧ mg x = some (.ref f) ∧ PySem.W.keepIn K (.ref f) = true ∧ Binds K fd ps []
end
section
variable {X : Cx} {Δ : List SD} {M M1 M2 : Ms} {x : Str} {p pos : Pos} {a e : Expr} {es : List Expr} {rs : List SD} {T : Tr} {k : Nat} {r ra : SD}
theorem pd_callG (C : CalG X.prog X.w X.K X.mg X.base k x T) (hr : Room k X.A) (hgu : X.A.guards = some []) (ha : PAD X (e :: es) Δ M rs M1) (hT : T rs M1 (R1 r M2)) (hg : Gl X x := by rfl) (hdb : (x == ("__debug__" : Str)) = false := by decide)
    (he : starEach (e :: es) X.env = (false, eval e X.env) :: starEach es X.env := by rfl) (hpl : (backTo pos (starEach es X.env)).any (·.1) = false := by rfl) : PD X (.Call (.Name x p) (e :: es) [] pos) Δ M r M2 := by
  obtain ⟨f, fd, ps, G, mgf, kp, b⟩ := C.ex
  refine ⟨fun pins s σ H Q I ⟨B, h1, h2, h3⟩ => wpAny_Call_Name_kw (ld_glob I hg mgf (PySem.W.callWith_K (h₀ := X.base) I.ok.mod.kin kp (thn (ha.run pos pins s σ H _ I ⟨B, h1, h2, fun vs B1 H1 g rv => (⟨B1, g, rv⟩ : ∃ B1, Gr M B H M1 B1 H1 ∧ RsA B1 vs rs)⟩) fun us s1 ⟨vs, H1, I1, rel, q⟩ => ⟨I1.kIn, ?_⟩) he hpl) hdb)⟩
  obtain ⟨B1, g, rv⟩ := q
  have hl : us.length = ps.length := by rw [← rel.length, rv.length]; exact G.len _ _ _ hT
  have sp : spX T vs H1 Q (fun _ _ _ => False) := ⟨B1, rs, M1, R1 r M2, hT, rv, g.go, fun r' M' v B2 H2 hR g2 rv2 => h3 r' M' v B2 H2 hR (g.trans g2) rv2⟩
  have hbd := b s1 us I1.kIn (by rw [List.append_nil]; exact hl)
  rw [List.append_nil] at hbd
  refine wpAny_call (codeAny_mono (G.go X.A X.stack s1 H1 ⟨us, []⟩ us vs Q (fun _ _ _ => False) hr hgu I1.env0 hbd rel sp) fun res s2 hq => ?_)
  match res, hq with
  | .ok (.ret u), hq => exact I1.after hq
  | .ok .next, hq => exact hq.elim
  | .ok .brk, hq => exact hq.elim
  | .ok .cont, hq => exact hq.elim
  | .error _, hq => exact hq.elim
end
/-! ### repr -/
structure Sh (b k : Nat) (d : PyData) : Prop where
  lay : d.canLay0 = true
  show_ : d.showable = true
  short : d.leavesShort 13 = true
  bulk : d.bulk ≤ b
  depth : d.depth ≤ k
theorem Sh.mono {b k b' k' : Nat} {d : PyData} (h : Sh b k d) (hb : b ≤ b') (hk : k ≤ k') : Sh b' k' d := ⟨h.lay, h.show_, h.short, Nat.le_trans h.bulk hb, Nat.le_trans h.depth hk⟩
theorem sh_none {b k : Nat} : Sh b k .none := ⟨by simp [PyData.canLay0], by simp [PyData.showable], by simp [PyData.leavesShort], by simp [PyData.bulk], by simp [PyData.depth]⟩
theorem sh_bool {b k : Nat} (x : Bool) : Sh b k (.bool x) := ⟨by simp [PyData.canLay0], by simp [PyData.showable], by simp [PyData.leavesShort], by simp [PyData.bulk], by simp [PyData.depth]⟩
theorem sh_int {b k : Nat} {i : Int} (h1 : -1000000 ≤ i) (h2 : i ≤ 1000000) : Sh b k (.int i) := by
  refine ⟨by simp [PyData.canLay0], ?_, ?_, by simp [PyData.bulk], by simp [PyData.depth]⟩
  · simp only [PyData.showable, decide_eq_true_eq]
    have h3 : i.natAbs ≤ 1000000 := by omega
    have h4 : i.natAbs.log2 < 20 + 1 := by
      by_cases z : i.natAbs = 0
      · rw [z]; decide
      · refine (Nat.log2_lt z).mpr ?_
        exact Nat.lt_of_le_of_lt h3 (by decide)
    omega
  · simp only [PyData.leavesShort, decide_eq_true_eq]
    exact PyData.shown_int_le2 (by omega) (by omega)
theorem shAll {b k : Nat} : ∀ {ds : List PyData}, (∀ d ∈ ds, Sh b k d) → PyData.canLayAll0 ds = true ∧ PyData.showableAll ds = true ∧ PyData.leavesShortAll 13 ds = true ∧ PyData.bulkAll ds ≤ (b + 1) * ds.length ∧ PyData.depthAll ds ≤ k
  | [], _ => by simp [PyData.canLayAll0, PyData.showableAll, PyData.leavesShortAll, PyData.bulkAll, PyData.depthAll]
  | d :: ds, h => by
    have h1 := h d List.mem_cons_self
    obtain ⟨a1, a2, a3, a4, a5⟩ := shAll fun x hx => h x (List.mem_cons_of_mem _ hx)
    have b4 := h1.bulk
    have b5 := h1.depth
    refine ⟨by simp [PyData.canLayAll0, h1.lay, a1], by simp [PyData.showableAll, h1.show_, a2], by simp [PyData.leavesShortAll, h1.short, a3], ?_, ?_⟩
    · simp only [PyData.bulkAll, List.length_cons, Nat.mul_add, Nat.mul_one]
      omega
    · simp only [PyData.depthAll]
      omega
theorem sh_list {b k n b' k' : Nat} {ds : List PyData} (h : ∀ d ∈ ds, Sh b k d) (hl : ds.length ≤ n) (hb : (b + 1) * n ≤ b') (hk : k + 1 ≤ k') : Sh b' k' (.list ds) := by
  obtain ⟨a1, a2, a3, a4, a5⟩ := shAll h
  have := Nat.mul_le_mul_left (b + 1) hl
  exact ⟨by simp only [PyData.canLay0]; exact a1, by simp only [PyData.showable]; exact a2, by simp only [PyData.leavesShort]; exact a3, by simp only [PyData.bulk]; omega, by simp only [PyData.depth]; omega⟩
theorem sh_tuple {b k n b' k' : Nat} {ds : List PyData} (h : ∀ d ∈ ds, Sh b k d) (hl : ds.length ≤ n) (hb : (b + 1) * n ≤ b') (hk : k + 1 ≤ k') : Sh b' k' (.tuple ds) := by
  obtain ⟨a1, a2, a3, a4, a5⟩ := shAll h
  have := Nat.mul_le_mul_left (b + 1) hl
  exact ⟨by simp only [PyData.canLay0]; exact a1, by simp only [PyData.showable]; exact a2, by simp only [PyData.leavesShort]; exact a3, by simp only [PyData.bulk]; omega, by simp only [PyData.depth]; omega⟩
theorem Sh.fits {b k : Nat} {d : PyData} (h : Sh b k d) (hb : b ≤ 1000000) : d.shown.length ≤ sizeLine := PyData.shown_fits_bulk (B := 13) (by decide) (by decide) h.short (Nat.le_trans h.bulk (Nat.le_trans hb (by decide)))
def rRepr (K : PySem.W.Frag) : List V → Hp → VK → Prop := fun vs H Q => ∃ (v : V) (d : PyData) (b : Nat), vs = [v] ∧ Dp K H v d ∧ Sh b 20 d ∧ b ≤ 1000000 ∧ Q (.str d.shown) H
theorem cr_repr {X : Cx} (hgu : X.A.guards = some []) (hu : X.A.units + 64 < cLine) : CallR X (.builtin "repr") (rRepr X.K) := by
  intro pins s σ H vs us Q I r h
  obtain ⟨v, d, b, rfl, hd, hs, hb, q⟩ := h
  obtain ⟨u, rfl, ru⟩ : ∃ u, us = [u] ∧ RelV v u := by
    cases r with
    | cons r rr => cases rr; exact ⟨_, rfl, r⟩
  have fits := hs.fits hb
  obtain ⟨as, rd⟩ := Dp.reads I d v u hd ru
  cases rd with
  | none => exact PySem.P.repr_of_none ⟨.str _, H, I.tok _, ⟨_, rfl⟩, q⟩
  | bool x => exact PySem.P.repr_of_bool ⟨.str _, H, I.tok _, ⟨_, by cases x <;> rfl⟩, q⟩
  | int i t =>
    have h1 := hs.show_
    simp only [PyData.showable, decide_eq_true_eq] at h1
    exact PySem.P.repr_of_int h1 ⟨.str _, H, I.tok _, ⟨_, rfl⟩, q⟩
  | str x t => exact PySem.P.repr_of_str ⟨.str _, H, I.tok _, ⟨_, rfl⟩, q⟩ fits
  | list e1 e2 e3 e4 =>
    have hdp := hs.depth
    exact repr_of_reads' (.list e1 e2 e3 e4) hs.show_ (PyData.noDict_hsm (PyData.hasDict_of_canLay _ hs.lay)) hgu (by omega) (fun _ _ e => e) (fun h' u tk k => ⟨.str _, H, I.kept k, ⟨u, rfl⟩, q⟩) fits
  | tuple e1 e2 e3 e4 =>
    have hdp := hs.depth
    exact repr_of_reads' (.tuple e1 e2 e3 e4) hs.show_ (PyData.noDict_hsm (PyData.hasDict_of_canLay _ hs.lay)) hgu (by omega) (fun _ _ e => e) (fun h' u tk k => ⟨.str _, H, I.kept k, ⟨u, rfl⟩, q⟩) fits
  | dict e1 e2 e3 e4 e5 =>
    have := hs.lay
    simp [PyData.canLay0] at this
section
variable {X : Cx} {Δ : List SD} {M M1 : Ms} {p pos : Pos} {a : Expr} {ra : SD} {d : PyData} {ds : List PyData} {b : Nat}
theorem pd_repr (hgu : X.A.guards = some []) (hu : X.A.units + 64 < cLine) (hm : X.mg "repr" = none) (ha : PD X a Δ M (.dat d) M1) (hs : Sh b 20 d) (hb : b ≤ 1000000) (hg : Gl X "repr" := by rfl) (he : starEach [a] X.env = (false, eval a X.env) :: starEach [] X.env := by rfl) (hpl : (backTo pos (starEach [] X.env)).any (·.1) = false := by rfl) :
    PD X (.Call (.Name "repr" p) [a] [] pos) Δ M (.dat (.str d.shown)) M1 :=
  pd_bltn (cr_repr hgu hu) hm (by decide +kernel) (pad_one ha he) (fun vs B H Q rv g k => by
    obtain ⟨v, rfl, h⟩ := rs1 rv
    exact ⟨v, d, b, rfl, Dt.dp g.bh hs.lay h, hs, hb, k _ B H (Gr.refl g) (.str _)⟩) hg (he := he) (hpl := hpl)
theorem pd_reprC (hgu : X.A.guards = some []) (hu : X.A.units + 64 < cLine) (hm : X.mg "repr" = none) (ha : PD X a Δ M ra M1) (hl : LsD ra ds M1) (hs : Sh b 20 (.list ds)) (hb : b ≤ 1000000) (hg : Gl X "repr" := by rfl) (he : starEach [a] X.env = (false, eval a X.env) :: starEach [] X.env := by rfl) (hpl : (backTo pos (starEach [] X.env)).any (·.1) = false := by rfl) :
    PD X (.Call (.Name "repr" p) [a] [] pos) Δ M (.dat (.str (PyData.list ds).shown)) M1 :=
  pd_bltn (cr_repr hgu hu) hm (by decide +kernel) (pad_one ha he) (fun vs B H Q rv g k => by
    obtain ⟨v, rfl, h⟩ := rs1 rv
    have c := hs.lay
    simp only [PyData.canLay0] at c
    exact ⟨v, .list ds, b, rfl, hl.dp h g c, hs, hb, k _ B H (Gr.refl g) (.str _)⟩) hg (he := he) (hpl := hpl)
end
end KR

/-! KR, part W: calls by keywords; the law's head. -/
namespace KR
open PySem PySem.Spec PyProof.Rows L2
/-! ### calls whose arguments all have names, in the order turned round -/
structure CalK (P : Program) (w : World) (K : PySem.W.Frag) (mg : Str → Option Value) (base : Heap) (k : Nat) (x : Str) (T : Tr) (ks : List Str) : Prop where
  ex : ∃ (f : Addr) (fd : FuncData) (ps : List Str), FnOk P w K mg base CX0 k f fd ps (spX T) ∧ mg x = some (.ref f) ∧ PySem.W.keepIn K (.ref f) = true ∧ ∀ (s : Shared) (ws : List Value), K.In s.heap → ws.length = ps.length → BindsTo s fd ⟨[], ks.zip ws⟩ (ps.zip ws.reverse)
def PKD (X : Cx) (kws : List Keyword) (Δ : List SD) (M : Ms) (rs : List SD) (M' : Ms) : Prop := PK X kws (tA Δ M rs M')
theorem rsa_app {B : Hp} : ∀ {vs ws : List V} {rs qs : List SD}, RsA B vs rs → RsA B ws qs → RsA B (vs ++ ws) (rs ++ qs)
  | [], _, [], _, _, h => h
  | _ :: _, _, _ :: _, _, h, h' => ⟨h.1, rsa_app h.2 h'⟩
  | [], _, _ :: _, _, h, _ => h.elim
  | _ :: _, _, [], _, h, _ => h.elim
theorem rsa_rev {B : Hp} : ∀ {vs : List V} {rs : List SD}, RsA B vs rs → RsA B vs.reverse rs.reverse
  | [], [], _ => trivial
  | v :: vs, r :: rs, h => by
    rw [List.reverse_cons, List.reverse_cons]
    exact rsa_app (rsa_rev h.2) ⟨h.1, trivial⟩
  | [], _ :: _, h => h.elim
  | _ :: _, [], h => h.elim
theorem vals_rev : ∀ {vs : List V} {us : List Value}, Vals vs us → Vals vs.reverse us.reverse
  | _, _, .nil => .nil
  | _, _, .cons r t => by
    rw [List.reverse_cons, List.reverse_cons]
    exact (vals_rev t).append (.cons r .nil)
section
variable {X : Cx} {Δ : List SD} {M M1 M2 Mc F : Ms} {x : Str} {p pos kpos : Pos} {e : Expr} {kws : List Keyword} {rs : List SD} {r : SD} {R : SD → Ms → Prop} {T : Tr} {k : Nat} {ks : List Str} {nm : Option Str}
theorem pkd_nil : PKD X [] Δ M [] M := ⟨fun pos pins s σ H Q I ⟨B, h1, h2, h3⟩ => pk_nil.run pos pins s σ H Q I (h3 [] B H (Gr.refl h2) trivial)⟩
theorem pkd_cons (ha : PD X e Δ M r M1) (hr : PKD X kws Δ M1 rs M2) : PKD X (⟨nm, e, kpos⟩ :: kws) Δ M (r :: rs) M2 :=
  ⟨fun pos pins s σ H Q I ⟨B, h1, h2, h3⟩ => (pk_cons ha hr).run pos pins s σ H Q I ⟨B, h1, h2, fun r' M' x B1 H1 q g1 rx => by
    obtain ⟨rfl, rfl⟩ := q
    exact ⟨B1, h1.mono g1.bb, g1.go, fun vs B2 H2 g2 rv => h3 (x :: vs) B2 H2 (g1.trans g2) ⟨rx.mono g2.bb, rv⟩⟩⟩⟩
theorem px_callKW (C : CalK X.prog X.w X.K X.mg X.base k x T ks) (hr : Room k X.A) (ha : PKD X kws Δ M rs M1) (hM : M1 = Mc ++ F) (hT : T rs.reverse Mc R) (hg : Gl X x := by rfl) (hall : (backToKw pos (keywordEach kws X.env)).all (·.1.isSome) = true := by rfl)
    (hks : (backToKw pos (keywordEach kws X.env)).filterMap (·.1) = ks := by rfl) (hdb : (x == ("__debug__" : Str)) = false := by decide) (hpl : ((backTo pos (starEach [] X.env)).any (·.1) || (backToKw pos (keywordEach kws X.env)).any (·.1.isNone)) = false := by rfl) :
    PX X (.Call (.Name x p) [] kws pos) Δ M (fun r M' => ∃ Mc', R r Mc' ∧ M' = Mc' ++ F) := by
  obtain ⟨f, fd, ps, G, mgf, kp, b⟩ := C.ex
  subst hM
  refine ⟨fun pins s σ H Q I ⟨B, h1, h2, h3⟩ => wpAny_Call_Name_kw (ld_glob I hg mgf (PySem.W.callWith_KW0 (h₀ := X.base) I.ok.mod.kin kp hall (thn (ha.run pos pins s σ H _ I ⟨B, h1, h2, fun vs B1 H1 g rv => (⟨B1, g, rv⟩ : ∃ B1, Gr M B H (Mc ++ F) B1 H1 ∧ RsA B1 vs rs)⟩) fun ws s1 ⟨vs, H1, I1, rel, q⟩ => ⟨I1.kIn, ?_⟩) hpl) hdb)⟩
  obtain ⟨B1, g, rv⟩ := q
  have sp : spX T vs.reverse H1 Q (fun _ _ _ => False) := ⟨B1, rs.reverse, Mc, R, hT, rsa_rev rv, g.go.left, fun r M' v B2 H2 hR g2 rv2 => h3 r (M' ++ F) v B2 H2 ⟨M', hR, rfl⟩ (g.trans (g2.frame g.ho)) rv2⟩
  have hl : ws.length = ps.length := by
    have := G.len _ _ _ _ sp
    rw [List.length_reverse] at this
    rw [← rel.length, this]
  have rl := vals_rev rel
  rw [hks]
  refine wpAny_call (codeAny_mono (G.run X.A X.stack s1 H1 ⟨[], ks.zip ws⟩ ws.reverse vs.reverse Q (fun _ _ _ => False) hr I1.env0 (b s1 ws I1.kIn hl) rl sp) fun res s2 hq => ?_)
  match res, hq with
  | .ok (.ret u), hq => exact I1.after hq
  | .ok .next, hq => exact hq.elim
  | .ok .brk, hq => exact hq.elim
  | .ok .cont, hq => exact hq.elim
  | .error _, hq => exact hq.elim
end
/-! ### the head -/
theorem head_go {K : PySem.W.Frag} {T : PySem.W.Frag → Tr} (hT : ∀ (K : PySem.W.Frag) (a : Addr) (ns : List Int) (M : Ms), Scr K a ns M → T K [.val (.ref a)] M fun r _ => r = dB true) {H : Hp} {a : Addr} {ns : List Int} (hl : ns.length ≤ 63) (ho : Only H) (hs : SqL K H a (ns.map V.int)) :
    spX (T K) [.ref a] H (fun v _ => v = .bl true) (fun _ _ _ => False) := by
  have fin : ∀ M, Go M (fun _ => none) H → Scr K a ns M → spX (T K) [.ref a] H (fun v _ => v = .bl true) (fun _ _ _ => False) := fun M g s =>
    ⟨fun _ => none, [.val (.ref a)], M, fun r _ => r = dB true, hT K a ns M s, ⟨rfl, trivial⟩, g, fun r M' v B2 H2 e g2 rv => by
      subst e
      exact dt_bool.mp rv⟩
  rcases hs with (h | ⟨o, h⟩) | h
  · rcases ho a with z | ⟨o, xs, z⟩ <;> rw [h] at z <;> cases z
  · refine fin [(a, .scr o (ns.map V.int))] ⟨(fun b u q => nomatch q), by simp, fun q m hq => ?_⟩ ⟨hl, fun B H' g => .inl (.inr ⟨o, (g.ho.at_ a _ List.mem_cons_self).1⟩)⟩
    have e : (q, m) = (a, MD.scr o (ns.map V.int)) := by simpa using hq
    cases e
    exact ⟨h, rfl⟩
  · exact fin [] ⟨(fun b u q => nomatch q), List.nodup_nil, (fun q m hq => nomatch hq)⟩ ⟨hl, fun B H' g => .inr h⟩
theorem call_at_top {P : Program} {w : World} {K : PySem.W.Frag} {mg mb : Str → Option Value} {k : Nat} {fa a : Addr} {fd : FuncData} {x : Str} {T : Tr} {z : Shared} {vs : List Value} {ns : List Int}
    (kin : K.In z.heap) (nsg : z.heap.Ns mainGlobals mg) (nsb : z.heap.Ns builtinsNs mb) (boot : ∀ x : Str, x ≠ "__name__" → mb x = bootBuiltins x) (nol : z.heap.NoLimit) (nog : z.gens = #[])
    (at_a : z.heap.get? a = some { cls := .type "list", data := .seq vs.toArray }) (hi : IntsAre vs ns) (hl : ns.length ≤ sizeLine) (hr : Room k callerA)
    (F : ∀ base : Heap, K.In base → base.Ns mainGlobals mg → FnG P w K mg base k fa fd [x] T) (bnd : ∀ (s : Shared) (u : Value), BindsTo s fd ⟨[u], []⟩ [(x, u)])
    (sp : ∀ H : Hp, Only H → SqL K H a (ns.map V.int) → spX T [.ref a] H (fun v _ => v = .bl true) (fun _ _ _ => False)) :
    codeAny (model P w) callerA (.call (.ref fa) ⟨[.ref a], []⟩) (fun r s' => r = .ok (.ret (.bool true)) ∧ OldK z.heap s'.heap ∧ s'.os = z.os ∧ AllBare s'.gens) z := by
  have rv := vals_ints hi
  have lv := hi.length
  have main : ∀ H : Hp, Only H → SqL K H a (ns.map V.int) → HOk P w H z.heap → (∀ c, H c ≠ none → c = a) → (H a ≠ none → K.lookup a = none) →
      codeAny (model P w) callerA (.call (.ref fa) ⟨[.ref a], []⟩) (fun r s' => r = .ok (.ret (.bool true)) ∧ OldK z.heap s'.heap ∧ s'.os = z.os ∧ AllBare s'.gens) z := by
    intro H ho hs hok only nk
    have isA : ∀ {c : Addr} {u : HO}, H c = some u → c = a := fun {c u} q => only c (by rw [q]; exact fun y => nomatch y)
    have dictFree : ∀ {c : Addr} {u : Obj} {es : Array DictEntry} {ep : Nat}, z.heap.get? c = some u → u.data = .dict es ep → H c = none := fun {c u es ep} e d => by
      cases q : H c with
      | none => rfl
      | some v =>
        rw [isA q, at_a] at e
        cases e
        exact nomatch d
    have nsOf : ∀ {c : Addr} {m : Str → Option Value}, z.heap.Ns c m → (hidT z.heap H).Ns c m := fun {c m} ⟨u, es, ep, e, d, r⟩ => ⟨u, es, ep, hidT_get e (dictFree e d), d, r⟩
    have kb : K.In (hidT z.heap H) := fun c u e => hidT_get (kin c u e) (by
      cases q : H c with
      | none => rfl
      | some v =>
        have c_a := isA q
        subst c_a
        rw [nk (by rw [q]; exact fun y => nomatch y)] at e
        cases e)
    have md : Mod K mg (hidT z.heap H) := ⟨kb, nsOf nsg, ⟨mb, nsOf nsb, boot⟩, let ⟨mc, y1, y2⟩ := nol; ⟨mc, nsOf y1, y2⟩⟩
    have e0 : Env0 P w K mg (hidT z.heap H) callerA [] z H := ⟨rfl, md, fun c u e => of_hidT e, Nat.le_of_eq (hidT_size _ _), trivial, (fun c hc => nomatch hc), hok, .of_eq nog⟩
    refine codeAny_mono ((F _ kb (nsOf nsg)).go callerA [] z H ⟨[.ref a], []⟩ [.ref a] [.ref a] _ _ hr rfl e0 (bnd z (.ref a)) (.cons rfl .nil) (sp H ho hs)) fun res s' hq => ?_
    match res, hq with
    | .error _, hq => exact hq.elim
    | .ok .next, hq => exact hq.elim
    | .ok .brk, hq => exact hq.elim
    | .ok .cont, hq => exact hq.elim
    | .ok (.ret u), ⟨v, H2, os, bare, un, hok2, ru, q⟩ =>
      have q2 : v = .bl true := q
      subst q2
      obtain rfl : u = Value.bool true := ru
      refine ⟨rfl, OldK.of_keep fun c u e => ?_, os, bare⟩
      cases y : H c with
      | none => exact un.keep c u e y (fun t => nomatch (show c ∈ ([] : List Addr) from t)) (by simp)
      | some v =>
        obtain ⟨t, xs, y2⟩ : ∃ t xs, H c = some (.frz t (.lst xs)) := by
          rcases ho c with y3 | y3
          · rw [y] at y3; cases y3
          · exact y3
        have y4 := un.frzs c t _ y2
        have g1 := (hok c _ y2).1
        have g2 := (hok2 c _ y4).1
        rw [e] at g1
        cases g1
        exact g2
  cases hk : K.lookup a with
  | some u =>
    have e := kin a u hk
    rw [at_a] at e
    cases e
    exact main (fun _ => none) (fun _ => .inl rfl) (.inr ⟨_, vs.toArray, _, hk, rfl, rfl, rfl, by rw [List.size_toArray, lv]; exact hl, by simpa using rv⟩) (fun c u y => nomatch y) (fun c y => absurd rfl y) fun y => absurd rfl y
  | none =>
    have ya : (fun c => if c = a then some (HO.frz { cls := .type "list", data := .seq vs.toArray } (.lst (ns.map V.int))) else none : Hp) a = some (HO.frz { cls := .type "list", data := .seq vs.toArray } (.lst (ns.map V.int))) := if_pos rfl
    have yo : ∀ {c : Addr} {u : HO}, (fun c => if c = a then some (HO.frz { cls := .type "list", data := .seq vs.toArray } (.lst (ns.map V.int))) else none : Hp) c = some u → c = a ∧ u = HO.frz { cls := .type "list", data := .seq vs.toArray } (.lst (ns.map V.int)) := fun {c u} y => by
      by_cases hc : c = a
      · exact ⟨hc, (Option.some.inj ((if_pos hc).symm.trans y)).symm⟩
      · exact nomatch (if_neg hc).symm.trans y
    refine main (fun c => if c = a then some (HO.frz { cls := .type "list", data := .seq vs.toArray } (.lst (ns.map V.int))) else none) (fun c => ?_) (.inl (.inr ⟨_, ya⟩)) (fun c u y => ?_) (fun c y => ?_) fun _ => hk
    · by_cases hc : c = a
      · subst hc; exact .inr ⟨_, _, ya⟩
      · exact .inl (if_neg hc)
    · obtain ⟨rfl, rfl⟩ := yo y
      exact ⟨at_a, by rw [List.length_map]; exact hl, vs, _, rv, at_a⟩
    · by_cases hc : c = a
      · exact hc
      · exact absurd (if_neg hc) y
theorem walkG {l : PySem.W.OpenLaw} {n k : Nat} {q : Program} {loose : List Str} {XP : (Str → Option Value) → Heap → Prop} {YP : World → Heap → Prop} {d : DefRec} {K : Params → PySem.W.Frag} {T : PySem.W.Frag → Tr} {x : Str}
    (hn : l.most = some n) (hn2 : n ≤ 63) (hdf : d.params.defaults = []) (hr : Room k callerA) (hY : ∀ (w : World) (h : Heap), YP w h → (K w.params).In h)
    (F : ∀ (w : World) (mg : Str → Option Value) (fa : Addr) (h : Heap), (K w.params).In h → h.Ns mainGlobals mg → mg d.name = some (.ref fa) →
      ∃ fd : FuncData, (∀ (s : Shared) (u : Value), BindsTo s fd ⟨[u], []⟩ [(x, u)]) ∧ ∀ base : Heap, (K w.params).In base → base.Ns mainGlobals mg → FnG l.prog w (K w.params) mg base k fa fd [x] (T (K w.params)))
    (hT : ∀ (K : PySem.W.Frag) (a : Addr) (ns : List Int) (M : Ms), Scr K a ns M → T K [.val (.ref a)] M fun r _ => r = dB true) : PySem.W.WalkO q loose XP YP l.row.toRowW d [] (fun f vs => PySem.call f vs) := by
  refine Att.attach_call hn hdf fun w y0 y1 mg mb fa o pm cd doc a vs ns G Y _ _ _ hmg hobj hints hlen hgen => ?_
  have kin := hY w _ Y
  obtain ⟨fd, hb, hF⟩ := F w mg fa _ kin G.T.g hmg
  exact call_at_top kin G.T.g G.T.b G.T.builtins G.T.nolimit hgen hobj hints (sz_le (by omega)) hr hF hb fun H ho hs => head_go hT (by omega) ho hs
end KR

/-! KR, part X: calls that know some of the cells; numberings told as data. -/
namespace KR
open PySem PySem.Spec PyProof.Rows L2
theorem ad_perm {M M2 : Ms} (h : M.Perm M2) {a : Addr} : a ∈ ad M ↔ a ∈ ad M2 := (h.map _).mem_iff
theorem Ho.perm {M M2 : Ms} {B H : Hp} (h : M.Perm M2) (o : Ho M B H) : Ho M2 B H := ⟨(h.map _).nodup_iff.mp o.nd, fun p m q => o.at_ p m (h.mem_iff.mpr q)⟩
theorem Go.perm {M M2 : Ms} {B H : Hp} (h : M.Perm M2) (g : Go M B H) : Go M2 B H := ⟨g.bh, g.ho.perm h⟩
theorem Gr.permIn {M M2 M' : Ms} {B H B2 H2 : Hp} (h : M.Perm M2) (g : Gr M2 B H M' B2 H2) : Gr M B H M' B2 H2 :=
  ⟨g.bb, g.bh, fun a o n e => g.hh a o (fun z => n ((ad_perm h).mpr z)) e, fun a o e => (g.fr a o e).imp id fun z => z.imp id fun z => z.imp id (ad_perm h).mpr, g.th, fun a z => (g.mf a z).imp (ad_perm h).mpr id, g.ho⟩
theorem Gr.permOut {M M' M2 : Ms} {B H B2 H2 : Hp} (h : M'.Perm M2) (g : Gr M B H M' B2 H2) : Gr M B H M2 B2 H2 := ⟨g.bb, g.bh, g.hh, g.fr, g.th, fun a z => g.mf a ((ad_perm h).mpr z), g.ho.perm h⟩
theorem Gr.subIn {M M2 M' : Ms} {B H B2 H2 : Hp} (h : M2.Sublist M) (g : Gr M2 B H M' B2 H2) : Gr M B H M' B2 H2 := by
  have sub : ∀ {a}, a ∈ ad M2 → a ∈ ad M := fun {a} z => (h.map _).subset z
  exact ⟨g.bb, g.bh, fun a o n e => g.hh a o (fun z => n (sub z)) e, fun a o e => (g.fr a o e).imp id fun z => z.imp id fun z => z.imp id sub, g.th, fun a z => (g.mf a z).imp sub id, g.ho⟩
theorem Go.sub {M M2 : Ms} {B H : Hp} (h : M2.Sublist M) (g : Go M B H) : Go M2 B H := ⟨g.bh, (h.map _).nodup g.ho.nd, fun p m q => g.ho.at_ p m (h.subset q)⟩
section
variable {X : Cx} {Δ Δ1 : List SD} {M M1 M2 Mc Mc' F : Ms} {x : Str} {p pos : Pos} {a b e : Expr} {es : List Expr} {kws : List Keyword} {rs : List SD} {r ra : SD} {R R' : SD → Ms → Prop} {T : Tr} {k : Nat} {ks : List Str} {Nx : List SD → Ms → Prop} {Rt : SD → Ms → Prop}
theorem px_callP (C : CalX X.prog X.w X.K X.mg X.base k x T) (hr : Room k X.A) (ha : PAD X (e :: es) Δ M rs M1) (hM : M1.Perm (Mc ++ F)) (hT : T rs Mc R) (hR : ∀ r M', R r M' → ∃ M2, (M' ++ F).Perm M2 ∧ R' r M2) (hg : Gl X x := by rfl) (hdb : (x == ("__debug__" : Str)) = false := by decide)
    (he : starEach (e :: es) X.env = (false, eval e X.env) :: starEach es X.env := by rfl) (hpl : (backTo pos (starEach es X.env)).any (·.1) = false := by rfl) : PX X (.Call (.Name x p) (e :: es) [] pos) Δ M R' := by
  obtain ⟨f, fd, ps, G, mgf, kp, b⟩ := C.ex
  refine PE.of (pe_call G hr hg mgf kp b .nil pass0 ha hdb he hpl) fun σ H Q ⟨B, h1, h2, h3⟩ => ⟨B, h1, h2, fun vs B1 H1 g rv => ?_⟩
  have go := g.go.perm hM
  exact ⟨B1, rs, Mc, R, hT, by rw [List.append_nil]; exact rv, go.left, fun r M' v B2 H2 hr' g2 rv2 => by
    obtain ⟨M2, hp, hr2⟩ := hR r M' hr'
    exact h3 r M2 v B2 H2 hr2 (g.trans (Gr.permIn hM (Gr.permOut hp (g2.frame go.ho)))) rv2⟩
theorem pd_callP (C : CalX X.prog X.w X.K X.mg X.base k x T) (hr : Room k X.A) (ha : PAD X (e :: es) Δ M rs M1) (hM : M1.Perm (Mc ++ F)) (hT : T rs Mc (R1 r Mc')) (h2 : (Mc' ++ F).Perm M2) (hg : Gl X x := by rfl) (hdb : (x == ("__debug__" : Str)) = false := by decide)
    (he : starEach (e :: es) X.env = (false, eval e X.env) :: starEach es X.env := by rfl) (hpl : (backTo pos (starEach es X.env)).any (·.1) = false := by rfl) : PD X (.Call (.Name x p) (e :: es) [] pos) Δ M r M2 :=
  px_callP C hr ha hM hT (fun r' M' q => by
    obtain ⟨rfl, rfl⟩ := q
    exact ⟨M2, h2, rfl, rfl⟩) hg hdb he hpl
/-- a def of which is known that no repr is under way -/
theorem pd_callGP (C : CalG X.prog X.w X.K X.mg X.base k x T) (hr : Room k X.A) (hgu : X.A.guards = some []) (ha : PAD X (e :: es) Δ M rs M1) (hM : M1.Perm (Mc ++ F)) (hT : T rs Mc (R1 r Mc')) (hp2 : (Mc' ++ F).Perm M2) (hg : Gl X x := by rfl) (hdb : (x == ("__debug__" : Str)) = false := by decide)
    (he : starEach (e :: es) X.env = (false, eval e X.env) :: starEach es X.env := by rfl) (hpl : (backTo pos (starEach es X.env)).any (·.1) = false := by rfl) : PD X (.Call (.Name x p) (e :: es) [] pos) Δ M r M2 := by
  obtain ⟨f, fd, ps, G, mgf, kp, b⟩ := C.ex
  refine ⟨fun pins s σ H Q I ⟨B, h1, h2, h3⟩ => wpAny_Call_Name_kw (ld_glob I hg mgf (PySem.W.callWith_K (h₀ := X.base) I.ok.mod.kin kp (thn (ha.run pos pins s σ H _ I ⟨B, h1, h2, fun vs B1 H1 g rv => (⟨B1, g, rv⟩ : ∃ B1, Gr M B H M1 B1 H1 ∧ RsA B1 vs rs)⟩) fun us s1 ⟨vs, H1, I1, rel, q⟩ => ⟨I1.kIn, ?_⟩) he hpl) hdb)⟩
  obtain ⟨B1, g, rv⟩ := q
  have go := g.go.perm hM
  have hl : us.length = ps.length := by rw [← rel.length, rv.length]; exact G.len _ _ _ hT
  have sp : spX T vs H1 Q (fun _ _ _ => False) := ⟨B1, rs, Mc, R1 r Mc', hT, rv, go.left, fun r' M' v B2 H2 hR g2 rv2 => by
    obtain ⟨rfl, rfl⟩ := hR
    exact h3 _ _ v B2 H2 ⟨rfl, rfl⟩ (g.trans (Gr.permIn hM (Gr.permOut hp2 (g2.frame go.ho)))) rv2⟩
  have hbd := b s1 us I1.kIn (by rw [List.append_nil]; exact hl)
  rw [List.append_nil] at hbd
  refine wpAny_call (codeAny_mono (G.go X.A X.stack s1 H1 ⟨us, []⟩ us vs Q (fun _ _ _ => False) hr hgu I1.env0 hbd rel sp) fun res s2 hq => ?_)
  match res, hq with
  | .ok (.ret u), hq => exact I1.after hq
  | .ok .next, hq => exact hq.elim
  | .ok .brk, hq => exact hq.elim
  | .ok .cont, hq => exact hq.elim
  | .error _, hq => exact hq.elim
/-- cells that are known no more -/
theorem pb_drop {sts : List Stmt} (hs : M2.Sublist M) (h : PBX X sts Δ M2 Nx Rt) : PBX X sts Δ M Nx Rt :=
  PSs.of h fun D σ H ⟨B, q1, q2, q3, q4⟩ => ⟨B, q1, q2.sub hs, fun Δ' M' σ' B2 H2 hn g sl => q3 Δ' M' σ' B2 H2 hn (g.subIn hs) sl, fun r M' v B2 H2 hr g rv => q4 r M' v B2 H2 hr (g.subIn hs) rv⟩
theorem PD.isM (h : PD X e Δ M r M1) (q : M1 = M2) : PD X e Δ M r M2 := q ▸ h
/-- a target that takes what is told -/
theorem psx_asgX {tg : Expr} (h : PX X e Δ M R) (kk : ∀ r M1, R r M1 → ∃ Δ1 vs, PGX X tg r Δ Δ1 vs ∧ Nx Δ1 M1) (hs : swapsWithSole [tg] e pos.line X.env = pure false := by rfl) (hw : swappedStores [tg] e X.env = pure none := by rfl)
    (h1 : (assignEach [tg] X.env).map (·.2) = [assign tg X.env] := by rfl) : PSX X (.Assign [tg] e pos) Δ M Nx Rt :=
  PS.of (ps_asg h pg_any hs hw h1) fun D σ H ⟨B, q1, q2, q3, q4⟩ => ⟨B, q1, q2, fun r M1 v B1 H1 hR g rv => by
    obtain ⟨Δ1, vs, pg, hn⟩ := kk r M1 hR
    exact ⟨r, Δ, Δ1, vs, pg, B1, q1.mono g.bb, g.bh, rv, fun σ' sl _ _ => q3 Δ1 M1 σ' B1 H1 hn g sl⟩⟩
/-- .. is True -/
theorem pc_isTrue {c : Bool} {j : Nat} {pos' : Pos} (ha : PD X a Δ M (dB c) M1) : PCD X .Is a (.Constant (.bool true) j pos') Δ M c M1 :=
  pcd op_isBl ha pd_bl fun x y B H Q rx ry g kk => by
    refine ⟨c, true, dt_bool.mp rx, dt_bool.mp ry, ?_⟩
    rw [show decide (c = true) = c from by cases c <;> rfl]
    exact kk
/-! ### numberings -/
def numD : Option (List Nat) → PyData
  | none => .none
  | some ks => rowD ks
def RTold (o : Option (List Nat)) (M1 : Ms) (r : SD) (M' : Ms) : Prop := match o with
  | none => r = .dat .none ∧ M' = M1
  | some ks => ∃ p, r = .val (.ref p) ∧ M' = (p, MD.ld (natD ks)) :: M1
theorem rtold_of {o : Option (List Nat)} (h : PX X e Δ M (fun r M' => ∃ Mc', RNum o r Mc' ∧ M' = Mc' ++ M1)) : PX X e Δ M (RTold o M1) :=
  px_conv h fun r M' ⟨Mc', hn, hM⟩ => by
    subst hM
    cases o with
    | none =>
      obtain ⟨rfl, p, q, ds, fs, rfl⟩ := hn
      exact .inl ⟨M1, (List.sublist_cons_self _ _).trans (List.sublist_cons_self _ _), rfl, rfl⟩
    | some ks =>
      obtain ⟨p, q, fs, rfl, rfl⟩ := hn
      exact .inl ⟨(p, MD.ld (natD ks)) :: M1, (List.sublist_cons_self _ _).cons₂ _, p, rfl, rfl⟩
theorem told_dat {o : Option (List Nat)} (h : PX X e Δ M (RTold o M1)) : PD X e Δ M (.dat (numD o)) M1 :=
  px_conv h fun r M' hn => by
    cases o with
    | none =>
      obtain ⟨rfl, rfl⟩ := hn
      exact .inl ⟨M', List.Sublist.refl _, rfl, rfl⟩
    | some ks =>
      obtain ⟨p, rfl, rfl⟩ := hn
      exact .inr ⟨p, natD ks, [], M1, rfl, rfl, rfl, rfl⟩
theorem px_num {n : Nat} {roads : List Road} {st : List Nat} (C : CalX X.prog X.w X.K X.mg X.base 7 "numbering" TNum) (hr : Room 7 X.A) (vn : VNet n roads) (vs : VSt roads st) (ha : PAD X (e :: es) Δ M [.dat (netD n roads), .dat (stD st)] M1) (hg : Gl X "numbering" := by rfl)
    (he : starEach (e :: es) X.env = (false, eval e X.env) :: starEach es X.env := by rfl) (hpl : (backTo pos (starEach es X.env)).any (·.1) = false := by rfl) : PX X (.Call (.Name "numbering" p) (e :: es) [] pos) Δ M (RTold (numF (W roads st) n) M1) :=
  rtold_of (px_call (Mc := []) (F := M1) C hr ha rfl ⟨n, roads, st, rfl, vn, vs, rfl, fun r M' h => h⟩ hg (by decide) he hpl)
end
/-! ### a drawn order -/
def shG (G : Gen) : Nat → Gen × List Nat
  | 0 => (G, List.range 6)
  | i + 1 => (nxt (shG G i).1 (shG G i).2.length, (shG G i).2.eraseIdx (rnd (shG G i).1 (shG G i).2.length))
def shO (G : Gen) (i : Nat) : Nat := (shG G i).2.getD (rnd (shG G i).1 (shG G i).2.length) 0
theorem shG_len (G : Gen) : ∀ i, i ≤ 6 → (shG G i).2.length = 6 - i
  | 0, _ => by simp [shG]
  | i + 1, h => by
    have ih := shG_len G i (by omega)
    have := rnd_lt (shG G i).1 (show 0 < (shG G i).2.length by omega)
    show ((shG G i).2.eraseIdx _).length = _
    rw [List.length_eraseIdx, if_pos this]
    omega
theorem shO_get (G : Gen) {i : Nat} (h : i < 6) : (shG G i).2[rnd (shG G i).1 (shG G i).2.length]? = some (shO G i) := by
  have ih := shG_len G i (by omega)
  have := rnd_lt (shG G i).1 (show 0 < (shG G i).2.length by omega)
  unfold shO
  rw [List.getD_eq_getElem?_getD, List.getElem?_eq_getElem this]
  rfl
theorem sh_perm (G : Gen) : ∀ i, i ≤ 6 → ((List.range i).map (shO G) ++ (shG G i).2).Perm (List.range 6)
  | 0, _ => .refl _
  | i + 1, h => by
    have ih := sh_perm G i (by omega)
    rw [List.range_succ, List.map_append]
    exact (perm_pop (shO_get G (by omega))).trans ih
def rowOf (G : Gen) : List Nat := (List.range 6).map (shO G)
theorem rowOf_perm (G : Gen) : (rowOf G).Perm (List.range 6) := by
  have h := sh_perm G 6 (Nat.le_refl _)
  have e : (shG G 6).2 = [] := List.eq_nil_of_length_eq_zero (shG_len G 6 (Nat.le_refl _))
  rw [e, List.append_nil] at h
  exact h
theorem shG_ok {k : Nat} {G : Gen} (h : GOk k G) : ∀ i, k + i < 1000000 → GOk (k + i) (shG G i).1
  | 0, _ => h
  | i + 1, hi => nxt_ok (shG_ok h i (by omega)) _ hi
/-! ### the two readings of fitting -/
theorem fitsL_eq {n : Nat} {rs : List Road} {st : List Nat} (v : VNet n rs) (ks : List Nat) : fitsL rs st ks = fitB (W rs st) n ks := by
  rw [Bool.eq_iff_iff, fitB_iff]
  unfold fitsL
  rw [List.all_eq_true]
  constructor
  · intro h u w hu hw q
    exact of_decide_eq_true (h (u, w) (List.mem_filter.mpr ⟨mem_dirs.mpr (dirK_dirs v (of_decide_eq_true q)), q⟩))
  · intro h p hp
    have q := (List.mem_filter.mp hp).2
    have l := W_lt v q
    exact decide_eq_true (h p.1 p.2 l.1 l.2.1 q)
theorem sortN_perm {ks : List Nat} {n : Nat} (h : ks.Perm (List.range n)) : sortN ks = List.range n := by
  have h1 : (sortN ks).Perm (List.range n) := (List.mergeSort_perm ks _).trans h
  have h2 : (sortN ks).Pairwise (· ≤ ·) := by
    have h := List.pairwise_mergeSort (le := fun a b : Nat => decide (a ≤ b)) (fun a b c h1 h2 => by
      have := of_decide_eq_true h1
      have := of_decide_eq_true h2
      exact decide_eq_true (by omega)) (fun a b => by
      rw [Bool.or_eq_true, decide_eq_true_eq, decide_eq_true_eq]
      omega) ks
    exact h.imp fun {a b} z => of_decide_eq_true z
  exact List.Perm.eq_of_pairwise (le := (· ≤ ·)) (fun a b _ _ x y => by omega) h2 (List.pairwise_lt_range.imp fun {a b} z => Nat.le_of_lt z) h1
theorem isNum_perm {n : Nat} {rs : List Road} {st : List Nat} (v : VNet n rs) {ks : List Nat} (h : ks.Perm (List.range n)) : isNum n rs st (rowD ks) = fitB (W rs st) n ks := by
  show isNumO n rs st (natsOf (natD ks)) = _
  rw [natsOf_natD]
  show (decide (sortN ks = List.range n) && fitsL rs st ks) = _
  rw [decide_eq_true (sortN_perm h), Bool.true_and, fitsL_eq v]
theorem ord_perm {n : Nat} {ks : List Nat} (h : ks ∈ ordersT n n) : ks.Perm (List.range n) := by
  obtain ⟨a, b, c⟩ := mem_orders.mp h
  have e : ks.length = (List.range n).length := by rw [a, List.length_range]
  refine (List.perm_ext_iff_of_nodup b List.nodup_range).mpr fun x => ⟨fun hx => List.mem_range.mpr (c x hx), fun hx => ?_⟩
  by_cases q : x ∈ ks
  · exact q
  · have := pigeon n (x :: ks) (List.nodup_cons.mpr ⟨q, b⟩) fun y hy => by
      rcases List.mem_cons.mp hy with z | z
      · rw [z]; exact List.mem_range.mp hx
      · exact c y z
    rw [List.length_cons, a] at this
    omega
theorem perm_ord {n : Nat} {ks : List Nat} (h : ks.Perm (List.range n)) : ks ∈ ordersT n n :=
  mem_orders.mpr ⟨by rw [h.length_eq, List.length_range], h.nodup_iff.mpr List.nodup_range, fun x hx => List.mem_range.mp (h.mem_iff.mp hx)⟩
theorem num_fits {w : Nat → Nat → Bool} {n : Nat} {ks : List Nat} (h : numF w n = some ks) : ks.length = n ∧ fitB w n ks = true ∧ ks.Perm (List.range n) := by
  obtain ⟨a, b, _⟩ := numF_some h
  obtain ⟨m1, m2⟩ := of_fit a b
  exact ⟨a, m2, ord_perm m1⟩
theorem W_round {n : Nat} {rs : List Road} {st : List Nat} (v : VNet n rs) : roundN (W rs st) n = (numF (W rs st) n).isNone := round_iff fun u w h => let l := W_lt v h; ⟨l.1, l.2.1⟩
theorem sh_nat {b k : Nat} {ks : List Nat} {n : Nat} (h : ∀ x ∈ ks, x ≤ 1000000) (hl : ks.length ≤ n) (hb : n ≤ b) (hk : 1 ≤ k) : Sh b k (rowD ks) := by
  refine sh_list (b := 0) (k := 0) (n := n) (fun d hd => ?_) (by rw [natD_len]; exact hl) (by omega) hk
  rw [natD_map] at hd
  obtain ⟨x, hx, rfl⟩ := List.mem_map.mp hd
  exact sh_int (by omega) (by have := h x hx; omega)
end KR

/-! KR, part PA: six houses are right. -/
namespace KR
open PySem PySem.Spec PyProof.Rows L2
abbrev sSixR : Stmt := topS 36
abbrev nSixR : List Str := ["_law_generator_here", "_law_net_here", "_law_standing_here", "_law_keys_here", "_law_told", "_law_turn", "_law_row", "_law_house"]
theorem scSixR : FnScope nSixR ["_law_generator_here"] (defScope sSixR) := ⟨rfl, rfl, rfl, by decide +kernel, rfl, by decide +kernel, by decide +kernel⟩
section
variable {P : Program} {w : World} {K : PySem.W.Frag} {mg : Str → Option Value} {base : Heap}
def TSixR : Tr := fun rs M R => ∃ (g : Addr) (G : Gen) (k : Nat), rs = [.val (.ref g)] ∧ GOk k G ∧ k + 1000 < 1000000 ∧ M = [(g, genD G)] ∧ R (dB true) []
theorem ok_sixR {f : Addr} {fd : FuncData} (bl : Bl mg) (CS : CalX P w K mg base 3 "_law_six" TSix) (CK : CalX P w K mg base 1 "_law_keys" TKeysL) (CN : CalX P w K mg base 7 "numbering" TNum) (CD : CalX P w K mg base 1 "_law_round" TRound) (CF : CalX P w K mg base 1 "_law_fits" TFits)
    (CR : CalX P w K mg base 2 "_law_random" TRandom) (CI : CalX P w K mg base 7 "is_numbering" TIsNum) (F : Fun K "_law_six_right" "_law_six_right" sSixR f fd) : FnG P w K mg base 8 f fd ["_law_generator_here"] TSixR := by
  refine fn_okG F scSixR (fun rs M R h => ?_) (fun cdv A outer s H E rs M R hr hgu h => ?_)
  · obtain ⟨g, G, k, rfl, _⟩ := h
    rfl
  · obtain ⟨g, G0, k, rfl, hG0, hk, rfl, hR⟩ := h
    refine pb_cons (Nx1 := fun Δ' M' => ∃ roads st G, VNet 6 roads ∧ VSt roads st ∧ GOk (k + 100) G ∧ Δ' = [.val (.ref g), .dat (netD 6 roads), .dat (stD st), .nil, .nil, .nil, .nil, .nil] ∧ M' = [(g, genD G)])
      (psx_asgX (R := fun r M' => ∃ roads st G, VNet 6 roads ∧ VSt roads st ∧ GOk (k + 100) G ∧ r = .dat (.list [netD 6 roads, stD st]) ∧ M' = [(g, genD G)])
        (px_callP (Mc := [(g, genD G0)]) (F := []) (R := fun r M' => ∃ roads st G, VNet 6 roads ∧ VSt roads st ∧ GOk (k + 100) G ∧ r = .dat (.list [netD 6 roads, stD st]) ∧ M' = [(g, genD G)]) CS (hr.mono (by decide)) (pad_one (pd_var 0)) (.refl _)
          ⟨g, G0, k, rfl, hG0, by omega, rfl, fun roads st G' h1 h2 h3 => ⟨roads, st, G', h1, h2, h3, rfl, rfl⟩⟩ fun r M' h => ⟨M', by rw [List.append_nil], h⟩)
        fun r M1 ⟨roads, st, G, h1, h2, h3, h4, h5⟩ => ?_) fun Δ' M' hN => ?_
    · subst h4 h5
      exact ⟨_, [1, 2], pgx_unl (ds := [netD 6 roads, stD st]) rfl (pgxs_cons (pgx_name 1 scSixR.nd) (pgxs_cons (pgx_name 2 scSixR.nd) pgxs_nil)) rfl, roads, st, G, h1, h2, h3, rfl, rfl⟩
    obtain ⟨roads, st, G1, vn, vs, hG1, rfl, rfl⟩ := hN
    refine pb_cons (Nx1 := fun Δ' M' => ∃ pk, Δ' = [.val (.ref g), .dat (netD 6 roads), .dat (stD st), .val (.ref pk), .dat (numD (numF (W roads st) 6)), .nil, .nil, .nil] ∧ M' = [(g, genD G1), (pk, .dic (kvOf (dirK roads st)))])
      (psx_par (i := 3) (j := 4) (R := fun rs M' => ∃ pk, rs = [.val (.ref pk), .dat (numD (numF (W roads st) 6))] ∧ M' = [(g, genD G1), (pk, .dic (kvOf (dirK roads st)))]) rfl scSixR.nd (by decide)
        (pax_cons (Re := fun r M' => ∃ pk, r = .val (.ref pk) ∧ M' = [(g, genD G1), (pk, .dic (kvOf (dirK roads st)))]) (px_callP (Mc := []) (F := [(g, genD G1)]) (R := fun r M' => ∃ pk, r = .val (.ref pk) ∧ M' = [(pk, MD.dic (kvOf (dirK roads st)))]) CK (hr.mono (by decide)) (pad_cons (pd_var 1) (pad_one (pd_var 2))) (.refl _)
            ⟨6, roads, st, rfl, vn, vs, rfl, fun p => ⟨p, rfl, rfl⟩⟩ fun r M' ⟨pk, e1, e2⟩ => ⟨[(g, genD G1), (pk, .dic (kvOf (dirK roads st)))], by rw [e2]; exact List.Perm.swap _ _ _, pk, e1, rfl⟩)
          fun r M1 ⟨pk, e1, e2⟩ => pax_one (Re := R1 (.dat (numD (numF (W roads st) 6))) M1) (told_dat (px_num CN hr vn vs (pad_cons (pd_var 1) (pad_one (pd_var 2))))) fun r2 M2 ⟨e3, e4⟩ => ⟨pk, by rw [e1, e3], by rw [e4, e2]⟩)
        fun rs M' ⟨pk, e, e'⟩ => ⟨_, _, e, pk, rfl, e'⟩) fun Δ' M' hN => ?_
    obtain ⟨pk, rfl, rfl⟩ := hN
    have swp : ∀ {x y : Addr × MD} {l : Ms}, (x :: y :: l).Perm (y :: x :: l) := fun {x y l} => List.Perm.swap _ _ _
    have told : ∀ ks, numF (W roads st) 6 = some ks → ks.length = 6 ∧ fitB (W roads st) 6 ks = true ∧ ks.Perm (List.range 6) := fun ks h => num_fits h
    generalize hkd : MD.dic (kvOf (dirK roads st)) = kd
    have fits : ∀ {ks : List Nat}, ks.length = 6 → TFits [.val (.ref pk), .dat (rowD ks)] [(pk, kd)] (R1 (dB (fitB (W roads st) 6 ks)) [(pk, kd)]) := fun {ks} h => ⟨pk, 6, roads, st, ks, rfl, vn, vs, h, by rw [← hkd], rfl, rfl⟩
    refine pb_if (t := false) (M1 := [(g, genD G1), (pk, kd)]) (PWD.pt (pwd_orF (M1 := [(g, genD G1), (pk, kd)]) (PTD.is (ptd_cmp (pc_neB (pd_cmp (pc_is (d := numD (numF (W roads st) 6)) (pd_var 4))) (pd_callP (r := dB (roundN (W roads st) 6)) (Mc := [(pk, kd)]) (Mc' := [(pk, kd)]) (F := [(g, genD G1)]) (M2 := [(g, genD G1), (pk, kd)]) CD (hr.mono (by decide))
        (pad_cons (pd_ixT (ds := [PyData.int (6 : Nat), .list (roads.map roadD)]) (pd_var 1) pd_int (net_at0 6 roads)) (pad_one (pd_var 3))) swp ⟨pk, 6, roads, st, rfl, vn, vs, by rw [← hkd], rfl, rfl⟩ swp))) ?_) (pwd_or1 (PWD.pt ?_)))) (fun h => nomatch h) (fun _ => ?_)
    · rw [W_round vn]
      cases numF (W roads st) 6 <;> rfl
    · cases hnum : numF (W roads st) 6 with
      | none => exact pwd_andF (PTD.is (ptd_cmp (pc_isnot (d := .none) (pd_var 4))) rfl)
      | some ks =>
        obtain ⟨t1, t2, t3⟩ := told ks hnum
        exact pwd_andT (PTD.is (ptd_cmp (pc_isnot (d := rowD ks) (pd_var 4))) rfl) (pwd_and1 (PTD.is (ptd_not (ptd_val (pd_callP (Mc := [(pk, kd)]) (Mc' := [(pk, kd)]) (F := [(g, genD G1)]) (M2 := [(g, genD G1), (pk, kd)]) CF (hr.mono (by decide))
          (pad_cons (pd_var 3) (pad_one (pd_var 4))) swp (fits t1) swp))) (by rw [t2]; rfl)))
    -- drawn rows
    refine pb_cons (Nx1 := fun Δ' M' => ∃ G c d, Δ' = [.val (.ref g), .dat (netD 6 roads), .dat (stD st), .val (.ref pk), .dat (numD (numF (W roads st) 6)), c, d, .nil] ∧ M' = [(g, genD G), (pk, kd)])
      (psx_for (fun i Δ' M' => ∃ G c d, GOk (k + 100 + 6 * i) G ∧ Δ' = [.val (.ref g), .dat (netD 6 roads), .dat (stD st), .val (.ref pk), .dat (numD (numF (W roads st) 6)), c, d, .nil] ∧ M' = [(g, genD G), (pk, kd)]) PassesOwn.never rfl
        (pix_range1 (n := 3) bl.range pd_int (by decide)) ⟨G1, _, _, hG1, rfl, rfl⟩ (fun _ _ _ _ => trivial) (fun i d Δ' M' hd hI => ?_) (fun Δ' M' hI => ?_)) fun Δ' M' hN => ?_
    · obtain ⟨hi, rfl⟩ := rgD_get hd
      have hi3 : i < 3 := hi
      obtain ⟨G, c, d, hG, rfl, rfl⟩ := hI
      refine ⟨_, [5], pgx_name 5 scSixR.nd, ?_⟩
      refine pb_setR 6 scSixR.nd (PL.cell (PL.is (pl_listRg (j := 6) rfl bl.list bl.range pd_int (by decide)) (rgD_nat 6))) fun r M1 hrM => ?_
      obtain ⟨pr, rfl, rfl⟩ := hrM
      have out_eq : (List.range (rgD 0 (6 : Int).toNat).length).filterMap (fun i => some (PyData.int (shO G i : Nat))) = natD (rowOf G) := by
        rw [rgD_len, natD_map]
        unfold rowOf
        rw [List.map_map]
        show List.filterMap (some ∘ fun i => PyData.int (shO G i : Nat)) _ = _
        rw [List.filterMap_eq_map]
        rfl
      refine pb_set 6 scSixR.nd (PL.pd (PL.is (pl_comp rfl scSixR.nd (pix_range1 (n := 6) bl.range pd_int (by decide)) (blkOk_by (N := nSixR) (sc := defScope sSixR) (own := [("_law_house", 7)]) (by decide +kernel)) (by rw [rgD_len]; exact sz_le (by decide))
        (fun i => [(g, genD (shG G i).1), (pk, kd), (pr, .ld (natD (shG G i).2))]) (fun i => some (PyData.int (shO G i : Nat))) rfl (fun _ => trivial) fun j d hd => ?_) out_eq)) ?_
      · obtain ⟨hj, rfl⟩ := rgD_get hd
        have hj6 : j < 6 := hj
        have hlen := shG_len G j (by omega)
        have hGj := shG_ok hG j (by omega)
        exact ⟨_, fun s H C cl fp => pgx_name 7 scSixR.nd, .inl ⟨_, _, rfl, fun s H C cl fp => ptx_nil, fun s H C cl fp => PD.isM (pd_popAt (d := PyData.int (shO G j : Nat)) (k := rnd (shG G j).1 (shG G j).2.length) 2 (pd_var 6)
          (pd_callM (Mc := [(g, genD (shG G j).1)]) (Mc' := [(g, genD (nxt (shG G j).1 (shG G j).2.length))]) (F := [(pk, kd), (pr, .ld (natD (shG G j).2))]) CR (hr.mono (by decide)) (pad_cons (pd_var 0) (pad_one (PD.is (pd_len (ds := natD (shG G j).2) bl.len (pd_var 6) (.cell (by simp))) (by rw [natD_len]))))
            ⟨g, (shG G j).1, (shG G j).2.length, _, rfl, by omega, by omega, hGj, rfl, rfl, rfl⟩) ⟨natD (shG G j).2, by simp⟩ rfl (natD_get (shO_get G hj6)) (by rw [natD_len]; omega)) (by
              show [(g, genD _), (pk, kd), (pr, MD.ld ((natD (shG G j).2).eraseIdx _))] = _
              rw [natD_erase]
              rfl)⟩⟩
      · have hrow : (rowOf G).length = 6 := by unfold rowOf; rw [List.length_map, List.length_range]
        show PBX _ _ _ [(g, genD (shG G 6).1), (pk, kd), (pr, .ld (natD (shG G 6).2))] _ _
        refine pb_if (t := false) (M1 := [(g, genD (shG G 6).1), (pk, kd), (pr, .ld (natD (shG G 6).2))]) (PTD.is (ptd_cmp (pc_neS (pd_repr (b := 0) hgu hr.units bl.repr (pd_call CI hr (pad_cons (pd_var 1) (pad_cons (pd_var 2) (pad_one (pd_var 6)))) ⟨6, roads, st, rowD (rowOf G), rfl, vn, vs, fun ds e => ?_, rfl, rfl, rfl⟩) (sh_bool _) (by decide))
          (pd_repr (b := 0) hgu hr.units bl.repr (pd_callP (Mc := [(pk, kd)]) (Mc' := [(pk, kd)]) (F := [(g, genD (shG G 6).1), (pr, .ld (natD (shG G 6).2))]) (M2 := [(g, genD (shG G 6).1), (pk, kd), (pr, .ld (natD (shG G 6).2))]) CF (hr.mono (by decide)) (pad_cons (pd_var 3) (pad_one (pd_var 6))) swp (fits hrow) swp) (sh_bool _) (by decide)))) ?_) (fun h => nomatch h) (fun _ => ?_)
        · cases e
          exact ⟨okAll_nat _, by rw [natD_len, hrow]; decide⟩
        · rw [isNum_perm vn (rowOf_perm G)]
          simp
        · exact pb_drop (M2 := [(g, genD (shG G 6).1), (pk, kd)]) (by simp) (pb_nil ⟨(shG G 6).1, _, _, (shG_ok hG 6 (by omega)).mono (by omega) (by omega), rfl, rfl⟩)
    · obtain ⟨G, c, d, hG, rfl, rfl⟩ := hI
      exact ⟨G, c, d, rfl, rfl⟩
    · obtain ⟨G, c, d, rfl, rfl⟩ := hN
      refine pb_ret (PD.drop (r := dB true) (M2 := []) (M1 := [(g, genD G), (pk, kd)]) ?_ (by simp) hR)
      cases hnum : numF (W roads st) 6 with
      | none => exact pd_orT (PD.is (pd_cmp (pc_is (d := .none) (pd_var 4))) rfl)
      | some ks =>
        obtain ⟨t1, t2, t3⟩ := told ks hnum
        refine pd_orF (PD.is (pd_cmp (pc_is (d := rowD ks) (pd_var 4))) rfl) (pd_one (PD.is (pd_cmp (pc_isTrue (pd_call CI hr (pad_cons (pd_var 1) (pad_cons (pd_var 2) (pad_one (pd_var 4)))) ⟨6, roads, st, rowD ks, rfl, vn, vs, fun ds e => ?_, rfl, rfl, rfl⟩))) (by rw [isNum_perm vn t3, t2])))
        cases e
        exact ⟨okAll_nat _, by rw [natD_len, t1]; decide⟩
end
end KR

/-! KR, part Y: slices with a step, tuple(xs), picks, the first of a list or None. -/
namespace KR
open PySem PySem.Spec PyProof.Rows L2
def stepI (c : Int) (n : Nat) : List Nat := sliceRange (sliceBounds none none (some c) n).1 (sliceBounds none none (some c) n).2.1 (sliceBounds none none (some c) n).2.2
def stepD {α : Type} (c : Int) (xs : List α) : List α := (stepI c xs.length).filterMap fun i => xs[i]?
theorem vals_pick {xs : List V} {us : List Value} (r : Vals xs us) : ∀ is : List Nat, Vals (is.filterMap fun i => xs[i]?) (is.filterMap fun i => us[i]?)
  | [] => .nil
  | i :: is => by
    rw [List.filterMap_cons, List.filterMap_cons]
    cases q : xs[i]? with
    | none =>
      have : us[i]? = none := by
        rw [List.getElem?_eq_none_iff] at q ⊢
        rw [← r.length]
        exact q
      rw [this]
      exact vals_pick r is
    | some x =>
      obtain ⟨u, hu, hr⟩ := r.get q
      rw [hu]
      exact .cons hr (vals_pick r is)
theorem dta_pick {B : Hp} {xs : List V} {ds : List PyData} (r : DtA B xs ds) : ∀ is : List Nat, DtA B (is.filterMap fun i => xs[i]?) (is.filterMap fun i => ds[i]?)
  | [] => .nil
  | i :: is => by
    rw [List.filterMap_cons, List.filterMap_cons]
    cases q : ds[i]? with
    | none =>
      have : xs[i]? = none := by
        rw [List.getElem?_eq_none_iff] at q ⊢
        rw [r.length]
        exact q
      rw [this]
      exact dta_pick r is
    | some x =>
      obtain ⟨u, hu, hr⟩ := r.get q
      rw [hu]
      exact .cons hr (dta_pick r is)
theorem slicePick_step (its : List Value) (c : Int) : slicePick its.toArray none none (some c) = ((stepI c its.length).filterMap fun i => its[i]?).toArray := by
  unfold slicePick stepI
  simp only [List.size_toArray, List.getElem?_toArray]
theorem stepD_sub {α : Type} (c : Int) (xs : List α) : ∀ x ∈ stepD c xs, x ∈ xs := fun x hx => by
  obtain ⟨i, _, h⟩ := List.mem_filterMap.mp hx
  exact List.mem_of_getElem? h
theorem stepD_map {α β : Type} (c : Int) (f : α → β) (xs : List α) : stepD c (xs.map f) = (stepD c xs).map f := by
  unfold stepD
  rw [List.length_map, List.map_filterMap]
  congr 1
  funext i
  rw [List.getElem?_map]
def tStep (K : PySem.W.Frag) (c : Int) (te : TE) : TE := fun σ H Q => te σ H fun x H1 => ∃ a xs, x = .ref a ∧ SqL K H1 a xs ∧ ∀ p, H1 p = none → Q (.ref p) (upd H1 p (.lst (stepD c xs)))
section
variable {X : Cx}
theorem pe_step {e : Expr} {te : TE} {k : Nat} {c : Int} {p1 p2 pos : Pos} (hc : c ≠ 0) (he : PE X e te) : PE X (.Subscript e (.Slice none none (some (.Constant (.int c) k p1)) p2) pos) (tStep X.K c te) := by
  refine ⟨fun pins s σ H Q I h => Subscript_ (thn (he.run pins s σ H _ I h) fun v s1 ⟨x, H1, I1, r1, a, xs, ex, hx, q⟩ => ?_)⟩
  subst ex; cases r1
  have part : PO X (some (.Constant (.int c) k p1)) (tPart (tC (.int c))) := po_some pe_int
  refine wpAny_Slice (thn (po_none.run pins s1 σ H1 (fun o H2 => o = none ∧ H2 = H1) I1 ⟨rfl, rfl⟩) fun vl s2 ⟨l, H2, I2, pl, el, e2⟩ => ?_); subst el e2
  refine thn (po_none.run pins s2 σ H2 (fun o H3 => o = none ∧ H3 = H2) I2 ⟨rfl, rfl⟩) fun vu s3 ⟨u, H3, I3, pu, eu, e3⟩ => ?_; subst eu e3
  refine thn (part.run pins s3 σ H3 (fun o H4 => o = some c ∧ H4 = H3) I3 ⟨c, rfl, rfl, rfl⟩) fun vc s4 ⟨o, H4, I4, pc, eo, e4⟩ => ?_; subst eo e4
  have I5 : Inv X pins σ H4 { s4 with heap := s4.heap.push { cls := .type "slice", data := .fields #[vl, vu, vc] } } := I4.kept (t' := s4.toks) fun b ob y => Heap.get?_push_of_some _ y
  obtain ⟨its, r, ht, hz⟩ := I5.list hx
  have hl := r.length
  show wpAny (model X.prog X.w) X.A (subscriptTail e (.Slice none none (some (.Constant (.int c) k p1)) p2) (.ref a) (.ref s4.heap.objs.size)) (EP X pins σ Q) X.xe { s4 with heap := s4.heap.push { cls := .type "slice", data := .fields #[vl, vu, vc] } }
  refine tail_any (ops := [.ref a, .ref s4.heap.objs.size]) ht.isList.typeIs (PySem.slot_list_getitem.lookup) (wpAny_getItem_list_slice ht.isList (Heap.IsSliceOf.new _ vl vu vc) pl pu pc (fun z => hc (Option.some.inj z)) ?_ (by rw [List.size_toArray]; omega)) (by with_unfolding_all rfl)
  have hsz := slicePick_size_le its.toArray none none (some c)
  rw [slicePick_step] at hsz ⊢
  rw [List.size_toArray, List.size_toArray] at hsz
  have hv : Vals (stepD c xs) ((stepI c its.length).filterMap fun i => its[i]?) := by
    unfold stepD
    rw [hl]
    exact vals_pick r _
  refine ⟨.ref _, _, I5.laid (t' := s4.toks) (o := .lst (stepD c xs)) (fun b ob y => Heap.get?_push_of_some _ y) (Nat.le_refl _) ⟨?_, _, 0, hv, Heap.get?_push_size _ rfl⟩, rfl, q _ (I5.hok.fresh (Nat.le_refl _))⟩
  rw [hv.length]
  omega
variable {Δ : List SD} {M M1 M2 : Ms} {ra : SD} {a b c e e1 e2 : Expr} {es : List Expr} {p p2 pos : Pos} {ds : List PyData} {R' : SD → Ms → Prop}
theorem pl_step {k : Nat} {z : Int} {q1 q2 : Pos} (hz : z ≠ 0) (ha : PD X a Δ M ra M1) (hl : LsD ra ds M1) : PL X (.Subscript a (.Slice none none (some (.Constant (.int z) k q1)) q2) pos) Δ M (stepD z ds) M1 :=
  PE.of (pe_step hz ha) fun σ H Q ⟨B, h1, h2, h3⟩ => one_op h1 h2 fun x B2 H2 g rx => by
    obtain ⟨q, xs, rfl, hq, hx⟩ := hl.of rx g.go
    refine ⟨q, xs, rfl, SqL.of hq, fun t ht => h3 t _ B2 _ (g.trans (Gr.alloc g.go ht)) (th_none g ht) (g.go.bh.free ht) upd_same ?_ (notin_of g.go ht)⟩
    unfold stepD
    rw [hx.length]
    exact dta_pick hx _
/-- tuple(xs) -/
theorem pd_tupleOf (hm : X.mg "tuple" = none) (ha : PD X a Δ M ra M1) (hl : LsD ra ds M1) (hg : Gl X "tuple" := by rfl) (na : starEach [a] X.env = (false, eval a X.env) :: starEach [] X.env := by rfl) : PD X (.Call (.Name "tuple" p) [a] [] pos) Δ M (.dat (.tuple ds)) M1 :=
  PE.of (pe_tupleOf hg hm ha na) fun σ H Q ⟨B, h1, h2, h3⟩ => one_op h1 h2 fun x B2 H2 g rx => by
    obtain ⟨q, xs, rfl, hq, hx⟩ := hl.of rx g.go
    exact .inl ⟨q, xs, rfl, SqL.of hq, fun t ht => h3 _ _ _ _ _ ⟨rfl, rfl⟩ (g.trans (Gr.new (o := .tup xs) g.go ht)) (.tuple upd_same (hx.mono (same_new (g.go.bh.free ht))))⟩
/-- {} as data -/
theorem pd_dictE : PD X (.Dict [] [] pos) Δ M (.dat (.dict [])) M :=
  PE.of pe_dnewT fun σ H Q ⟨B, h1, h2, h3⟩ => fun q hq => h3 _ _ _ _ _ ⟨rfl, rfl⟩ (Gr.new (o := .dT []) h2 hq) (dt_dict.mpr ⟨q, rfl, upd_same, rfl⟩)
/-- [a, b, ..][c] -/
theorem px_pick {RL : List SD → Ms → Prop} (ha : PAX X es Δ M RL) (hb : ∀ rs M1, RL rs M1 → ∃ ds : List PyData, rs = ds.map SD.dat ∧ ds.length ≤ sizeLine ∧ ∃ (k : Nat) (d : PyData) (M2 : Ms), PD X c Δ M1 (dI k) M2 ∧ ds[k]? = some d ∧ R' (.dat d) M2) (hp : PlainIx c := by exact fun _ _ => rfl) : PX X (.Subscript (.List es p2) c pos) Δ M R' :=
  PE.of (pe_ix ix_list (pe_lst ha) px_any hp) fun σ H Q ⟨B, h1, h2, h3⟩ => ⟨B, h1, h2, fun rs M1 vs B1 H1 hR g rv => by
    obtain ⟨ds, rfl, hz, k, d, M2, hpd, hd, hr⟩ := hb rs M1 hR
    have rv' := rsa_dat.mp rv
    refine ⟨by rw [rv'.length]; exact hz, fun q hq => ?_⟩
    have g2 := Gr.new (p := q) (o := .lst vs) g.go hq
    have gg := g.trans g2
    refine ⟨Δ, M1, R1 (dI k) M2, hpd, _, h1.mono gg.bb, gg.go, fun r' M' y B2 H2 e3 g3 ry => ?_⟩
    obtain ⟨rfl, rfl⟩ := e3
    obtain ⟨v, hv, hdv⟩ := rv'.get hd
    exact ⟨q, vs, k, v, rfl, dt_int.mp ry, SqL.of (g3.go.bh _ _ (g3.bb _ _ upd_same)), atI_nat hv, h3 _ _ v B2 H2 hr (gg.trans g3) ((hdv.mono g2.bb).mono g3.bb)⟩⟩
theorem okD_row (r : List Nat) : okD (rowD r) := by
  have h1 : ∀ d ∈ natD r, d.canLay0 = true := fun d hd => (okAll_nat r d hd).1
  have h2 : ∀ d ∈ natD r, d.depth ≤ 0 := fun d hd => by
    rw [natD_map] at hd
    obtain ⟨i, _, rfl⟩ := List.mem_map.mp hd
    simp [PyData.depth]
  have h3 := canAll_of h1
  have h4 := depthAll_of h2
  exact ⟨by unfold rowD; simp only [PyData.canLay0]; exact h3, by unfold rowD; simp only [PyData.depth]; omega⟩
theorem okAll_rows (rs : List (List Nat)) : okAll (rowsD rs) := fun d hd => by
  obtain ⟨r, _, rfl⟩ := List.mem_map.mp hd
  exact okD_row r
/-- x[0] if x != [] else None -/
theorem pd_head {gl : List (List Nat)} {j k : Nat} {q1 q2 q3 q4 q5 : Pos} (hu : X.A.units + 64 < cLine) (h1 : PD X e1 Δ M (.dat (.list (rowsD gl))) M) (h2 : PD X e2 Δ M (.dat (.list (rowsD gl))) M) :
    PD X (.IfExp (.Compare e1 [.NotEq] [.List [] q1] q2) (.Subscript e2 (.Constant (.int 0) j q3) q4) (.Constant .none k q5) pos) Δ M (.dat (numD gl.head?)) M := by
  cases gl with
  | nil => exact pd_ifF (PTD.is (ptd_cmp (pc_neNil hu h1 .dat (okAll_rows _))) rfl) pd_non
  | cons r rs => exact pd_ifT (PTD.is (ptd_cmp (pc_neNil hu h1 .dat (okAll_rows _))) rfl) (pd_ix (ds := rowsD (r :: rs)) (d := rowD r) h2 pd_int .dat (at_nat (i := 0) rfl rfl))
end
end KR

/-! KR, part Z: {} in a list of lists. -/
namespace KR
open PySem PySem.Spec PyProof.Rows L2
open AutoSeq1 (wpAny_loadPart')
theorem list_no_dict (l b : Addr) (items : Array Value) (es : Array DictEntry) (n n2 : Nat) (dd dd2 : Option Addr) (sl sl2 : Array (Option Value)) :
    Meets (Builtin.«list.__eq__» ⟨[.ref l, .ref b], []⟩) (fun _ R s => (s.heap.get? l = some { cls := .type "list", dict := dd, data := .seq items n, slots := sl } ∧ s.heap.get? b = some { cls := .type "dict", dict := dd2, data := .dict es n2, slots := sl2 }) ∧ R (.ok (.ret .notImplemented)) s) :=
  .of_wp fun prog w A R s h => by
    obtain ⟨hp, g, d, tk, os⟩ := s
    obtain ⟨⟨hl, hb⟩, h⟩ := h
    have f1 := F.sub_dict_list
    wp_walk using wpAny_loadPart' hl, wpAny_loadPart' hb
    exact ⟨_, rfl, h⟩
theorem dict_no_list (l b : Addr) (items : Array Value) (es : Array DictEntry) (n n2 : Nat) (dd dd2 : Option Addr) (sl sl2 : Array (Option Value)) :
    Meets (Builtin.«dict.__eq__» ⟨[.ref b, .ref l], []⟩) (fun _ R s => (s.heap.get? l = some { cls := .type "list", dict := dd, data := .seq items n, slots := sl } ∧ s.heap.get? b = some { cls := .type "dict", dict := dd2, data := .dict es n2, slots := sl2 }) ∧ R (.ok (.ret .notImplemented)) s) :=
  .of_wp fun prog w A R s h => by
    obtain ⟨hp, g, d, tk, os⟩ := s
    obtain ⟨⟨hl, hb⟩, h⟩ := h
    have f1 := F.sub_list_dict
    wp_walk using wpAny_loadPart' hl, wpAny_loadPart' hb
    exact ⟨_, rfl, h⟩
section
variable {A : Around} {s : Shared} {l b : Addr} {items : Array Value}
theorem list_ne_dict {ob : Obj} {es : Array DictEntry} {ep : Nat} (hl : s.heap.IsList l items) (hb : s.heap.get? b = some ob) (hx : ob.cls = .type "dict") (hd : ob.data = .dict es ep) (hu : A.units < cLine) : SeqAt.EqAt A s (.ref l) (.ref b) false := by
  have ne : l ≠ b := fun e => by
    subst e
    obtain ⟨o, ho, hc, _⟩ := hl
    rw [ho] at hb
    cases hb
    rw [hx] at hc
    exact absurd hc (by simp)
  refine SeqAt.EqAt.of_refs ne fun prog w E Q h => ?_
  obtain ⟨⟨c1, d1, data1, sl1⟩, ho, hc, n, hdt⟩ := hl
  obtain ⟨c2, d2, data2, sl2⟩ := ob
  simp only at hc hdt hx hd; subst hc hdt hx hd
  exact SeqAt.rc_eq_decline_or (k := false) ⟨_, ho, rfl⟩ ⟨_, hb, rfl⟩ (by decide) F.sub_dict_list F.slot_list_eq F.slot_dict_eq_refl
    (fun _ hq => call_meets F.slot_list_eq ⟨_, ho, rfl⟩ F.entry_list_eq (F.args_list_eq_2 _ _) (list_no_dict l b items es n ep d1 d2 sl1 sl2) ⟨⟨ho, hb⟩, hq⟩)
    (fun _ hq => call_meets F.slot_dict_eq_refl ⟨_, hb, rfl⟩ F.entry_dict_eq (F.args_dict_eq_2 _ _) (dict_no_list l b items es n ep d1 d2 sl1 sl2) ⟨⟨ho, hb⟩, hq⟩)
    (fun _ hq => SeqAt.wpAny_isSame_ref_other' ne ho hb (by simp) hq) (.inr hu) h
end
def rInE (K : PySem.W.Frag) : R2 := fun x y H Q => ∃ (p q : Addr) (xs : List V), x = .ref p ∧ y = .ref q ∧ H p = some (.dT []) ∧ SqL K H q xs ∧ (∀ v ∈ xs, ∃ a ys, v = .ref a ∧ SqL K H a ys) ∧ Q (.bl false) H
theorem op_inE {X : Cx} (hu : X.A.units + 1 < cLine) : OpR X (compareOp .In) (rInE X.K) := by
  intro pins s σ H x y v u Q I rx ry h
  obtain ⟨p, q, xs, rfl, rfl, hp, hq, hx, k⟩ := h
  cases rx
  cases ry
  obtain ⟨its, r, pl, hz⟩ := I.list hq
  obtain ⟨_, _, ys, _, ob, es, ep, o1, o2, o3, _⟩ := dt_of I.hok hp
  refine SeqAt.in_listAt (fun _ => false) pl.isList (fun w hw => ?_) ⟨.bl false, H, I, ?_, k⟩
  · have hw' : w ∈ its := by simpa using hw
    obtain ⟨i, hi⟩ := List.mem_iff_getElem?.mp hw'
    have hil : i < xs.length := by
      rw [r.length]
      exact (List.getElem?_eq_some_iff.mp hi).1
    obtain ⟨u, h1, h2⟩ := r.get (List.getElem?_eq_getElem hil)
    rw [hi] at h1
    cases h1
    obtain ⟨a, zs, e, ha⟩ := hx _ (List.getElem_mem hil)
    rw [e] at h2
    obtain rfl : w = .ref a := h2
    obtain ⟨its2, _, pl2, _⟩ := I.list ha
    exact list_ne_dict pl2.isList o1 o2.1 o3 (by show X.A.units + 1 < cLine; exact hu)
  · show Value.bool _ = Value.bool false
    congr 1
    rw [Array.any_eq_false]
    simp
section
variable {X : Cx} {Δ : List SD} {M M1 M2 : Ms} {a b : Expr} {rss : List (List Nat)}
theorem pc_inE (hu : X.A.units + 1 < cLine) (ha : PD X a Δ M (.dat (.dict [])) M1) (hb : PD X b Δ M1 (.dat (.list (rowsD rss))) M2) : PCD X .In a b Δ M false M2 :=
  pcd (op_inE hu) ha hb fun x y B H Q rx ry g k => by
    obtain ⟨p, rfl, hp, _⟩ := dt_dict.mp rx
    obtain ⟨q, xs, rfl, hq, hd⟩ := dt_list.mp ry
    refine ⟨p, q, xs, rfl, rfl, g.bh _ _ hp, SqL.of (g.bh _ _ hq), fun v hv => ?_, k⟩
    obtain ⟨i, hi⟩ := List.mem_iff_getElem?.mp hv
    have hil : i < (rowsD rss).length := by
      rw [← hd.length]
      exact (List.getElem?_eq_some_iff.mp hi).1
    obtain ⟨u, h1, h2⟩ := hd.get (List.getElem?_eq_getElem hil)
    rw [hi] at h1
    cases h1
    obtain ⟨r, _, er⟩ := List.mem_map.mp (List.getElem_mem hil)
    rw [← er] at h2
    obtain ⟨c, ys, rfl, hc, _⟩ := dt_list.mp h2
    exact ⟨c, ys, rfl, SqL.of (g.bh _ _ hc)⟩
end
end KR

/-! KR, part PB: what is tried, plain. -/
namespace KR
open PySem PySem.Spec PyProof.Rows L2
structure okTry (d : PyData) : Prop where
  ok : okD d
  ls : ∀ ds, d = .list ds → okAll ds ∧ ds.length ≤ 1000
def TryOk (d : PyData) : Prop := d = .dict [] ∨ okTry d
def okS (d : PyData) : Prop := d.canLay0 = true ∧ d.depth ≤ 5
theorem okS.okD {d : PyData} (h : okS d) : okD d := ⟨h.1, Nat.le_trans h.2 (by decide)⟩
theorem okTry_list {ds : List PyData} (h : ∀ d ∈ ds, okS d) (hl : ds.length ≤ 1000) : okTry (.list ds) := by
  have h1 := canAll_of fun d hd => (h d hd).1
  have h2 := depthAll_of fun d hd => (h d hd).2
  refine ⟨⟨by simp only [PyData.canLay0]; exact h1, by simp only [PyData.depth]; omega⟩, fun es e => ?_⟩
  cases e
  exact ⟨fun d hd => (h d hd).okD, hl⟩
theorem okTry_tuple {ds : List PyData} (h : ∀ d ∈ ds, okS d) : okTry (.tuple ds) := by
  have h1 := canAll_of fun d hd => (h d hd).1
  have h2 := depthAll_of fun d hd => (h d hd).2
  exact ⟨⟨by simp only [PyData.canLay0]; exact h1, by simp only [PyData.depth]; omega⟩, fun es e => nomatch e⟩
theorem okS_int (i : Int) : okS (.int i) := ⟨by simp [PyData.canLay0], by simp [PyData.depth]⟩
theorem okS_bool (b : Bool) : okS (.bool b) := ⟨by simp [PyData.canLay0], by simp [PyData.depth]⟩
theorem okS_none : okS .none := ⟨by simp [PyData.canLay0], by simp [PyData.depth]⟩
theorem okS_zero : okS (.str "0") := ⟨by decide +kernel, by simp [PyData.depth]⟩
theorem okTry_none : okTry .none := ⟨okS_none.okD, fun es e => nomatch e⟩
theorem okTry_int (i : Int) : okTry (.int i) := ⟨(okS_int i).okD, fun es e => nomatch e⟩
theorem okS_nat (ks : List Nat) : ∀ d ∈ natD ks, okS d := fun d hd => by
  rw [natD_map] at hd
  obtain ⟨i, _, rfl⟩ := List.mem_map.mp hd
  exact okS_int _
theorem okTry_row {r : List Nat} (h : r.length ≤ 1000) : okTry (rowD r) := okTry_list (okS_nat r) (by rw [natD_len]; exact h)
theorem okS_row (r : List Nat) : okS (rowD r) := by
  have h1 := canAll_of fun d hd => (okS_nat r d hd).1
  have h2 : PyData.depthAll (natD r) ≤ 0 := depthAll_of fun d hd => by
    rw [natD_map] at hd
    obtain ⟨i, _, rfl⟩ := List.mem_map.mp hd
    simp [PyData.depth]
  exact ⟨by unfold rowD; simp only [PyData.canLay0]; exact h1, by unfold rowD; simp only [PyData.depth]; omega⟩
theorem mem_rep {x : PyData} {l : List PyData} {n : Nat} (h : x ∈ (List.replicate n l).flatten) : x ∈ l := by
  obtain ⟨m, h1, h2⟩ := List.mem_flatten.mp h
  rw [(List.mem_replicate.mp h1).2] at h2
  exact h2
theorem rep_len1 (x : PyData) (n : Nat) : (List.replicate n [x]).flatten.length = n := by
  induction n with
  | zero => rfl
  | succ n ih => rw [List.replicate_succ, List.flatten_cons, List.length_append, ih, List.length_singleton]; omega
theorem okTry_rep {x : PyData} (hx : okS x) {n : Nat} (hn : n ≤ 1000) : okTry (.list (List.replicate n [x]).flatten) :=
  okTry_list (fun d hd => by have := List.mem_singleton.mp (mem_rep hd); rw [this]; exact hx) (by rw [rep_len1]; exact hn)
def cutL {α : Type} (xs : List α) (lo hi : Option Int) : List α := (xs.drop (HT.sIx xs.length 0 lo)).take (HT.sIx xs.length xs.length hi - HT.sIx xs.length 0 lo)
theorem cutD_rows (xs : List (List Nat)) (lo hi : Option Int) : cutD (rowsD xs) lo hi = rowsD (cutL xs lo hi) := by
  unfold cutD cutL rowsD
  rw [List.length_map, List.map_take, List.map_drop]
theorem cutD_nat (xs : List Nat) (lo hi : Option Int) : cutD (natD xs) lo hi = natD (cutL xs lo hi) := by
  rw [natD_map, natD_map]
  unfold cutD cutL
  rw [List.length_map, List.map_take, List.map_drop]
theorem cutL_sub {α : Type} {xs : List α} {lo hi : Option Int} {x : α} (h : x ∈ cutL xs lo hi) : x ∈ xs := List.mem_of_mem_drop (List.mem_of_mem_take h)
theorem cutL_len {α : Type} (xs : List α) (lo hi : Option Int) : (cutL xs lo hi).length ≤ xs.length := by
  unfold cutL
  rw [List.length_take, List.length_drop]
  omega
theorem stepD_rows (c : Int) (xs : List (List Nat)) : stepD c (rowsD xs) = rowsD (stepD c xs) := stepD_map c rowD xs
theorem stepI_len (n : Nat) : (stepI 7 n).length ≤ n := by
  have h := slicePick_size_le (Array.replicate n Value.none) none none (some 7)
  unfold stepI
  refine sliceRange_length_le _ _ _ _ (fun hc => ?_) (fun hc => ?_)
  · simp only [sliceBounds] at hc ⊢
    simp
  · exact absurd (show (7 : Int) > 0 by decide) hc
theorem stepD_len {α : Type} (xs : List α) : (stepD 7 xs).length ≤ xs.length := Nat.le_trans (List.length_filterMap_le _ _) (stepI_len xs.length)
/-! ### what is due -/
theorem eqv_row {r : List Nat} {ns : List Int} : PyData.eqv (rowD r) (.list (ns.map PyData.int)) = decide (castL r = ns) := by
  have key : ∀ (a b : List Int), PyData.eqvAll (a.map PyData.int) (b.map PyData.int) = decide (a = b) := by
    intro a
    induction a with
    | nil =>
      intro b
      cases b with
      | nil => simp [PyData.eqvAll]
      | cons y b => simp [PyData.eqvAll]
    | cons x a ih =>
      intro b
      cases b with
      | nil => simp [PyData.eqvAll]
      | cons y b =>
        simp only [List.map_cons, PyData.eqvAll, ih b, eqv_int]
        by_cases h : x = y
        · subst h; simp
        · simp [h]
  show PyData.eqv (.list (natD r)) _ = _
  unfold natD
  simp only [PyData.eqv]
  exact key _ _
theorem all_whole : ∀ {ds : List PyData}, (∀ d ∈ ds, wholeD d = true) → ∃ ns : List Int, ds = ns.map PyData.int
  | [], _ => ⟨[], rfl⟩
  | d :: ds, h => by
    obtain ⟨ns, e⟩ := all_whole fun x hx => h x (List.mem_cons_of_mem _ hx)
    obtain ⟨v, e2⟩ := whole_int (h d List.mem_cons_self)
    exact ⟨v :: ns, by rw [e, e2]; rfl⟩
theorem nat_whole {ds : List PyData} {ks : List Nat} (h : natsOf ds = some ks) : ∀ d ∈ ds, wholeD d = true := fun d hd => by
  rw [natsOf_some h, natD_map] at hd
  obtain ⟨i, _, rfl⟩ := List.mem_map.mp hd
  rfl
theorem isNum_true {n : Nat} {rs : List Road} {st : List Nat} {d : PyData} (h : isNum n rs st d = true) : ∃ ks, d = rowD ks ∧ ks ∈ ordersT n n := by
  unfold isNum at h
  split at h
  · rename_i ds
    cases q : natsOf ds with
    | none => rw [q] at h; cases h
    | some ks =>
      rw [q] at h
      have h' : (decide (sortN ks = List.range n) && fitsL rs st ks) = true := h
      rw [Bool.and_eq_true, decide_eq_true_eq] at h'
      refine ⟨ks, by rw [natsOf_some q]; rfl, perm_ord ?_⟩
      have p := (List.mergeSort_perm ks (fun a b => decide (a ≤ b))).symm
      rw [show ks.mergeSort (fun a b => decide (a ≤ b)) = List.range n from h'.1] at p
      exact p
  · cases h
theorem isNum_row {n : Nat} {rs : List Road} {st : List Nat} {ks : List Nat} (h : isNum n rs st (rowD ks) = true) : ks ∈ ordersT n n := by
  obtain ⟨q, e, h2⟩ := isNum_true h
  have : ks = q := by
    have e' : natD ks = natD q := by injection e
    have := natsOf_natD ks
    rw [e', natsOf_natD] at this
    exact (Option.some.inj this).symm
  rw [this]
  exact h2
theorem in_row {n : Nat} {ks : List Nat} (h : ks ∈ ordersT n n) : ((rowsD (ordersT n n)).any fun z => PyData.eqv z (rowD ks)) = true := by
  refine List.any_eq_true.mpr ⟨rowD ks, List.mem_map.mpr ⟨ks, h, rfl⟩, ?_⟩
  have := eqv_row (r := ks) (ns := castL ks)
  show PyData.eqv (rowD ks) (.list (natD ks)) = true
  unfold natD
  rw [this]
  exact decide_eq_true rfl
theorem of_in {n : Nat} {ns : List Int} (h : ((rowsD (ordersT n n)).any fun z => PyData.eqv z (.list (ns.map PyData.int))) = true) : ∃ ks, ks ∈ ordersT n n ∧ PyData.list (ns.map PyData.int) = rowD ks := by
  obtain ⟨z, h1, h2⟩ := List.any_eq_true.mp h
  obtain ⟨r, hr, rfl⟩ := List.mem_map.mp h1
  rw [eqv_row] at h2
  refine ⟨r, hr, ?_⟩
  rw [← of_decide_eq_true h2]
  rfl
theorem shaped_rows (rs : List (List Nat)) : SeqAt.shaped (.list (rowsD rs)) = true := shaped_list (okAll_rows rs)
theorem shaped_try {d : PyData} (h : okD d) : SeqAt.shaped d = true := by
  show (PyData.canLay0 d && decide (PyData.depth d ≤ 64)) = true
  rw [Bool.and_eq_true]
  exact ⟨h.1, decide_eq_true (by have := h.2; omega)⟩
theorem sh_net {n : Nat} {rs : List Road} (v : VNet n rs) : Sh 300 4 (netD n rs) := by
  have h1 : ∀ d ∈ rs.map roadD, Sh 3 1 d := fun d hd => by
    obtain ⟨r, hr, rfl⟩ := List.mem_map.mp hd
    have l := v.lt r hr
    have := v.n2
    refine sh_tuple (b := 0) (k := 0) (n := 3) (fun x hx => ?_) (by show 3 ≤ 3; decide) (by decide) (by decide)
    have hx' : x = .int (r.1 : Int) ∨ x = .int (r.2.1 : Int) ∨ x = .int (r.2.2 : Int) := by simpa [roadL] using hx
    rcases hx' with e | e | e <;> subst e <;> exact sh_int (by omega) (by omega)
  have h2 : Sh 120 2 (.list (rs.map roadD)) := sh_list (n := 30) h1 (by rw [List.length_map]; exact v.len) (by decide) (by decide)
  refine sh_tuple (b := 120) (k := 2) (n := 2) (fun x hx => ?_) (by show 2 ≤ 2; decide) (by decide) (by decide)
  have hx' : x = .int (n : Int) ∨ x = .list (rs.map roadD) := by simpa using hx
  rcases hx' with e | e <;> subst e
  · have := v.n2
    exact sh_int (by omega) (by omega)
  · exact h2
theorem sh_st {n : Nat} {rs : List Road} {st : List Nat} (v : VNet n rs) (s : VSt rs st) : Sh 30 1 (stD st) := by
  refine sh_nat (n := 30) (fun x hx => ?_) (by rw [s.len]; exact v.len) (by decide) (by decide)
  obtain ⟨i, hi⟩ := List.mem_iff_getElem?.mp hx
  have hil : i < rs.length := by
    rw [← s.len]
    exact (List.getElem?_eq_some_iff.mp hi).1
  have := s.le i _ x (List.getElem?_eq_getElem hil) hi
  have := (v.lt_at (List.getElem?_eq_getElem hil)).2.2.2
  omega
theorem sh_both {n : Nat} {rs : List Road} {st : List Nat} (v : VNet n rs) (s : VSt rs st) : Sh 700 5 (.list [netD n rs, stD st]) := by
  refine sh_list (b := 300) (k := 4) (n := 2) (fun x hx => ?_) (by show 2 ≤ 2; decide) (by decide) (by decide)
  have hx' : x = netD n rs ∨ x = stD st := by simpa using hx
  rcases hx' with e | e <;> subst e
  · exact sh_net v
  · exact (sh_st v s).mono (by decide) (by decide)
theorem sh_numD {w : Nat → Nat → Bool} {n : Nat} (hn : n ≤ 60) : Sh 60 2 (numD (numF w n)) := by
  cases e : numF w n with
  | none => exact sh_none
  | some ks =>
    obtain ⟨a, _, p⟩ := num_fits e
    exact (sh_nat (b := 60) (k := 1) (n := 60) (fun x hx => by have := List.mem_range.mp (p.mem_iff.mp hx); omega) (by omega) (by decide) (by decide)).mono (by decide) (by decide)
end KR

/-! KR, part PC: small nets are right. -/
namespace KR
open PySem PySem.Spec PyProof.Rows L2
abbrev sRight : Stmt := topS 37
abbrev nRight : List Str := ["_law_generator_here", "_law_net_here", "_law_standing_here", "_law_keys_here", "_law_kept", "_law_orders_here", "_law_good", "_law_told", "_law_tried", "_law_some", "_law_due", "_law_row", "_law_number", "_law_item"]
theorem scRight : FnScope nRight ["_law_generator_here"] (defScope sRight) := ⟨rfl, rfl, rfl, by decide +kernel, rfl, by decide +kernel, by decide +kernel⟩
theorem keep_rows {t : List Nat → Bool} : ∀ l : List (List Nat), (l.filterMap fun r => if t r = true then some (rowD r) else none) = rowsD (l.filter t)
  | [] => rfl
  | p :: ps => by
    have ih := keep_rows (t := t) ps
    rw [List.filterMap_cons, List.filter_cons]
    cases q : t p with
    | true => rw [if_pos rfl, if_pos rfl, ih]; rfl
    | false => rw [if_neg Bool.false_ne_true, if_neg Bool.false_ne_true, ih]
theorem some_map {α β : Type} (f : α → β) (l : List α) : (l.filterMap fun x => some (f x)) = l.map f := by
  induction l with
  | nil => rfl
  | cons x l ih => rw [List.filterMap_cons, ih]; rfl
/-- the lists that are tried -/
def tried1 (n : Nat) (os h1 : List (List Nat)) : List PyData := rowsD (cutL os none (some 30)) ++ rowsD (stepD 7 os) ++ (h1.map fun r => .tuple (natD r)) ++ rowsD (h1.map fun r => r ++ [n]) ++ rowsD (h1.map fun r => cutL r (some 1) none)
def tried2 (n : Nat) (h1 : List (List Nat)) : List PyData := rowsD (h1.map fun r => r.map fun k => 1 + k)
def tried3 (n : Nat) : List PyData := [.list (List.replicate n [PyData.int 0]).flatten, .list (List.replicate n [PyData.bool false]).flatten, .list (List.replicate n [PyData.str "0"]).flatten, .list (List.replicate n [PyData.none]).flatten, .none, .int 5, .dict [], .list (List.replicate n [PyData.list [.int 0]]).flatten]
theorem tried_ok {n : Nat} (hn : n ≤ 5) {os h1 : List (List Nat)} (ho : ∀ r ∈ os, r.length ≤ 5) (hh : ∀ r ∈ h1, r ∈ os) : ∀ d ∈ tried1 n os h1 ++ (tried2 n h1 ++ tried3 n), TryOk d := by
  have row : ∀ (l : List (List Nat)), (∀ r ∈ l, r.length ≤ 1000) → ∀ d ∈ rowsD l, TryOk d := fun l hl d hd => by
    obtain ⟨r, hr, rfl⟩ := List.mem_map.mp hd
    exact .inr (okTry_row (hl r hr))
  intro d hd
  rcases List.mem_append.mp hd with hd | hd
  · unfold tried1 at hd
    rcases List.mem_append.mp hd with hd | hd
    · rcases List.mem_append.mp hd with hd | hd
      · rcases List.mem_append.mp hd with hd | hd
        · rcases List.mem_append.mp hd with hd | hd
          · exact row _ (fun r hr => by have := ho r (cutL_sub hr); omega) d hd
          · exact row _ (fun r hr => by have := ho r (stepD_sub _ _ _ hr); omega) d hd
        · obtain ⟨r, hr, rfl⟩ := List.mem_map.mp hd
          exact .inr (okTry_tuple (okS_nat r))
      · exact row _ (fun r hr => by
          obtain ⟨q, hq, rfl⟩ := List.mem_map.mp hr
          have := ho q (hh q hq)
          rw [List.length_append, List.length_singleton]
          omega) d hd
    · exact row _ (fun r hr => by
        obtain ⟨q, hq, rfl⟩ := List.mem_map.mp hr
        have := ho q (hh q hq)
        have := cutL_len q (some 1) none
        omega) d hd
  · rcases List.mem_append.mp hd with hd | hd
    · exact row _ (fun r hr => by
        obtain ⟨q, hq, rfl⟩ := List.mem_map.mp hr
        have := ho q (hh q hq)
        rw [List.length_map]
        omega) d hd
    · unfold tried3 at hd
      simp only [List.mem_cons, List.not_mem_nil, or_false] at hd
      rcases hd with e | e | e | e | e | e | e | e <;> subst e
      · exact .inr (okTry_rep (okS_int 0) (by omega))
      · exact .inr (okTry_rep (okS_bool false) (by omega))
      · exact .inr (okTry_rep okS_zero (by omega))
      · exact .inr (okTry_rep okS_none (by omega))
      · exact .inr okTry_none
      · exact .inr (okTry_int 5)
      · exact .inl rfl
      · exact .inr (okTry_rep (okS_row [0]) (by omega))
section
variable {P : Program} {w : World} {K : PySem.W.Frag} {mg : Str → Option Value} {base : Heap}
def TRight : Tr := fun rs M R => ∃ (g : Addr) (G : Gen) (k : Nat), rs = [.val (.ref g)] ∧ GOk k G ∧ k + 1000 < 1000000 ∧ M = [(g, genD G)] ∧ R (dB true) []
theorem ok_right {f : Addr} {fd : FuncData} (bl : Bl mg) (CT : CalX P w K mg base 3 "_law_net" TNetL) (CS : CalX P w K mg base 3 "_law_standing" TStL) (CE : CalX P w K mg base 3 "_law_free_standing" TFree) (CK : CalX P w K mg base 1 "_law_keys" TKeysL) (CO : CalX P w K mg base 1 "_law_orders" TOrders)
    (CN : CalX P w K mg base 7 "numbering" TNum) (CM : CalK P w K mg base 7 "numbering" TNum ["standing", "net"]) (CD : CalX P w K mg base 1 "_law_round" TRound) (CF : CalX P w K mg base 1 "_law_fits" TFits) (CR : CalX P w K mg base 2 "_law_random" TRandom) (CI : CalX P w K mg base 7 "is_numbering" TIsNum)
    (F : Fun K "_law_right" "_law_right" sRight f fd) : FnG P w K mg base 8 f fd ["_law_generator_here"] TRight := by
  refine fn_okG F scRight (fun rs M R h => ?_) (fun cdv A outer s H E rs M R hr hgu h => ?_)
  · obtain ⟨g, G, k, rfl, _⟩ := h
    rfl
  · obtain ⟨g, G0, k, rfl, hG0, hk, rfl, hR⟩ := h
    have r5 := rnd_lt G0 (show 0 < 5 by decide)
    have r3 := rnd_lt (nxt G0 5) (show 0 < 3 by decide)
    have at3 : ∀ {m : Nat}, m < 3 → atI (natD [1, 2, 3]) (m : Int) = some (.int ((1 + m : Nat) : Int)) := fun {m} h => by
      match m, h with
      | 0, _ => rfl
      | 1, _ => rfl
      | 2, _ => rfl
    have hG1 := nxt_ok (nxt_ok hG0 5 (by omega)) 3 (by omega)
    refine pb_setR 1 scRight.nd (px_callP (Mc := [(g, genD (nxt (nxt G0 5) 3))]) (F := []) (R := fun r M' => ∃ n roads G, 1 ≤ n ∧ n ≤ 5 ∧ VNet n roads ∧ (∀ r ∈ roads, r.2.2 < 60) ∧ GOk (k + 300) G ∧ r = .dat (netD n roads) ∧ M' = [(g, genD G)])
      (R' := fun r M' => ∃ n roads G, 1 ≤ n ∧ n ≤ 5 ∧ VNet n roads ∧ (∀ r ∈ roads, r.2.2 < 60) ∧ GOk (k + 300) G ∧ r = .dat (netD n roads) ∧ M' = [(g, genD G)]) CT (hr.mono (by decide))
      (pad_cons (pd_var 0) (pad_cons (PD.is (pd_add pd_int (pd_callE (M2 := [(g, genD (nxt G0 5))]) CR (hr.mono (by decide)) (pad_cons (pd_var 0) (pad_one pd_int)) ⟨g, G0, 5, k, rfl, by decide, by decide, hG0, rfl, rfl, rfl⟩)) (show _ = dI ((1 + rnd G0 5 : Nat) : Int) from by show dI _ = dI _; congr 2))
        (pad_cons (pd_ix (ds := natD [1, 2, 3]) (PL.pd (pl_lst (ds := natD [1, 2, 3]) (pad_cons pd_int (pad_cons pd_int (pad_one pd_int))) (sz_le (by show 3 ≤ 100000; decide)))) (pd_callE (M2 := [(g, genD (nxt (nxt G0 5) 3))]) CR (hr.mono (by decide)) (pad_cons (pd_var 0) (pad_one pd_int)) ⟨g, nxt G0 5, 3, k + 1, rfl, by decide, by decide, nxt_ok hG0 5 (by omega), rfl, rfl, rfl⟩) .dat (at3 r3))
          (pad_one pd_bl)))) (.refl _)
      ⟨g, _, k + 1 + 1, 1 + rnd G0 5, 1 + rnd (nxt G0 5) 3, rfl, by omega, by omega, by omega, by omega, hG1, by omega, rfl, fun roads G' h1 h2 h3 => ⟨1 + rnd G0 5, roads, G', by omega, by omega, h1, h2, h3.mono (by omega) (by omega), rfl, rfl⟩⟩ fun r M' h => ⟨M', by rw [List.append_nil], h⟩) fun r M1 hN => ?_
    obtain ⟨n, roads, G2, hn1, hn5, vn, hm, hG2, rfl, rfl⟩ := hN
    have hlen := vn.len
    refine pb_setR 2 scRight.nd (px_pick (RL := fun rs M' => ∃ st1 st2 G, VSt roads st1 ∧ VSt roads st2 ∧ GOk (k + 700) G ∧ rs = [.dat (stD st1), .dat (stD st2)] ∧ M' = [(g, genD G)]) (R' := fun r M' => ∃ st G, VSt roads st ∧ r = .dat (stD st) ∧ M' = [(g, genD G)])
      (pax_cons (Re := R1 (.dat (stD (drawL G2 (bndL roads)))) [(g, genD (gAt G2 (bndL roads) roads.length))]) (pd_callE CS (hr.mono (by decide)) (pad_cons (pd_var 0) (pad_one (pd_var 1))) ⟨g, G2, k + 300, n, roads, rfl, vn, hm, hG2, by omega, rfl, rfl, rfl⟩)
        fun r M1 ⟨e1, e2⟩ => pax_one (Re := fun r M' => ∃ st G, VSt roads st ∧ GOk (k + 700) G ∧ r = .dat (stD st) ∧ M' = [(g, genD G)]) (e2 ▸ px_callP (Mc := [(g, genD (gAt G2 (bndL roads) roads.length))]) (F := []) (R := fun r M' => ∃ st G, VSt roads st ∧ GOk (k + 700) G ∧ r = .dat (stD st) ∧ M' = [(g, genD G)]) CE (hr.mono (by decide)) (pad_cons (pd_var 0) (pad_one (pd_var 1))) (.refl _)
          ⟨g, _, k + 300 + roads.length, n, roads, rfl, vn, hm, gAt_ok hG2 _ _ (by omega), by omega, rfl, fun st G' h1 h2 => ⟨st, G', h1, h2.mono (by omega) (by omega), rfl, rfl⟩⟩ fun r M' h => ⟨M', by rw [List.append_nil], h⟩)
          fun r2 M2 ⟨st, G, h1, h2, e3, e4⟩ => ⟨drawL G2 (bndL roads), st, G, drawL_st, h1, h2, by rw [e1, e3], e4⟩)
      fun rs M1 ⟨st1, st2, G, h1, h2, h3, e1, e2⟩ => ?_) fun r M1 hN => ?_
    · subst e1 e2
      have r2 := rnd_lt G (show 0 < 2 by decide)
      obtain ⟨d, hd, hv⟩ : ∃ st, [stD st1, stD st2][rnd G 2]? = some (stD st) ∧ VSt roads st := by
        match rnd G 2, r2 with
        | 0, _ => exact ⟨st1, rfl, h1⟩
        | 1, _ => exact ⟨st2, rfl, h2⟩
      exact ⟨[stD st1, stD st2], rfl, sz_le (by show 2 ≤ 100000; decide), rnd G 2, stD d, [(g, genD (nxt G 2))], pd_callE CR (hr.mono (by decide)) (pad_cons (pd_var 0) (pad_one pd_int)) ⟨g, G, 2, k + 700, rfl, by decide, by decide, h3, rfl, rfl, rfl⟩, hd, d, _, hv, rfl, rfl⟩
    obtain ⟨st, G3, vs, rfl, rfl⟩ := hN
    refine pb_drop (M2 := []) (by simp) ?_
    generalize hkd : MD.dic (kvOf (dirK roads st)) = kd
    refine pb_cons (Nx1 := fun Δ' M' => ∃ pk, Δ' = [.val (.ref g), .dat (netD n roads), .dat (stD st), .val (.ref pk), .dat (.str (PyData.list [netD n roads, stD st]).shown), .nil, .nil, .nil, .nil, .nil, .nil, .nil, .nil, .nil] ∧ M' = [(pk, kd)])
      (psx_tupAsg (R := fun rs M' => ∃ pk, rs = [.val (.ref pk), .dat (.str (PyData.list [netD n roads, stD st]).shown)] ∧ M' = [(pk, kd)]) rfl
        (pax_cons (Re := fun r M' => ∃ pk, r = .val (.ref pk) ∧ M' = [(pk, kd)]) (px_callP (Mc := []) (F := []) (R := fun r M' => ∃ pk, r = .val (.ref pk) ∧ M' = [(pk, kd)]) CK (hr.mono (by decide)) (pad_cons (pd_var 1) (pad_one (pd_var 2))) (.refl _)
            ⟨n, roads, st, rfl, vn, vs, rfl, fun p => ⟨p, rfl, by rw [← hkd]⟩⟩ fun r M' h => ⟨M', by rw [List.append_nil], h⟩)
          fun r M1 ⟨pk, e1, e2⟩ => pax_one (Re := R1 (.dat (.str (PyData.list [netD n roads, stD st]).shown)) M1) (pd_repr (b := 700) hgu hr.units bl.repr (PL.pd (pl_lst (ds := [netD n roads, stD st]) (pad_cons (pd_var 1) (pad_one (pd_var 2))) (sz_le (by show 2 ≤ 100000; decide)))) ((sh_both vn vs).mono (by decide) (by decide)) (by decide))
            fun r2 M2 ⟨e3, e4⟩ => ⟨pk, by rw [e1, e3], by rw [e4, e2]⟩)
        (by decide) (fun rs M' ⟨pk, e, _⟩ => by rw [e]; rfl) fun rs M' ⟨pk, e, e'⟩ => ?_) fun Δ' M' hN => ?_
    · subst e
      exact ⟨_, [3, 4], pgxs_cons (pgx_name 3 scRight.nd) (pgxs_cons (pgx_name 4 scRight.nd) pgxs_nil), pk, rfl, e'⟩
    obtain ⟨pk, rfl, rfl⟩ := hN
    have fits : ∀ {ks : List Nat}, ks.length = n → TFits [.val (.ref pk), .dat (rowD ks)] [(pk, kd)] (R1 (dB (fitB (W roads st) n ks)) [(pk, kd)]) := fun {ks} h => ⟨pk, n, roads, st, ks, rfl, vn, vs, h, by rw [← hkd], rfl, rfl⟩
    have hol : (ordersT n n).length ≤ 3125 := Nat.le_trans (ordersT_len n n) (pow5 hn5 hn5)
    generalize hgl : (ordersT n n).filter (fitB (W roads st) n) = gl
    have hhead : gl.head? = numF (W roads st) n := by rw [← hgl]; exact head_good _ n
    have hgm : ∀ r ∈ gl, r ∈ ordersT n n := fun r h => by rw [← hgl] at h; exact (List.mem_filter.mp h).1
    have hgll : gl.length ≤ 3125 := by
      rw [← hgl]
      exact Nat.le_trans (List.length_filter_le _ _) hol
    refine pb_set 5 scRight.nd (pd_callP (Mc := []) (Mc' := []) (F := [(pk, kd)]) (M2 := [(pk, kd)]) CO (hr.mono (by decide)) (pad_one (pd_ixT (ds := [PyData.int n, .list (roads.map roadD)]) (pd_var 1) pd_int (net_at0 n roads))) (.refl _) ⟨n, rfl, hn5, rfl, rfl, rfl⟩ (.refl _)) ?_
    refine pb_setLcP (i := 6) (ordersT n n) rowD (fun r => if fitB (W roads st) n r = true then some (rowD r) else none) rfl scRight.nd (pix_list (ds := rowsD (ordersT n n)) (pd_var 5)) (blkOk_by (N := nRight) (sc := defScope sRight) (own := [("_law_row", 11)]) (by decide +kernel)) (sz_le (by omega)) trivial
      (fun r hr' => cturn_if (fun s H C cl fp => pgx_name 11 scRight.nd) (fun s H C cl fp => ptx_one (ptd_val (pd_callE CF (hr.mono (by decide)) (pad_cons (pd_var 3) (pad_one (pd_var 11))) (fits (mem_orders.mp hr').1)))) fun s H C cl fp => pd_var 11) (sw_true rfl rfl rfl (by decide +kernel)) ?_
    rw [keep_rows, hgl]
    refine pb_setR 7 scRight.nd (px_num CN hr vn vs (pad_cons (pd_var 1) (pad_one (pd_var 2)))) fun rt Mt0 hT => ?_
    obtain ⟨Mt, rfl, hcase⟩ : ∃ Mt, Mt0 = Mt ++ [(pk, kd)] ∧ ((numF (W roads st) n = none ∧ rt = .dat .none ∧ Mt = []) ∨ ∃ ks pt, numF (W roads st) n = some ks ∧ rt = .val (.ref pt) ∧ Mt = [(pt, MD.ld (natD ks))]) := by
      cases hnum : numF (W roads st) n with
      | none =>
        rw [hnum] at hT
        obtain ⟨e1, e2⟩ := hT
        exact ⟨[], e2, .inl ⟨rfl, e1, rfl⟩⟩
      | some ks =>
        rw [hnum] at hT
        obtain ⟨pt, e1, e2⟩ := hT
        exact ⟨[(pt, MD.ld (natD ks))], e2, .inr ⟨ks, pt, rfl, e1, rfl⟩⟩
    clear hT
    have hp1 : ∀ {Mt : Ms}, (Mt ++ [(pk, kd)]).Perm ([(pk, kd)] ++ Mt) := fun {Mt} => List.perm_append_comm
    have hp2 : ∀ {Mt : Ms}, ([(pk, kd)] ++ Mt).Perm (Mt ++ [(pk, kd)]) := fun {Mt} => List.perm_append_comm
    have hsn : Sh 60 20 (numD (numF (W roads st) n)) := (sh_numD (w := W roads st) (n := n) (by omega)).mono (by decide) (by decide)
    refine pb_if (t := false) (M1 := Mt ++ [(pk, kd)]) (PWD.pt (pwd_orF (M1 := Mt ++ [(pk, kd)]) (PTD.is (ptd_cmp (pc_neS (i := (numD (numF (W roads st) n)).shown) (j := (numD (numF (W roads st) n)).shown) (M1 := Mt ++ [(pk, kd)]) ?_ (pd_repr (b := 60) hgu hr.units bl.repr (PD.is (pd_head hr.units (pd_var 6) (pd_var 6)) (by rw [hhead])) hsn (by decide)))) (by simp))
      (pwd_or1 (PTD.is (ptd_cmp (pc_neB (i := (numF (W roads st) n).isNone) (M1 := Mt ++ [(pk, kd)]) ?_ (pd_callP (r := dB (roundN (W roads st) n)) (Mc := [(pk, kd)]) (Mc' := [(pk, kd)]) (F := Mt) (M2 := Mt ++ [(pk, kd)]) CD (hr.mono (by decide)) (pad_cons (pd_ixT (ds := [PyData.int n, .list (roads.map roadD)]) (pd_var 1) pd_int (net_at0 n roads)) (pad_one (pd_var 3))) hp1 ⟨pk, n, roads, st, rfl, vn, vs, by rw [← hkd], rfl, rfl⟩ hp2))) (by rw [W_round vn]; simp))))) (fun h => nomatch h) (fun _ => ?_)
    · rcases hcase with ⟨e1, rfl, rfl⟩ | ⟨ks, pt, e1, rfl, rfl⟩
      · rw [e1]
        exact pd_repr (b := 60) (d := .none) hgu hr.units bl.repr (pd_var 7) sh_none (by decide)
      · rw [e1] at hsn ⊢
        exact pd_reprC (b := 60) (ds := natD ks) hgu hr.units bl.repr (pd_var 7) (.cell (by simp)) hsn (by decide)
    · rcases hcase with ⟨e1, rfl, rfl⟩ | ⟨ks, pt, e1, rfl, rfl⟩
      · rw [e1]
        exact pd_cmp (pc_is (d := .none) (pd_var 7))
      · rw [e1]
        exact pd_cmp (pc_isV (p := pt) (pd_var 7))
    generalize hh1 : cutL gl none (some 1) = h1
    have hh1m : ∀ r ∈ h1, r ∈ ordersT n n := fun r h => by rw [← hh1] at h; exact hgm r (cutL_sub h)
    have hh1l : h1.length ≤ 3125 := by
      rw [← hh1]
      exact Nat.le_trans (cutL_len _ _ _) hgll
    have hol5 : ∀ r ∈ ordersT n n, r.length ≤ 5 := fun r h => by rw [(mem_orders.mp h).1]; exact hn5
    have c30 := cutL_len (ordersT n n) none (some 30)
    have c7 := stepD_len (ordersT n n)
    have l1 : (tried1 n (ordersT n n) h1).length ≤ 20000 := by
      unfold tried1
      simp only [List.length_append, rowsD_len, List.length_map]
      omega
    have l2 : (tried2 n h1).length ≤ 3125 := by
      unfold tried2
      rw [rowsD_len, List.length_map]
      exact hh1l
    refine pb_set 8 scRight.nd (r := .dat (.list (tried1 n (ordersT n n) h1))) (PL.pd (pl_cat (ds := rowsD (cutL (ordersT n n) none (some 30)) ++ rowsD (stepD 7 (ordersT n n)) ++ (h1.map fun r => PyData.tuple (natD r)) ++ rowsD (h1.map fun r => r ++ [n])) (fs := rowsD (h1.map fun r => cutL r (some 1) none))
      (PL.pd (pl_cat (ds := rowsD (cutL (ordersT n n) none (some 30)) ++ rowsD (stepD 7 (ordersT n n)) ++ (h1.map fun r => PyData.tuple (natD r))) (fs := rowsD (h1.map fun r => r ++ [n]))
        (PL.pd (pl_cat (ds := rowsD (cutL (ordersT n n) none (some 30)) ++ rowsD (stepD 7 (ordersT n n))) (fs := h1.map fun r => PyData.tuple (natD r))
          (PL.pd (pl_cat (ds := rowsD (cutL (ordersT n n) none (some 30))) (fs := rowsD (stepD 7 (ordersT n n)))
            (PL.pd (PL.is (pl_slice (ds := rowsD (ordersT n n)) (pd_var 5) pod_none (pod_some pd_int) .dat) (cutD_rows _ _ _)))
            (PL.pd (PL.is (pl_step (ds := rowsD (ordersT n n)) (by decide) (pd_var 5) .dat) (stepD_rows _ _))) .dat .dat (by simp only [List.length_append, rowsD_len, List.length_map]; exact sz_le (by omega))))
          (PL.pd (PL.is (pl_compP h1 rowD (fun r => some (PyData.tuple (natD r))) rfl scRight.nd (pix_list (ds := rowsD h1) (PL.pd (PL.is (pl_slice (ds := rowsD gl) (pd_var 6) pod_none (pod_some pd_int) .dat) (by rw [cutD_rows, hh1])))) (blkOk_by (N := nRight) (sc := defScope sRight) (own := [("_law_row", 11)]) (by decide +kernel)) (sz_le (by omega)) trivial
            fun r hr' => ⟨_, fun s H C cl fp => pgx_name 11 scRight.nd, .inl ⟨_, _, rfl, fun s H C cl fp => ptx_nil, fun s H C cl fp => pd_tupleOf (ds := natD r) bl.tuple (pd_var 11) .dat⟩⟩) (some_map _ _))) .dat .dat (by simp only [List.length_append, rowsD_len, List.length_map]; exact sz_le (by omega))))
        (PL.pd (PL.is (pl_compP h1 rowD (fun r => some (rowD (r ++ [n]))) rfl scRight.nd (pix_list (ds := rowsD h1) (PL.pd (PL.is (pl_slice (ds := rowsD gl) (pd_var 6) pod_none (pod_some pd_int) .dat) (by rw [cutD_rows, hh1])))) (blkOk_by (N := nRight) (sc := defScope sRight) (own := [("_law_row", 11)]) (by decide +kernel)) (sz_le (by omega)) trivial
          fun r hr' => ⟨_, fun s H C cl fp => pgx_name 11 scRight.nd, .inl ⟨_, _, rfl, fun s H C cl fp => ptx_nil, fun s H C cl fp => PL.pd (PL.is (pl_cat (ds := natD r) (fs := natD [n]) (pd_var 11) (PL.pd (pl_lst (ds := natD [n]) (pad_one (pd_ixT (ds := [PyData.int n, .list (roads.map roadD)]) (pd_var 1) pd_int (net_at0 n roads))) (sz_le (by rw [natD_len]; show 1 ≤ 100000; decide)))) .dat .dat
            (by rw [natD_len, natD_len]; exact sz_le (by have h5 := hol5 r (hh1m r hr'); simp; omega))) (natD_app _ _))⟩⟩) (by rw [some_map]; unfold rowsD; rw [List.map_map]; rfl))) .dat .dat (by simp only [List.length_append, rowsD_len, List.length_map]; exact sz_le (by omega))))
      (PL.pd (PL.is (pl_compP h1 rowD (fun r => some (rowD (cutL r (some 1) none))) rfl scRight.nd (pix_list (ds := rowsD h1) (PL.pd (PL.is (pl_slice (ds := rowsD gl) (pd_var 6) pod_none (pod_some pd_int) .dat) (by rw [cutD_rows, hh1])))) (blkOk_by (N := nRight) (sc := defScope sRight) (own := [("_law_row", 11)]) (by decide +kernel)) (sz_le (by omega)) trivial
        fun r hr' => ⟨_, fun s H C cl fp => pgx_name 11 scRight.nd, .inl ⟨_, _, rfl, fun s H C cl fp => ptx_nil, fun s H C cl fp => PL.pd (PL.is (pl_slice (ds := natD r) (pd_var 11) (pod_some pd_int) pod_none .dat) (cutD_nat _ _ _))⟩⟩) (by rw [some_map]; unfold rowsD; rw [List.map_map]; rfl))) .dat .dat (by simp only [List.length_append, rowsD_len, List.length_map]; exact sz_le (by omega)))) ?_
    have rep1 : ∀ {X : Cx} {Δ : List SD} {M : Ms} {a b : Expr} {q p2 : Pos} {x : PyData}, PD X a Δ M (.dat x) M → PD X b Δ M (dI n) M → starEach [a] X.env = (false, eval a X.env) :: starEach [] X.env → PD X (.BinOp (.List [a] p2) .Mult b q) Δ M (.dat (.list (List.replicate n [x]).flatten)) M := fun {X Δ M a b q p2 x} ha hb hs =>
      PL.pd (PL.is (pl_rep (ds := [x]) (PL.pd (pl_lst (ds := [x]) (pad_one ha hs) (sz_le (by show 1 ≤ 100000; decide)))) hb .dat (by omega) (by rw [Int.toNat_natCast]; exact sz_le (by simp; omega))) (by rw [Int.toNat_natCast]))
    refine pb_set 8 scRight.nd (r := .dat (.list (tried1 n (ordersT n n) h1 ++ (tried2 n h1 ++ tried3 n)))) (PL.pd (PL.is (pl_cat (ds := tried1 n (ordersT n n) h1 ++ tried2 n h1) (fs := tried3 n) (PL.pd (pl_cat (ds := tried1 n (ordersT n n) h1) (fs := tried2 n h1) (pd_var 8)
        (PL.pd (PL.is (pl_compP h1 rowD (fun r => some (rowD (r.map fun k => 1 + k))) rfl scRight.nd (pix_list (ds := rowsD h1) (PL.pd (PL.is (pl_slice (ds := rowsD gl) (pd_var 6) pod_none (pod_some pd_int) .dat) (by rw [cutD_rows, hh1])))) (blkOk_by (N := nRight) (sc := defScope sRight) (own := [("_law_row", 11)]) (by decide +kernel)) (sz_le (by omega)) trivial
          fun r hr' => ⟨_, fun s H C cl fp => pgx_name 11 scRight.nd, .inl ⟨_, _, rfl, fun s H C cl fp => ptx_nil, fun s H C cl fp => PL.pd (PL.is (pl_compP r (fun (k : Nat) => .int (k : Int)) (fun k => some (PyData.int ((1 + k : Nat) : Int))) rfl scRight.nd (natD_map r ▸ pix_list (ds := natD r) (pd_var 11)) (blkOk_by (N := nRight) (own := [("_law_number", 12)]) rfl)
            (sz_le (by have := hol5 r (hh1m r hr'); omega)) trivial fun k hk => ⟨_, fun s H C cl fp => pgx_name 12 scRight.nd, .inl ⟨_, _, rfl, fun s H C cl fp => ptx_nil, fun s H C cl fp => PD.is (pd_add pd_int (pd_var 12)) (by show dI _ = dI _; congr 2)⟩⟩) (by rw [some_map, natD_map, List.map_map]; rfl))⟩⟩) (by rw [some_map]; unfold tried2 rowsD; rw [List.map_map]; rfl)))
        .dat .dat (sz_le (by omega))))
      (PL.pd (pl_lst (ds := tried3 n) (pad_cons (rep1 pd_int (pd_ixT (ds := [PyData.int n, .list (roads.map roadD)]) (pd_var 1) pd_int (net_at0 n roads)) rfl) (pad_cons (rep1 pd_bl (pd_ixT (ds := [PyData.int n, .list (roads.map roadD)]) (pd_var 1) pd_int (net_at0 n roads)) rfl)
        (pad_cons (rep1 pd_str (pd_ixT (ds := [PyData.int n, .list (roads.map roadD)]) (pd_var 1) pd_int (net_at0 n roads)) rfl) (pad_cons (rep1 pd_non (pd_ixT (ds := [PyData.int n, .list (roads.map roadD)]) (pd_var 1) pd_int (net_at0 n roads)) rfl)
        (pad_cons pd_non (pad_cons pd_int (pad_cons pd_dictE (pad_one (rep1 (PL.pd (pl_lst (ds := [.int 0]) (pad_one pd_int) (sz_le (by show 1 ≤ 100000; decide)))) (pd_ixT (ds := [PyData.int n, .list (roads.map roadD)]) (pd_var 1) pd_int (net_at0 n roads)) rfl))))))))) (sz_le (by show 8 ≤ 100000; decide))))
      .dat .dat (by rw [List.length_append]; exact sz_le (by show _ + 8 ≤ 100000; omega))) (List.append_assoc _ _ _))) ?_
    have htry := tried_ok hn5 hol5 hh1m
    generalize tried1 n (ordersT n n) h1 ++ (tried2 n h1 ++ tried3 n) = tried at htry
    refine pb_cons (Nx1 := fun Δ' M' => ∃ a b, Δ' = [.val (.ref g), .dat (netD n roads), .dat (stD st), .val (.ref pk), .dat (.str (PyData.list [netD n roads, stD st]).shown), .dat (.list (rowsD (ordersT n n))), .dat (.list (rowsD gl)), rt, .dat (.list tried), a, b, .nil, .nil, .nil] ∧ M' = Mt ++ [(pk, kd)])
      (psx_for (fun i Δ' M' => ∃ a b, Δ' = [.val (.ref g), .dat (netD n roads), .dat (stD st), .val (.ref pk), .dat (.str (PyData.list [netD n roads, stD st]).shown), .dat (.list (rowsD (ordersT n n))), .dat (.list (rowsD gl)), rt, .dat (.list tried), a, b, .nil, .nil, .nil] ∧ M' = Mt ++ [(pk, kd)]) PassesOwn.never rfl
        (pix_list (ds := tried) (pd_var 8)) ⟨_, _, rfl, rfl⟩ (fun _ _ _ _ => trivial) (fun i d Δ' M' hd hI => ?_) (fun Δ' M' hI => hI)) fun Δ' M' hN => ?_
    · obtain ⟨a, b, rfl, rfl⟩ := hI
      have hok := htry d (List.mem_of_getElem? hd)
      refine ⟨_, [9], pgx_name 9 scRight.nd, ?_⟩
      refine pb_set 10 scRight.nd (r := dB (isNum n roads st d)) ?_ (pb_if (t := false) (M1 := Mt ++ [(pk, kd)]) (PTD.is (ptd_cmp (pc_neS (pd_repr (b := 0) hgu hr.units bl.repr (pd_call CI hr (pad_cons (pd_var 1) (pad_cons (pd_var 2) (pad_one (pd_var 9)))) ⟨n, roads, st, d, rfl, vn, vs, ?_, rfl, rfl, rfl⟩) (sh_bool _) (by decide)) (pd_repr (b := 0) hgu hr.units bl.repr (pd_var 10) (sh_bool _) (by decide)))) (by simp)) (fun h => nomatch h) (fun _ => pb_nil ⟨_, _, rfl, rfl⟩))
      · rcases hok with rfl | hok
        · exact pd_andF (pd_cmp (pc_inE (hu1 hr) (pd_var 9) (pd_var 5)))
        · skip
          by_cases hA : ∃ ks, ks ∈ ordersT n n ∧ d = rowD ks
          · obtain ⟨ks, hk, rfl⟩ := hA
            have hkl := (mem_orders.mp hk).1
            refine pd_andT (pd_cmp (PCD.is (pc_inD (hu65 hr) (shaped_try hok.ok) (shaped_rows _) (pd_var 9) (pd_var 5)) (in_row hk))) (pd_andT (PD.is (pd_isi (T := "list") bl.isinstance (pad_cons (pd_var 9) (pad_one (pd_blt bl.list b_list)))) (show _ = dB true from by unfold rowD; rw [isi_ll])) (pd_andT (PD.is (pd_cmp (pc_ninB (i := false) (bs := (natD ks).map wholeD) pd_bl (PL.pd (PL.is (pl_compP (natD ks) (fun d => d) (fun d => some (PyData.bool (wholeD d))) rfl scRight.nd
              (pix_list (ds := (natD ks).map fun d => d) (PD.is (pd_var 9) (by rw [List.map_id']; rfl))) (blkOk_by (N := nRight) (sc := defScope sRight) (own := [("_law_item", 13)]) (by decide +kernel)) (sz_le (by rw [natD_len]; omega)) trivial fun d hd => ⟨_, fun s H C cl fp => pgx_name 13 scRight.nd, .inl ⟨_, _, rfl, fun s H C cl fp => ptx_nil, fun s H C cl fp =>
                PD.is (pd_and (pd_isi bl.isinstance (pad_cons (pd_var 13) (pad_one (pd_blt bl.int b_int)))) fun _ => pd_one (pd_not (pd_isi bl.isinstance (pad_cons (pd_var 13) (pad_one (pd_blt bl.bool b_bool)))))) (by rw [whole_isi])⟩⟩) (by rw [some_map, List.map_map]; rfl))) .dat)) ?_)
              (pd_one (PD.is (pd_callP (Mc := [(pk, kd)]) (Mc' := [(pk, kd)]) (F := Mt) (M2 := Mt ++ [(pk, kd)]) CF (hr.mono (by decide)) (pad_cons (pd_var 3) (pad_one (pd_var 9))) hp1 (fits hkl) hp2) (by rw [isNum_perm vn (ord_perm hk)])))))
            have : false ∉ (natD ks).map wholeD := fun z => by
              obtain ⟨x, hx, e⟩ := List.mem_map.mp z
              rw [nat_whole (natsOf_natD ks) x hx] at e
              cases e
            simp [this]
          · have hf : isNum n roads st d = false := by
              cases q : isNum n roads st d with
              | false => rfl
              | true =>
                obtain ⟨ks, e1, e2⟩ := isNum_true q
                exact absurd ⟨ks, e2, e1⟩ hA
            rw [hf]
            cases hx : (rowsD (ordersT n n)).any fun z => PyData.eqv z d with
            | false => exact pd_andF (pd_cmp (PCD.is (pc_inD (hu65 hr) (shaped_try hok.ok) (shaped_rows _) (pd_var 9) (pd_var 5)) hx))
            | true =>
              refine pd_andT (pd_cmp (PCD.is (pc_inD (hu65 hr) (shaped_try hok.ok) (shaped_rows _) (pd_var 9) (pd_var 5)) hx)) ?_
              cases hl : isiD "list" d with
              | false => exact pd_andF (PD.is (pd_isi (T := "list") bl.isinstance (pad_cons (pd_var 9) (pad_one (pd_blt bl.list b_list)))) (by rw [hl]))
              | true =>
                obtain ⟨ds, rfl⟩ : ∃ ds, d = .list ds := by
                  rw [isi_list] at hl
                  split at hl
                  · exact ⟨_, rfl⟩
                  · cases hl
                have hdl := (hok.ls ds rfl).2
                have hbad : false ∈ ds.map wholeD := by
                  by_cases hw : ∀ x ∈ ds, wholeD x = true
                  · obtain ⟨ns, rfl⟩ := all_whole hw
                    obtain ⟨ks, k1, k2⟩ := of_in hx
                    exact absurd ⟨ks, k1, k2⟩ hA
                  · by_cases z : false ∈ ds.map wholeD
                    · exact z
                    · refine absurd (fun x hx => ?_) hw
                      cases q : wholeD x with
                      | true => rfl
                      | false => exact absurd (List.mem_map.mpr ⟨x, hx, q⟩) z
                refine pd_andT (PD.is (pd_isi (T := "list") bl.isinstance (pad_cons (pd_var 9) (pad_one (pd_blt bl.list b_list)))) (by rw [hl])) (pd_andF (PD.is (pd_cmp (pc_ninB (i := false) (bs := ds.map wholeD) pd_bl (PL.pd (PL.is (pl_compP ds (fun d => d) (fun d => some (PyData.bool (wholeD d))) rfl scRight.nd
                  (pix_list (ds := ds.map fun d => d) (PD.is (pd_var 9) (by rw [List.map_id']))) (blkOk_by (N := nRight) (sc := defScope sRight) (own := [("_law_item", 13)]) (by decide +kernel)) (sz_le (by omega)) trivial fun d hd => ⟨_, fun s H C cl fp => pgx_name 13 scRight.nd, .inl ⟨_, _, rfl, fun s H C cl fp => ptx_nil, fun s H C cl fp =>
                    PD.is (pd_and (pd_isi bl.isinstance (pad_cons (pd_var 13) (pad_one (pd_blt bl.int b_int)))) fun _ => pd_one (pd_not (pd_isi bl.isinstance (pad_cons (pd_var 13) (pad_one (pd_blt bl.bool b_bool)))))) (by rw [whole_isi])⟩⟩) (by rw [some_map, List.map_map]; rfl))) .dat)) ?_))
                simp [hbad]
      · intro ds e
        subst e
        rcases hok with e | hok
        · cases e
        · exact hok.ls ds rfl
    · obtain ⟨a, b, rfl, rfl⟩ := hN
      refine pb_cons (Nx1 := fun Δ' M' => ∃ Mt' : Ms, Δ' = [.val (.ref g), .dat (netD n roads), .dat (stD st), .val (.ref pk), .dat (.str (PyData.list [netD n roads, stD st]).shown), .dat (.list (rowsD (ordersT n n))), .dat (.list (rowsD gl)), rt, .dat (.list tried), a, b, .nil, .nil, .nil]) (Rt := R) ?_ fun Δ' M' hN => ?_
      · rcases hcase with ⟨e1, rfl, rfl⟩ | ⟨ks, pt, e1, rfl, rfl⟩
        · exact psx_if (t := false) (PTD.is (ptd_cmp (pc_isnot (d := .none) (pd_var 7))) rfl) (fun h => nomatch h) (fun _ => pb_nil ⟨[], rfl⟩)
        · refine psx_if (t := true) (ptd_cmp (pc_isnotV (p := pt) (pd_var 7))) (fun _ => ?_) (fun h => nomatch h)
          refine pb_one (psx_expr (PD.px (R := fun r M' => True) (pd_append (ds := natD ks) (d := .int 7) 0 (pd_var 7) pd_int ⟨natD ks, by simp⟩ rfl (by rw [natD_len, (num_fits e1).1]; exact sz_lt (by omega))) trivial) fun r M' _ => ⟨[], rfl⟩)
      · obtain ⟨_, rfl⟩ := hN
        refine pb_ret (PD.drop (r := dB true) (M2 := []) (M1 := M') (pd_andT (PD.is (pd_cmp (pc_eqS (i := (numD (numF (W roads st) n)).shown) (j := (numD (numF (W roads st) n)).shown) (pd_repr (b := 60) hgu hr.units bl.repr (told_dat (rtold_of (px_callKW (Mc := []) (F := M') CM hr (pkd_cons (pd_var 2) (pkd_cons (pd_var 1) pkd_nil)) rfl ⟨n, roads, st, rfl, vn, vs, rfl, fun r M' h => h⟩))) hsn (by decide))
          (pd_repr (b := 60) hgu hr.units bl.repr (PD.is (pd_head hr.units (pd_var 6) (pd_var 6)) (by rw [hhead])) hsn (by decide)))) (by simp)) (pd_one (PD.is (pd_cmp (pc_eqS (pd_repr (b := 700) hgu hr.units bl.repr (PL.pd (pl_lst (ds := [netD n roads, stD st]) (pad_cons (pd_var 1) (pad_one (pd_var 2))) (sz_le (by show 2 ≤ 100000; decide)))) ((sh_both vn vs).mono (by decide) (by decide)) (by decide)) (pd_var 4))) (by simp)))) (by simp) hR)
end
end KR

/-! KR, part V: list(range(a, b, c)); calls of the last kinds. -/
namespace KR
open PySem PySem.Spec PyProof.Rows L2
def rg3 (i c : Int) (n : Nat) : List Int := (List.range n).map fun (k : Nat) => i + k * c
section
variable {X : Cx} {Δ : List SD} {M M1 M2 : Ms} {a b c e : Expr} {es : List Expr} {x : Str} {p p2 pos pos2 : Pos} {i j k : Int} {n : Nat} {r : SD} {RL : List SD → Ms → Prop} {T : Tr} {kk : Nat} {kws : List Keyword} {rs : List SD} {ks : List Str}
/-- an expression that makes a range with a step -/
def PRg3 (X : Cx) (e : Expr) (Δ : List SD) (M : Ms) (i j k : Int) (M1 : Ms) : Prop := ∀ (pins : List (Addr × Obj)) (s : Shared) (σ : L2.St) (H : Hp) (B : Hp), Inv X pins σ H s → Sl B σ Δ → Go M B H →
  wpAny (model X.prog X.w) X.A (eval e X.env) (fun y s' => ∃ r t u v B1 H1, y = .ref r ∧ IsRange s'.heap r i j k t u v ∧ Inv X pins σ H1 s' ∧ Gr M B H M1 B1 H1) X.xe s
theorem prg3 (hm2 : X.mg "range" = none) (ha : PAD X [a, b, c] Δ M [dI i, dI j, dI k] M1) (c0 : k ≠ 0) (c1 : k.natAbs < 1073741824) (hg2 : Gl X "range" := by rfl)
    (hs : starEach [a, b, c] X.env = (false, eval a X.env) :: starEach [b, c] X.env := by rfl) (hpl : (backTo pos2 (starEach [b, c] X.env)).any (·.1) = false := by rfl) : PRg3 X (.Call (.Name "range" p2) [a, b, c] [] pos2) Δ M i j k M1 := by
  intro pins s σ H B I h1 h2
  have h := ha.run pos2 pins s σ H (fun vs H1 => ∃ B1, Gr M B H M1 B1 H1 ∧ RsA B1 vs [dI i, dI j, dI k]) I ⟨B, h1, h2, fun vs B1 H1 g rv => ⟨B1, g, rv⟩⟩
  refine Call_ (ld_blt I hg2 hm2 boot_range (PyProof.Rows.callWith_type1 (thn h fun us s1 hq => ?_) hs hpl))
  obtain ⟨vs, H1, I1, rel, B1, g, rv⟩ := hq
  obtain ⟨v1, v2, v3, rfl, q1, q2, q3⟩ : ∃ v1 v2 v3, vs = [v1, v2, v3] ∧ v1 = .int i ∧ v2 = .int j ∧ v3 = .int k := by
    match vs, rv with
    | [v1, v2, v3], rv => exact ⟨v1, v2, v3, rfl, dt_int.mp rv.1, dt_int.mp rv.2.1, dt_int.mp rv.2.2.1⟩
  subst q1 q2 q3
  obtain ⟨u1, u2, u3, rfl, ⟨t, rfl⟩, ⟨t', rfl⟩, ⟨t'', rfl⟩⟩ := L2.vals3 rel
  exact call_range_3 c0 ⟨_, t, t', t'', B1, H1, rfl, IsRange.new .., I1.kept (t' := s1.toks) fun b o e => Heap.get?_push_of_some _ e, g⟩ (.inl (PyProof.noPylong_small c1))
theorem pl_listRg3 (hc : X.calm = true) (hm : X.mg "list" = none) (he : PRg3 X e Δ M i j k M1) (c2 : Builtin.Range.small i j k = true) (c3 : Builtin.Range.rangeSize i j k = n) (hn : n ≤ 1000) (hg : Gl X "list" := by rfl)
    (na : starEach [e] X.env = (false, eval e X.env) :: starEach [] X.env := by rfl) : PL X (.Call (.Name "list" p) [e] [] pos) Δ M ((rg3 i k n).map PyData.int) M1 := by
  refine ⟨fun pins s σ H Q I hw => ?_⟩
  obtain ⟨B, h1, h2, h3⟩ := hw
  refine Call_ (ld_blt I hg hm boot_list (PyProof.Rows.callWith_type1 (args_cons (thn (he pins s σ H B I h1 h2) fun y s1 hq => args_nil ?_) na) na))
  obtain ⟨r, t, u, v, B1, H1, rfl, hr, I2, g⟩ := hq
  refine call_list_range (n := n) (I2.ok.hd hc) hr c2 c3 (Nat.le_trans hn (by decide)) fun h' tk acc c' hk e' hi => ?_
  have hv : Vals ((rg3 i k n).map V.int) acc.toList := by
    have e : acc.toList.length = n := by rw [Array.length_toList]; exact hi.1
    have := vals_of_get acc.toList (fun (m : Nat) => V.int (i + m * k)) fun m u hm => hi.2 m u (by rw [← hm, Array.getElem?_toList])
    rw [e] at this
    unfold rg3
    rw [List.map_map]
    exact this
  have hnone : H1 s1.heap.objs.size = none := I2.hok.fresh (Nat.le_refl _)
  refine ⟨.ref s1.heap.objs.size, upd H1 s1.heap.objs.size (.lst ((rg3 i k n).map V.int)), I2.laid hk (Nat.le_refl _) (show ObjOk X.prog X.w _ _ _ (.lst ((rg3 i k n).map V.int)) from ⟨?_, acc.toList, c', hv, ?_⟩), rfl, ?_⟩
  · rw [hv.length, Array.length_toList, hi.1]
    exact sz_le (by omega)
  · rw [Array.toArray_toList]; exact e'
  · exact h3 _ _ B1 _ (g.trans (Gr.alloc g.go hnone)) (th_none g hnone) (g.go.bh.free hnone) upd_same (dta_ints.mpr rfl) (notin_of g.go hnone)
/-- a def of which is known that no repr is under way, its arguments told -/
theorem pd_callGX (C : CalG X.prog X.w X.K X.mg X.base kk x T) (hr : Room kk X.A) (hgu : X.A.guards = some []) (ha : PAX X (e :: es) Δ M RL) (hT : ∀ rs M1, RL rs M1 → ∃ Mc F Mc', M1.Perm (Mc ++ F) ∧ T rs Mc (R1 r Mc') ∧ (Mc' ++ F).Perm M2) (hg : Gl X x := by rfl) (hdb : (x == ("__debug__" : Str)) = false := by decide)
    (he : starEach (e :: es) X.env = (false, eval e X.env) :: starEach es X.env := by rfl) (hpl : (backTo pos (starEach es X.env)).any (·.1) = false := by rfl) : PD X (.Call (.Name x p) (e :: es) [] pos) Δ M r M2 := by
  obtain ⟨f, fd, ps, G, mgf, kp, b⟩ := C.ex
  refine ⟨fun pins s σ H Q I ⟨B, h1, h2, h3⟩ => wpAny_Call_Name_kw (ld_glob I hg mgf (PySem.W.callWith_K (h₀ := X.base) I.ok.mod.kin kp (thn (ha.run pos pins s σ H _ I ⟨B, h1, h2, fun rs M1 vs B1 H1 hl g rv => (⟨rs, M1, B1, hl, g, rv⟩ : ∃ rs M1 B1, RL rs M1 ∧ Gr M B H M1 B1 H1 ∧ RsA B1 vs rs)⟩) fun us s1 ⟨vs, H1, I1, rel, q⟩ => ⟨I1.kIn, ?_⟩) he hpl) hdb)⟩
  obtain ⟨rs, M1, B1, hl0, g, rv⟩ := q
  obtain ⟨Mc, F, Mc', hM, hTT, hp2⟩ := hT rs M1 hl0
  have go := g.go.perm hM
  have hl : us.length = ps.length := by rw [← rel.length, rv.length]; exact G.len _ _ _ hTT
  have sp : spX T vs H1 Q (fun _ _ _ => False) := ⟨B1, rs, Mc, R1 r Mc', hTT, rv, go.left, fun r' M' v B2 H2 hR g2 rv2 => by
    obtain ⟨rfl, rfl⟩ := hR
    exact h3 _ _ v B2 H2 ⟨rfl, rfl⟩ (g.trans (Gr.permIn hM (Gr.permOut hp2 (g2.frame go.ho)))) rv2⟩
  have hbd := b s1 us I1.kIn (by rw [List.append_nil]; exact hl)
  rw [List.append_nil] at hbd
  refine wpAny_call (codeAny_mono (G.go X.A X.stack s1 H1 ⟨us, []⟩ us vs Q (fun _ _ _ => False) hr hgu I1.env0 hbd rel sp) fun res s2 hq => ?_)
  match res, hq with
  | .ok (.ret u), hq => exact I1.after hq
  | .ok .next, hq => exact hq.elim
  | .ok .brk, hq => exact hq.elim
  | .ok .cont, hq => exact hq.elim
  | .error _, hq => exact hq.elim
theorem pd_callKW (C : CalK X.prog X.w X.K X.mg X.base kk x T ks) (hr : Room kk X.A) (ha : PKD X kws Δ M rs M1) (hT : T rs.reverse [] (R1 r [])) (hg : Gl X x := by rfl) (hall : (backToKw pos (keywordEach kws X.env)).all (·.1.isSome) = true := by rfl)
    (hks : (backToKw pos (keywordEach kws X.env)).filterMap (·.1) = ks := by rfl) (hdb : (x == ("__debug__" : Str)) = false := by decide) (hpl : ((backTo pos (starEach [] X.env)).any (·.1) || (backToKw pos (keywordEach kws X.env)).any (·.1.isNone)) = false := by rfl) :
    PD X (.Call (.Name x p) [] kws pos) Δ M r M1 :=
  PX.mono (px_callKW (Mc := []) (F := M1) C hr ha rfl hT hg hall hks hdb hpl) fun r' M' ⟨Mc', h, e⟩ => by
    obtain ⟨rfl, rfl⟩ := h
    exact ⟨rfl, e⟩
end
end KR

/-! KR, part PD: the law. -/
namespace KR
open PySem PySem.Spec PyProof.Rows L2
theorem vst_of {rs : List Road} {st : List Nat} (hl : st.length = rs.length) (h : (rs.zip st).all (fun p => decide (p.2 ≤ p.1.2.2)) = true) : VSt rs st := by
  refine ⟨hl, fun i r k hr hk => ?_⟩
  have hz : (rs.zip st)[i]? = some (r, k) := by
    rw [List.zip, List.getElem?_zipWith, hr, hk]
  exact of_decide_eq_true (List.all_eq_true.mp h _ (List.mem_of_getElem? hz))
def r1 : List Road := [(0, 2, 1), (0, 3, 1), (1, 3, 1)]
def r2 : List Road := [(0, 1, 1), (0, 2, 1), (1, 3, 1)]
def r3 : List Road := [(0, 1, 1), (0, 2, 1), (1, 2, 1), (2, 3, 2)]
def r4 : List Road := (List.range 11).map fun h => (h, h + 1, 1)
theorem n1 : VNet 4 r1 := ⟨by decide, by decide, by decide, by decide, by decide⟩
theorem n2 : VNet 4 r2 := ⟨by decide, by decide, by decide, by decide, by decide⟩
theorem n3 : VNet 4 r3 := ⟨by decide, by decide, by decide, by decide, by decide⟩
theorem n4 : VNet 12 r4 := ⟨by decide, by decide, by decide +kernel, by decide +kernel, by decide⟩
theorem n0 : VNet 3 [] := ⟨by decide, by decide, (fun r h => by cases h), List.Pairwise.nil, by decide⟩
theorem s1 : VSt r1 [1, 1, 0] := vst_of rfl (by decide)
theorem s2 : VSt r2 [1, 1, 1] := vst_of rfl (by decide)
theorem s3 : VSt r3 [1, 1, 1, 1] := vst_of rfl (by decide)
theorem s3' : VSt r3 [1, 0, 1, 1] := vst_of rfl (by decide)
theorem s4 (b : Nat) (hb : b ≤ 1) : VSt r4 (List.replicate 11 b) := by
  match b, hb with
  | 0, _ => exact vst_of rfl (by decide +kernel)
  | 1, _ => exact vst_of rfl (by decide +kernel)
theorem s0 : VSt [] [] := vst_of rfl rfl
theorem f1 : numF (W r1 [1, 1, 0]) 4 = some [3, 0, 1, 2] := by decide +kernel
theorem f2 : numF (W r2 [1, 1, 1]) 4 = some [3, 1, 2, 0] := by decide +kernel
theorem f3 : numF (W r3 [1, 1, 1, 1]) 4 = some [2, 1, 0, 3] := by decide +kernel
theorem f3' : numF (W r3 [1, 0, 1, 1]) 4 = none := by decide +kernel
theorem f4 : numF (W r4 (List.replicate 11 0)) 12 = some (List.range 12) := by decide +kernel
theorem f5 : numF (W r4 (List.replicate 11 1)) 12 = some [11, 10, 9, 8, 7, 6, 5, 4, 3, 2, 1, 0] := by decide +kernel
theorem f0 : numF (W [] []) 3 = some [0, 1, 2] := by decide +kernel
theorem i1 : isNum 4 r3 [1, 1, 1, 1] (rowD [3, 2, 1, 0]) = true := by
  rw [isNum_perm n3 (by decide)]
  decide +kernel
theorem i2 : isNum 4 r3 [1, 1, 1, 1] (rowD [1, 2, 0, 3]) = false := by
  rw [isNum_perm n3 (by decide)]
  decide +kernel
def toldD : List PyData := [rowD [2, 1, 0, 3], .none, .bool true, .bool false, rowD [0, 1, 2], rowD (List.range 12), rowD [11, 10, 9, 8, 7, 6, 5, 4, 3, 2, 1, 0]]
theorem sh_told : Sh 1000 20 (.list toldD) := by
  refine sh_list (b := 20) (k := 1) (n := 7) (fun d hd => ?_) (by show 7 ≤ 7; decide) (by decide) (by decide)
  have row : ∀ ks : List Nat, (ks.all fun x => decide (x ≤ 12)) = true → ks.length ≤ 20 → Sh 20 1 (rowD ks) := fun ks h hl => sh_nat (n := 20) (fun x hx => by have := of_decide_eq_true (List.all_eq_true.mp h x hx); omega) hl (by decide) (by decide)
  unfold toldD at hd
  simp only [List.mem_cons, List.not_mem_nil, or_false] at hd
  rcases hd with e | e | e | e | e | e | e <;> subst e
  · exact row _ (by decide) (by decide)
  · exact sh_none
  · exact sh_bool _
  · exact sh_bool _
  · exact row _ (by decide) (by decide)
  · exact row _ (by decide) (by decide)
  · exact row _ (by decide) (by decide)
theorem rg_down : rg3 11 (-1) 12 = castL [11, 10, 9, 8, 7, 6, 5, 4, 3, 2, 1, 0] := by decide +kernel
abbrev sLaw : Stmt := topS 38
abbrev nLaw : List Str := ["_law_script", "_law_index", "_law_net_here", "_law_told", "_law_long", "_law_house"]
theorem scLaw : FnScope nLaw ["_law_script"] (defScope sLaw) := ⟨rfl, rfl, rfl, by decide +kernel, rfl, by decide +kernel, by decide +kernel⟩
section
variable {X : Cx} {Δ : List SD} {M M1 M2 : Ms} {p pos : Pos} {e : Expr} {es : List Expr}
theorem pd_road (a b c : Nat) {e1 e2 e3 : Expr} {k : Nat} (h1 : PD X e1 Δ M (dI a) M) (h2 : PD X e2 Δ M (dI b) M) (h3 : PD X e3 Δ M (dI c) M) (hs : starEach [e1, e2, e3] X.env = (false, eval e1 X.env) :: starEach [e2, e3] X.env := by rfl) (hs2 : starEach [e2, e3] X.env = (false, eval e2 X.env) :: starEach [e3] X.env := by rfl)
    (hs3 : starEach [e3] X.env = (false, eval e3 X.env) :: starEach [] X.env := by rfl) : PD X (.Tuple [e1, e2, e3] k pos) Δ M (.dat (roadD (a, b, c))) M :=
  pd_tup (ds := [.int (a : Int), .int (b : Int), .int (c : Int)]) (pad_cons h1 (pad_cons h2 (pad_one h3 hs3) hs2) hs) (sz_le (by show 3 ≤ 100000; decide))
theorem pd_net {n : Nat} {rs : List Road} {e1 e2 : Expr} {k : Nat} (h1 : PD X e1 Δ M (dI n) M) (h2 : PD X e2 Δ M (.dat (.list (rs.map roadD))) M) (hs : starEach [e1, e2] X.env = (false, eval e1 X.env) :: starEach [e2] X.env := by rfl) (hs2 : starEach [e2] X.env = (false, eval e2 X.env) :: starEach [] X.env := by rfl) :
    PD X (.Tuple [e1, e2] k pos) Δ M (.dat (netD n rs)) M := pd_tup (ds := [.int (n : Int), .list (rs.map roadD)]) (pad_cons h1 (pad_one h2 hs2) hs) (sz_le (by show 2 ≤ 100000; decide))
theorem pd_roads {rs : List Road} {es : List Expr} (hz : rs.length ≤ 20) (h : PAD X es Δ M ((rs.map roadD).map SD.dat) M) : PD X (.List es pos) Δ M (.dat (.list (rs.map roadD))) M := PL.pd (pl_lst h (sz_le (by rw [List.length_map]; omega)))
theorem pd_nats {ks : List Nat} {es : List Expr} (hz : ks.length ≤ 20) (h : PAD X es Δ M ((natD ks).map SD.dat) M) : PD X (.List es pos) Δ M (.dat (rowD ks)) M := PL.pd (pl_lst h (sz_le (by rw [natD_len]; omega)))
theorem pad4 {e1 e2 e3 e4 : Expr} {a b c d : Nat} (h1 : PD X e1 Δ M (dI a) M) (h2 : PD X e2 Δ M (dI b) M) (h3 : PD X e3 Δ M (dI c) M) (h4 : PD X e4 Δ M (dI d) M) (hs : starEach [e1, e2, e3, e4] X.env = (false, eval e1 X.env) :: starEach [e2, e3, e4] X.env := by rfl) (hs2 : starEach [e2, e3, e4] X.env = (false, eval e2 X.env) :: starEach [e3, e4] X.env := by rfl)
    (hs3 : starEach [e3, e4] X.env = (false, eval e3 X.env) :: starEach [e4] X.env := by rfl) (hs4 : starEach [e4] X.env = (false, eval e4 X.env) :: starEach [] X.env := by rfl) : PAD X [e1, e2, e3, e4] Δ M ((natD [a, b, c, d]).map SD.dat) M := pad_cons h1 (pad_cons h2 (pad_cons h3 (pad_one h4 hs4) hs3) hs2) hs
theorem pad3 {e1 e2 e3 : Expr} {a b c : Nat} (h1 : PD X e1 Δ M (dI a) M) (h2 : PD X e2 Δ M (dI b) M) (h3 : PD X e3 Δ M (dI c) M) (hs : starEach [e1, e2, e3] X.env = (false, eval e1 X.env) :: starEach [e2, e3] X.env := by rfl) (hs2 : starEach [e2, e3] X.env = (false, eval e2 X.env) :: starEach [e3] X.env := by rfl)
    (hs3 : starEach [e3] X.env = (false, eval e3 X.env) :: starEach [] X.env := by rfl) : PAD X [e1, e2, e3] Δ M ((natD [a, b, c]).map SD.dat) M := pad_cons h1 (pad_cons h2 (pad_one h3 hs3) hs2) hs
theorem pd_rep11 (b : Nat) {e1 e2 : Expr} (h1 : PD X e1 Δ M (.dat (rowD [b])) M) (h2 : PD X e2 Δ M (dI 11) M) : PD X (.BinOp e1 .Mult e2 pos) Δ M (.dat (stD (List.replicate 11 b))) M :=
  PL.pd (PL.is (pl_rep (ds := natD [b]) h1 h2 .dat (by decide) (sz_le (by rw [natD_len]; show 1 * 11 ≤ 100000; decide))) rfl)
end
section
variable {P : Program} {w : World} {K : PySem.W.Frag} {mg : Str → Option Value} {base : Heap}
def TLaw (K : PySem.W.Frag) : Tr := fun rs M R => ∃ (a : Addr) (ns : List Int), rs = [.val (.ref a)] ∧ Scr K a ns M ∧ ∀ M', R (dB true) M'
theorem ok_law {f : Addr} {fd : FuncData} (bl : Bl mg) (CG : CalX P w K mg base 2 "_law_generator" (TGen K)) (C6 : CalG P w K mg base 8 "_law_six_right" TSixR) (CR : CalG P w K mg base 8 "_law_right" TRight) (CN : CalX P w K mg base 7 "numbering" TNum) (CI : CalX P w K mg base 7 "is_numbering" TIsNum)
    (CK : CalK P w K mg base 7 "is_numbering" TIsNum ["value", "standing", "net"]) (F : Fun K "law" "law" sLaw f fd) : FnG P w K mg base 9 f fd ["_law_script"] (TLaw K) := by
  refine fn_okG F scLaw (fun rs M R h => ?_) (fun cdv A outer s H E rs M R hr hgu h => ?_)
  · obtain ⟨a, ns, rfl, _⟩ := h
    rfl
  · obtain ⟨a, ns, rfl, hs, hR⟩ := h
    have hr7 : Room 7 _ := hr.mono (by decide : 7 ≤ 8)
    have four : ∀ {ks : List Nat}, ks.length ≤ 20 → ∀ ds, rowD ks = .list ds → okAll ds ∧ ds.length ≤ 1000 := fun {ks} h ds e => by
      cases e
      exact ⟨okAll_nat _, by rw [natD_len]; omega⟩
    refine pb_if (t := false) (M1 := M) (PTD.is (ptd_not (ptd_val (pd_callGX (r := dB true) (M2 := M) (RL := fun rs M' => ∃ p, rs = [.val (.ref p)] ∧ M' = M ++ [(p, genD (genOf ns 3))]) C6 hr hgu
      (pax_one (Re := fun r M' => ∃ p, r = .val (.ref p) ∧ M' = M ++ [(p, genD (genOf ns 3))]) (px_callP (Mc := M) (F := []) (R := fun r M' => ∃ p, r = .val (.ref p) ∧ M' = M ++ [(p, genD (genOf ns 3))]) CG (hr.mono (by decide)) (pad_cons (pd_var 0) (pad_one pd_int)) (by rw [List.append_nil])
        ⟨a, ns, 3, rfl, by decide, hs, fun p => ⟨p, rfl, rfl⟩⟩ fun r M' h => ⟨M', by rw [List.append_nil], h⟩) fun r M1 ⟨p, e1, e2⟩ => ⟨p, by rw [e1], e2⟩)
      fun rs M1 ⟨p, e1, e2⟩ => ⟨[(p, genD (genOf ns 3))], M, [], by rw [e2]; exact List.perm_append_comm, ⟨p, genOf ns 3, 3000, e1, genOf_ok ns 3 (by decide), by decide, rfl, rfl, rfl⟩, .refl _⟩))) rfl) (fun h => nomatch h) (fun _ => ?_)
    refine pb_cons (Nx1 := fun Δ' M' => ∃ i, Δ' = [.val (.ref a), i, .nil, .nil, .nil, .nil] ∧ M' = M) (psx_for (fun i Δ' M' => ∃ x, Δ' = [.val (.ref a), x, .nil, .nil, .nil, .nil] ∧ M' = M) PassesOwn.never rfl
      (pix_range1 (n := 3) bl.range pd_int (by decide)) ⟨_, rfl, rfl⟩ (fun _ _ _ _ => trivial) (fun i d Δ' M' hd hI => ?_) (fun Δ' M' hI => hI)) fun Δ' M' hN => ?_
    · obtain ⟨hi, rfl⟩ := rgD_get hd
      have hi3 : i < 3 := hi
      obtain ⟨x, rfl, rfl⟩ := hI
      have e0 : (0 : Int) + (i : Int) = (i : Int) := Int.zero_add _
      rw [e0]
      refine ⟨_, [1], pgx_name 1 scLaw.nd, ?_⟩
      exact pb_if (t := false) (M1 := M') (PTD.is (ptd_not (ptd_val (pd_callGX (r := dB true) (M2 := M') (RL := fun rs M2 => ∃ p, rs = [.val (.ref p)] ∧ M2 = M' ++ [(p, genD (genOf ns i))]) CR hr hgu
        (pax_one (Re := fun r M2 => ∃ p, r = .val (.ref p) ∧ M2 = M' ++ [(p, genD (genOf ns i))]) (px_callP (Mc := M') (F := []) (R := fun r M2 => ∃ p, r = .val (.ref p) ∧ M2 = M' ++ [(p, genD (genOf ns i))]) CG (hr.mono (by decide)) (pad_cons (pd_var 0) (pad_one (pd_var 1))) (by rw [List.append_nil])
          ⟨a, ns, i, rfl, by omega, hs, fun p => ⟨p, rfl, rfl⟩⟩ fun r M2 h => ⟨M2, by rw [List.append_nil], h⟩) fun r M1 ⟨p, e1, e2⟩ => ⟨p, by rw [e1], e2⟩)
        fun rs M1 ⟨p, e1, e2⟩ => ⟨[(p, genD (genOf ns i))], M', [], by rw [e2]; exact List.perm_append_comm, ⟨p, genOf ns i, 1000 * i, e1, genOf_ok ns i (by omega), by omega, rfl, rfl, rfl⟩, .refl _⟩))) rfl) (fun h => nomatch h) (fun _ => pb_nil ⟨_, rfl, rfl⟩)
    obtain ⟨ix, rfl, rfl⟩ := hN
    refine pb_if (t := false) (M1 := M') (PWD.pt (pwd_orF (M1 := M') (PTD.is (ptd_cmp (pc_neL (ds := natD [3, 0, 1, 2]) (fs := natD [3, 0, 1, 2]) hr.units (PD.is (told_dat (px_num CN hr7 n1 s1 (pad_cons (pd_net pd_int (pd_roads (rs := r1) (by decide) (pad_cons (pd_road 0 2 1 pd_int pd_int pd_int) (pad_cons (pd_road 0 3 1 pd_int pd_int pd_int) (pad_one (pd_road 1 3 1 pd_int pd_int pd_int))))))
          (pad_one (pd_nats (ks := [1, 1, 0]) (by decide) (pad3 pd_int pd_int pd_int)))))) (by rw [f1]; rfl)) (pd_nats (ks := [3, 0, 1, 2]) (by decide) (pad4 pd_int pd_int pd_int pd_int)) .dat .dat (okAll_nat _) (okAll_nat _))) (by rw [eqv_ints]; decide))
      (pwd_or1 (PTD.is (ptd_cmp (pc_neL (ds := natD [3, 1, 2, 0]) (fs := natD [3, 1, 2, 0]) hr.units (PD.is (told_dat (px_num CN hr7 n2 s2 (pad_cons (pd_net pd_int (pd_roads (rs := r2) (by decide) (pad_cons (pd_road 0 1 1 pd_int pd_int pd_int) (pad_cons (pd_road 0 2 1 pd_int pd_int pd_int) (pad_one (pd_road 1 3 1 pd_int pd_int pd_int))))))
          (pad_one (pd_nats (ks := [1, 1, 1]) (by decide) (pad3 pd_int pd_int pd_int)))))) (by rw [f2]; rfl)) (pd_nats (ks := [3, 1, 2, 0]) (by decide) (pad4 pd_int pd_int pd_int pd_int)) .dat .dat (okAll_nat _) (okAll_nat _))) (by rw [eqv_ints]; decide))))) (fun h => nomatch h) (fun _ => ?_)
    refine pb_set 2 scLaw.nd (pd_net (n := 4) (rs := r3) pd_int (pd_roads (rs := r3) (by decide) (pad_cons (pd_road 0 1 1 pd_int pd_int pd_int) (pad_cons (pd_road 0 2 1 pd_int pd_int pd_int) (pad_cons (pd_road 1 2 1 pd_int pd_int pd_int) (pad_one (pd_road 2 3 2 pd_int pd_int pd_int))))))) ?_
    refine pb_set 3 scLaw.nd (r := .dat (.list [rowD [2, 1, 0, 3], .none, .bool true, .bool false])) (PL.pd (pl_lst (ds := [rowD [2, 1, 0, 3], .none, .bool true, .bool false])
      (pad_cons (PD.is (told_dat (px_num CN hr7 n3 s3 (pad_cons (pd_var 2) (pad_one (pd_nats (ks := [1, 1, 1, 1]) (by decide) (pad4 pd_int pd_int pd_int pd_int)))))) (by rw [f3]; rfl))
        (pad_cons (PD.is (told_dat (px_num CN hr7 n3 s3' (pad_cons (pd_var 2) (pad_one (pd_nats (ks := [1, 0, 1, 1]) (by decide) (pad4 pd_int pd_int pd_int pd_int)))))) (by rw [f3']; rfl))
        (pad_cons (PD.is (pd_call CI hr7 (pad_cons (pd_var 2) (pad_cons (pd_nats (ks := [1, 1, 1, 1]) (by decide) (pad4 pd_int pd_int pd_int pd_int)) (pad_one (pd_nats (ks := [3, 2, 1, 0]) (by decide) (pad4 pd_int pd_int pd_int pd_int))))) ⟨4, r3, [1, 1, 1, 1], rowD [3, 2, 1, 0], rfl, n3, s3, four (by decide), rfl, rfl, rfl⟩) (by rw [i1]))
        (pad_one (PD.is (pd_callKW CK hr7 (pkd_cons (pd_nats (ks := [1, 2, 0, 3]) (by decide) (pad4 pd_int pd_int pd_int pd_int)) (pkd_cons (pd_nats (ks := [1, 1, 1, 1]) (by decide) (pad4 pd_int pd_int pd_int pd_int)) (pkd_cons (pd_var 2) pkd_nil))) ⟨4, r3, [1, 1, 1, 1], rowD [1, 2, 0, 3], rfl, n3, s3, four (by decide), rfl, rfl, rfl⟩) (by rw [i2])))))) (sz_le (by show 4 ≤ 100000; decide)))) ?_
    refine pb_set 4 scLaw.nd (pd_net (n := 12) (rs := r4) pd_int (PL.pd (PL.is (pl_compP (List.range 11) (fun (h : Nat) => .int (h : Int)) (fun h => some (roadD (h, h + 1, 1))) rfl scLaw.nd ((natD_map (List.range 11) ▸ rgD_nat 11) ▸ pix_range1 (n := ((11 : Nat) : Int)) bl.range pd_int (by decide)) (blkOk_by (N := nLaw) (sc := defScope sLaw) (own := [("_law_house", 5)]) (by decide +kernel)) (sz_le (by decide)) trivial
      fun h hh => ⟨_, fun s H C cl fp => pgx_name 5 scLaw.nd, .inl ⟨_, _, rfl, fun s H C cl fp => ptx_nil, fun s H C cl fp => pd_road h (h + 1) 1 (pd_var 5) (PD.is (pd_add (pd_var 5) pd_int) (show _ = dI ((h + 1 : Nat) : Int) from by push_cast; rfl)) pd_int⟩⟩) (by rw [some_map]; unfold r4; rw [List.map_map]; rfl)))) ?_
    refine pb_set 3 scLaw.nd (r := .dat (.list toldD)) (PL.pd (PL.is (pl_cat (ds := [rowD [2, 1, 0, 3], .none, .bool true, .bool false]) (fs := [rowD [0, 1, 2], rowD (List.range 12), rowD [11, 10, 9, 8, 7, 6, 5, 4, 3, 2, 1, 0]]) (pd_var 3) (PL.pd (pl_lst (ds := [rowD [0, 1, 2], rowD (List.range 12), rowD [11, 10, 9, 8, 7, 6, 5, 4, 3, 2, 1, 0]])
      (pad_cons (PD.is (told_dat (px_num CN hr7 n0 s0 (pad_cons (pd_net pd_int (pd_roads (rs := []) (by decide) pad_nil)) (pad_one (pd_nats (ks := []) (by decide) pad_nil))))) (by rw [f0]; rfl))
        (pad_cons (PD.is (told_dat (px_num CN hr7 n4 (s4 0 (by decide)) (pad_cons (pd_var 4) (pad_one (pd_rep11 0 (pd_nats (ks := [0]) (by decide) (pad_one pd_int)) pd_int))))) (by rw [f4]; rfl))
        (pad_one (PD.is (told_dat (px_num CN hr7 n4 (s4 1 (by decide)) (pad_cons (pd_var 4) (pad_one (pd_rep11 1 (pd_nats (ks := [1]) (by decide) (pad_one pd_int)) pd_int))))) (by rw [f5]; rfl))))) (sz_le (by show 3 ≤ 100000; decide)))) .dat .dat (sz_le (by show 7 ≤ 100000; decide))) rfl)) ?_
    refine pb_retD (r := dB true) (M1 := M') (PD.is (pd_cmp (pc_eqS (pd_repr (b := 1000) hgu hr.units bl.repr (pd_var 3) sh_told (by decide)) (pd_repr (b := 1000) hgu hr.units bl.repr (PL.pd (pl_lst (ds := toldD)
      (pad_cons (pd_nats (ks := [2, 1, 0, 3]) (by decide) (pad4 pd_int pd_int pd_int pd_int)) (pad_cons pd_non (pad_cons pd_bl (pad_cons pd_bl (pad_cons (pd_nats (ks := [0, 1, 2]) (by decide) (pad3 pd_int pd_int pd_int))
        (pad_cons (PL.pd (PL.is (pl_listRg (j := ((12 : Nat) : Int)) rfl bl.list bl.range pd_int (by decide)) (rgD_nat 12)))
        (pad_one (PL.pd (PL.is (pl_listRg3 (i := 11) (j := -1) (k := -1) (n := 12) rfl bl.list (prg3 bl.range (pad_cons pd_int (pad_cons (pd_neg pd_int) (pad_one (pd_neg pd_int)))) (by decide) (by decide)) (by decide +kernel) (by decide +kernel) (by decide)) (congrArg (List.map PyData.int) rg_down))))))))))
      (sz_le (by show 7 ≤ 100000; decide)))) sh_told (by decide)))) (by simp)) (hR M')
end
end KR

/-! KR, the end: what the top has written. -/
namespace KR
open PySem PySem.Spec PyProof.Rows L2
def Has (K : PySem.W.Frag) (mg : Str → Option Value) (x : Str) (st : Stmt) : Prop := ∃ f fd, Fun K x x st f fd ∧ mg x = some (.ref f)
theorem has_mk {K : PySem.W.Frag} {h : Heap} {mg : Str → Option Value} {x : Str} {st : Stmt} {f : Addr} {od an : Option Addr} {sl : Array (Option Value)} {oc kV dc pm cd ct : Value} (X : K.In h) (G : h.Ns mainGlobals mg) (a : PySem.W.nsIn K mainGlobals x = some (some (.ref f)))
    (l : K.lookup f = some ⟨oc, od, .func (PySem.W.fnOf x x (defArgs st) (defBody st) (defScope st) .none kV dc pm an cd ct), sl⟩) (c : PySem.W.codeIn K cd x = true) (k : PySem.W.keepIn K (.ref f) = true) : Has K mg x st := ⟨f, _, fun_mk (st := st) l c k, PySem.W.mg_of X G a⟩
structure Txt (K : PySem.W.Frag) (mg : Str → Option Value) : Prop where
  d5 : Has K mg "is_whole" (topS 5)
  d6 : Has K mg "is_between" (topS 6)
  d7 : Has K mg "is_road" (topS 7)
  d8 : Has K mg "is_net" (topS 8)
  d9 : Has K mg "check_net" (topS 9)
  d10 : Has K mg "is_standing" (topS 10)
  d11 : Has K mg "check_standing" (topS 11)
  d12 : Has K mg "neighbours_of" (topS 12)
  d13 : Has K mg "directions_of" (topS 13)
  d14 : Has K mg "road_at" (topS 14)
  d15 : Has K mg "keys_in" (topS 15)
  d17 : Has K mg "waits" (topS 17)
  d18 : Has K mg "behind" (topS 18)
  d19 : Has K mg "numbering" (topS 19)
  d20 : Has K mg "is_numbering" (topS 20)
  d22 : Has K mg "_law_hash" (topS 22)
  d23 : Has K mg "_law_random" (topS 23)
  d24 : Has K mg "_law_cell" (topS 24)
  d25 : Has K mg "_law_generator" (topS 25)
  d26 : Has K mg "_law_keys" (topS 26)
  d27 : Has K mg "_law_net" (topS 27)
  d28 : Has K mg "_law_standing" (topS 28)
  d29 : Has K mg "_law_free_standing" (topS 29)
  d32 : Has K mg "_law_orders" (topS 32)
  d33 : Has K mg "_law_fits" (topS 33)
  d34 : Has K mg "_law_round" (topS 34)
  d35 : Has K mg "_law_six" (topS 35)
  d36 : Has K mg "_law_six_right" (topS 36)
  d37 : Has K mg "_law_right" (topS 37)
  d38 : Has K mg "law" (topS 38)
  bl : Bl mg
theorem bind1 {K : PySem.W.Frag} {x p : Str} {st : Stmt} {f : Addr} {fd : FuncData} (F : Fun K x x st f fd) (h : ∀ (kV doc pm : Value) (an : Option Addr) (cdv ct : Value) (u : Value), bindArgs (PySem.W.fnOf x x (defArgs st) (defBody st) (defScope st) .none kV doc pm an cdv ct) ⟨[u], []⟩ = pure [(p, u)]) (s : Shared) (u : Value) : BindsTo s fd ⟨[u], []⟩ [(p, u)] := by
  obtain ⟨oc, od, kV, doc, pm, an, cdv, ct, osl, rfl, lk, hcd⟩ := F.ex
  exact .of_eq (h kV doc pm an cdv ct u)
theorem bindK {K : PySem.W.Frag} {x : Str} {st : Stmt} {f : Addr} {fd : FuncData} {ps ks : List Str} (F : Fun K x x st f fd) (h : ∀ (kV doc pm : Value) (an : Option Addr) (cdv ct : Value) (ws : List Value), ws.length = ps.length → bindArgs (PySem.W.fnOf x x (defArgs st) (defBody st) (defScope st) .none kV doc pm an cdv ct) ⟨[], ks.zip ws⟩ = pure (ps.zip ws.reverse))
    (s : Shared) (ws : List Value) (_ : K.In s.heap) (hl : ws.length = ps.length) : BindsTo s fd ⟨[], ks.zip ws⟩ (ps.zip ws.reverse) := by
  obtain ⟨oc, od, kV, doc, pm, an, cdv, ct, osl, rfl, lk, hcd⟩ := F.ex
  exact .of_eq (h kV doc pm an cdv ct ws hl)
theorem all_ok {P : Program} {w : World} {K : PySem.W.Frag} {mg : Str → Option Value} {fa : Addr} (T : Txt K mg) (hfa : mg "law" = some (.ref fa)) :
    ∃ fd : FuncData, (∀ (s : Shared) (u : Value), BindsTo s fd ⟨[u], []⟩ [("_law_script", u)]) ∧ ∀ base : Heap, K.In base → base.Ns mainGlobals mg → FnG P w K mg base 9 fa fd ["_law_script"] (TLaw K) := by
  have bl := T.bl
  obtain ⟨f5, fd5, F5, m5⟩ := T.d5
  obtain ⟨f6, fd6, F6, m6⟩ := T.d6
  obtain ⟨f7, fd7, F7, m7⟩ := T.d7
  obtain ⟨f8, fd8, F8, m8⟩ := T.d8
  obtain ⟨f9, fd9, F9, m9⟩ := T.d9
  obtain ⟨f10, fd10, F10, m10⟩ := T.d10
  obtain ⟨f11, fd11, F11, m11⟩ := T.d11
  obtain ⟨f12, fd12, F12, m12⟩ := T.d12
  obtain ⟨f13, fd13, F13, m13⟩ := T.d13
  obtain ⟨f14, fd14, F14, m14⟩ := T.d14
  obtain ⟨f15, fd15, F15, m15⟩ := T.d15
  obtain ⟨f17, fd17, F17, m17⟩ := T.d17
  obtain ⟨f18, fd18, F18, m18⟩ := T.d18
  obtain ⟨f19, fd19, F19, m19⟩ := T.d19
  obtain ⟨f20, fd20, F20, m20⟩ := T.d20
  obtain ⟨f22, fd22, F22, m22⟩ := T.d22
  obtain ⟨f23, fd23, F23, m23⟩ := T.d23
  obtain ⟨f24, fd24, F24, m24⟩ := T.d24
  obtain ⟨f25, fd25, F25, m25⟩ := T.d25
  obtain ⟨f26, fd26, F26, m26⟩ := T.d26
  obtain ⟨f27, fd27, F27, m27⟩ := T.d27
  obtain ⟨f28, fd28, F28, m28⟩ := T.d28
  obtain ⟨f29, fd29, F29, m29⟩ := T.d29
  obtain ⟨f32, fd32, F32, m32⟩ := T.d32
  obtain ⟨f33, fd33, F33, m33⟩ := T.d33
  obtain ⟨f34, fd34, F34, m34⟩ := T.d34
  obtain ⟨f35, fd35, F35, m35⟩ := T.d35
  obtain ⟨f36, fd36, F36, m36⟩ := T.d36
  obtain ⟨f37, fd37, F37, m37⟩ := T.d37
  obtain ⟨f38, fd38, F38, m38⟩ := T.d38
  have e := hfa.symm.trans m38
  cases e
  refine ⟨fd38, bind1 F38 fun _ _ _ _ _ _ _ => rfl, fun base _ _ => ?_⟩
  have C5 : CalX P w K mg base 1 "is_whole" TWhole := ⟨f5, fd5, ["value"], ok_whole bl F5, m5, F5.kp, F5.binds fun _ _ _ _ _ _ us hl => match us, hl with | [_], _ => rfl⟩
  have C6 : CalX P w K mg base 2 "is_between" TBetween := ⟨f6, fd6, ["value", "low", "high"], ok_between C5 F6, m6, F6.kp, F6.binds fun _ _ _ _ _ _ us hl => match us, hl with | [_, _, _], _ => rfl⟩
  have C7 : CalX P w K mg base 3 "is_road" TRoad := ⟨f7, fd7, ["houses", "value"], ok_road bl C6 F7, m7, F7.kp, F7.binds fun _ _ _ _ _ _ us hl => match us, hl with | [_, _], _ => rfl⟩
  have C8 : CalX P w K mg base 4 "is_net" TNet := ⟨f8, fd8, ["value"], ok_net bl C6 C7 F8, m8, F8.kp, F8.binds fun _ _ _ _ _ _ us hl => match us, hl with | [_], _ => rfl⟩
  have C9 : CalX P w K mg base 5 "check_net" TCheckNet := ⟨f9, fd9, ["net"], ok_checkNet C8 F9, m9, F9.kp, F9.binds fun _ _ _ _ _ _ us hl => match us, hl with | [_], _ => rfl⟩
  have C10 : CalX P w K mg base 3 "is_standing" TStanding := ⟨f10, fd10, ["net", "value"], ok_standing bl C6 F10, m10, F10.kp, F10.binds fun _ _ _ _ _ _ us hl => match us, hl with | [_, _], _ => rfl⟩
  have C11 : CalX P w K mg base 6 "check_standing" TCheckSt := ⟨f11, fd11, ["net", "standing"], ok_checkSt C9 C10 F11, m11, F11.kp, F11.binds fun _ _ _ _ _ _ us hl => match us, hl with | [_, _], _ => rfl⟩
  have C12 : CalX P w K mg base 1 "neighbours_of" TNbr := ⟨f12, fd12, ["net", "house"], ok_nbr bl F12, m12, F12.kp, F12.binds fun _ _ _ _ _ _ us hl => match us, hl with | [_, _], _ => rfl⟩
  have C13 : CalX P w K mg base 1 "directions_of" TDir := ⟨f13, fd13, ["net"], ok_dir bl F13, m13, F13.kp, F13.binds fun _ _ _ _ _ _ us hl => match us, hl with | [_], _ => rfl⟩
  have C14 : CalX P w K mg base 1 "road_at" TRoadAt := ⟨f14, fd14, ["net", "one", "other"], ok_roadAt bl F14, m14, F14.kp, F14.binds fun _ _ _ _ _ _ us hl => match us, hl with | [_, _, _], _ => rfl⟩
  have C15 : CalX P w K mg base 2 "keys_in" TKeys := ⟨f15, fd15, ["net", "standing", "one", "other"], ok_keys C14 F15, m15, F15.kp, F15.binds fun _ _ _ _ _ _ us hl => match us, hl with | [_, _, _, _], _ => rfl⟩
  have C17 : CalX P w K mg base 3 "waits" TWaits := ⟨f17, fd17, ["net", "standing"], ok_waits C13 C15 F17, m17, F17.kp, F17.binds fun _ _ _ _ _ _ us hl => match us, hl with | [_, _], _ => rfl⟩
  have C18 : CalX P w K mg base 3 "behind" TBehind := ⟨f18, fd18, ["net", "standing", "house"], ok_behind C12 C15 F18, m18, F18.kp, F18.binds fun _ _ _ _ _ _ us hl => match us, hl with | [_, _, _], _ => rfl⟩
  have C19 : CalX P w K mg base 7 "numbering" TNum := ⟨f19, fd19, ["net", "standing"], ok_num bl C11 C18 F19, m19, F19.kp, F19.binds fun _ _ _ _ _ _ us hl => match us, hl with | [_, _], _ => rfl⟩
  have C20 : CalX P w K mg base 7 "is_numbering" TIsNum := ⟨f20, fd20, ["net", "standing", "value"], ok_isNum bl C11 C6 C17 F20, m20, F20.kp, F20.binds fun _ _ _ _ _ _ us hl => match us, hl with | [_, _, _], _ => rfl⟩
  have C22 : CalX P w K mg base 1 "_law_hash" THash := ⟨f22, fd22, ["_law_seed", "_law_index"], ok_hash bl F22, m22, F22.kp, F22.binds fun _ _ _ _ _ _ us hl => match us, hl with | [_, _], _ => rfl⟩
  have C23 : CalX P w K mg base 2 "_law_random" TRandom := ⟨f23, fd23, ["_law_generator_here", "_law_bound"], ok_random bl C22 F23, m23, F23.kp, F23.binds fun _ _ _ _ _ _ us hl => match us, hl with | [_, _], _ => rfl⟩
  have C24 : CalX P w K mg base 1 "_law_cell" (TCell K) := ⟨f24, fd24, ["_law_script", "_law_index"], ok_cell bl F24, m24, F24.kp, F24.binds fun _ _ _ _ _ _ us hl => match us, hl with | [_, _], _ => rfl⟩
  have C25 : CalX P w K mg base 2 "_law_generator" (TGen K) := ⟨f25, fd25, ["_law_script", "_law_index"], ok_gen bl C24 F25, m25, F25.kp, F25.binds fun _ _ _ _ _ _ us hl => match us, hl with | [_, _], _ => rfl⟩
  have C26 : CalX P w K mg base 1 "_law_keys" TKeysL := ⟨f26, fd26, ["_law_net_here", "_law_standing_here"], ok_keysL bl F26, m26, F26.kp, F26.binds fun _ _ _ _ _ _ us hl => match us, hl with | [_, _], _ => rfl⟩
  have C27 : CalX P w K mg base 3 "_law_net" TNetL := ⟨f27, fd27, ["_law_generator_here", "_law_houses", "_law_most", "_law_joined"], ok_netL bl C23 F27, m27, F27.kp, F27.binds fun _ _ _ _ _ _ us hl => match us, hl with | [_, _, _, _], _ => rfl⟩
  have C28 : CalX P w K mg base 3 "_law_standing" TStL := ⟨f28, fd28, ["_law_generator_here", "_law_net_here"], ok_stL C23 F28, m28, F28.kp, F28.binds fun _ _ _ _ _ _ us hl => match us, hl with | [_, _], _ => rfl⟩
  have C29 : CalX P w K mg base 3 "_law_free_standing" TFree := ⟨f29, fd29, ["_law_generator_here", "_law_net_here"], ok_free bl C23 F29, m29, F29.kp, F29.binds fun _ _ _ _ _ _ us hl => match us, hl with | [_, _], _ => rfl⟩
  have C32 : CalX P w K mg base 1 "_law_orders" TOrders := ⟨f32, fd32, ["_law_houses"], ok_orders bl F32, m32, F32.kp, F32.binds fun _ _ _ _ _ _ us hl => match us, hl with | [_], _ => rfl⟩
  have C33 : CalX P w K mg base 1 "_law_fits" TFits := ⟨f33, fd33, ["_law_keys_here", "_law_row"], ok_fits F33, m33, F33.kp, F33.binds fun _ _ _ _ _ _ us hl => match us, hl with | [_, _], _ => rfl⟩
  have C34 : CalX P w K mg base 1 "_law_round" TRound := ⟨f34, fd34, ["_law_houses", "_law_keys_here"], ok_round bl F34, m34, F34.kp, F34.binds fun _ _ _ _ _ _ us hl => match us, hl with | [_, _], _ => rfl⟩
  have C35 : CalX P w K mg base 3 "_law_six" TSix := ⟨f35, fd35, ["_law_generator_here"], ok_six bl C23 F35, m35, F35.kp, F35.binds fun _ _ _ _ _ _ us hl => match us, hl with | [_], _ => rfl⟩
  have K19 : CalK P w K mg base 7 "numbering" TNum ["standing", "net"] := ⟨f19, fd19, ["net", "standing"], ok_num bl C11 C18 F19, m19, F19.kp, bindK F19 fun _ _ _ _ _ _ ws hl => match ws, hl with | [_, _], _ => rfl⟩
  have K20 : CalK P w K mg base 7 "is_numbering" TIsNum ["value", "standing", "net"] := ⟨f20, fd20, ["net", "standing", "value"], ok_isNum bl C11 C6 C17 F20, m20, F20.kp, bindK F20 fun _ _ _ _ _ _ ws hl => match ws, hl with | [_, _, _], _ => rfl⟩
  have G36 : CalG P w K mg base 8 "_law_six_right" TSixR := ⟨f36, fd36, ["_law_generator_here"], ok_sixR bl C35 C26 C19 C34 C33 C23 C20 F36, m36, F36.kp, F36.binds fun _ _ _ _ _ _ us hl => match us, hl with | [_], _ => rfl⟩
  have G37 : CalG P w K mg base 8 "_law_right" TRight := ⟨f37, fd37, ["_law_generator_here"], ok_right bl C27 C28 C29 C26 C32 C19 K19 C34 C33 C23 C20 F37, m37, F37.kp, F37.binds fun _ _ _ _ _ _ us hl => match us, hl with | [_], _ => rfl⟩
  exact ok_law bl C25 G36 G37 C19 C20 K20 F38
end KR

open PySem PySem.W PyProof.Rows
set_option maxHeartbeats 0 in
theorem PySem.Challenge.cw_keyroads_k15_whole_numberings_holds : PySem.Challenge.rw_keyroads_k15_whole_numberings.Holds := by
  w_on; o_law; k_head; (case hw => w_witness2)
  k_fill
  refine KR.walkG (l := PySem.Challenge.rw_keyroads_k15_whole_numberings) (n := 63) (k := 9) (x := "_law_script") (T := KR.TLaw) rfl (by decide) rfl ⟨rfl, by decide, by decide⟩ (fun w h Y => PySem.W.kIn_of Y) ?F (fun K a ns M s => ⟨a, ns, rfl, s, fun _ => rfl⟩)
  case F =>
    intro w mg fa h KX G hmg
    refine KR.all_ok ?T hmg
    refine KR.Txt.mk ?d5 ?d6 ?d7 ?d8 ?d9 ?d10 ?d11 ?d12 ?d13 ?d14 ?d15 ?d17 ?d18 ?d19 ?d20 ?d22 ?d23 ?d24 ?d25 ?d26 ?d27 ?d28 ?d29 ?d32 ?d33 ?d34 ?d35 ?d36 ?d37 ?d38 ?b
    case d5 => refine' KR.has_mk KX G ?a ?l ?c ?k; (case a => k_is); (case l => k_is); (case c => k_is); (case k => k_is)
    case d6 => refine' KR.has_mk KX G ?a ?l ?c ?k; (case a => k_is); (case l => k_is); (case c => k_is); (case k => k_is)
    case d7 => refine' KR.has_mk KX G ?a ?l ?c ?k; (case a => k_is); (case l => k_is); (case c => k_is); (case k => k_is)
    case d8 => refine' KR.has_mk KX G ?a ?l ?c ?k; (case a => k_is); (case l => k_is); (case c => k_is); (case k => k_is)
    case d9 => refine' KR.has_mk KX G ?a ?l ?c ?k; (case a => k_is); (case l => k_is); (case c => k_is); (case k => k_is)
    case d10 => refine' KR.has_mk KX G ?a ?l ?c ?k; (case a => k_is); (case l => k_is); (case c => k_is); (case k => k_is)
    case d11 => refine' KR.has_mk KX G ?a ?l ?c ?k; (case a => k_is); (case l => k_is); (case c => k_is); (case k => k_is)
    case d12 => refine' KR.has_mk KX G ?a ?l ?c ?k; (case a => k_is); (case l => k_is); (case c => k_is); (case k => k_is)
    case d13 => refine' KR.has_mk KX G ?a ?l ?c ?k; (case a => k_is); (case l => k_is); (case c => k_is); (case k => k_is)
    case d14 => refine' KR.has_mk KX G ?a ?l ?c ?k; (case a => k_is); (case l => k_is); (case c => k_is); (case k => k_is)
    case d15 => refine' KR.has_mk KX G ?a ?l ?c ?k; (case a => k_is); (case l => k_is); (case c => k_is); (case k => k_is)
    case d17 => refine' KR.has_mk KX G ?a ?l ?c ?k; (case a => k_is); (case l => k_is); (case c => k_is); (case k => k_is)
    case d18 => refine' KR.has_mk KX G ?a ?l ?c ?k; (case a => k_is); (case l => k_is); (case c => k_is); (case k => k_is)
    case d19 => refine' KR.has_mk KX G ?a ?l ?c ?k; (case a => k_is); (case l => k_is); (case c => k_is); (case k => k_is)
    case d20 => refine' KR.has_mk KX G ?a ?l ?c ?k; (case a => k_is); (case l => k_is); (case c => k_is); (case k => k_is)
    case d22 => refine' KR.has_mk KX G ?a ?l ?c ?k; (case a => k_is); (case l => k_is); (case c => k_is); (case k => k_is)
    case d23 => refine' KR.has_mk KX G ?a ?l ?c ?k; (case a => k_is); (case l => k_is); (case c => k_is); (case k => k_is)
    case d24 => refine' KR.has_mk KX G ?a ?l ?c ?k; (case a => k_is); (case l => k_is); (case c => k_is); (case k => k_is)
    case d25 => refine' KR.has_mk KX G ?a ?l ?c ?k; (case a => k_is); (case l => k_is); (case c => k_is); (case k => k_is)
    case d26 => refine' KR.has_mk KX G ?a ?l ?c ?k; (case a => k_is); (case l => k_is); (case c => k_is); (case k => k_is)
    case d27 => refine' KR.has_mk KX G ?a ?l ?c ?k; (case a => k_is); (case l => k_is); (case c => k_is); (case k => k_is)
    case d28 => refine' KR.has_mk KX G ?a ?l ?c ?k; (case a => k_is); (case l => k_is); (case c => k_is); (case k => k_is)
    case d29 => refine' KR.has_mk KX G ?a ?l ?c ?k; (case a => k_is); (case l => k_is); (case c => k_is); (case k => k_is)
    case d32 => refine' KR.has_mk KX G ?a ?l ?c ?k; (case a => k_is); (case l => k_is); (case c => k_is); (case k => k_is)
    case d33 => refine' KR.has_mk KX G ?a ?l ?c ?k; (case a => k_is); (case l => k_is); (case c => k_is); (case k => k_is)
    case d34 => refine' KR.has_mk KX G ?a ?l ?c ?k; (case a => k_is); (case l => k_is); (case c => k_is); (case k => k_is)
    case d35 => refine' KR.has_mk KX G ?a ?l ?c ?k; (case a => k_is); (case l => k_is); (case c => k_is); (case k => k_is)
    case d36 => refine' KR.has_mk KX G ?a ?l ?c ?k; (case a => k_is); (case l => k_is); (case c => k_is); (case k => k_is)
    case d37 => refine' KR.has_mk KX G ?a ?l ?c ?k; (case a => k_is); (case l => k_is); (case c => k_is); (case k => k_is)
    case d38 => refine' KR.has_mk KX G ?a ?l ?c ?k; (case a => k_is); (case l => k_is); (case c => k_is); (case k => k_is)
    refine KR.Bl.mk (PySem.W.mg_none_of KX G ?z0) (PySem.W.mg_none_of KX G ?z1) (PySem.W.mg_none_of KX G ?z2) (PySem.W.mg_none_of KX G ?z3) (PySem.W.mg_none_of KX G ?z4) (PySem.W.mg_none_of KX G ?z5) (PySem.W.mg_none_of KX G ?z6) (PySem.W.mg_none_of KX G ?z7) (PySem.W.mg_none_of KX G ?z8) (PySem.W.mg_none_of KX G ?z9) (PySem.W.mg_none_of KX G ?z10) (PySem.W.mg_none_of KX G ?z11) (PySem.W.mg_none_of KX G ?z12) (PySem.W.mg_none_of KX G ?z13) (PySem.W.mg_none_of KX G ?z14)
    (case z0 => k_is)
    (case z1 => k_is)
    (case z2 => k_is)
    (case z3 => k_is)
    (case z4 => k_is)
    (case z5 => k_is)
    (case z6 => k_is)
    (case z7 => k_is)
    (case z8 => k_is)
    (case z9 => k_is)
    (case z10 => k_is)
    (case z11 => k_is)
    (case z12 => k_is)
    (case z13 => k_is)
    (case z14 => k_is)

