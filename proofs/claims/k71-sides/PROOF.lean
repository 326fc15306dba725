import PyProof.Rows.All
import Wide.All
import OpenK.AllK
import Wide.FinOn
import HandS.ForMost
import HandS.Walk
import HandS.Evl
import HandS.Codes
import HandS.Defaults
import HandS.IsInst
import HandS.DictComp
import HandS.Conv
import HandS.More
import HandS.SortInts
import KE.OsSort
import HandS.HeadEnd
import HandS.HeadHook1
import HandS.HeadHook2
import HandS.EndBits
import HandS.Wide
import HandS.Zip
import KE.KStateDown
import HandS.Words
import HandS.Head0
import HandS.Head1
import HandS.Head2
import PySem.Challenge.RW_lastother_k71_sides_of_called_people
set_option Elab.async false
set_option linter.all false
set_option maxRecDepth 100000
set_option maxHeartbeats 4000000
namespace LO
open PySem L2 Evl
abbrev D := PyData
/-! ### data in a heap: None, bools, ints, texts, lists, tuples -/
mutual
inductive Dt (H : Hp) : V → PyData → Prop
  | non : Dt H .non .none
  | bl (b : Bool) : Dt H (.bl b) (.bool b)
  | int (i : Int) : Dt H (.int i) (.int i)
  | str (x : Str) : Dt H (.str x) (.str x)
  | lst {a : Addr} {xs : List V} {ds : List PyData} : H a = some (.lst xs) → DtAll H xs ds → Dt H (.ref a) (.list ds)
  | tup {a : Addr} {xs : List V} {ds : List PyData} : H a = some (.tup xs) → DtAll H xs ds → Dt H (.ref a) (.tuple ds)
  | emp {a : Addr} : H a = some (.dK []) → Dt H (.ref a) (.dict [])
inductive DtAll (H : Hp) : List V → List PyData → Prop
  | nil : DtAll H [] []
  | cons {v : V} {vs : List V} {d : PyData} {ds : List PyData} : Dt H v d → DtAll H vs ds → DtAll H (v :: vs) (d :: ds)
end
mutual
theorem Dt.dp {K : PySem.W.Frag} {H : Hp} : ∀ {d : PyData} {v : V}, d.canLay0 = true → Dt H v d → Dp K H v d
  | .none, _, _, h => by cases h; exact .non
  | .bool b, _, _, h => by cases h; exact .bl b
  | .int i, _, _, h => by cases h; exact .int i
  | .str x, _, _, h => by cases h; exact .str x
  | .list ds, _, c, h => by
    cases h with
    | lst hs ha => exact .lst (.inl (.inl hs)) (DtAll.dp (by simpa only [PyData.canLay0] using c) ha)
  | .tuple ds, _, c, h => by
    cases h with
    | tup hs ha => exact .tup (.inl (.inl hs)) (DtAll.dp (by simpa only [PyData.canLay0] using c) ha)
  | .dict _, _, c, _ => by simp only [PyData.canLay0] at c; cases c
theorem DtAll.dp {K : PySem.W.Frag} {H : Hp} : ∀ {ds : List PyData} {vs : List V}, PyData.canLayAll0 ds = true → DtAll H vs ds → DpAll K H vs ds
  | [], _, _, h => by cases h; exact .nil
  | d :: ds, _, c, h => by
    simp only [PyData.canLayAll0, Bool.and_eq_true] at c
    cases h with
    | cons h1 h2 => exact .cons (Dt.dp c.1 h1) (DtAll.dp c.2 h2)
end
mutual
theorem Dt.mono {H H' : Hp} (e : Ex H H') : ∀ {d : PyData} {v : V}, Dt H v d → Dt H' v d
  | .none, _, h => by cases h; exact .non
  | .bool b, _, h => by cases h; exact .bl b
  | .int i, _, h => by cases h; exact .int i
  | .str x, _, h => by cases h; exact .str x
  | .list ds, _, h => by
    cases h with
    | lst hs ha => exact .lst (e _ _ hs) (DtAll.mono e ha)
  | .tuple ds, _, h => by
    cases h with
    | tup hs ha => exact .tup (e _ _ hs) (DtAll.mono e ha)
  | .dict _, _, h => by
    cases h with
    | emp e1 => exact .emp (e _ _ e1)
theorem DtAll.mono {H H' : Hp} (e : Ex H H') : ∀ {ds : List PyData} {vs : List V}, DtAll H vs ds → DtAll H' vs ds
  | [], _, h => by cases h; exact .nil
  | d :: ds, _, h => by
    cases h with
    | cons h1 h2 => exact .cons (Dt.mono e h1) (DtAll.mono e h2)
end
theorem DtAll.length {H : Hp} : ∀ {ds : List PyData} {vs : List V}, DtAll H vs ds → vs.length = ds.length
  | [], _, h => by cases h; rfl
  | d :: ds, _, h => by
    cases h with
    | cons h1 h2 => simp [DtAll.length h2]
theorem DtAll.get {H : Hp} : ∀ {ds : List PyData} {vs : List V} {i : Nat} {d : PyData}, DtAll H vs ds → ds[i]? = some d → ∃ v, vs[i]? = some v ∧ Dt H v d
  | [], _, i, d, h, e => by simp at e
  | d' :: ds, _, 0, d, h, e => by
    cases h with
    | cons h1 h2 =>
      simp at e
      subst e
      exact ⟨_, rfl, h1⟩
  | d' :: ds, _, i + 1, d, h, e => by
    cases h with
    | cons h1 h2 =>
      obtain ⟨v, a, b⟩ := DtAll.get (i := i) (d := d) h2 (by simpa using e)
      exact ⟨v, by simpa using a, b⟩
theorem DtAll.getV {H : Hp} {ds : List PyData} {vs : List V} {i : Nat} {v : V} (h : DtAll H vs ds) (e : vs[i]? = some v) : ∃ d, ds[i]? = some d ∧ Dt H v d := by
  have hi : i < vs.length := (List.getElem?_eq_some_iff.mp e).1
  rw [h.length] at hi
  obtain ⟨w, a, b⟩ := h.get (i := i) (d := ds[i]) (by simp [hi])
  rw [e] at a
  cases a
  exact ⟨ds[i], by simp [hi], b⟩
theorem DtAll.append {H : Hp} : ∀ {ds es : List PyData} {vs ws : List V}, DtAll H vs ds → DtAll H ws es → DtAll H (vs ++ ws) (ds ++ es)
  | [], _, _, _, h, h' => by cases h; exact h'
  | d :: ds, _, _, _, h, h' => by
    cases h with
    | cons h1 h2 => exact .cons h1 (DtAll.append h2 h')
theorem DtAll.one {H : Hp} {d : PyData} {v : V} (h : Dt H v d) : DtAll H [v] [d] := .cons h .nil
theorem DtAll.take {H : Hp} : ∀ (n : Nat) {ds : List PyData} {vs : List V}, DtAll H vs ds → DtAll H (vs.take n) (ds.take n)
  | 0, _, _, _ => by simp; exact .nil
  | n + 1, [], _, h => by cases h; exact .nil
  | n + 1, d :: ds, _, h => by
    cases h with
    | cons h1 h2 => exact .cons h1 (DtAll.take n h2)
theorem DtAll.drop {H : Hp} : ∀ (n : Nat) {ds : List PyData} {vs : List V}, DtAll H vs ds → DtAll H (vs.drop n) (ds.drop n)
  | 0, _, _, h => h
  | n + 1, [], _, h => by cases h; exact .nil
  | n + 1, d :: ds, _, h => by
    cases h with
    | cons h1 h2 => exact DtAll.drop n h2
theorem DtAll.set {H : Hp} {d : PyData} {v : V} (q : Dt H v d) : ∀ (n : Nat) {ds : List PyData} {vs : List V}, DtAll H vs ds → DtAll H (vs.set n v) (ds.set n d)
  | _, [], _, h => by cases h; exact .nil
  | 0, _ :: ds, _, h => by
    cases h with
    | cons h1 h2 => exact .cons q h2
  | n + 1, _ :: ds, _, h => by
    cases h with
    | cons h1 h2 => exact .cons h1 (DtAll.set q n h2)
theorem DtAll.eraseIdx {H : Hp} : ∀ (n : Nat) {ds : List PyData} {vs : List V}, DtAll H vs ds → DtAll H (vs.eraseIdx n) (ds.eraseIdx n)
  | _, [], _, h => by cases h; exact .nil
  | 0, _ :: ds, _, h => by
    cases h with
    | cons h1 h2 => exact h2
  | n + 1, _ :: ds, _, h => by
    cases h with
    | cons h1 h2 => exact .cons h1 (DtAll.eraseIdx n h2)
theorem DtAll.reverse {H : Hp} : ∀ {ds : List PyData} {vs : List V}, DtAll H vs ds → DtAll H vs.reverse ds.reverse
  | [], _, h => by cases h; exact .nil
  | _ :: ds, _, h => by
    cases h with
    | cons h1 h2 =>
      rw [List.reverse_cons, List.reverse_cons]
      exact (DtAll.reverse h2).append (.one h1)
theorem DtAll.dropLast {H : Hp} {ds : List PyData} {vs : List V} (h : DtAll H vs ds) : DtAll H vs.dropLast ds.dropLast := by
  rw [List.dropLast_eq_take, List.dropLast_eq_take, h.length]
  exact h.take _
/-- ints, texts, bools, as they stand in a list -/
theorem DtAll.ints {H : Hp} : ∀ {ns : List Int} {vs : List V}, DtAll H vs (ns.map PyData.int) → vs = ns.map V.int
  | [], _, h => by cases h; rfl
  | n :: ns, _, h => by
    cases h with
    | cons h1 h2 => cases h1; rw [DtAll.ints h2]; rfl
theorem DtAll.ofInts {H : Hp} : ∀ (ns : List Int), DtAll H (ns.map V.int) (ns.map PyData.int)
  | [] => .nil
  | n :: ns => .cons (.int n) (DtAll.ofInts ns)
theorem DtAll.strs {H : Hp} : ∀ {ns : List Str} {vs : List V}, DtAll H vs (ns.map PyData.str) → vs = ns.map V.str
  | [], _, h => by cases h; rfl
  | n :: ns, _, h => by
    cases h with
    | cons h1 h2 => cases h1; rw [DtAll.strs h2]; rfl
theorem DtAll.ofStrs {H : Hp} : ∀ (ns : List Str), DtAll H (ns.map V.str) (ns.map PyData.str)
  | [] => .nil
  | n :: ns => .cons (.str n) (DtAll.ofStrs ns)
theorem DtAll.bls {H : Hp} : ∀ {ns : List Bool} {vs : List V}, DtAll H vs (ns.map PyData.bool) → vs = ns.map V.bl
  | [], _, h => by cases h; rfl
  | n :: ns, _, h => by
    cases h with
    | cons h1 h2 => cases h1; rw [DtAll.bls h2]; rfl

/-! ### how the heap and what is known of it grow -/
/-- KH: what is known for good (never written again). The objects of H all stay; what was not known does not come to be known, but new objects do -/
structure Grow (H KH H' KH' : Hp) : Prop where
  ex : Ex H H'
  kx : Ex KH KH'
  up : Ex KH' H'
  ns : ∀ p, H p ≠ none → KH p = none → KH' p = none
theorem Grow.refl {H KH : Hp} (u : Ex KH H) : Grow H KH H KH := ⟨Ex.refl H, Ex.refl KH, u, fun _ _ h => h⟩
theorem ex_ne {H H' : Hp} (e : Ex H H') {p : Addr} (h : H p ≠ none) : H' p ≠ none := by
  cases q : H p with
  | none => exact absurd q h
  | some o => rw [e p o q]; exact fun z => nomatch z
theorem Grow.trans {H KH H1 KH1 H2 KH2 : Hp} (a : Grow H KH H1 KH1) (b : Grow H1 KH1 H2 KH2) : Grow H KH H2 KH2 :=
  ⟨Ex.trans a.ex b.ex, Ex.trans a.kx b.kx, b.up, fun p h k => b.ns p (ex_ne a.ex h) (a.ns p h k)⟩
theorem Grow.new {H KH : Hp} (u : Ex KH H) {p : Addr} (h : H p = none) (o : HO) : Grow H KH (upd H p o) (upd KH p o) := by
  have hk : KH p = none := fresh_back u h
  refine ⟨Ex.new h, Ex.new hk, fun a w e => ?_, fun q hq hk => ?_⟩
  · by_cases e1 : a = p
    · subst e1; rw [upd_same] at e ⊢; exact e
    · rw [upd_ne e1] at e ⊢; exact u a w e
  · have : q ≠ p := fun z => hq (z ▸ h)
    rw [upd_ne this]; exact hk
/-- a new object that will be written again -/
theorem Grow.newO {H KH : Hp} (u : Ex KH H) {p : Addr} (h : H p = none) (o : HO) : Grow H KH (upd H p o) KH :=
  ⟨Ex.new h, Ex.refl _, fun a w e => by
    have : a ≠ p := fun z => by rw [z, fresh_back u h] at e; cases e
    rw [upd_ne this]; exact u a w e, fun _ _ k => k⟩

/-! ### what the slots hold -/
inductive Own where
  | lst (ds : List D)
  | dK (kvs : List (Key × D))
  | raw (a : Addr) (φ : HO → Prop)
inductive Slo where
  | no
  | dat (d : D)
  | tmp (d : D)
  | own (o : Own)
  | scr (K : PySem.W.Frag) (ns : List Int)
abbrev Gm := List Slo
def KVd (H : Hp) : List (Key × V) → List (Key × D) → Prop := Paired fun p q => p.1 = q.1 ∧ Dt H p.2 q.2
def OwnAt (H KH : Hp) (p : Addr) : Own → Prop
  | .lst ds => ∃ vs, H p = some (.lst vs) ∧ DtAll KH vs ds
  | .dK kvs => ∃ vs, H p = some (.dK vs) ∧ KVd KH vs kvs
  | .raw a φ => p = a ∧ ∃ o, H p = some o ∧ φ o
theorem KVd.mono {H H' : Hp} (e : Ex H H') {a : List (Key × V)} {b : List (Key × D)} (h : KVd H a b) : KVd H' a b := Paired.mapP h fun _ _ z => ⟨z.1, Dt.mono e z.2⟩
theorem OwnAt.some {H KH : Hp} {p : Addr} : ∀ {o : Own}, OwnAt H KH p o → ∃ u, H p = some u
  | .lst _, ⟨_, e, _⟩ => ⟨_, e⟩
  | .dK _, ⟨_, e, _⟩ => ⟨_, e⟩
  | .raw _ _, ⟨_, _, e, _⟩ => ⟨_, e⟩
theorem OwnAt.mono {H KH H' KH' : Hp} {p : Addr} (e : H' p = H p) (k : Ex KH KH') : ∀ {o : Own}, OwnAt H KH p o → OwnAt H' KH' p o
  | .lst _, ⟨_, h, d⟩ => ⟨_, e.trans h, DtAll.mono k d⟩
  | .dK _, ⟨_, h, d⟩ => ⟨_, e.trans h, KVd.mono k d⟩
  | .raw _ _, ⟨y, _, h, d⟩ => ⟨y, _, e.trans h, d⟩
/-- one slot -/
def SloOk (H KH : Hp) (v : Option V) : Slo → Prop
  | .no => True
  | .dat d => ∃ x, v = some x ∧ Dt KH x d
  | .tmp d => ∃ x, v = some x ∧ Dt H x d
  | .own o => ∃ p, v = some (.ref p) ∧ KH p = none ∧ OwnAt H KH p o
  | .scr K ns => ∃ p, v = some (.ref p) ∧ SqL K KH p (ns.map V.int)
theorem SloOk.grow {H KH H' KH' : Hp} {v : Option V} (g : Grow H KH H' KH') : ∀ {s : Slo}, SloOk H KH v s → SloOk H' KH' v s
  | .no, _ => trivial
  | .dat _, ⟨x, e, d⟩ => ⟨x, e, Dt.mono g.kx d⟩
  | .tmp _, ⟨x, e, d⟩ => ⟨x, e, Dt.mono g.ex d⟩
  | .own _, ⟨p, e, k, o⟩ => by
    obtain ⟨u, hu⟩ := o.some
    exact ⟨p, e, g.ns p (by rw [hu]; exact fun z => nomatch z) k, o.mono ((g.ex p u hu).trans hu.symm) g.kx⟩
  | .scr _ _, ⟨p, e, h⟩ => ⟨p, e, ex_l g.kx h⟩
/-- the slots and the heap: KH is what is known; what is owned is not known, and held by one slot alone -/
structure Envo (H KH : Hp) (σ : L2.St) (Γ : Gm) : Prop where
  up : Ex KH H
  len : σ.length = Γ.length
  at_ : ∀ (i : Nat) (s : Slo), Γ[i]? = some s → ∃ v, σ[i]? = some v ∧ SloOk H KH v s
  sep : ∀ (i j : Nat) (o o' : Own) (p : Addr), i ≠ j → Γ[i]? = some (.own o) → Γ[j]? = some (.own o') → σ[i]? = some (some (.ref p)) → σ[j]? ≠ some (some (.ref p))
theorem Envo.grow {H KH H' KH' : Hp} {σ : L2.St} {Γ : Gm} (E : Envo H KH σ Γ) (g : Grow H KH H' KH') : Envo H' KH' σ Γ :=
  ⟨g.up, E.len, fun i s h => let ⟨v, e, k⟩ := E.at_ i s h; ⟨v, e, k.grow g⟩, E.sep⟩
theorem Envo.dat {H KH : Hp} {σ : L2.St} {Γ : Gm} {i : Nat} {d : D} (E : Envo H KH σ Γ) (h : Γ[i]? = some (.dat d)) : ∃ v, σ[i]? = some (some v) ∧ Dt KH v d := by
  obtain ⟨v, e, x, rfl, k⟩ := E.at_ i _ h
  exact ⟨x, e, k⟩
theorem Envo.tmp {H KH : Hp} {σ : L2.St} {Γ : Gm} {i : Nat} {d : D} (E : Envo H KH σ Γ) (h : Γ[i]? = some (.tmp d)) : ∃ v, σ[i]? = some (some v) ∧ Dt H v d := by
  obtain ⟨v, e, x, rfl, k⟩ := E.at_ i _ h
  exact ⟨x, e, k⟩
theorem Envo.own {H KH : Hp} {σ : L2.St} {Γ : Gm} {i : Nat} {o : Own} (E : Envo H KH σ Γ) (h : Γ[i]? = some (.own o)) : ∃ p, σ[i]? = some (some (.ref p)) ∧ KH p = none ∧ OwnAt H KH p o := by
  obtain ⟨v, e, p, rfl, k, q⟩ := E.at_ i _ h
  exact ⟨p, e, k, q⟩
/-- a name is stored: data -/
theorem Envo.setDat {H KH : Hp} {σ : L2.St} {Γ : Gm} {v : V} {d : D} (E : Envo H KH σ Γ) (i : Nat) (h : Dt KH v d) : Envo H KH (σ.set i (some v)) (Γ.set i (.dat d)) := by
  refine ⟨E.up, by simp [E.len], fun j s e => ?_, fun j l o o' p hne e1 e2 e3 => ?_⟩
  · by_cases hj : i = j
    · subst hj
      have hi : i < Γ.length := by have := (List.getElem?_eq_some_iff.mp e).1; simpa using this
      rw [List.getElem?_set_self hi] at e
      cases e
      exact ⟨_, List.getElem?_set_self (by rw [E.len]; exact hi), v, rfl, h⟩
    · rw [List.getElem?_set_ne hj] at e
      rw [List.getElem?_set_ne hj]
      exact E.at_ j s e
  · have g : ∀ (m : Nat) (oo : Own), (Γ.set i (.dat d))[m]? = some (.own oo) → i ≠ m ∧ Γ[m]? = some (.own oo) := fun m oo e => by
      by_cases hm : i = m
      · subst hm
        have hi : i < Γ.length := by have := (List.getElem?_eq_some_iff.mp e).1; simpa using this
        rw [List.getElem?_set_self hi] at e
        cases e
      · rw [List.getElem?_set_ne hm] at e
        exact ⟨hm, e⟩
    obtain ⟨n1, e1⟩ := g j o e1
    obtain ⟨n2, e2⟩ := g l o' e2
    rw [List.getElem?_set_ne n1] at e3
    rw [List.getElem?_set_ne n2]
    exact E.sep j l o o' p hne e1 e2 e3
/-- .. what is to be forgotten, or data that stand only for now -/
theorem Envo.setTmp {H KH : Hp} {σ : L2.St} {Γ : Gm} {v : V} {d : D} (E : Envo H KH σ Γ) (i : Nat) (h : Dt H v d) : Envo H KH (σ.set i (some v)) (Γ.set i (.tmp d)) := by
  refine ⟨E.up, by simp [E.len], fun j s e => ?_, fun j l o o' p hne e1 e2 e3 => ?_⟩
  · by_cases hj : i = j
    · subst hj
      have hi : i < Γ.length := by have := (List.getElem?_eq_some_iff.mp e).1; simpa using this
      rw [List.getElem?_set_self hi] at e
      cases e
      exact ⟨_, List.getElem?_set_self (by rw [E.len]; exact hi), v, rfl, h⟩
    · rw [List.getElem?_set_ne hj] at e
      rw [List.getElem?_set_ne hj]
      exact E.at_ j s e
  · have g : ∀ (m : Nat) (oo : Own), (Γ.set i (.tmp d))[m]? = some (.own oo) → i ≠ m ∧ Γ[m]? = some (.own oo) := fun m oo e => by
      by_cases hm : i = m
      · subst hm
        have hi : i < Γ.length := by have := (List.getElem?_eq_some_iff.mp e).1; simpa using this
        rw [List.getElem?_set_self hi] at e
        cases e
      · rw [List.getElem?_set_ne hm] at e
        exact ⟨hm, e⟩
    obtain ⟨n1, e1⟩ := g j o e1
    obtain ⟨n2, e2⟩ := g l o' e2
    rw [List.getElem?_set_ne n1] at e3
    rw [List.getElem?_set_ne n2]
    exact E.sep j l o o' p hne e1 e2 e3
/-- .. an object that no slot owns yet -/
theorem Envo.setOwn {H KH : Hp} {σ : L2.St} {Γ : Gm} {p : Addr} {o : Own} (E : Envo H KH σ Γ) (i : Nat) (k : KH p = none) (h : OwnAt H KH p o)
    (hn : ∀ (j : Nat) (o' : Own), Γ[j]? = some (.own o') → σ[j]? ≠ some (some (.ref p))) : Envo H KH (σ.set i (some (.ref p))) (Γ.set i (.own o)) := by
  refine ⟨E.up, by simp [E.len], fun j s e => ?_, fun j l o1 o2 q hne e1 e2 e3 => ?_⟩
  · by_cases hj : i = j
    · subst hj
      have hi : i < Γ.length := by have := (List.getElem?_eq_some_iff.mp e).1; simpa using this
      rw [List.getElem?_set_self hi] at e
      cases e
      exact ⟨_, List.getElem?_set_self (by rw [E.len]; exact hi), p, rfl, k, h⟩
    · rw [List.getElem?_set_ne hj] at e
      rw [List.getElem?_set_ne hj]
      exact E.at_ j s e
  · have lt : ∀ (m : Nat) (oo : Own), (Γ.set i (.own o))[m]? = some (.own oo) → m < σ.length := fun m oo e => by
      have := (List.getElem?_eq_some_iff.mp e).1
      rw [E.len]; simpa using this
    by_cases hj : i = j
    · subst hj
      rw [List.getElem?_set_self (lt i o1 e1)] at e3
      cases e3
      rw [List.getElem?_set_ne hne] at e2
      rw [List.getElem?_set_ne hne]
      exact hn l o2 e2
    · rw [List.getElem?_set_ne hj] at e1 e3
      by_cases hl : i = l
      · subst hl
        rw [List.getElem?_set_self (lt i o2 e2)]
        intro z
        cases z
        exact hn j o1 e1 e3
      · rw [List.getElem?_set_ne hl] at e2
        rw [List.getElem?_set_ne hl]
        exact E.sep j l o1 o2 q hne e1 e2 e3
theorem Envo.notNew {H KH : Hp} {σ : L2.St} {Γ : Gm} {p : Addr} (E : Envo H KH σ Γ) (h : H p = none) (j : Nat) (o' : Own) (e : Γ[j]? = some (.own o')) : σ[j]? ≠ some (some (.ref p)) := fun z => by
  obtain ⟨q, e1, _, ow⟩ := E.own e
  rw [e1] at z
  cases z
  obtain ⟨u, hu⟩ := ow.some
  rw [h] at hu
  cases hu
/-- what is known of slots may be forgotten -/
def Slo.le : Slo → Slo → Prop
  | _, .no => True
  | s, t => s = t
theorem Envo.weak {H KH : Hp} {σ : L2.St} {Γ Γ' : Gm} (E : Envo H KH σ Γ) (hl : Γ'.length = Γ.length) (h : ∀ (i : Nat) (s : Slo), Γ'[i]? = some s → s = .no ∨ Γ[i]? = some s) : Envo H KH σ Γ' := by
  refine ⟨E.up, E.len.trans hl.symm, fun i s e => ?_, fun i j o o' p hne e1 e2 => ?_⟩
  · rcases h i s e with rfl | q
    · have hi : i < σ.length := by rw [E.len, ← hl]; exact (List.getElem?_eq_some_iff.mp e).1
      exact ⟨σ[i], by simp [hi], trivial⟩
    · exact E.at_ i s q
  · rcases h i _ e1 with z | q1
    · cases z
    · rcases h j _ e2 with z | q2
      · cases z
      · exact E.sep i j o o' p hne q1 q2
/-- tmp from dat -/
theorem SloOk.toTmp {H KH : Hp} {v : Option V} {d : D} (u : Ex KH H) : SloOk H KH v (.dat d) → SloOk H KH v (.tmp d) := fun ⟨x, e, h⟩ => ⟨x, e, Dt.mono u h⟩
end LO
namespace LO
open PySem L2 Evl

/-! ### judgements: what a reading gives, by data -/
def sel (f : Bool) (H KH : Hp) : Hp := if f then KH else H
theorem sel_up {f : Bool} {H KH : Hp} (u : Ex KH H) : Ex (sel f H KH) H := by cases f with
  | true => exact u
  | false => exact Ex.refl H
theorem sel_grow {f : Bool} {H KH H' KH' : Hp} (g : Grow H KH H' KH') : Ex (sel f H KH) (sel f H' KH') := by cases f with
  | true => exact g.kx
  | false => exact g.ex
/-- te gives the data d: for good (f), or as things stand (not f) -/
def Ev (f : Bool) (Γ : Gm) (te : TE) (d : D) : Prop := ∀ σ H KH, Envo H KH σ Γ → ∀ Q : VK, (∀ v H' KH', Grow H KH H' KH' → Dt (sel f H' KH') v d → Q v H') → te σ H Q
def TEv (Γ : Gm) (tt : TT) (b : Bool) : Prop := ∀ σ H KH, Envo H KH σ Γ → ∀ Q : Bool → Hp → Prop, (∀ H' KH', Grow H KH H' KH' → Q b H') → tt σ H Q
def AEv (f : Bool) (Γ : Gm) (ta : TA) (ds : List D) : Prop := ∀ σ H KH, Envo H KH σ Γ → ∀ Q : List V → Hp → Prop, (∀ vs H' KH', Grow H KH H' KH' → DtAll (sel f H' KH') vs ds → Q vs H') → ta σ H Q
/-- te gives a new object that nobody else holds -/
def OEv (Γ : Gm) (te : TE) (o : Own) : Prop := ∀ σ H KH, Envo H KH σ Γ → ∀ Q : VK, (∀ p H' KH', Grow H KH H' KH' → H p = none → KH' p = none → OwnAt H' KH' p o → Q (.ref p) H') → te σ H Q
/-- te gives a list whose items are known for good -/
def LEv (Γ : Gm) (te : TE) (ds : List D) : Prop := ∀ σ H KH, Envo H KH σ Γ → ∀ Q : VK, (∀ p vs H' KH', Grow H KH H' KH' → H' p = some (.lst vs) → DtAll KH' vs ds → Q (.ref p) H') → te σ H Q
/-- a part of a slice -/
def PEv (Γ : Gm) (to : TO) (o : Option Int) : Prop := ∀ σ H KH, Envo H KH σ Γ → ∀ Q : Option Int → Hp → Prop, (∀ H' KH', Grow H KH H' KH' → Q o H') → to σ H Q

/-- what needs no heap -/
def Sc : D → Prop
  | .none => True
  | .bool _ => True
  | .int _ => True
  | .str _ => True
  | _ => False
theorem Dt.sc {H H' : Hp} : ∀ {d : D} {v : V}, Sc d → Dt H v d → Dt H' v d
  | .none, _, _, h => by cases h; exact .non
  | .bool b, _, _, h => by cases h; exact .bl b
  | .int i, _, _, h => by cases h; exact .int i
  | .str x, _, _, h => by cases h; exact .str x

section
variable {Γ : Gm} {f : Bool} {ta tb te tx : TE} {d d1 d2 d3 : D} {ds es : List D} {t u : TT} {b c : Bool} {K : PySem.W.Frag}
theorem Ev.toX (h : Ev true Γ te d) : Ev false Γ te d := fun σ H KH E Q q => h σ H KH E Q fun v H' KH' g k => q v H' KH' g (Dt.mono g.up k)
theorem AEv.toX {t : TA} (h : AEv true Γ t ds) : AEv false Γ t ds := fun σ H KH E Q q => h σ H KH E Q fun v H' KH' g k => q v H' KH' g (DtAll.mono g.up k)
theorem Ev.any (h : Ev true Γ te d) : Ev f Γ te d := by cases f with
  | true => exact h
  | false => exact h.toX
/-- a thing that needs no heap is known for good -/
theorem Ev.sc (s : Sc d) (h : Ev f Γ te d) : Ev true Γ te d := fun σ H KH E Q q => h σ H KH E Q fun v H' KH' g k => q v H' KH' g (Dt.sc s k)
theorem Ev.is (h : Ev f Γ te d) (e : d = d1) : Ev f Γ te d1 := e ▸ h
theorem TEv.is (h : TEv Γ t b) (e : b = c) : TEv Γ t c := e ▸ h
theorem OEv.is {o o' : Own} (h : OEv Γ te o) (e : o = o') : OEv Γ te o' := e ▸ h
theorem LEv.is (h : LEv Γ te ds) (e : ds = es) : LEv Γ te es := e ▸ h
/-- a new list, known from now on -/
theorem OEv.toD (h : OEv Γ te (.lst ds)) : Ev true Γ te (.list ds) := fun σ H KH E Q q => h σ H KH E Q fun p H' KH' g np kp ⟨vs, hp, hd⟩ => by
  have g2 : Grow H KH H' (upd KH' p (.lst vs)) := by
    refine ⟨g.ex, fun a o e => ?_, fun a o e => ?_, fun a ha hk => ?_⟩
    · rw [upd_ne (ne_of_none (g.kx a o e) kp)]; exact g.kx a o e
    · by_cases ea : a = p
      · subst ea; rw [upd_same] at e; rw [hp]; exact e
      · rw [upd_ne ea] at e; exact g.up a o e
    · have : a ≠ p := fun z => ha (z ▸ np)
      rw [upd_ne this]; exact g.ns a ha hk
  exact q _ H' _ g2 (.lst upd_same (DtAll.mono (Ex.new kp) hd))
theorem OEv.toL (h : OEv Γ te (.lst ds)) : LEv Γ te ds := fun σ H KH E Q q => h σ H KH E Q fun p H' KH' g _ _ ⟨vs, hp, hd⟩ => q p vs H' KH' g hp hd
theorem Ev.toL (h : Ev true Γ te (.list ds)) : LEv Γ te ds := fun σ H KH E Q q => h σ H KH E Q fun v H' KH' g k => by
  have k' : Dt KH' v (.list ds) := k
  cases k' with
  | lst hs ha => exact q _ _ H' KH' g (g.up _ _ hs) ha

/-! ### names, constants -/
theorem d_var {i : Nat} (h : Γ[i]? = some (.dat d)) : Ev true Γ (tVar i) d := fun σ H KH E Q q =>
  let ⟨v, e, k⟩ := E.dat h
  ⟨v, e, q v H KH (.refl E.up) k⟩
theorem x_tmp {i : Nat} (h : Γ[i]? = some (.tmp d)) : Ev false Γ (tVar i) d := fun σ H KH E Q q =>
  let ⟨v, e, k⟩ := E.tmp h
  ⟨v, e, q v H KH (.refl E.up) k⟩
theorem x_own {i : Nat} (h : Γ[i]? = some (.own (.lst ds))) : Ev false Γ (tVar i) (.list ds) := fun σ H KH E Q q =>
  let ⟨p, e, _, vs, hp, hd⟩ := E.own h
  ⟨_, e, q _ H KH (.refl E.up) (.lst hp (DtAll.mono E.up hd))⟩
theorem l_own {i : Nat} (h : Γ[i]? = some (.own (.lst ds))) : LEv Γ (tVar i) ds := fun σ H KH E Q q =>
  let ⟨p, e, _, vs, hp, hd⟩ := E.own h
  ⟨_, e, q p vs H KH (.refl E.up) hp hd⟩
theorem d_int {i : Int} : Ev true Γ (tC (.int i)) (.int i) := fun σ H KH E Q q => q _ H KH (.refl E.up) (.int i)
theorem d_str {x : Str} : Ev true Γ (tC (.str x)) (.str x) := fun σ H KH E Q q => q _ H KH (.refl E.up) (.str x)
theorem d_bl {b : Bool} : Ev true Γ (tC (.bl b)) (.bool b) := fun σ H KH E Q q => q _ H KH (.refl E.up) (.bl b)
theorem d_non : Ev true Γ (tC .non) .none := fun σ H KH E Q q => q _ H KH (.refl E.up) .non

/-! ### operators whose answer needs no heap -/
def RS (r : R2) (d1 d2 d : D) : Prop := ∀ x y H, Dt H x d1 → Dt H y d2 → ∀ Q : VK, (∀ z, (∀ H', Dt H' z d) → Q z H) → r x y H Q
theorem d_op {r : R2} {f1 f2 : Bool} (ha : Ev f1 Γ ta d1) (hb : Ev f2 Γ tb d2) (hr : RS r d1 d2 d) : Ev true Γ (tOp r ta tb) d := fun σ H KH E Q q =>
  ha σ H KH E _ fun x H1 KH1 g1 k1 => hb σ H1 KH1 (E.grow g1) _ fun y H2 KH2 g2 k2 =>
    hr x y H2 (Dt.mono g2.ex (Dt.mono (sel_up g1.up) k1)) (Dt.mono (sel_up g2.up) k2) Q fun z hz => q z H2 KH2 (g1.trans g2) (hz _)
theorem rs_I {g : Int → Int → V} {h : Int → Int → D} {C : Int → Int → Prop} {i j : Int} (hg : ∀ i j H, Dt H (g i j) (h i j)) (hc : C i j) : RS (rI C g) (.int i) (.int j) (h i j) := fun x y H h1 h2 Q q => by
  cases h1; cases h2
  exact ⟨i, j, rfl, rfl, hc, q _ fun H' => hg i j H'⟩
theorem rs_I0 {g : Int → Int → V} {h : Int → Int → D} {i j : Int} (hg : ∀ i j H, Dt H (g i j) (h i j)) : RS (rI0 g) (.int i) (.int j) (h i j) := fun x y H h1 h2 Q q => by
  cases h1; cases h2
  exact ⟨i, j, rfl, rfl, q _ fun H' => hg i j H'⟩
theorem rs_add {i j : Int} : RS (rI0 fun i j => .int (i + j)) (.int i) (.int j) (.int (i + j)) := rs_I0 (h := fun i j => .int (i + j)) fun i j _ => .int _
theorem rs_sub {i j : Int} : RS (rI0 fun i j => .int (i - j)) (.int i) (.int j) (.int (i - j)) := rs_I0 (h := fun i j => .int (i - j)) fun i j _ => .int _
theorem rs_mul {i j : Int} (hc : CMul i j) : RS (rI CMul fun i j => .int (i * j)) (.int i) (.int j) (.int (i * j)) := rs_I (h := fun i j => .int (i * j)) (fun i j _ => .int _) hc
theorem rs_fdiv {i j : Int} (hc : CDiv i j) : RS (rI CDiv fun i j => .int (i / j)) (.int i) (.int j) (.int (i / j)) := rs_I (h := fun i j => .int (i / j)) (fun i j _ => .int _) hc
theorem rs_mod {i j : Int} (hc : 0 < j) : RS (rI (fun _ j => 0 < j) fun i j => .int (i % j)) (.int i) (.int j) (.int (i % j)) := rs_I (h := fun i j => .int (i % j)) (fun i j _ => .int _) hc
theorem rs_pow {i j : Int} (hc : CPow i j) : RS (rI CPow fun i j => .int (i ^ j.toNat)) (.int i) (.int j) (.int (i ^ j.toNat)) := rs_I (h := fun i j => .int (i ^ j.toNat)) (fun i j _ => .int _) hc
theorem rs_lt {i j : Int} : RS (rI0 fun i j => .bl (decide (i < j))) (.int i) (.int j) (.bool (decide (i < j))) := rs_I0 (h := fun i j => .bool (decide (i < j))) fun i j _ => .bl _
theorem rs_le {i j : Int} : RS (rI0 fun i j => .bl (decide (i ≤ j))) (.int i) (.int j) (.bool (decide (i ≤ j))) := rs_I0 (h := fun i j => .bool (decide (i ≤ j))) fun i j _ => .bl _
theorem rs_gt {i j : Int} : RS (rI0 fun i j => .bl (decide (j < i))) (.int i) (.int j) (.bool (decide (j < i))) := rs_I0 (h := fun i j => .bool (decide (j < i))) fun i j _ => .bl _
theorem rs_ge {i j : Int} : RS (rI0 fun i j => .bl (decide (j ≤ i))) (.int i) (.int j) (.bool (decide (j ≤ i))) := rs_I0 (h := fun i j => .bool (decide (j ≤ i))) fun i j _ => .bl _
/-- == and != of things that need no heap -/
def sV : D → V
  | .none => .non
  | .bool b => .bl b
  | .int i => .int i
  | .str x => .str x
  | _ => .non
theorem Dt.sV {H : Hp} : ∀ {d : D} {v : V}, Sc d → Dt H v d → v = sV d
  | .none, _, _, h => by cases h; rfl
  | .bool b, _, _, h => by cases h; rfl
  | .int i, _, _, h => by cases h; rfl
  | .str x, _, _, h => by cases h; rfl
theorem rs_eq (s1 : Sc d1) (s2 : Sc d2) (h : scal (sV d1) (sV d2) = true) : RS rEq d1 d2 (.bool (decide (sV d1 = sV d2))) := fun x y H h1 h2 Q q => by
  rw [Dt.sV s1 h1, Dt.sV s2 h2]
  exact ⟨h, q _ fun H' => .bl _⟩
theorem rs_ne (s1 : Sc d1) (s2 : Sc d2) (h : scal (sV d1) (sV d2) = true) : RS rNe d1 d2 (.bool (!decide (sV d1 = sV d2))) := fun x y H h1 h2 Q q => by
  rw [Dt.sV s1 h1, Dt.sV s2 h2]
  exact ⟨h, q _ fun H' => .bl _⟩
theorem dec_int (i j : Int) : decide (V.int i = V.int j) = decide (i = j) := by
  by_cases e : i = j
  · rw [decide_eq_true e, decide_eq_true (by rw [e])]
  · rw [decide_eq_false e, decide_eq_false fun z => e (by cases z; rfl)]
theorem dec_str (i j : Str) : decide (V.str i = V.str j) = decide (i = j) := by
  by_cases e : i = j
  · rw [decide_eq_true e, decide_eq_true (by rw [e])]
  · rw [decide_eq_false e, decide_eq_false fun z => e (by cases z; rfl)]
theorem rs_eqI {i j : Int} : RS rEq (.int i) (.int j) (.bool (decide (i = j))) := by
  have h := rs_eq (d1 := .int i) (d2 := .int j) trivial trivial rfl
  rw [show sV (.int i) = V.int i from rfl, show sV (.int j) = V.int j from rfl, dec_int] at h
  exact h
theorem rs_neI {i j : Int} : RS rNe (.int i) (.int j) (.bool (!decide (i = j))) := by
  have h := rs_ne (d1 := .int i) (d2 := .int j) trivial trivial rfl
  rw [show sV (.int i) = V.int i from rfl, show sV (.int j) = V.int j from rfl, dec_int] at h
  exact h
theorem rs_eqS {i j : Str} : RS rEq (.str i) (.str j) (.bool (decide (i = j))) := by
  have h := rs_eq (d1 := .str i) (d2 := .str j) trivial trivial rfl
  rw [show sV (.str i) = V.str i from rfl, show sV (.str j) = V.str j from rfl, dec_str] at h
  exact h
theorem rs_neS {i j : Str} : RS rNe (.str i) (.str j) (.bool (!decide (i = j))) := by
  have h := rs_ne (d1 := .str i) (d2 := .str j) trivial trivial rfl
  rw [show sV (.str i) = V.str i from rfl, show sV (.str j) = V.str j from rfl, dec_str] at h
  exact h
/-- is None, is not None; is of bools -/
theorem rs_isN (s : Sc d) : RS (fun x y H Q => y = .non ∧ Q (.bl (decide (x = .non))) H) d .none (.bool (decide (sV d = .non))) := fun x y H h1 h2 Q q => by
  rw [Dt.sV s h1]; cases h2
  exact ⟨rfl, q _ fun H' => .bl _⟩
theorem rs_notN (s : Sc d) : RS (fun x y H Q => y = .non ∧ Q (.bl (!decide (x = .non))) H) d .none (.bool (!decide (sV d = .non))) := fun x y H h1 h2 Q q => by
  rw [Dt.sV s h1]; cases h2
  exact ⟨rfl, q _ fun H' => .bl _⟩
theorem rs_isB {a b : Bool} : RS (fun x y H Q => ∃ a b, x = .bl a ∧ y = .bl b ∧ Q (.bl (decide (a = b))) H) (.bool a) (.bool b) (.bool (decide (a = b))) := fun x y H h1 h2 Q q => by
  cases h1; cases h2
  exact ⟨a, b, rfl, rfl, q _ fun H' => .bl _⟩
theorem rs_notB {a b : Bool} : RS (fun x y H Q => ∃ a b, x = .bl a ∧ y = .bl b ∧ Q (.bl (!decide (a = b))) H) (.bool a) (.bool b) (.bool (!decide (a = b))) := fun x y H h1 h2 Q q => by
  cases h1; cases h2
  exact ⟨a, b, rfl, rfl, q _ fun H' => .bl _⟩
/-- == at any depth -/
theorem rs_eqD (s1 : SeqAt.shaped d1 = true) (s2 : SeqAt.shaped d2 = true) : RS (rEqD K) d1 d2 (.bool (PyData.eqv d1 d2)) := fun x y H h1 h2 Q q => ⟨d1, d2, h1.dp (SeqAt.canLay_of_shaped s1), h2.dp (SeqAt.canLay_of_shaped s2), s1, s2, q _ fun H' => .bl _⟩
theorem rs_neD (s1 : SeqAt.shaped d1 = true) (s2 : SeqAt.shaped d2 = true) : RS (rNeD K) d1 d2 (.bool (!PyData.eqv d1 d2)) := fun x y H h1 h2 Q q => ⟨d1, d2, h1.dp (SeqAt.canLay_of_shaped s1), h2.dp (SeqAt.canLay_of_shaped s2), s1, s2, q _ fun H' => .bl _⟩
/-- texts -/
theorem rs_cat {x y : Str} (h : x.length + y.length ≤ sizeLine) : RS (fun x y H Q => ∃ i j, x = .str i ∧ y = .str j ∧ i.length + j.length ≤ sizeLine ∧ Q (.str (i ++ j)) H) (.str x) (.str y) (.str (x ++ y)) := fun a b H h1 h2 Q q => by
  cases h1; cases h2
  exact ⟨x, y, rfl, rfl, h, q _ fun H' => .str _⟩
theorem rs_ixS {x : Str} {i : Int} {c : Nat} (hl : x.length ≤ sizeLine) (ha : atI x.cps.toList i = some c) : RS rIxS (.str x) (.int i) (.str ⟨#[c]⟩) := fun a b H h1 h2 Q q => by
  cases h1; cases h2
  exact ⟨x, i, c, rfl, rfl, hl, ha, q _ fun H' => .str _⟩
theorem rs_inS {c : Nat} {z : Str} : RS (fun x y H Q => ∃ (c : Nat) (z : Str), x = .str ⟨#[c]⟩ ∧ y = .str z ∧ Q (.bl (decide (c ∈ z.cps.toList))) H) (.str ⟨#[c]⟩) (.str z) (.bool (decide (c ∈ z.cps.toList))) := fun a b H h1 h2 Q q => by
  cases h1; cases h2
  exact ⟨c, z, rfl, rfl, q _ fun H' => .bl _⟩
theorem rs_notInS {c : Nat} {z : Str} : RS (fun x y H Q => ∃ (c : Nat) (z : Str), x = .str ⟨#[c]⟩ ∧ y = .str z ∧ Q (.bl (!decide (c ∈ z.cps.toList))) H) (.str ⟨#[c]⟩) (.str z) (.bool (!decide (c ∈ z.cps.toList))) := fun a b H h1 h2 Q q => by
  cases h1; cases h2
  exact ⟨c, z, rfl, rfl, q _ fun H' => .bl _⟩

/-! ### items -/
theorem DtAll.at {H : Hp} {vs : List V} {i : Int} (h : DtAll H vs ds) (e : atI ds i = some d) : ∃ v, atI vs i = some v ∧ Dt H v d := by
  unfold atI at e ⊢
  rw [h.length]
  cases q : ixN ds.length i with
  | none => rw [q] at e; cases e
  | some j =>
    rw [q] at e
    exact h.get e
theorem d_ixT {i : Int} (ha : Ev f Γ ta (.tuple ds)) {f2 : Bool} (hb : Ev f2 Γ tb (.int i)) (e : atI ds i = some d) : Ev f Γ (tOp (rIxT K) ta tb) d := fun σ H KH E Q q =>
  ha σ H KH E _ fun x H1 KH1 g1 k1 => hb σ H1 KH1 (E.grow g1) _ fun y H2 KH2 g2 k2 => by
    cases k1 with
    | tup hs hd =>
      cases k2
      have hd2 := DtAll.mono (sel_grow (f := f) g2) hd
      obtain ⟨v, a, k⟩ := hd2.at e
      exact ⟨_, _, i, v, rfl, rfl, .inl (.inl (g2.ex _ _ (sel_up g1.up _ _ hs))), a, q v H2 KH2 (g1.trans g2) k⟩
theorem d_ixL {i : Int} (ha : LEv Γ ta ds) {f2 : Bool} (hb : Ev f2 Γ tb (.int i)) (e : atI ds i = some d) : Ev true Γ (tOp (rIxL K) ta tb) d := fun σ H KH E Q q =>
  ha σ H KH E _ fun p vs H1 KH1 g1 hp hd => hb σ H1 KH1 (E.grow g1) _ fun y H2 KH2 g2 k2 => by
    cases k2
    obtain ⟨v, a, k⟩ := (DtAll.mono g2.kx hd).at e
    exact ⟨p, vs, i, v, rfl, rfl, .inl (.inl (g2.ex _ _ hp)), a, q v H2 KH2 (g1.trans g2) k⟩
theorem x_ixL {i : Int} (ha : Ev false Γ ta (.list ds)) {f2 : Bool} (hb : Ev f2 Γ tb (.int i)) (e : atI ds i = some d) : Ev false Γ (tOp (rIxL K) ta tb) d := fun σ H KH E Q q =>
  ha σ H KH E _ fun x H1 KH1 g1 k1 => hb σ H1 KH1 (E.grow g1) _ fun y H2 KH2 g2 k2 => by
    cases k1 with
    | lst hs hd =>
      cases k2
      obtain ⟨v, a, k⟩ := (DtAll.mono g2.ex hd).at e
      exact ⟨_, _, i, v, rfl, rfl, .inl (.inl (g2.ex _ _ hs)), a, q v H2 KH2 (g1.trans g2) k⟩

/-! ### arguments, displays -/
theorem a_nil : AEv f Γ tNil [] := fun σ H KH E Q q => q [] H KH (.refl E.up) .nil
theorem a_cons {tr : TA} (h : Ev f Γ te d) (hr : AEv f Γ tr ds) : AEv f Γ (tCons te tr) (d :: ds) := fun σ H KH E Q q =>
  h σ H KH E _ fun x H1 KH1 g1 k1 => hr σ H1 KH1 (E.grow g1) _ fun xs H2 KH2 g2 k2 => q _ H2 KH2 (g1.trans g2) (.cons (Dt.mono (sel_grow g2) k1) k2)
theorem o_lst {t : TA} (h : AEv true Γ t ds) (hl : ds.length ≤ sizeLine) : OEv Γ (tLst t) (.lst ds) := fun σ H KH E Q q =>
  h σ H KH E _ fun vs H1 KH1 g1 k1 => ⟨by rw [DtAll.length k1]; exact hl, fun p hp => q p _ KH1 (g1.trans (Grow.newO g1.up hp _)) (Ex.none' g1.ex hp) (Ex.none' g1.up hp) ⟨vs, upd_same, k1⟩⟩
where
  Ex.none' {H H' : Hp} (e : Ex H H') {p : Addr} (h : H' p = none) : H p = none := fresh_back e h
theorem x_lst {t : TA} (h : AEv false Γ t ds) (hl : ds.length ≤ sizeLine) : Ev false Γ (tLst t) (.list ds) := fun σ H KH E Q q =>
  h σ H KH E _ fun vs H1 KH1 g1 k1 => ⟨by rw [DtAll.length k1]; exact hl, fun p hp => q _ _ KH1 (g1.trans (Grow.newO g1.up hp _)) (.lst upd_same (DtAll.mono (Ex.new hp) k1))⟩
theorem d_tup {t : TA} (h : AEv f Γ t ds) (hl : ds.length ≤ sizeLine) : Ev f Γ (tTup t) (.tuple ds) := fun σ H KH E Q q =>
  h σ H KH E _ fun vs H1 KH1 g1 k1 => ⟨by rw [DtAll.length k1]; exact hl, fun p hp => by
    cases f with
    | true =>
      have kp : KH1 p = none := fresh_back g1.up hp
      exact q _ _ _ (g1.trans (Grow.new g1.up hp _)) (.tup upd_same (DtAll.mono (Ex.new kp) k1))
    | false => exact q _ _ KH1 (g1.trans (Grow.newO g1.up hp _)) (.tup upd_same (DtAll.mono (Ex.new hp) k1))⟩

/-! ### lists made -/
theorem o_cat (ha : LEv Γ ta ds) (hb : LEv Γ tb es) (hl : ds.length + es.length ≤ sizeLine) : OEv Γ (tOp rCat ta tb) (.lst (ds ++ es)) := fun σ H KH E Q q =>
  ha σ H KH E _ fun p vs H1 KH1 g1 hp hd => hb σ H1 KH1 (E.grow g1) _ fun p2 ws H2 KH2 g2 hp2 hd2 =>
    ⟨p, p2, vs, ws, rfl, rfl, g2.ex _ _ hp, hp2, by rw [DtAll.length hd, DtAll.length hd2]; exact hl, fun r hr =>
      q r _ KH2 ((g1.trans g2).trans (Grow.newO g2.up hr _)) (fresh_back (g1.trans g2).ex hr) (fresh_back g2.up hr) ⟨_, upd_same, (DtAll.mono g2.kx hd).append hd2⟩⟩
theorem DtAll.rep {H : Hp} {vs : List V} (h : DtAll H vs ds) : ∀ n : Nat, DtAll H (List.replicate n vs).flatten (List.replicate n ds).flatten
  | 0 => .nil
  | n + 1 => by
    rw [List.replicate_succ, List.replicate_succ, List.flatten_cons, List.flatten_cons]
    exact h.append (DtAll.rep h n)
theorem o_rep {k : Int} (ha : LEv Γ ta ds) {f2 : Bool} (hb : Ev f2 Γ tb (.int k)) (h1 : -(2 ^ 63) ≤ k) (h2 : k < 2 ^ 63) (hl : ds.length * k.toNat ≤ sizeLine) : OEv Γ (tOp rRep ta tb) (.lst (List.replicate k.toNat ds).flatten) := fun σ H KH E Q q =>
  ha σ H KH E _ fun p vs H1 KH1 g1 hp hd => hb σ H1 KH1 (E.grow g1) _ fun y H2 KH2 g2 k2 => by
    cases k2
    exact ⟨p, k, vs, rfl, rfl, g2.ex _ _ hp, h1, h2, by rw [DtAll.length hd]; exact hl, fun r hr =>
      q r _ KH2 ((g1.trans g2).trans (Grow.newO g2.up hr _)) (fresh_back (g1.trans g2).ex hr) (fresh_back g2.up hr) ⟨_, upd_same, (DtAll.mono g2.kx hd).rep _⟩⟩
theorem p_none : PEv Γ tNoPart none := fun σ H KH E Q q => q H KH (.refl E.up)
theorem p_some {i : Int} (h : Ev f Γ te (.int i)) : PEv Γ (tPart te) (some i) := fun σ H KH E Q q =>
  h σ H KH E _ fun x H1 KH1 g1 k1 => by
    cases k1
    exact ⟨i, rfl, q H1 KH1 g1⟩
/-- a cut of a list, by data -/
def cutL {α : Type} (xs : List α) (lo hi : Option Int) : List α := (xs.drop (HT.sIx xs.length 0 lo)).take (HT.sIx xs.length xs.length hi - HT.sIx xs.length 0 lo)
theorem DtAll.cut {H : Hp} {vs : List V} (h : DtAll H vs ds) (lo hi : Option Int) : DtAll H (cutV vs lo hi) (cutL ds lo hi) := by
  unfold cutV cutL
  rw [h.length]
  exact (h.drop _).take _
theorem o_sl {tl th : TO} {lo hi : Option Int} (ha : LEv Γ ta ds) (hl : PEv Γ tl lo) (hh : PEv Γ th hi) : OEv Γ (tSl (rSlL K) ta tl th) (.lst (cutL ds lo hi)) := fun σ H KH E Q q =>
  ha σ H KH E _ fun p vs H1 KH1 g1 hp hd => hl σ H1 KH1 (E.grow g1) _ fun H2 KH2 g2 => hh σ H2 KH2 ((E.grow g1).grow g2) _ fun H3 KH3 g3 =>
    have g := g2.trans g3
    ⟨p, vs, rfl, .inl (.inl (g.ex _ _ hp)), fun r hr => q r _ KH3 ((g1.trans g).trans (Grow.newO g.up hr _)) (fresh_back (g1.trans g).ex hr) (fresh_back g.up hr) ⟨_, upd_same, (DtAll.mono g.kx hd).cut lo hi⟩⟩
theorem d_slS {x : Str} {tl th : TO} {lo hi : Option Int} (ha : Ev f Γ ta (.str x)) (hl : PEv Γ tl lo) (hh : PEv Γ th hi) (hz : x.length ≤ sizeLine) : Ev true Γ (tSl rSlS ta tl th) (.str (cutS x lo hi)) := fun σ H KH E Q q =>
  ha σ H KH E _ fun v H1 KH1 g1 k1 => hl σ H1 KH1 (E.grow g1) _ fun H2 KH2 g2 => hh σ H2 KH2 ((E.grow g1).grow g2) _ fun H3 KH3 g3 => by
    cases k1
    exact ⟨x, rfl, hz, q _ H3 KH3 ((g1.trans g2).trans g3) (.str _)⟩

/-! ### tests -/
theorem t_test (h : Ev f Γ te (.bool b)) : TEv Γ (tTest te) b := fun σ H KH E Q q => h σ H KH E _ fun x H1 KH1 g k => by
  cases k
  exact ⟨b, rfl, q H1 KH1 g⟩
theorem t_B (h : Ev f Γ te (.bool b)) : TEv Γ (tB te) b := fun σ H KH E Q q => h σ H KH E _ fun x H1 KH1 g k => by
  cases k
  exact ⟨b, rfl, q H1 KH1 g⟩
theorem t_yes : TEv Γ tYes true := fun σ H KH E Q q => q H KH (.refl E.up)
theorem t_and (h1 : TEv Γ t b) (h2 : b = true → TEv Γ u c) : TEv Γ (tAnd t u) (b && c) := fun σ H KH E Q q => h1 σ H KH E _ fun H1 KH1 g => by
  cases b with
  | true =>
    show u σ H1 Q
    exact h2 rfl σ H1 KH1 (E.grow g) Q fun H2 KH2 g2 => q H2 KH2 (g.trans g2)
  | false => exact q H1 KH1 g
theorem t_or (h1 : TEv Γ t b) (h2 : b = false → TEv Γ u c) : TEv Γ (tOr t u) (b || c) := fun σ H KH E Q q => h1 σ H KH E _ fun H1 KH1 g => by
  cases b with
  | true => exact q H1 KH1 g
  | false =>
    show u σ H1 Q
    exact h2 rfl σ H1 KH1 (E.grow g) Q fun H2 KH2 g2 => q H2 KH2 (g.trans g2)
theorem t_not (h : TEv Γ t b) : TEv Γ (tNot t) (!b) := fun σ H KH E Q q => h σ H KH E _ fun H1 KH1 g => q H1 KH1 g
theorem d_andV {f2 : Bool} (h1 : Ev f Γ ta (.bool b)) (h2 : b = true → Ev f2 Γ tb (.bool c)) : Ev true Γ (tAndV ta tb) (.bool (b && c)) := fun σ H KH E Q q => h1 σ H KH E _ fun x H1 KH1 g k => by
  cases k
  refine ⟨b, rfl, ?_⟩
  cases b with
  | true =>
    show tb σ H1 Q
    exact h2 rfl σ H1 KH1 (E.grow g) Q fun v H2 KH2 g2 k2 => q v H2 KH2 (g.trans g2) (Dt.sc trivial k2)
  | false => exact q _ H1 KH1 g (.bl false)
theorem d_orV {f2 : Bool} (h1 : Ev f Γ ta (.bool b)) (h2 : b = false → Ev f2 Γ tb (.bool c)) : Ev true Γ (tOrV ta tb) (.bool (b || c)) := fun σ H KH E Q q => h1 σ H KH E _ fun x H1 KH1 g k => by
  cases k
  refine ⟨b, rfl, ?_⟩
  cases b with
  | true => exact q _ H1 KH1 g (.bl true)
  | false =>
    show tb σ H1 Q
    exact h2 rfl σ H1 KH1 (E.grow g) Q fun v H2 KH2 g2 k2 => q v H2 KH2 (g.trans g2) (Dt.sc trivial k2)
theorem d_notV (h1 : Ev f Γ ta (.bool b)) : Ev true Γ (tNotV ta) (.bool (!b)) := fun σ H KH E Q q => h1 σ H KH E _ fun x H1 KH1 g k => by
  cases k
  exact ⟨b, rfl, q _ H1 KH1 g (.bl _)⟩
theorem d_if (h : TEv Γ t b) (h1 : b = true → Ev f Γ ta d1) (h2 : b = false → Ev f Γ tb d2) : Ev f Γ (tIf t ta tb) (if b then d1 else d2) := fun σ H KH E Q q => h σ H KH E _ fun H1 KH1 g => by
  cases b with
  | true =>
    show ta σ H1 Q
    exact h1 rfl σ H1 KH1 (E.grow g) Q fun v H2 KH2 g2 k2 => q v H2 KH2 (g.trans g2) k2
  | false =>
    show tb σ H1 Q
    exact h2 rfl σ H1 KH1 (E.grow g) Q fun v H2 KH2 g2 k2 => q v H2 KH2 (g.trans g2) k2
theorem o_if {o1 o2 : Own} (h : TEv Γ t b) (h1 : b = true → OEv Γ ta o1) (h2 : b = false → OEv Γ tb o2) : OEv Γ (tIf t ta tb) (if b then o1 else o2) := fun σ H KH E Q q => h σ H KH E _ fun H1 KH1 g => by
  cases b with
  | true =>
    show ta σ H1 Q
    exact h1 rfl σ H1 KH1 (E.grow g) Q fun v H2 KH2 g2 n k k2 => q v H2 KH2 (g.trans g2) (fresh_back g.ex n) k k2
  | false =>
    show tb σ H1 Q
    exact h2 rfl σ H1 KH1 (E.grow g) Q fun v H2 KH2 g2 n k k2 => q v H2 KH2 (g.trans g2) (fresh_back g.ex n) k k2
theorem d_andF (h1 : Ev f Γ ta (.bool false)) : Ev true Γ (tAndV ta tb) (.bool false) := fun σ H KH E Q q => h1 σ H KH E _ fun x H1 KH1 g k => by
  cases k
  exact ⟨false, rfl, q _ H1 KH1 g (.bl false)⟩
theorem d_orT (h1 : Ev f Γ ta (.bool true)) : Ev true Γ (tOrV ta tb) (.bool true) := fun σ H KH E Q q => h1 σ H KH E _ fun x H1 KH1 g k => by
  cases k
  exact ⟨true, rfl, q _ H1 KH1 g (.bl true)⟩
theorem t_andF (h1 : TEv Γ t false) : TEv Γ (tAnd t u) false := fun σ H KH E Q q => h1 σ H KH E _ fun H1 KH1 g => q H1 KH1 g
theorem t_orT (h1 : TEv Γ t true) : TEv Γ (tOr t u) true := fun σ H KH E Q q => h1 σ H KH E _ fun H1 KH1 g => q H1 KH1 g
/-- a chain that ends at its first test -/
theorem d_chainF {r r' : R2} {f1 f2 : Bool} {tc : TE} (ha : Ev f1 Γ ta d1) (hb : Ev f2 Γ tb d2) (hr : RS r d1 d2 (.bool false)) : Ev true Γ (tChain r r' ta tb tc) (.bool false) := fun σ H KH E Q q =>
  ha σ H KH E _ fun x H1 KH1 g1 k1 => hb σ H1 KH1 (E.grow g1) _ fun y H2 KH2 g2 k2 =>
    hr x y H2 (Dt.mono g2.ex (Dt.mono (sel_up g1.up) k1)) (Dt.mono (sel_up g2.up) k2) _ fun z hz => by
      cases hz H2
      exact ⟨false, rfl, q _ H2 KH2 (g1.trans g2) (.bl false)⟩
/-- the script, as it was handed in -/
theorem x_scrIx {i : Nat} {ns : List Int} {j : Int} {n : Int} (h : Γ[i]? = some (.scr K ns)) {f2 : Bool} (hb : Ev f2 Γ tb (.int j)) (e : atI ns j = some n) : Ev true Γ (tOp (rIxL K) (tVar i) tb) (.int n) := fun σ H KH E Q q => by
  obtain ⟨v, ev, p, rfl, hs⟩ := E.at_ i _ h
  refine ⟨_, ev, hb σ H KH E _ fun y H2 KH2 g2 k2 => ?_⟩
  cases k2
  refine ⟨p, ns.map V.int, j, .int n, rfl, rfl, ex_l (Ex.trans E.up g2.ex) hs, ?_, q _ H2 KH2 g2 (.int n)⟩
  unfold atI at e ⊢
  rw [List.length_map]
  cases q : ixN ns.length j with
  | none => rw [q] at e; cases e
  | some m =>
    rw [q] at e
    have e' : ns[m]? = some n := e
    show (ns.map V.int)[m]? = some (V.int n)
    rw [List.getElem?_map, e']
    rfl
theorem o_scrSl {i : Nat} {ns : List Int} {tl th : TO} {lo hi : Option Int} (h : Γ[i]? = some (.scr K ns)) (hl : PEv Γ tl lo) (hh : PEv Γ th hi) : OEv Γ (tSl (rSlL K) (tVar i) tl th) (.lst ((cutL ns lo hi).map .int)) := fun σ H KH E Q q => by
  obtain ⟨v, ev, p, rfl, hs⟩ := E.at_ i _ h
  refine ⟨_, ev, hl σ H KH E _ fun H2 KH2 g2 => hh σ H2 KH2 (E.grow g2) _ fun H3 KH3 g3 => ?_⟩
  have g := g2.trans g3
  refine ⟨p, ns.map V.int, rfl, ex_l (Ex.trans E.up g.ex) hs, fun r hr => q r _ KH3 (g.trans (Grow.newO g.up hr _)) (fresh_back g.ex hr) (fresh_back g.up hr) ⟨_, upd_same, ?_⟩⟩
  have h1 := (DtAll.ofInts (H := KH3) ns).cut lo hi
  have e : cutL (ns.map PyData.int) lo hi = (cutL ns lo hi).map PyData.int := by unfold cutL; rw [List.length_map, List.map_take, List.map_drop]
  rw [e] at h1
  exact h1
/-- a <= b <= c -/
theorem d_chain {r r' : R2} {f1 f2 f3 : Bool} {tc : TE} (ha : Ev f1 Γ ta d1) (hb : Ev f2 Γ tb d2) (hr : RS r d1 d2 (.bool b)) (hc : b = true → Ev f3 Γ tc d3) (hr' : b = true → RS r' d2 d3 (.bool c)) : Ev true Γ (tChain r r' ta tb tc) (.bool (b && c)) := fun σ H KH E Q q =>
  ha σ H KH E _ fun x H1 KH1 g1 k1 => hb σ H1 KH1 (E.grow g1) _ fun y H2 KH2 g2 k2 =>
    hr x y H2 (Dt.mono g2.ex (Dt.mono (sel_up g1.up) k1)) (Dt.mono (sel_up g2.up) k2) _ fun z hz => by
      cases hz H2
      refine ⟨b, rfl, ?_⟩
      cases b with
      | true =>
        show tc σ H2 fun w' H4 => r' y w' H4 Q
        exact hc rfl σ H2 KH2 ((E.grow g1).grow g2) _ fun w H3 KH3 g3 k3 =>
          hr' rfl y w H3 (Dt.mono g3.ex (Dt.mono (sel_up g2.up) k2)) (Dt.mono (sel_up g3.up) k3) Q fun z hz => q z H3 KH3 ((g1.trans g2).trans g3) (hz _)
      | false => exact q _ H2 KH2 (g1.trans g2) (.bl false)
end
end LO
namespace LO
open PySem L2 Evl

/-! ### statements -/
/-- what a body leaves as it is (F), what it may know from the start (KE) -/
structure Bs where
  F : Hp
  KE : Hp
structure Sat (B : Bs) (H KH : Hp) (σ : L2.St) (Γ : Gm) : Prop where
  e : Envo H KH σ Γ
  g : Grow B.F B.KE H KH
  o : ∀ (i : Nat) (w : Own) (p : Addr), Γ[i]? = some (.own w) → σ[i]? = some (some (.ref p)) → B.F p = none
/-- where a block may end -/
structure Po where
  nx : Gm → Prop := fun _ => False
  bk : Gm → Prop := fun _ => False
  ct : Gm → Prop := fun _ => False
  rt : Gm → D → Prop := fun _ _ => False
  ro : Gm → Own → Prop := fun _ _ => False
  r2 : List D → List D → Prop := fun _ _ => False
/-- a new tuple of two new lists that nobody else holds -/
structure Fresh2 (F H KH : Hp) (v : V) (es fs : List D) : Prop where
  ex : ∃ p a b vs ws, v = .ref p ∧ F p = none ∧ F a = none ∧ F b = none ∧ KH p = none ∧ KH a = none ∧ KH b = none ∧ a ≠ b ∧ p ≠ a ∧ p ≠ b ∧ H p = some (.tup [.ref a, .ref b]) ∧ H a = some (.lst vs) ∧ H b = some (.lst ws) ∧ DtAll KH vs es ∧ DtAll KH ws fs
structure Ok (B : Bs) (KH : Hp) (R : Po) (Dn : Ends) : Prop where
  nx : ∀ σ' H' KH' Γ', R.nx Γ' → Ex KH KH' → Sat B H' KH' σ' Γ' → Dn.nx σ' H'
  bk : ∀ σ' H' KH' Γ', R.bk Γ' → Ex KH KH' → Sat B H' KH' σ' Γ' → Dn.bk σ' H'
  ct : ∀ σ' H' KH' Γ', R.ct Γ' → Ex KH KH' → Sat B H' KH' σ' Γ' → Dn.ct σ' H'
  rt : ∀ v σ' H' KH' Γ' d, R.rt Γ' d → Ex KH KH' → Sat B H' KH' σ' Γ' → Dt KH' v d → Dn.rt v H'
  ro : ∀ p σ' H' KH' Γ' o, R.ro Γ' o → Ex KH KH' → Sat B H' KH' σ' Γ' → B.F p = none → KH' p = none → OwnAt H' KH' p o → (∀ (j : Nat) (o' : Own), Γ'[j]? = some (.own o') → σ'[j]? ≠ some (some (.ref p))) → Dn.rt (.ref p) H'
  r2 : ∀ v σ' H' KH' Γ' es fs, R.r2 es fs → Ex KH KH' → Sat B H' KH' σ' Γ' → Fresh2 B.F H' KH' v es fs → Dn.rt v H'
def Wp (B : Bs) (Γ : Gm) (ts : TS) (R : Po) : Prop := ∀ σ H KH Dn, Sat B H KH σ Γ → Ok B KH R Dn → ts Dn σ H

section
variable {B : Bs} {Γ : Gm} {R : Po} {te ta tb : TE} {d d1 d2 : D} {ds : List D} {o : Own} {t u tz : TS} {c : TT} {b : Bool} {K : PySem.W.Frag}
theorem Ok.mono {KH KH' : Hp} {Dn : Ends} (k : Ok B KH R Dn) (e : Ex KH KH') : Ok B KH' R Dn :=
  ⟨fun σ' H' K2 Γ' r x s => k.nx σ' H' K2 Γ' r (Ex.trans e x) s, fun σ' H' K2 Γ' r x s => k.bk σ' H' K2 Γ' r (Ex.trans e x) s, fun σ' H' K2 Γ' r x s => k.ct σ' H' K2 Γ' r (Ex.trans e x) s,
   fun v σ' H' K2 Γ' d r x s => k.rt v σ' H' K2 Γ' d r (Ex.trans e x) s, fun p σ' H' K2 Γ' o r x s => k.ro p σ' H' K2 Γ' o r (Ex.trans e x) s, fun v σ' H' K2 Γ' es fs r x s => k.r2 v σ' H' K2 Γ' es fs r (Ex.trans e x) s⟩
theorem Sat.grow {H KH H' KH' : Hp} {σ : L2.St} (s : Sat B H KH σ Γ) (g : Grow H KH H' KH') : Sat B H' KH' σ Γ := ⟨s.e.grow g, s.g.trans g, s.o⟩
theorem own_set_dat {i j : Nat} {s : Slo} {w : Own} (hs : ∀ w, s ≠ .own w) (e : (Γ.set i s)[j]? = some (.own w)) : i ≠ j ∧ Γ[j]? = some (.own w) := by
  by_cases hj : i = j
  · subst hj
    have hi : i < Γ.length := by have := (List.getElem?_eq_some_iff.mp e).1; simpa using this
    rw [List.getElem?_set_self hi] at e
    cases e
    exact absurd rfl (hs w)
  · rw [List.getElem?_set_ne hj] at e
    exact ⟨hj, e⟩
theorem Sat.setDat {H KH : Hp} {σ : L2.St} {v : V} (s : Sat B H KH σ Γ) (i : Nat) (h : Dt KH v d) : Sat B H KH (σ.set i (some v)) (Γ.set i (.dat d)) :=
  ⟨s.e.setDat i h, s.g, fun j w p e1 e2 => by
    obtain ⟨n, e⟩ := own_set_dat (fun _ z => by cases z) e1
    rw [List.getElem?_set_ne n] at e2
    exact s.o j w p e e2⟩
theorem Sat.setTmp {H KH : Hp} {σ : L2.St} {v : V} (s : Sat B H KH σ Γ) (i : Nat) (h : Dt H v d) : Sat B H KH (σ.set i (some v)) (Γ.set i (.tmp d)) :=
  ⟨s.e.setTmp i h, s.g, fun j w p e1 e2 => by
    obtain ⟨n, e⟩ := own_set_dat (fun _ z => by cases z) e1
    rw [List.getElem?_set_ne n] at e2
    exact s.o j w p e e2⟩
theorem Sat.setOwn {H KH : Hp} {σ : L2.St} {p : Addr} (s : Sat B H KH σ Γ) (i : Nat) (f : B.F p = none) (k : KH p = none) (h : OwnAt H KH p o)
    (hn : ∀ (j : Nat) (o' : Own), Γ[j]? = some (.own o') → σ[j]? ≠ some (some (.ref p))) : Sat B H KH (σ.set i (some (.ref p))) (Γ.set i (.own o)) :=
  ⟨s.e.setOwn i k h hn, s.g, fun j w q e1 e2 => by
    by_cases hj : i = j
    · subst hj
      have hi : i < σ.length := by rw [s.e.len]; have := (List.getElem?_eq_some_iff.mp e1).1; simpa using this
      rw [List.getElem?_set_self hi] at e2
      cases e2
      exact f
    · rw [List.getElem?_set_ne hj] at e1 e2
      exact s.o j w q e1 e2⟩
theorem Sat.weak {H KH : Hp} {σ : L2.St} {Γ' : Gm} (s : Sat B H KH σ Γ) (hl : Γ'.length = Γ.length) (h : ∀ (i : Nat) (s : Slo), Γ'[i]? = some s → s = .no ∨ Γ[i]? = some s) : Sat B H KH σ Γ' :=
  ⟨s.e.weak hl h, s.g, fun i w p e1 e2 => by
    rcases h i _ e1 with z | z
    · cases z
    · exact s.o i w p z e2⟩
/-- an owned list may be known for good, and is owned no more -/
theorem Sat.freeze {H KH : Hp} {σ : L2.St} {i : Nat} (s : Sat B H KH σ Γ) (h : Γ[i]? = some (.own (.lst ds))) : ∃ KH', Ex KH KH' ∧ Sat B H KH' σ (Γ.set i (.dat (.list ds))) := by
  obtain ⟨p, e, kp, vs, hp, hd⟩ := s.e.own h
  have fp := s.o i _ p h e
  have kx : Ex KH (upd KH p (.lst vs)) := Ex.new kp
  have up : Ex (upd KH p (.lst vs)) H := fun a w q => by
    by_cases ea : a = p
    · subst ea; rw [upd_same] at q; rw [hp]; exact q
    · rw [upd_ne ea] at q; exact s.e.up a w q
  have own' : ∀ {j : Nat} {w : Own}, (Γ.set i (.dat (.list ds)))[j]? = some (.own w) → i ≠ j ∧ Γ[j]? = some (.own w) := fun q => own_set_dat (fun _ z => by cases z) q
  refine ⟨_, kx, ⟨up, by rw [s.e.len]; simp, fun j t q => ?_, fun j l o1 o2 r hne e1 e2 e3 => ?_⟩, ⟨s.g.ex, Ex.trans s.g.kx kx, up, fun q hq hk => ?_⟩, fun j w r e1 e2 => ?_⟩
  · by_cases hj : i = j
    · subst hj
      have hi : i < Γ.length := by have := (List.getElem?_eq_some_iff.mp q).1; simpa using this
      rw [List.getElem?_set_self hi] at q
      cases q
      exact ⟨_, e, _, rfl, .lst upd_same (DtAll.mono kx hd)⟩
    · rw [List.getElem?_set_ne hj] at q
      obtain ⟨v, ev, k⟩ := s.e.at_ j t q
      refine ⟨v, ev, ?_⟩
      cases t with
      | no => trivial
      | dat d =>
        obtain ⟨x, ex, dx⟩ := k
        exact ⟨x, ex, Dt.mono kx dx⟩
      | tmp d => exact k
      | own w =>
        obtain ⟨r, er, kr, ow⟩ := k
        have hne : r ≠ p := fun z => by
          subst er; subst z
          exact s.e.sep j i w _ r (Ne.symm hj) q h ev e
        exact ⟨r, er, by rw [upd_ne hne]; exact kr, ow.mono rfl kx⟩
      | scr K ns =>
        obtain ⟨r, er, kr⟩ := k
        exact ⟨r, er, ex_l kx kr⟩
  · obtain ⟨_, q1⟩ := own' e1
    obtain ⟨_, q2⟩ := own' e2
    exact s.e.sep j l o1 o2 r hne q1 q2 e3
  · have : q ≠ p := fun z => hq (z ▸ fp)
    rw [upd_ne this]
    exact s.g.ns q hq hk
  · exact s.o j w r (own' e1).2 e2

/-! ### the rules of statements -/
theorem w_use {M : Gm → Prop} (h : Wp B Γ t { R with nx := M }) (k : ∀ Γ', M Γ' → Wp B Γ' u R) : Wp B Γ (tSeq t u) R := fun σ H KH Dn s ok =>
  h σ H KH { Dn with nx := u Dn } s ⟨fun σ' H' KH' Γ' m e s' => k Γ' m σ' H' KH' Dn s' (ok.mono e), ok.bk, ok.ct, ok.rt, ok.ro, ok.r2⟩
theorem w_imp {R' : Po} (h : Wp B Γ t R) (nx : ∀ g, R.nx g → R'.nx g) (bk : ∀ g, R.bk g → R'.bk g) (ct : ∀ g, R.ct g → R'.ct g) (rt : ∀ g d, R.rt g d → R'.rt g d) (ro : ∀ g d, R.ro g d → R'.ro g d) (r2 : ∀ es fs, R.r2 es fs → R'.r2 es fs := by exact fun _ _ z => z) : Wp B Γ t R' := fun σ H KH Dn s ok =>
  h σ H KH Dn s ⟨fun _ _ _ _ r => ok.nx _ _ _ _ (nx _ r), fun _ _ _ _ r => ok.bk _ _ _ _ (bk _ r), fun _ _ _ _ r => ok.ct _ _ _ _ (ct _ r), fun _ _ _ _ _ _ r => ok.rt _ _ _ _ _ _ (rt _ _ r), fun _ _ _ _ _ _ r => ok.ro _ _ _ _ _ _ (ro _ _ r), fun _ _ _ _ _ _ _ r => ok.r2 _ _ _ _ _ _ _ (r2 _ _ r)⟩
theorem w_weak {Γ' : Gm} (hl : Γ'.length = Γ.length) (h : ∀ (i : Nat) (s : Slo), Γ'[i]? = some s → s = .no ∨ Γ[i]? = some s) (k : Wp B Γ' t R) : Wp B Γ t R := fun σ H KH Dn s ok => k σ H KH Dn (s.weak hl h) ok
theorem w_freeze (i : Nat) (h : Γ[i]? = some (.own (.lst ds))) (k : Wp B (Γ.set i (.dat (.list ds))) t R) : Wp B Γ t R := fun σ H KH Dn s ok =>
  let ⟨KH', e, s'⟩ := s.freeze h
  k σ H KH' Dn s' (ok.mono e)
theorem w_next (h : R.nx Γ) : Wp B Γ tNext R := fun σ H KH Dn s ok => ok.nx σ H KH Γ h (Ex.refl _) s
theorem w_break (h : R.bk Γ) : Wp B Γ tBreak R := fun σ H KH Dn s ok => ok.bk σ H KH Γ h (Ex.refl _) s
theorem w_cont (h : R.ct Γ) : Wp B Γ tCont R := fun σ H KH Dn s ok => ok.ct σ H KH Γ h (Ex.refl _) s
/-- x = e -/
theorem w_asg (i : Nat) (h : Ev true Γ te d) (k : Wp B (Γ.set i (.dat d)) tz R) : Wp B Γ (tSeq (tAsg te (gName i)) tz) R := fun σ H KH Dn s ok =>
  h σ H KH s.e _ fun v H1 KH1 g kv => k _ H1 KH1 Dn ((s.grow g).setDat i kv) (ok.mono g.kx)
theorem w_asg1 (i : Nat) (h : Ev true Γ te d) (k : R.nx (Γ.set i (.dat d))) : Wp B Γ (tAsg te (gName i)) R := fun σ H KH Dn s ok =>
  h σ H KH s.e _ fun v H1 KH1 g kv => ok.nx _ H1 KH1 _ k g.kx ((s.grow g).setDat i kv)
theorem w_asgX (i : Nat) (h : Ev false Γ te d) (k : Wp B (Γ.set i (.tmp d)) tz R) : Wp B Γ (tSeq (tAsg te (gName i)) tz) R := fun σ H KH Dn s ok =>
  h σ H KH s.e _ fun v H1 KH1 g kv => k _ H1 KH1 Dn ((s.grow g).setTmp i kv) (ok.mono g.kx)
/-- x = a new object -/
theorem w_asgO (i : Nat) (h : OEv Γ te o) (k : Wp B (Γ.set i (.own o)) tz R) : Wp B Γ (tSeq (tAsg te (gName i)) tz) R := fun σ H KH Dn s ok =>
  h σ H KH s.e _ fun p H1 KH1 g np kp ow => k _ H1 KH1 Dn ((s.grow g).setOwn i (fresh_back s.g.ex np) kp ow (s.e.notNew np)) (ok.mono g.kx)
theorem w_asgO1 (i : Nat) (h : OEv Γ te o) (k : R.nx (Γ.set i (.own o))) : Wp B Γ (tAsg te (gName i)) R := fun σ H KH Dn s ok =>
  h σ H KH s.e _ fun p H1 KH1 g np kp ow => ok.nx _ H1 KH1 _ k g.kx ((s.grow g).setOwn i (fresh_back s.g.ex np) kp ow (s.e.notNew np))
/-- an expression's value is dropped -/
theorem w_drop {f : Bool} (h : Ev f Γ te d) (k : Wp B Γ tz R) : Wp B Γ (tSeq (tDrop te) tz) R := fun σ H KH Dn s ok =>
  h σ H KH s.e _ fun v H1 KH1 g _ => k σ H1 KH1 Dn (s.grow g) (ok.mono g.kx)
/-- a, b = a pair -/
theorem w_asg2 (i j : Nat) (hij : i ≠ j) (h : Ev true Γ te (.tuple [d1, d2])) (k : Wp B ((Γ.set i (.dat d1)).set j (.dat d2)) tz R) : Wp B Γ (tSeq (tAsg te (gTup K 2 (gCons (gName i) (gCons (gName j) gNil)))) tz) R := fun σ H KH Dn s ok =>
  h σ H KH s.e _ fun v H1 KH1 g kv => by
    have kv' : Dt KH1 v (.tuple [d1, d2]) := kv
    cases kv' with
    | tup hs hd =>
      cases hd with
      | cons h1 hd =>
        cases hd with
        | cons h2 hd =>
          cases hd
          exact ⟨_, _, rfl, .inl (.inl (g.up _ _ hs)), rfl, _, _, rfl, _, _, rfl, rfl, k _ H1 KH1 Dn (((s.grow g).setDat i h1).setDat j h2) (ok.mono g.kx)⟩
/-- a, b = x, y -/
theorem w_par (i j : Nat) {ta : TA} (h : AEv true Γ ta [d1, d2]) (k : Wp B ((Γ.set i (.dat d1)).set j (.dat d2)) tz R) : Wp B Γ (tSeq (tPar i j ta) tz) R := fun σ H KH Dn s ok =>
  h σ H KH s.e _ fun vs H1 KH1 g kv => by
    have kv' : DtAll KH1 vs [d1, d2] := kv
    cases kv' with
    | cons h1 hd =>
      cases hd with
      | cons h2 hd =>
        cases hd
        exact ⟨_, _, rfl, k _ H1 KH1 Dn (((s.grow g).setDat i h1).setDat j h2) (ok.mono g.kx)⟩
/-- return -/
theorem w_ret (h : Ev true Γ te d) (k : R.rt Γ d) : Wp B Γ (tRet te) R := fun σ H KH Dn s ok =>
  h σ H KH s.e _ fun v H1 KH1 g kv => ok.rt v σ H1 KH1 Γ d k g.kx (s.grow g) kv
theorem w_retO (h : OEv Γ te o) (k : R.ro Γ o) : Wp B Γ (tRet te) R := fun σ H KH Dn s ok =>
  h σ H KH s.e _ fun p H1 KH1 g np kp ow => ok.ro p σ H1 KH1 Γ o k g.kx (s.grow g) (fresh_back s.g.ex np) kp ow (s.e.notNew np)
theorem w_retV (i : Nat) (h : Γ[i]? = some (.own o)) (k : R.ro (Γ.set i .no) o) : Wp B Γ (tRet (tVar i)) R := fun σ H KH Dn s ok => by
  obtain ⟨p, e, kp, ow⟩ := s.e.own h
  refine ⟨_, e, ok.ro p σ H KH (Γ.set i .no) o k (Ex.refl _) (s.weak (by simp) fun j t q => ?_) (s.o i o p h e) kp ow fun j o' q z => ?_⟩
  · by_cases hj : i = j
    · subst hj
      have hi : i < Γ.length := by have := (List.getElem?_eq_some_iff.mp q).1; simpa using this
      rw [List.getElem?_set_self hi] at q
      cases q
      exact .inl rfl
    · rw [List.getElem?_set_ne hj] at q
      exact .inr q
  · obtain ⟨n, q⟩ := own_set_dat (fun _ z => by cases z) q
    exact s.e.sep i j o o' p n h q e z
/-- if -/
theorem w_if (h : TEv Γ c b) (h1 : b = true → Wp B Γ t R) (h2 : b = false → Wp B Γ u R) : Wp B Γ (tIfS c t u) R := fun σ H KH Dn s ok =>
  h σ H KH s.e _ fun H1 KH1 g => by
    cases b with
    | true =>
      show t Dn σ H1
      exact h1 rfl σ H1 KH1 Dn (s.grow g) (ok.mono g.kx)
    | false =>
      show u Dn σ H1
      exact h2 rfl σ H1 KH1 Dn (s.grow g) (ok.mono g.kx)
theorem w_ifS (h : TEv Γ c b) (h1 : b = true → Wp B Γ (tSeq t tz) R) (h2 : b = false → Wp B Γ (tSeq u tz) R) : Wp B Γ (tSeq (tIfS c t u) tz) R := fun σ H KH Dn s ok =>
  h σ H KH s.e _ fun H1 KH1 g => by
    cases b with
    | true => exact h1 rfl σ H1 KH1 Dn (s.grow g) (ok.mono g.kx)
    | false => exact h2 rfl σ H1 KH1 Dn (s.grow g) (ok.mono g.kx)
theorem w_seqNext (h : Wp B Γ tz R) : Wp B Γ (tSeq tNext tz) R := h
theorem w_seqRet {t : TS} (h : Wp B Γ (tRet te) R) : Wp B Γ (tSeq (tRet te) t) R := fun σ H KH Dn s ok => h σ H KH Dn s ok
theorem w_seqBrk {t : TS} (h : R.bk Γ) : Wp B Γ (tSeq tBreak t) R := fun σ H KH Dn s ok => ok.bk σ H KH Γ h (Ex.refl _) s
theorem w_seqCont {t : TS} (h : R.ct Γ) : Wp B Γ (tSeq tCont t) R := fun σ H KH Dn s ok => ok.ct σ H KH Γ h (Ex.refl _) s
theorem w_seqA {t1 t2 t3 : TS} (h : Wp B Γ (tSeq t1 (tSeq t2 t3)) R) : Wp B Γ (tSeq (tSeq t1 t2) t3) R := fun σ H KH Dn s ok => h σ H KH Dn s ok
end
end LO
namespace LO
open PySem L2 Evl

/-! ### targets -/
theorem wipe_get {σ : L2.St} : ∀ {vs : List Nat} {i : Nat}, i ∉ vs → (wipe σ vs)[i]? = σ[i]?
  | [], _, _ => rfl
  | v :: vs, i, h => by
    have h1 : i ≠ v := fun z => h (z ▸ List.mem_cons_self)
    have h2 : i ∉ vs := fun z => h (List.mem_cons_of_mem _ z)
    unfold wipe
    rw [List.getElem?_set_ne (Ne.symm h1)]
    exact wipe_get h2
theorem wipe_in {σ : L2.St} : ∀ {vs : List Nat} {i : Nat}, i ∈ vs → i < σ.length → (wipe σ vs)[i]? = some none
  | v :: vs, i, h, hl => by
    unfold wipe
    by_cases e : v = i
    · subst e
      rw [List.getElem?_set_self (by rw [wipe_length]; exact hl)]
    · rw [List.getElem?_set_ne e]
      have : i ∈ vs := by
        rcases List.mem_cons.mp h with z | z
        · exact absurd z.symm e
        · exact z
      exact wipe_in this hl
theorem wipe_eq {σ τ : L2.St} {vs : List Nat} (hl : τ.length = σ.length) (h : ∀ i, i ∉ vs → τ[i]? = σ[i]?) : wipe τ vs = wipe σ vs := by
  apply List.ext_getElem?
  intro i
  by_cases hi : i ∈ vs
  · by_cases hb : i < σ.length
    · rw [wipe_in hi hb, wipe_in hi (by rw [hl]; exact hb)]
    · rw [List.getElem?_eq_none (by rw [wipe_length, hl]; omega), List.getElem?_eq_none (by rw [wipe_length]; omega)]
  · rw [wipe_get hi, wipe_get hi]
    exact h i hi
theorem wipe_wipe {σ : L2.St} {vs : List Nat} : wipe (wipe σ vs) vs = wipe σ vs := wipe_eq (wipe_length _ _) fun _ h => wipe_get h
/-- forgetting slots -/
def wipeG (Γ : Gm) : List Nat → Gm
  | [] => Γ
  | v :: vs => (wipeG Γ vs).set v .no
theorem wipeG_length (Γ : Gm) : ∀ vs, (wipeG Γ vs).length = Γ.length
  | [] => rfl
  | v :: vs => by unfold wipeG; rw [List.length_set, wipeG_length Γ vs]
theorem wipeG_get {Γ : Gm} : ∀ {vs : List Nat} {i : Nat} {s : Slo}, (wipeG Γ vs)[i]? = some s → (i ∈ vs ∧ s = .no) ∨ (i ∉ vs ∧ Γ[i]? = some s)
  | [], i, s, h => .inr ⟨by simp, h⟩
  | v :: vs, i, s, h => by
    unfold wipeG at h
    by_cases e : v = i
    · subst e
      have hi : v < (wipeG Γ vs).length := by have := (List.getElem?_eq_some_iff.mp h).1; simpa using this
      rw [List.getElem?_set_self hi] at h
      cases h
      exact .inl ⟨List.mem_cons_self, rfl⟩
    · rw [List.getElem?_set_ne e] at h
      rcases wipeG_get h with ⟨a, b⟩ | ⟨a, b⟩
      · exact .inl ⟨List.mem_cons_of_mem _ a, b⟩
      · exact .inr ⟨fun z => (List.mem_cons.mp z).elim (fun q => e q.symm) a, b⟩
theorem Envo.wipe {H KH : Hp} {σ : L2.St} {Γ : Gm} (E : Envo H KH σ Γ) (vs : List Nat) : Envo H KH (L2.wipe σ vs) (wipeG Γ vs) := by
  refine ⟨E.up, by rw [wipe_length, wipeG_length]; exact E.len, fun i s h => ?_, fun i j o o' p hne e1 e2 e3 => ?_⟩
  · have hi : i < σ.length := by rw [E.len, ← wipeG_length Γ vs]; exact (List.getElem?_eq_some_iff.mp h).1
    rcases wipeG_get h with ⟨a, rfl⟩ | ⟨a, b⟩
    · exact ⟨none, wipe_in a hi, trivial⟩
    · obtain ⟨v, e, k⟩ := E.at_ i s b
      exact ⟨v, by rw [wipe_get a]; exact e, k⟩
  · rcases wipeG_get e1 with ⟨_, z⟩ | ⟨a1, b1⟩
    · cases z
    · rcases wipeG_get e2 with ⟨_, z⟩ | ⟨a2, b2⟩
      · cases z
      · rw [wipe_get a1] at e3
        rw [wipe_get a2]
        exact E.sep i j o o' p hne b1 b2 e3
theorem Sat.wipe {B : Bs} {H KH : Hp} {σ : L2.St} {Γ : Gm} (s : Sat B H KH σ Γ) (vs : List Nat) : Sat B H KH (L2.wipe σ vs) (wipeG Γ vs) :=
  ⟨s.e.wipe vs, s.g, fun i w p e1 e2 => by
    rcases wipeG_get e1 with ⟨_, z⟩ | ⟨a, b⟩
    · cases z
    · rw [wipe_get a] at e2
      exact s.o i w p b e2⟩
/-- what a target does with data d: the slots js are stored -/
structure TgOk (g : TG) (js : List Nat) (d : D) (U : Gm → Gm) : Prop where
  run : ∀ (x : V) (H KH : Hp), Ex KH H → Dt KH x d → ∃ S : L2.St → L2.St, (∀ σ (Q : L2.St → Hp → Prop), Q (S σ) H → g x σ H Q) ∧ (∀ σ Γ, Envo H KH σ Γ → Envo H KH (S σ) (U Γ)) ∧
    (∀ B σ Γ, Sat B H KH σ Γ → Sat B H KH (S σ) (U Γ)) ∧ (∀ σ, (S σ).length = σ.length) ∧ ∀ σ i, i ∉ js → (S σ)[i]? = σ[i]?
theorem tg_name (j : Nat) (d : D) : TgOk (gName j) [j] d (fun Γ => Γ.set j (.dat d)) := ⟨fun x H KH u k =>
  ⟨fun σ => σ.set j (some x), fun σ Q q => q, fun σ Γ E => E.setDat j k, fun B σ Γ s => s.setDat j k, fun σ => by simp, fun σ i h => List.getElem?_set_ne fun z : j = i => h (by simp [z])⟩⟩
theorem tg_pair {K : PySem.W.Frag} (i j : Nat) (d1 d2 : D) : TgOk (gTup K 2 (gCons (gName i) (gCons (gName j) gNil))) [i, j] (.tuple [d1, d2]) (fun Γ => (Γ.set i (.dat d1)).set j (.dat d2)) := ⟨fun x H KH u k => by
  cases k with
  | tup hs hd =>
    cases hd with
    | cons h1 hd =>
      cases hd with
      | cons h2 hd =>
        cases hd
        rename_i v1 v2
        refine ⟨fun σ => (σ.set i (some v1)).set j (some v2), fun σ Q q => ⟨_, _, rfl, .inl (.inl (u _ _ hs)), rfl, _, _, rfl, _, _, rfl, rfl, q⟩, fun σ Γ E => (E.setDat i h1).setDat j h2, fun B σ Γ s => (s.setDat i h1).setDat j h2, fun σ => by simp, fun σ m h => ?_⟩
        exact (List.getElem?_set_ne fun z : j = m => h (by simp [z])).trans (List.getElem?_set_ne fun z : i = m => h (by simp [z]))⟩
theorem tg_triple {K : PySem.W.Frag} (i j l : Nat) (d1 d2 d3 : D) : TgOk (gTup K 3 (gCons (gName i) (gCons (gName j) (gCons (gName l) gNil)))) [i, j, l] (.tuple [d1, d2, d3]) (fun Γ => ((Γ.set i (.dat d1)).set j (.dat d2)).set l (.dat d3)) := ⟨fun x H KH u k => by
  cases k with
  | tup hs hd =>
    cases hd with
    | cons h1 hd =>
      cases hd with
      | cons h2 hd =>
        cases hd with
        | cons h3 hd =>
          cases hd
          rename_i v1 v2 v3
          refine ⟨fun σ => ((σ.set i (some v1)).set j (some v2)).set l (some v3), fun σ Q q => ⟨_, _, rfl, .inl (.inl (u _ _ hs)), rfl, _, _, rfl, _, _, rfl, _, _, rfl, rfl, q⟩, fun σ Γ E => ((E.setDat i h1).setDat j h2).setDat l h3, fun B σ Γ s => ((s.setDat i h1).setDat j h2).setDat l h3, fun σ => by simp, fun σ m h => ?_⟩
          exact (List.getElem?_set_ne fun z : l = m => h (by simp [z])).trans ((List.getElem?_set_ne fun z : j = m => h (by simp [z])).trans (List.getElem?_set_ne fun z : i = m => h (by simp [z])))⟩

/-! ### what is walked -/
structure Wks (KH1 : Hp) (J : It) (ds : List D) : Prop where
  ex : ∃ (Gd : Hp → Prop) (Y : Nat → Hp → V → Hp → Prop), Walk J ds.length Gd Y ∧ (∀ H KH, Ex KH1 KH → Ex KH H → Gd H) ∧
    ∀ i x H KH H' d, ds[i]? = some d → Ex KH1 KH → Ex KH H → Y i H x H' → ∃ KH', Grow H KH H' KH' ∧ Dt KH' x d
def IEv (Γ : Gm) (wi : TI) (ds : List D) : Prop := ∀ σ H KH, Envo H KH σ Γ → ∀ R : It → Hp → Prop, (∀ J H1 KH1, Grow H KH H1 KH1 → Wks KH1 J ds → R J H1) → wi σ H R
section
variable {Γ : Gm} {f : Bool} {ta tb te tl tx : TE} {d d1 d2 d3 : D} {ds es : List D} {t u : TT} {b c : Bool} {K : PySem.W.Frag} {α : Type}
theorem IEv.is {wi : TI} (h : IEv Γ wi ds) (e : ds = es) : IEv Γ wi es := e ▸ h
theorem i_list (h : Ev true Γ tl (.list ds)) : IEv Γ (iList K tl) ds := fun σ H KH E R q => h σ H KH E _ fun v H1 KH1 g k => by
  have k' : Dt KH1 v (.list ds) := k
  cases k' with
  | lst hs hd =>
    rename_i a xs
    refine ⟨a, rfl, ⟨xs, .inl (.inl (g.up _ _ hs))⟩, q _ H1 KH1 g ⟨fun H => SqL K H a xs, YAt xs, ?_, fun H KH k1 k2 => .inl (.inl (k2 _ _ (k1 _ _ hs))), fun i x H KH H' d e k1 k2 y => ?_⟩⟩
    · rw [← DtAll.length hd]; exact walk_list
    · obtain ⟨rfl, y⟩ := y
      obtain ⟨w, ew, kw⟩ := DtAll.get hd e
      rw [y] at ew; cases ew
      exact ⟨KH, .refl k2, Dt.mono k1 kw⟩
theorem i_tup (h : Ev true Γ tl (.tuple ds)) : IEv Γ (iTup K tl) ds := fun σ H KH E R q => h σ H KH E _ fun v H1 KH1 g k => by
  have k' : Dt KH1 v (.tuple ds) := k
  cases k' with
  | tup hs hd =>
    rename_i a xs
    refine ⟨a, rfl, ⟨xs, .inl (.inl (g.up _ _ hs))⟩, q _ H1 KH1 g ⟨fun H => SqT K H a xs, YAt xs, ?_, fun H KH k1 k2 => .inl (.inl (k2 _ _ (k1 _ _ hs))), fun i x H KH H' d e k1 k2 y => ?_⟩⟩
    · rw [← DtAll.length hd]; exact walk_tup
    · obtain ⟨rfl, y⟩ := y
      obtain ⟨w, ew, kw⟩ := DtAll.get hd e
      rw [y] at ew; cases ew
      exact ⟨KH, .refl k2, Dt.mono k1 kw⟩
/-- range(a, b): the ints -/
def rngD (lo : Int) (n : Nat) : List D := (List.range n).map fun (i : Nat) => PyData.int (lo + (i : Int))
theorem i_rng1 {ta : TA} {n : Int} (h : AEv f Γ ta [.int n]) (h1 : n < 2 ^ 62) (h2 : -(2 ^ 62) ≤ n) : IEv Γ (iRng1 ta) ((List.range n.toNat).map fun (i : Nat) => PyData.int i) := fun σ H KH E R q => h σ H KH E _ fun vs H1 KH1 g k => by
  cases k with
  | cons k1 k =>
    cases k
    cases k1
    refine ⟨n, rfl, h2, h1, q _ H1 KH1 g ⟨fun _ => True, YFn fun i => .int (0 + i), ?_, fun _ _ _ _ => trivial, fun i x H KH H' d e k1 k2 y => ?_⟩⟩
    · rw [List.length_map, List.length_range]; exact walk_range
    · obtain ⟨rfl, rfl⟩ := y
      rw [List.getElem?_map] at e
      cases hr : (List.range n.toNat)[i]? with
      | none => rw [hr] at e; cases e
      | some m =>
        rw [hr] at e
        cases e
        have := (List.getElem?_eq_some_iff.mp hr)
        obtain ⟨a, b⟩ := this
        rw [List.getElem_range] at b
        subst b
        refine ⟨KH, .refl k2, ?_⟩
        show Dt KH (V.int (0 + (i : Int))) (PyData.int (i : Int))
        rw [Int.zero_add]
        exact .int _
theorem i_rng2 {ta : TA} {lo n : Int} (h : AEv f Γ ta [.int lo, .int n]) (h1 : -(2 ^ 62) ≤ lo ∧ lo < 2 ^ 62 ∧ -(2 ^ 62) ≤ n ∧ n < 2 ^ 62) : IEv Γ (iRng2 ta) (rngD lo (n - lo).toNat) := fun σ H KH E R q => h σ H KH E _ fun vs H1 KH1 g k => by
  cases k with
  | cons k1 k =>
    cases k with
    | cons k2 k =>
      cases k
      cases k1; cases k2
      refine ⟨lo, n, rfl, h1, q _ H1 KH1 g ⟨fun _ => True, YFn fun i => .int (lo + i), ?_, fun _ _ _ _ => trivial, fun i x H KH H' d e k1 k2 y => ?_⟩⟩
      · unfold rngD; rw [List.length_map, List.length_range]; exact walk_range
      · obtain ⟨rfl, rfl⟩ := y
        unfold rngD at e
        rw [List.getElem?_map] at e
        cases hr : (List.range (n - lo).toNat)[i]? with
        | none => rw [hr] at e; cases e
        | some m =>
          rw [hr] at e
          cases e
          obtain ⟨a, b⟩ := List.getElem?_eq_some_iff.mp hr
          rw [List.getElem_range] at b
          subst b
          exact ⟨KH, .refl k2, .int _⟩
/-- enumerate(list) -/
def enumD (ds : List D) : List D := (List.range ds.length).zipWith (fun (i : Nat) (d : D) => PyData.tuple [.int (i : Int), d]) ds
theorem enumD_get {i : Nat} : (enumD ds)[i]? = (ds[i]?).map fun d => .tuple [.int (i : Int), d] := by
  unfold enumD
  rw [List.getElem?_zipWith]
  cases e : ds[i]? with
  | none =>
    cases (List.range ds.length)[i]? <;> rfl
  | some x =>
    have hi : i < ds.length := (List.getElem?_eq_some_iff.mp e).1
    simp [List.getElem?_range hi]
theorem enumD_length : (enumD ds).length = ds.length := by unfold enumD; simp
theorem i_enum {ta : TA} (h : AEv true Γ ta [.list ds]) : IEv Γ (iEnum K ta) (enumD ds) := fun σ H KH E R q => h σ H KH E _ fun vs H1 KH1 g k => by
  have k' : DtAll KH1 vs [.list ds] := k
  cases k' with
  | cons k1 k =>
    cases k
    cases k1 with
    | lst hs hd =>
      rename_i a xs
      refine ⟨a, xs, rfl, .inl (.inl (g.up _ _ hs)), q _ H1 KH1 g ⟨fun H => SqL K H a xs, YPair (fun i => some (.int (i : Nat))) (fun i => xs[i]?), ?_, fun H KH k1 k2 => .inl (.inl (k2 _ _ (k1 _ _ hs))), fun i x H KH H' d e k1 k2 y => ?_⟩⟩
      · rw [enumD_length, ← DtAll.length hd]; exact walk_enum
      · obtain ⟨T, x', y', rfl, hT, rfl, e1, e2⟩ := y
        rw [enumD_get] at e
        obtain ⟨dd, e3, e4⟩ := DtAll.getV hd e2
        rw [e3] at e
        cases e
        cases e1
        refine ⟨upd KH T (.tup [.int (i : Nat), y']), Grow.new k2 hT _, .tup upd_same (.cons (.int _) (.cons (Dt.mono (Ex.trans k1 (Ex.new (fresh_back k2 hT))) e4) .nil))⟩
/-- zip(list, list) -/
def zipD (ds es : List D) : List D := ds.zipWith (fun d e => .tuple [d, e]) es
theorem i_zip {ta : TA} (h : AEv true Γ ta [.list ds, .list es]) : IEv Γ (iZip K ta) (zipD ds es) := fun σ H KH E R q => h σ H KH E _ fun vs H1 KH1 g k => by
  have k' : DtAll KH1 vs [.list ds, .list es] := k
  cases k' with
  | cons k1 k =>
    cases k with
    | cons k2 k =>
      cases k
      cases k1 with
      | lst hs hd =>
        rename_i a xs
        cases k2 with
        | lst hs2 hd2 =>
          rename_i a2 ys
          refine ⟨a, a2, xs, ys, rfl, .inl (.inl (g.up _ _ hs)), .inl (.inl (g.up _ _ hs2)), q _ H1 KH1 g ⟨fun H => SqL K H a xs ∧ SqL K H a2 ys, YPair (fun i => xs[i]?) (fun i => ys[i]?), ?_, fun H KH k1 k2 => ⟨.inl (.inl (k2 _ _ (k1 _ _ hs))), .inl (.inl (k2 _ _ (k1 _ _ hs2)))⟩, fun i x H KH H' d e k1 k2 y => ?_⟩⟩
          · exact walk_zip (by unfold zipD; rw [List.length_zipWith, DtAll.length hd, DtAll.length hd2])
          · obtain ⟨T, x', y', rfl, hT, rfl, e1, e2⟩ := y
            unfold zipD at e
            rw [List.getElem?_zipWith] at e
            obtain ⟨dd, e3, e4⟩ := DtAll.getV hd e1
            obtain ⟨dd2, e5, e6⟩ := DtAll.getV hd2 e2
            rw [e3, e5] at e
            cases e
            have nk := fresh_back k2 hT
            exact ⟨upd KH T (.tup [x', y']), Grow.new k2 hT _, .tup upd_same (.cons (Dt.mono (Ex.trans k1 (Ex.new nk)) e4) (.cons (Dt.mono (Ex.trans k1 (Ex.new nk)) e6) .nil))⟩
/-- a text's signs -/
def chrsD (x : Str) : List D := x.cps.toList.map fun c => .str ⟨#[c]⟩
theorem i_str {x : Str} (h : Ev f Γ te (.str x)) : IEv Γ (iStr te) (chrsD x) := fun σ H KH E R q => h σ H KH E _ fun v H1 KH1 g k => by
  cases k
  have hl : (chrsD x).length = x.cps.size := by unfold chrsD; simp
  refine ⟨x, rfl, q _ H1 KH1 g ⟨fun _ => True, fun i H v H' => H' = H ∧ ∃ c, x.cps[i]? = some c ∧ v = .str ⟨#[c]⟩, by rw [hl]; exact walk_str, fun _ _ _ _ => trivial, fun i v H KH H' d e k1 k2 y => ?_⟩⟩
  obtain ⟨rfl, c, e1, rfl⟩ := y
  unfold chrsD at e
  rw [List.getElem?_map, Array.getElem?_toList, e1] at e
  cases e
  exact ⟨KH, .refl k2, .str _⟩
end

/-! ### for -/
section
variable {B : Bs} {Γ : Gm} {R : Po} {ds : List D} {wi : TI} {g : TG} {tb tz : TS}
theorem w_for (I : Nat → Gm → Prop) (hi : IEv Γ wi ds) (h0 : I 0 Γ)
    (hs : ∀ (i : Nat) (d : D) (Γ' : Gm), ds[i]? = some d → I i Γ' → ∃ js U, TgOk g js d U ∧ Wp B (U Γ') tb { R with nx := I (i + 1), ct := I (i + 1), bk := fun Γ2 => Wp B Γ2 tz R })
    (hd : ∀ Γ', I ds.length Γ' → Wp B Γ' tz R) : Wp B Γ (tSeq (tFor wi g tb) tz) R := fun σ H KH Dn s ok =>
  hi σ H KH s.e _ fun J H1 KH1 g1 wk => by
    obtain ⟨Gd, Y, w, hG, hY⟩ := wk.ex
    refine for_it w (D := { Dn with nx := tz Dn }) (fun i σ' H' => ∃ KH' Γ', I i Γ' ∧ Ex KH1 KH' ∧ Sat B H' KH' σ' Γ') ⟨KH1, Γ, h0, Ex.refl _, s.grow g1⟩ (fun i σ' H' _ ⟨KH', Γ', _, e, s'⟩ => hG H' KH' e s'.e.up) ?_ ?_
    · rintro i x σ' H' H2 hlt ⟨KH', Γ', iv, e, s'⟩ y
      have hx : ds[i]? = some ds[i] := by simp [hlt]
      obtain ⟨KH2, g2, kx⟩ := hY i x H' KH' H2 _ hx e s'.e.up y
      obtain ⟨js, U, tg, wb⟩ := hs i _ Γ' hx iv
      obtain ⟨S, h1, _, h3, _, _⟩ := tg.run x H2 KH2 g2.up kx
      refine h1 σ' _ ?_
      have ex : Ex KH KH2 := Ex.trans g1.kx (Ex.trans e g2.kx)
      refine wb _ H2 KH2 _ (h3 B σ' Γ' (s'.grow g2)) ⟨fun σ3 H3 KH3 Γ3 r x3 s3 => ⟨KH3, Γ3, r, Ex.trans e (Ex.trans g2.kx x3), s3⟩, fun σ3 H3 KH3 Γ3 r x3 s3 => r σ3 H3 KH3 Dn s3 (ok.mono (Ex.trans ex x3)), fun σ3 H3 KH3 Γ3 r x3 s3 => ⟨KH3, Γ3, r, Ex.trans e (Ex.trans g2.kx x3), s3⟩,
        fun v σ3 H3 KH3 Γ3 d r x3 s3 => ok.rt v σ3 H3 KH3 Γ3 d r (Ex.trans ex x3) s3, fun p σ3 H3 KH3 Γ3 o r x3 s3 => ok.ro p σ3 H3 KH3 Γ3 o r (Ex.trans ex x3) s3, fun v σ3 H3 KH3 Γ3 es fs r x3 s3 => ok.r2 v σ3 H3 KH3 Γ3 es fs r (Ex.trans ex x3) s3⟩
    · rintro σ' H' ⟨KH', Γ', iv, e, s'⟩
      exact hd Γ' iv σ' H' KH' Dn s' (ok.mono (Ex.trans g1.kx e))
/-- a for at the end of a block -/
theorem w_for1 (I : Nat → Gm → Prop) (hi : IEv Γ wi ds) (h0 : I 0 Γ)
    (hs : ∀ (i : Nat) (d : D) (Γ' : Gm), ds[i]? = some d → I i Γ' → ∃ js U, TgOk g js d U ∧ Wp B (U Γ') tb { R with nx := I (i + 1), ct := I (i + 1), bk := R.nx })
    (hd : ∀ Γ', I ds.length Γ' → R.nx Γ') : Wp B Γ (tFor wi g tb) R := by
  have h : Wp B Γ (tSeq (tFor wi g tb) tNext) R := w_for I hi h0 (fun i d Γ' e iv => by
    obtain ⟨js, U, tg, wb⟩ := hs i d Γ' e iv
    exact ⟨js, U, tg, w_imp wb (fun _ z => z) (fun _ z => w_next z) (fun _ z => z) (fun _ _ z => z) fun _ _ z => z⟩) fun Γ' iv => w_next (hd Γ' iv)
  exact h
/-- while -/
theorem w_while {c : TT} (I : Nat → Gm → Prop) (m : Nat) (h0 : I m Γ)
    (hs : ∀ (m : Nat) (Γ' : Gm), I m Γ' → ∃ b, TEv Γ' c b ∧ (b = true → Wp B Γ' tb { R with nx := fun g => ∃ m', m' < m ∧ I m' g, ct := fun g => ∃ m', m' < m ∧ I m' g, bk := fun Γ2 => Wp B Γ2 tz R }) ∧ (b = false → Wp B Γ' tz R)) : Wp B Γ (tSeq (tWhile c tb) tz) R := fun σ H KH Dn s ok => by
  refine ⟨fun m σ' H' => ∃ KH' Γ', I m Γ' ∧ Ex KH KH' ∧ Sat B H' KH' σ' Γ', ⟨m, KH, Γ, h0, Ex.refl _, s⟩, ?_⟩
  rintro m σ' H' ⟨KH', Γ', iv, e, s'⟩
  obtain ⟨b, ht, h1, h2⟩ := hs m Γ' iv
  refine ht σ' H' KH' s'.e _ fun H2 KH2 g2 => ?_
  have ex : Ex KH KH2 := Ex.trans e g2.kx
  cases b with
  | true =>
    rw [if_pos rfl]
    refine ⟨fun σ3 H3 => ∃ m' KH3 Γ3, m' < m ∧ I m' Γ3 ∧ Ex KH KH3 ∧ Sat B H3 KH3 σ3 Γ3, fun σ3 H3 ⟨m', KH3, Γ3, a, b, c, d⟩ => ⟨m', a, KH3, Γ3, b, c, d⟩, ?_⟩
    exact h1 rfl σ' H2 KH2 _ (s'.grow g2) ⟨fun σ3 H3 KH3 Γ3 ⟨m', a, b⟩ x3 s3 => ⟨m', KH3, Γ3, a, b, Ex.trans ex x3, s3⟩, fun σ3 H3 KH3 Γ3 r x3 s3 => r σ3 H3 KH3 Dn s3 (ok.mono (Ex.trans ex x3)), fun σ3 H3 KH3 Γ3 ⟨m', a, b⟩ x3 s3 => ⟨m', KH3, Γ3, a, b, Ex.trans ex x3, s3⟩,
      fun v σ3 H3 KH3 Γ3 d r x3 s3 => ok.rt v σ3 H3 KH3 Γ3 d r (Ex.trans ex x3) s3, fun p σ3 H3 KH3 Γ3 o r x3 s3 => ok.ro p σ3 H3 KH3 Γ3 o r (Ex.trans ex x3) s3, fun v σ3 H3 KH3 Γ3 es fs r x3 s3 => ok.r2 v σ3 H3 KH3 Γ3 es fs r (Ex.trans ex x3) s3⟩
  | false =>
    rw [if_neg Bool.false_ne_true]
    exact h2 rfl σ' H2 KH2 Dn (s'.grow g2) (ok.mono ex)
end

/-! ### comprehensions -/
section
variable {Γ : Gm} {ds : List D} {wi : TI} {g : TG} {tt : TT} {te tk tv : TE} {vs : List Nat} {α : Type}
/-- a new thing at D0 that nobody else knows, and the rest has grown -/
structure LcS (H1 KH1 : Hp) (D0 : Addr) (o : HO) (H KH : Hp) : Prop where
  at_ : H D0 = some o
  ex : Ex H1 H
  kx : Ex KH1 KH
  up : Ex KH H
  ns : ∀ p, H1 p ≠ none → KH1 p = none → KH p = none
  kd : KH D0 = none
theorem LcS.grow {H1 KH1 H KH H' KH' : Hp} {D0 : Addr} {o : HO} (s : LcS H1 KH1 D0 o H KH) (g : Grow H KH H' KH') : LcS H1 KH1 D0 o H' KH' :=
  ⟨g.ex _ _ s.at_, Ex.trans s.ex g.ex, Ex.trans s.kx g.kx, g.up, fun p h k => g.ns p (ex_ne s.ex h) (s.ns p h k), g.ns D0 (by rw [s.at_]; exact fun z => nomatch z) s.kd⟩
theorem LcS.put {H1 KH1 H KH : Hp} {D0 : Addr} {o o' : HO} (s : LcS H1 KH1 D0 o H KH) (n : H1 D0 = none) : LcS H1 KH1 D0 o' (upd H D0 o') KH :=
  ⟨upd_same, fun a w e => by rw [upd_ne (ne_of_none e n)]; exact s.ex a w e, s.kx, fun a w e => by rw [upd_ne (ne_of_none e s.kd)]; exact s.up a w e, s.ns, s.kd⟩
theorem LcS.first {H1 KH1 : Hp} {D0 : Addr} (u : Ex KH1 H1) (n : H1 D0 = none) (o : HO) : LcS H1 KH1 D0 o (upd H1 D0 o) KH1 :=
  ⟨upd_same, Ex.new n, Ex.refl _, fun a w e => by rw [upd_ne (ne_of_none e (fresh_back u n))]; exact u a w e, fun _ _ k => k, fresh_back u n⟩
theorem Envo.at_lc {H KH H1 KH1 : Hp} {σ : L2.St} (E : Envo H1 KH1 σ Γ) {D0 : Addr} {o : HO} (s : LcS H1 KH1 D0 o H KH) : Envo H KH σ Γ := E.grow ⟨s.ex, s.kx, s.up, s.ns⟩
theorem o_lc {l : List α} {enc : α → D} (fl : α → Bool) (gl : α → D) (hi : IEv Γ wi (l.map enc)) (hl : l.length < sizeLine)
    (hs : ∀ a, a ∈ l → ∃ js U, TgOk g js (enc a) U ∧ (∀ j ∈ js, j ∈ vs) ∧ TEv (U (wipeG Γ vs)) tt (fl a) ∧ (fl a = true → Ev true (U (wipeG Γ vs)) te (gl a))) :
    OEv Γ (tLc wi g tt te vs) (.lst ((l.filter fl).map gl)) := fun σ H KH E Q q => hi σ H KH E _ fun J H1 KH1 g1 wk => fun D0 hD => by
  obtain ⟨Gd, Y, w, hG, hY⟩ := wk.ex
  have E1 := E.grow g1
  refine lc_it w (vs := vs) (σ := σ) (Qd := fun H => Q (.ref D0) H) (fun i H' => ∃ KH' acc, LcS H1 KH1 D0 (.lst acc) H' KH' ∧ DtAll KH' acc (((l.take i).filter fl).map gl)) ⟨KH1, [], .first E1.up hD _, .nil⟩ (fun i H' _ ⟨KH', acc, s, _⟩ => hG H' KH' s.kx s.up) ?_ ?_
  · rintro i x H' H2 hlt ⟨KH', acc, s, da⟩ y
    rw [List.length_map] at hlt
    have hx : (l.map enc)[i]? = some (enc l[i]) := by simp [hlt]
    obtain ⟨KH2, g2, kx⟩ := hY i x H' KH' H2 _ hx s.kx s.up y
    have s2 := s.grow g2
    obtain ⟨js, U, tg, hj, ht, he⟩ := hs l[i] (List.getElem_mem hlt)
    obtain ⟨S, h1, h2, _, h4, h5⟩ := tg.run x H2 KH2 g2.up kx
    have E2 : Envo H2 KH2 (S (L2.wipe σ vs)) (U (wipeG Γ vs)) := h2 _ _ ((E1.at_lc s2).wipe vs)
    have tk : l.take (i + 1) = l.take i ++ [l[i]] := by rw [List.take_succ]; simp [hlt]
    refine h1 _ _ ⟨?_, ht _ H2 KH2 E2 _ fun H3 KH3 g3 => ?_⟩
    · rw [wipe_eq (σ := L2.wipe σ vs) (h4 _) fun i hi => h5 _ i fun z => hi (hj _ z)]
      exact wipe_wipe
    · cases hf : fl l[i] with
      | true =>
        rw [if_pos rfl]
        refine he hf _ H3 KH3 (E2.grow g3) _ fun v H4 KH4 g4 kv => ?_
        have s4 := (s2.grow g3).grow g4
        have da4 : DtAll KH4 acc (((l.take i).filter fl).map gl) := DtAll.mono (Ex.trans g2.kx (Ex.trans g3.kx g4.kx)) da
        refine ⟨acc, s4.at_, ?_, KH4, acc ++ [v], s4.put hD, ?_⟩
        · have e1 := DtAll.length da4
          rw [List.length_map] at e1
          have e2 := List.length_filter_le fl (l.take i)
          have e3 : (l.take i).length ≤ l.length := by simp [List.length_take, Nat.min_le_right]
          omega
        · rw [tk, List.filter_append, List.map_append]
          have : [l[i]].filter fl = [l[i]] := by simp [hf]
          rw [this]
          exact da4.append (.one kv)
      | false =>
        rw [if_neg Bool.false_ne_true]
        refine ⟨KH3, acc, s2.grow g3, ?_⟩
        rw [tk, List.filter_append, List.map_append]
        have : [l[i]].filter fl = [] := by simp [hf]
        rw [this, List.map_nil, List.append_nil]
        exact DtAll.mono (Ex.trans g2.kx g3.kx) da
  · rintro H' ⟨KH', acc, s, da⟩
    rw [List.length_map, List.take_length] at da
    exact q D0 H' KH' ⟨Ex.trans g1.ex s.ex, Ex.trans g1.kx s.kx, s.up, fun p h k => s.ns p (ex_ne g1.ex h) (g1.ns p h k)⟩ (fresh_back g1.ex hD) s.kd ⟨acc, s.at_, da⟩
/-- the pairs of a dict, by data -/
def putD (kvs : List (Key × D)) (k : Key) (d : D) : List (Key × D) :=
  if (kvs.any fun kv => decide (kv.1 = k)) = true then kvs.map (fun kv => if kv.1 = k then (kv.1, d) else kv) else kvs ++ [(k, d)]
def valD (kvs : List (Key × D)) (k : Key) : Option D := (kvs.find? fun kv => decide (kv.1 = k)).map (·.2)
theorem Paired.append' {α β : Type} {F : α → β → Prop} : ∀ {a a' : List α} {b b' : List β}, Paired F a b → Paired F a' b' → Paired F (a ++ a') (b ++ b')
  | _, _, _, _, .nil, h => h
  | _, _, _, _, .cons h t, h' => .cons h (Paired.append' t h')
theorem KVd.any {H : Hp} {a : List (Key × V)} {b : List (Key × D)} (h : KVd H a b) (k : Key) : (a.any fun kv => decide (kv.1 = k)) = (b.any fun kv => decide (kv.1 = k)) := by
  unfold KVd at h
  induction h with
  | nil => rfl
  | cons h t ih => rw [List.any_cons, List.any_cons, ih, h.1]
theorem KVd.length {H : Hp} {a : List (Key × V)} {b : List (Key × D)} (h : KVd H a b) : a.length = b.length := Paired.length h
theorem KVd.setAt {H : Hp} {k : Key} {v : V} {d : D} (q : Dt H v d) : ∀ {a : List (Key × V)} {b : List (Key × D)}, KVd H a b → KVd H (a.map fun kv => if kv.1 = k then (kv.1, v) else kv) (b.map fun kv => if kv.1 = k then (kv.1, d) else kv)
  | _, _, .nil => .nil
  | x :: xs, y :: ys, .cons h t => by
    refine .cons ?_ (KVd.setAt q t)
    show (if x.1 = k then (x.1, v) else x).1 = (if y.1 = k then (y.1, d) else y).1 ∧ Dt H (if x.1 = k then (x.1, v) else x).2 (if y.1 = k then (y.1, d) else y).2
    by_cases e : x.1 = k
    · rw [if_pos e, if_pos (h.1 ▸ e)]; exact ⟨h.1, q⟩
    · rw [if_neg e, if_neg (h.1 ▸ e)]; exact h
theorem KVd.put {H : Hp} {a : List (Key × V)} {b : List (Key × D)} (h : KVd H a b) (k : Key) {v : V} {d : D} (q : Dt H v d) : KVd H (putK a k v) (putD b k d) := by
  unfold putK putD
  rw [h.any k]
  split
  · exact KVd.setAt q h
  · exact Paired.append' h (.cons ⟨rfl, q⟩ .nil)
theorem KVd.val {H : Hp} {a : List (Key × V)} {b : List (Key × D)} (h : KVd H a b) (k : Key) : (valV a k = none ∧ valD b k = none) ∨ ∃ v d, valV a k = some v ∧ valD b k = some d ∧ Dt H v d := by
  unfold KVd at h
  unfold valV valD
  induction h with
  | nil => exact .inl ⟨rfl, rfl⟩
  | @cons x y xs ys h t ih =>
    rw [List.find?_cons, List.find?_cons]
    by_cases e : x.1 = k
    · rw [decide_eq_true e, decide_eq_true (h.1 ▸ e : y.1 = k)]
      exact .inr ⟨_, _, rfl, rfl, h.2⟩
    · rw [decide_eq_false e, decide_eq_false (h.1 ▸ e : ¬ y.1 = k)]
      exact ih
def dcD (l : List (Key × D)) : List (Key × D) := l.foldl (fun acc kv => putD acc kv.1 kv.2) []
theorem putD_length (kvs : List (Key × D)) (k : Key) (d : D) : (putD kvs k d).length ≤ kvs.length + 1 := by
  unfold putD
  split
  · rw [List.length_map]; omega
  · rw [List.length_append]; simp
theorem dcD_length (l : List (Key × D)) : (dcD l).length ≤ l.length := by
  have h : ∀ (l acc : List (Key × D)), (l.foldl (fun acc kv => putD acc kv.1 kv.2) acc).length ≤ acc.length + l.length := by
    intro l
    induction l with
    | nil => intro acc; exact Nat.le_refl _
    | cons a r ih =>
      intro acc
      have h1 := ih (putD acc a.1 a.2)
      have h2 := putD_length acc a.1 a.2
      rw [List.foldl_cons, List.length_cons]
      omega
  have := h l []
  unfold dcD
  simpa using this
/-- a key's data -/
def kD : Key → D
  | .inl i => .int i
  | .inr x => .str x
theorem Dt.key {H : Hp} {k : Key} {v : V} (h : Dt H v (kD k)) : v = kV k := by
  cases k with
  | inl i => cases h; rfl
  | inr x => cases h; rfl
theorem o_dc {l : List α} {enc : α → D} (kl : α → Key) (vl : α → D) (hi : IEv Γ wi (l.map enc)) (hl : l.length < sizeLine)
    (hs : ∀ a, a ∈ l → ∃ js U, TgOk g js (enc a) U ∧ (∀ j ∈ js, j ∈ vs) ∧ TEv (U (wipeG Γ vs)) tt true ∧ Ev true (U (wipeG Γ vs)) tk (kD (kl a)) ∧ Ev true (U (wipeG Γ vs)) tv (vl a)) :
    OEv Γ (tDc wi g tt tk tv vs) (.dK (dcD (l.map fun a => (kl a, vl a)))) := fun σ H KH E Q q => hi σ H KH E _ fun J H1 KH1 g1 wk => fun D0 hD => by
  obtain ⟨Gd, Y, w, hG, hY⟩ := wk.ex
  have E1 := E.grow g1
  -- the loop by turns
  refine ⟨fun i m H' => m = l.length - i ∧ i ≤ l.length ∧ ∃ KH' acc, LcS H1 KH1 D0 (.dK acc) H' KH' ∧ KVd KH' acc (dcD ((l.take i).map fun a => (kl a, vl a))), ⟨l.length, by simp, Nat.zero_le _, KH1, [], .first E1.up hD _, .nil⟩, ?_⟩
  rintro i m H' ⟨rfl, hi, KH', acc, s, da⟩
  have qd := hG H' KH' s.kx s.up
  have hn : (l.map enc).length = l.length := List.length_map _
  by_cases hlt : i < l.length
  · refine .inr ⟨w.goes i H' (by rw [hn]; exact hlt) qd, fun H3 => ∃ KH' acc, LcS H1 KH1 D0 (.dK acc) H3 KH' ∧ KVd KH' acc (dcD ((l.take (i + 1)).map fun a => (kl a, vl a))), fun H3 p => ⟨l.length - (i + 1), by omega, rfl, hlt, p⟩, fun x H2 y => ?_⟩
    have hx : (l.map enc)[i]? = some (enc l[i]) := by simp [hlt]
    obtain ⟨KH2, g2, kx⟩ := hY i x H' KH' H2 _ hx s.kx s.up (w.yields i H' x H2 (by rw [hn]; exact hlt) qd y)
    have s2 := s.grow g2
    obtain ⟨js, U, tg, hj, ht, hk, hv⟩ := hs l[i] (List.getElem_mem hlt)
    obtain ⟨S, h1, h2, _, h4, h5⟩ := tg.run x H2 KH2 g2.up kx
    have E2 : Envo H2 KH2 (S (L2.wipe σ vs)) (U (wipeG Γ vs)) := h2 _ _ ((E1.at_lc s2).wipe vs)
    have tkn : l.take (i + 1) = l.take i ++ [l[i]] := by rw [List.take_succ]; simp [hlt]
    refine h1 _ _ ⟨?_, ht _ H2 KH2 E2 _ fun H3 KH3 g3 => ?_⟩
    · rw [wipe_eq (σ := L2.wipe σ vs) (h4 _) fun i hi => h5 _ i fun z => hi (hj _ z)]
      exact wipe_wipe
    · rw [if_pos rfl]
      refine hk _ H3 KH3 (E2.grow g3) _ fun v H4 KH4 g4 kv => hv _ H4 KH4 ((E2.grow g3).grow g4) _ fun z H5 KH5 g5 kz => ?_
      have s5 := ((s2.grow g3).grow g4).grow g5
      have da5 := KVd.mono (Ex.trans g2.kx (Ex.trans g3.kx (Ex.trans g4.kx g5.kx))) da
      refine ⟨acc, kl l[i], Dt.key kv, s5.at_, ?_, KH5, _, s5.put hD, ?_⟩
      · have e1 := da5.length
        have e2 := dcD_length ((l.take i).map fun a => (kl a, vl a))
        rw [List.length_map] at e2
        have e3 : (l.take i).length ≤ l.length := by simp [List.length_take, Nat.min_le_right]
        omega
      · rw [tkn, List.map_append]
        unfold dcD
        rw [List.foldl_append]
        exact da5.put _ kz
  · have e : i = l.length := by omega
    subst e
    rw [List.take_length] at da
    refine .inl ⟨?_, q D0 H' KH' ⟨Ex.trans g1.ex s.ex, Ex.trans g1.kx s.kx, s.up, fun p h k => s.ns p (ex_ne g1.ex h) (g1.ns p h k)⟩ (fresh_back g1.ex hD) s.kd ⟨acc, s.at_, da⟩⟩
    have := w.stops H' qd
    rw [hn] at this
    exact this
end
end LO
namespace LO
open PySem L2 Evl PySem.Spec PyProof.Rows

/-! ### a def's promise, for callers that run within no repr -/
section
variable {P : Program} {w : World} {K : PySem.W.Frag} {mg : Str → Option Value} {base : Heap}
structure FnG (P : Program) (w : World) (K : PySem.W.Frag) (mg : Str → Option Value) (base : Heap) (CX : CXT) (k : Nat) (f : Addr) (fd : FuncData) (ps : List Str) (sp : Sp) : Prop where
  len : ∀ vs H Q E, sp vs H Q E → vs.length = ps.length
  run : ∀ (A : Around) (out : List Env) (s : Shared) (H : Hp) (args : Args) (us : List Value) (vs : List V) (Q : VK) (E : XK), A.guards = some [] → Room k A → Env0 P w K mg base A out s H → BindsTo s fd args (ps.zip us) → Vals vs us → sp vs H Q E →
    codeAny (model P w) A (.call (.ref f) args) (CR CX out P w H s Q E) s
theorem fnG_of {x qual : Str} {pa : Arguments} {body : List Stmt} {sc : Scope} {dvs : List V} {kws : List (Str × V)} {f : Addr} {fd : FuncData} {CX : CXT} {N ps : List Str} {k : Nat} {sp : Sp}
    (F : FunD K x qual pa body sc dvs kws f fd) (S : FnScope N ps sc) (len : ∀ vs H Q E, sp vs H Q E → vs.length = ps.length)
    (hb : ∀ (cd : Value) (A : Around) (out : List Env) (s : Shared) (H : Hp) (vs : List V) (Q : VK) (E : XK), A.guards = some [] → Room k (A.deeper (envOfC qual sc s.heap.objs.size f cd)) → sp vs H Q E →
      ∃ t, PSs (cxOf CX P w K mg base N qual sc f cd A out s H E) body t ∧ t { nx := fun _ H' => Q .non H', rt := Q } (start N vs) H) :
    FnG P w K mg base CX (k + 1) f fd ps sp := by
  obtain ⟨oc, od, dV, kV, doc, pm, an, cd, ct, osl, efd, lk, hcd, _, _⟩ := F.ex
  subst efd
  refine ⟨len, fun A out s H args us vs Q E hg hr e0 hbd rv hsp => ?_⟩
  have old := fun b o e => (e0.bs b o e).1
  have inK : K.In s.heap := e0.mod.kin.keeps old
  have kinds : ∀ y ∈ ps.zip us, sc.names.lookup y.1 = some .local ∨ (sc.names.lookup y.1 = some .cell ∧ ((cellsFrom (s.heap.objs.size + 1) sc.names []).lookup y.1).isSome = true) := by
    rintro ⟨n, v⟩ hy
    exact (S.par n (List.of_mem_zip hy).1).imp id fun q => ⟨q, PySem.W.cellsFrom_some _ _ _ (Or.inl q)⟩
  refine codeAny_call_function hr.depth (inK _ _ lk) rfl S.co S.gen rfl (PySem.W.codeRec_of inK hcd) (hbd _ _ _ _ (wpAny_newFunctionEnv_cells S.kind kinds fun env he s1 hs1 => ?_))
  subst he
  refine ⟨(e0.mod.nolimit.keeps old).keeps hs1.toInCall.keep, codeAny_func ?_⟩
  obtain ⟨t, ht, hq⟩ := hb cd A out s H vs Q E hg (hr.deeper _) hsp
  have I0 : Inv (cxOf CX P w K mg base N qual sc f cd A out s H E) [] (start N vs) H s1 := inv_start S hr.hd e0 (len _ _ _ _ hsp) rv hs1
  refine wpAny_mono (ht.run [] s1 (start N vs) H _ I0 hq) (fun fl s' hs => ?_) (fun _ _ h => h)
  cases fl with
  | ret u =>
    obtain ⟨v, σ', H', J, r', q⟩ := hs
    exact ⟨v, H', J.os, J.bare, J.base, J.hok, r', q⟩
  | next =>
    obtain ⟨σ', H', J, q⟩ := hs
    exact ⟨V.non, H', J.os, J.bare, J.base, J.hok, rfl, q⟩
  | brk => exact hs.elim fun _ h => h.elim fun _ h => h.2.elim
  | cont => exact hs.elim fun _ h => h.elim fun _ h => h.2.elim
theorem FnG.mono {CX : CXT} {j k : Nat} {f : Addr} {fd : FuncData} {ps : List Str} {sp : Sp} (F : FnG P w K mg base CX j f fd ps sp) (h : j ≤ k) : FnG P w K mg base CX k f fd ps sp :=
  ⟨F.len, fun A out s H args us vs Q E hg hr => F.run A out s H args us vs Q E hg (hr.mono h)⟩
/-- the module's name x is a def with this promise; by keywords too, when it has no defaults -/
structure Fo (P : Program) (w : World) (K : PySem.W.Frag) (mg : Str → Option Value) (base : Heap) (CX : CXT) (k : Nat) (x : Str) (sp : Sp) : Prop where
  ex : ∃ (f : Addr) (fd : FuncData) (ps : List Str), FnG P w K mg base CX k f fd ps sp ∧ mg x = some (.ref f) ∧ PySem.W.keepIn K (.ref f) = true ∧ Binds K fd ps []
theorem runG {X : Cx} {CX : CXT} {k : Nat} {f : Addr} {fd : FuncData} {ps : List Str} {sp : Sp} {E : XK} {pins : List (Addr × Obj)} {σ : L2.St} {H : Hp} {s : Shared} {Q : VK} {us : List Value} {vs : List V}
    (F : FnG X.prog X.w X.K X.mg X.base CX k f fd ps sp) (hg : X.A.guards = some []) (hr : Room k X.A) (hb : Binds X.K fd ps []) (hx : Passes CX X E) (I : Inv X pins σ H s) (r : Vals vs us) (h : sp vs H Q E) :
    wpAny (model X.prog X.w) X.A (call (.ref f) us) (EP X pins σ Q) X.xe s := by
  have hl : (us ++ []).length = ps.length := by rw [List.append_nil, ← r.length]; exact F.len _ _ _ _ h
  have hbs := hb s us I.kIn hl
  rw [List.append_nil] at hbs
  refine wpAny_call (codeAny_mono (F.run X.A X.stack s H ⟨us, []⟩ us vs Q E hg hr I.env0 hbs r h) fun res s' hq => ?_)
  match res, hq with
  | .error e, hq => exact hx pins σ H s e s' I hq
  | .ok (.ret u), hq => exact I.after hq
  | .ok .next, hq => exact hq.elim
  | .ok .brk, hq => exact hq.elim
  | .ok .cont, hq => exact hq.elim
section
variable {X : Cx} {CX : CXT} {j k : Nat} {sp : Sp} {E : XK} {x : Str} {p pos : Pos} {e : Expr} {es : List Expr} {t : TA}
/-- f(e, ..) -/
theorem pe_f (c : Fo X.prog X.w X.K X.mg X.base CX k x sp) (hgd : X.A.guards = some []) (hr : Room j X.A) (hk : k ≤ j) (hx : Passes CX X E) (hg : Gl X x) (ha : PA X (e :: es) t)
    (hdb : (x == ("__debug__" : Str)) = false := by decide) (he : starEach (e :: es) X.env = (false, eval e X.env) :: starEach es X.env := by rfl) (hpl : (backTo pos (starEach es X.env)).any (·.1) = false := by rfl) :
    PE X (.Call (.Name x p) (e :: es) [] pos) (tCall sp [] E t) := by
  obtain ⟨f, fd, ps, F, hm, kp, hb⟩ := c.ex
  refine ⟨fun pins s σ H Q I h => ?_⟩
  refine wpAny_Call_Name_kw (ld_glob I hg hm ?_ hdb)
  refine PySem.W.callWith_K (h₀ := X.base) I.ok.mod.kin kp (thn (ha.run pos pins s σ H _ I h) fun us s1 ⟨vs, H1, I1, r, q⟩ => ⟨I1.kIn, ?_⟩) he hpl
  have q' : sp (vs ++ []) H1 Q E := q
  rw [List.append_nil] at q'
  exact runG F hgd (hr.mono hk) hb hx I1 r q'
/-- f() -/
theorem pe_f0 (c : Fo X.prog X.w X.K X.mg X.base CX k x sp) (hgd : X.A.guards = some []) (hr : Room j X.A) (hk : k ≤ j) (hx : Passes CX X E) (hg : Gl X x) (hdb : (x == ("__debug__" : Str)) = false := by decide) :
    PE X (.Call (.Name x p) [] [] pos) (tCall sp [] E tNil) := by
  obtain ⟨f, fd, ps, F, hm, kp, hb⟩ := c.ex
  refine ⟨fun pins s σ H Q I h => ?_⟩
  refine wpAny_Call_Name_kw (ld_glob I hg hm ?_ hdb)
  exact PySem.W.callWith_K0 I.kIn kp (runG (us := []) F hgd (hr.mono hk) hb hx I .nil h)
end
end

/-! ### promises by data -/
/-- pure: the arguments' data are ds, the answer's d -/
def SpD (R : List D → D → Prop) : Sp := fun vs H Q _ => ∃ KH ds d, Ex KH H ∧ DtAll KH vs ds ∧ R ds d ∧ ∀ v H' KH', Grow H KH H' KH' → Dt KH' v d → Q v H'
/-- .. the answer a new object -/
def SpO (R : List D → Own → Prop) : Sp := fun vs H Q _ => ∃ KH ds o, Ex KH H ∧ DtAll KH vs ds ∧ R ds o ∧ ∀ p H' KH', Grow H KH H' KH' → H p = none → KH' p = none → OwnAt H' KH' p o → Q (.ref p) H'
/-- the slots at the start -/
def Γ0 (N : List Str) (ds : List D) : Gm := ds.map .dat ++ List.replicate (N.length - ds.length) .no
theorem envo_start {N : List Str} {vs : List V} {ds : List D} {H KH : Hp} (u : Ex KH H) (h : DtAll KH vs ds) : Envo H KH (L2.start N vs) (Γ0 N ds) := by
  have hl := h.length
  refine ⟨u, ?_, fun i s e => ?_, fun i j o o' p _ e1 => ?_⟩
  · unfold L2.start Γ0; simp [hl]
  · unfold Γ0 at e
    unfold L2.start
    by_cases hi : i < ds.length
    · rw [List.getElem?_append_left (by simpa using hi), List.getElem?_map] at e
      rw [List.getElem?_append_left (by simpa [hl] using hi), List.getElem?_map]
      cases e1 : ds[i]? with
      | none => rw [e1] at e; cases e
      | some d =>
        rw [e1] at e
        cases e
        obtain ⟨v, e2, k⟩ := h.get e1
        rw [e2]
        exact ⟨some v, rfl, v, rfl, k⟩
    · rw [List.getElem?_append_right (by simpa using hi), List.getElem?_replicate] at e
      rw [List.getElem?_append_right (by simpa [hl] using hi), List.getElem?_replicate]
      simp only [List.length_map] at e ⊢
      split at e
      · cases e
        rename_i hc
        rw [if_pos (by rw [hl]; exact hc)]
        exact ⟨none, rfl, trivial⟩
      · cases e
  · unfold Γ0 at e1
    by_cases hi : i < ds.length
    · rw [List.getElem?_append_left (by simpa using hi), List.getElem?_map] at e1
      cases e2 : ds[i]? with
      | none => rw [e2] at e1; cases e1
      | some d => rw [e2] at e1; cases e1
    · rw [List.getElem?_append_right (by simpa using hi), List.getElem?_replicate] at e1
      split at e1 <;> cases e1
theorem no_own0 {N : List Str} {ds : List D} {i : Nat} {o : Own} (e1 : (Γ0 N ds)[i]? = some (.own o)) : False := by
  unfold Γ0 at e1
  by_cases hi : i < ds.length
  · rw [List.getElem?_append_left (by simpa using hi), List.getElem?_map] at e1
    cases e2 : ds[i]? with
    | none => rw [e2] at e1; cases e1
    | some d => rw [e2] at e1; cases e1
  · rw [List.getElem?_append_right (by simpa using hi), List.getElem?_replicate] at e1
    split at e1 <;> cases e1
/-- a body keeps the promise -/
theorem spD_body {R : List D → D → Prop} {N : List Str} {vs : List V} {H : Hp} {Q : VK} {E : XK} {t : TS} (h : SpD R vs H Q E)
    (hw : ∀ (B : Bs) (ds : List D) (d : D), R ds d → Wp B (Γ0 N ds) t { nx := fun _ => d = .none, rt := fun _ d' => d' = d, ro := fun _ o => ∃ es, o = .lst es ∧ d = .list es }) : t { nx := fun _ H' => Q .non H', rt := Q } (start N vs) H := by
  obtain ⟨KH, ds, d, u, hd, r, k⟩ := h
  refine hw ⟨H, KH⟩ ds d r (L2.start N vs) H KH _ ⟨envo_start u hd, .refl u, fun i o p e _ => (no_own0 e).elim⟩ ⟨fun σ' H' KH' Γ' e _ s => ?_, fun _ _ _ _ z => z.elim, fun _ _ _ _ z => z.elim, fun v σ' H' KH' Γ' d' e _ s kv => ?_, fun p σ' H' KH' Γ' o e _ s fp kp ow hn => ?_, fun _ _ _ _ _ _ _ z => z.elim⟩
  · subst e; exact k _ H' KH' s.g .non
  · subst e; exact k v H' KH' s.g kv
  · obtain ⟨es, rfl, rfl⟩ := e
    obtain ⟨ws, hp, hw⟩ := ow
    have fp' : H p = none := fp
    refine k _ H' (upd KH' p (.lst ws)) ⟨s.g.ex, Ex.trans s.g.kx (Ex.new kp), fun a o e => ?_, fun q hq hk => ?_⟩ (.lst upd_same (DtAll.mono (Ex.new kp) hw))
    · by_cases ea : a = p
      · subst ea; rw [upd_same] at e; rw [hp]; exact e
      · rw [upd_ne ea] at e; exact s.e.up a o e
    · have hq' : H q ≠ none := hq
      have : q ≠ p := fun z => hq' (z ▸ fp')
      rw [upd_ne this]
      exact s.g.ns q hq hk
theorem spO_body {R : List D → Own → Prop} {N : List Str} {vs : List V} {H : Hp} {Q : VK} {E : XK} {t : TS} (h : SpO R vs H Q E)
    (hw : ∀ (B : Bs) (ds : List D) (o : Own), R ds o → Wp B (Γ0 N ds) t { ro := fun _ o' => o' = o }) : t { nx := fun _ H' => Q .non H', rt := Q } (start N vs) H := by
  obtain ⟨KH, ds, o, u, hd, r, k⟩ := h
  refine hw ⟨H, KH⟩ ds o r (L2.start N vs) H KH _ ⟨envo_start u hd, .refl u, fun i o p e _ => (no_own0 e).elim⟩ ⟨fun _ _ _ _ z => z.elim, fun _ _ _ _ z => z.elim, fun _ _ _ _ z => z.elim, fun _ _ _ _ _ _ z => z.elim, fun p σ' H' KH' Γ' o' e _ s fp kp ow hn => ?_, fun _ _ _ _ _ _ _ z => z.elim⟩
  subst e
  exact k p H' KH' s.g fp kp ow
theorem SpD.len {R : List D → D → Prop} {n : Nat} (h : ∀ ds d, R ds d → ds.length = n) : ∀ vs H Q E, SpD R vs H Q E → vs.length = n := fun vs H Q E ⟨KH, ds, d, u, hd, r, _⟩ => hd.length.trans (h ds d r)
theorem SpO.len {R : List D → Own → Prop} {n : Nat} (h : ∀ ds o, R ds o → ds.length = n) : ∀ vs H Q E, SpO R vs H Q E → vs.length = n := fun vs H Q E ⟨KH, ds, d, u, hd, r, _⟩ => hd.length.trans (h ds d r)
section
variable {Γ : Gm} {R : List D → D → Prop} {RO : List D → Own → Prop} {ds : List D} {d : D} {o : Own} {t : TA} {E : XK}
theorem d_call (h : AEv true Γ t ds) (r : R ds d) : Ev true Γ (tCall (SpD R) [] E t) d := fun σ H KH e Q q => h σ H KH e _ fun vs H1 KH1 g k => by
  show SpD R (vs ++ []) H1 Q E
  rw [List.append_nil]
  exact ⟨KH1, ds, d, g.up, k, r, fun v H' KH' g2 k2 => q v H' KH' (g.trans g2) k2⟩
theorem o_call (h : AEv true Γ t ds) (r : RO ds o) : OEv Γ (tCall (SpO RO) [] E t) o := fun σ H KH e Q q => h σ H KH e _ fun vs H1 KH1 g k => by
  show SpO RO (vs ++ []) H1 Q E
  rw [List.append_nil]
  exact ⟨KH1, ds, o, g.up, k, r, fun p H' KH' g2 n k2 ow => q p H' KH' (g.trans g2) (fresh_back g.ex n) k2 ow⟩
/-- arguments that stand only for now, an answer that needs no heap -/
theorem d_callX (h : AEv false Γ t ds) (r : R ds d) (s : Sc d) : Ev true Γ (tCall (SpD R) [] E t) d := fun σ H KH e Q q => h σ H KH e _ fun vs H1 KH1 g k => by
  show SpD R (vs ++ []) H1 Q E
  rw [List.append_nil]
  refine ⟨H1, ds, d, Ex.refl _, k, r, fun v H' KH' g2 k2 => q v H' (fun a => if KH1 a = none then none else KH' a) ?_ (Dt.sc s k2)⟩
  refine g.trans ⟨g2.ex, fun a w z => ?_, fun a w z => ?_, fun p _ hk => ?_⟩
  · show (if KH1 a = none then none else KH' a) = some w
    rw [if_neg (by rw [z]; exact fun y => nomatch y)]
    exact g2.kx a w (g.up a w z)
  · have z' : (if KH1 a = none then none else KH' a) = some w := z
    split at z'
    · cases z'
    · exact g2.up a w z'
  · show (if KH1 p = none then none else KH' p) = none
    rw [if_pos hk]
end
end LO
namespace LO
open PySem L2 Evl PySem.Spec PyProof.Rows

/-! ### kinds -/
def tyN : D → String
  | .none => "NoneType"
  | .bool _ => "bool"
  | .int _ => "int"
  | .str _ => "str"
  | .list _ => "list"
  | .tuple _ => "tuple"
  | .dict _ => "dict"
theorem Dt.ty {K : PySem.W.Frag} {H : Hp} : ∀ {d : D} {v : V}, Dt H v d → TyX K H v (.type (tyN d))
  | .none, _, h => by cases h; exact .base .non
  | .bool b, _, h => by cases h; exact .base (.bl b)
  | .int i, _, h => by cases h; exact .base (.int i)
  | .str x, _, h => by cases h; exact .base (.str x)
  | .list ds, _, h => by
    cases h with
    | lst hs _ => exact .base (.lst hs)
  | .tuple ds, _, h => by
    cases h with
    | tup hs _ => exact .base (.tup hs)
  | .dict _, _, h => by
    cases h with
    | emp hs => exact .base (.dK hs)
def isIntD : D → Bool
  | .int _ => true
  | .bool _ => true
  | _ => false
def isBoolD : D → Bool
  | .bool _ => true
  | _ => false
def isStrD : D → Bool
  | .str _ => true
  | _ => false
def isListD : D → Bool
  | .list _ => true
  | _ => false
def isTupD : D → Bool
  | .tuple _ => true
  | _ => false
theorem kit_int : ∀ d : D, kitB (tyN d) "int" = some (isIntD d)
  | .none => (by decide +kernel : kitB "NoneType" "int" = some false)
  | .bool _ => (by decide +kernel : kitB "bool" "int" = some true)
  | .int _ => (by decide +kernel : kitB "int" "int" = some true)
  | .str _ => (by decide +kernel : kitB "str" "int" = some false)
  | .list _ => (by decide +kernel : kitB "list" "int" = some false)
  | .tuple _ => (by decide +kernel : kitB "tuple" "int" = some false)
  | .dict _ => (by decide +kernel : kitB "dict" "int" = some false)
theorem kit_bool : ∀ d : D, kitB (tyN d) "bool" = some (isBoolD d)
  | .none => (by decide +kernel : kitB "NoneType" "bool" = some false)
  | .bool _ => (by decide +kernel : kitB "bool" "bool" = some true)
  | .int _ => (by decide +kernel : kitB "int" "bool" = some false)
  | .str _ => (by decide +kernel : kitB "str" "bool" = some false)
  | .list _ => (by decide +kernel : kitB "list" "bool" = some false)
  | .tuple _ => (by decide +kernel : kitB "tuple" "bool" = some false)
  | .dict _ => (by decide +kernel : kitB "dict" "bool" = some false)
theorem kit_str : ∀ d : D, kitB (tyN d) "str" = some (isStrD d)
  | .none => (by decide +kernel : kitB "NoneType" "str" = some false)
  | .bool _ => (by decide +kernel : kitB "bool" "str" = some false)
  | .int _ => (by decide +kernel : kitB "int" "str" = some false)
  | .str _ => (by decide +kernel : kitB "str" "str" = some true)
  | .list _ => (by decide +kernel : kitB "list" "str" = some false)
  | .tuple _ => (by decide +kernel : kitB "tuple" "str" = some false)
  | .dict _ => (by decide +kernel : kitB "dict" "str" = some false)
theorem kit_list : ∀ d : D, kitB (tyN d) "list" = some (isListD d)
  | .none => (by decide +kernel : kitB "NoneType" "list" = some false)
  | .bool _ => (by decide +kernel : kitB "bool" "list" = some false)
  | .int _ => (by decide +kernel : kitB "int" "list" = some false)
  | .str _ => (by decide +kernel : kitB "str" "list" = some false)
  | .list _ => (by decide +kernel : kitB "list" "list" = some true)
  | .tuple _ => (by decide +kernel : kitB "tuple" "list" = some false)
  | .dict _ => (by decide +kernel : kitB "dict" "list" = some false)
theorem kit_tup : ∀ d : D, kitB (tyN d) "tuple" = some (isTupD d)
  | .none => (by decide +kernel : kitB "NoneType" "tuple" = some false)
  | .bool _ => (by decide +kernel : kitB "bool" "tuple" = some false)
  | .int _ => (by decide +kernel : kitB "int" "tuple" = some false)
  | .str _ => (by decide +kernel : kitB "str" "tuple" = some false)
  | .list _ => (by decide +kernel : kitB "list" "tuple" = some false)
  | .tuple _ => (by decide +kernel : kitB "tuple" "tuple" = some true)
  | .dict _ => (by decide +kernel : kitB "dict" "tuple" = some false)
section
variable {Γ : Gm} {f f2 : Bool} {ta tb te : TE} {d d1 d2 : D} {ds es : List D} {b c : Bool} {K : PySem.W.Frag} {t : TA}
theorem d_isi {T : String} (h : Ev f Γ te d) (hk : kitB (tyN d) T = some b) : Ev true Γ (tCB (rIsi K) (tCons te (tCons (tC (.ty T)) tNil))) (.bool b) := fun σ H KH E Q q =>
  h σ H KH E _ fun v H1 KH1 g k => ⟨v, .ty T, .type (tyN d), .type T, b, rfl, .ty T, (Dt.mono (sel_up g.up) k).ty, kit_ty hk, q _ H1 KH1 g (.bl b)⟩
theorem d_isInt (h : Ev f Γ te d) : Ev true Γ (tCB (rIsi K) (tCons te (tCons (tC (.ty "int")) tNil))) (.bool (isIntD d)) := d_isi h (kit_int d)
theorem d_isBool (h : Ev f Γ te d) : Ev true Γ (tCB (rIsi K) (tCons te (tCons (tC (.ty "bool")) tNil))) (.bool (isBoolD d)) := d_isi h (kit_bool d)
theorem d_isStr (h : Ev f Γ te d) : Ev true Γ (tCB (rIsi K) (tCons te (tCons (tC (.ty "str")) tNil))) (.bool (isStrD d)) := d_isi h (kit_str d)
theorem d_isList (h : Ev f Γ te d) : Ev true Γ (tCB (rIsi K) (tCons te (tCons (tC (.ty "list")) tNil))) (.bool (isListD d)) := d_isi h (kit_list d)
theorem d_isTup (h : Ev f Γ te d) : Ev true Γ (tCB (rIsi K) (tCons te (tCons (tC (.ty "tuple")) tNil))) (.bool (isTupD d)) := d_isi h (kit_tup d)

/-! ### len -/
def rLenQ (K : PySem.W.Frag) : List V → Hp → VK → Prop := fun xs H Q => ∃ p ys, xs = [.ref p] ∧ (SqL K H p ys ∨ SqT K H p ys) ∧ Q (.int ys.length) H
theorem d_len (h : Ev f Γ te (.list ds)) : Ev true Γ (tCB (rLenQ K) (tCons te tNil)) (.int (ds.length : Int)) := fun σ H KH E Q q =>
  h σ H KH E _ fun v H1 KH1 g k => by
    have k2 := Dt.mono (sel_up g.up) k
    cases k2 with
    | lst hs hd => exact ⟨_, _, rfl, .inl (.inl (.inl hs)), by rw [hd.length]; exact q _ H1 KH1 g (.int _)⟩
theorem d_lenT (h : Ev f Γ te (.tuple ds)) : Ev true Γ (tCB (rLenQ K) (tCons te tNil)) (.int (ds.length : Int)) := fun σ H KH E Q q =>
  h σ H KH E _ fun v H1 KH1 g k => by
    have k2 := Dt.mono (sel_up g.up) k
    cases k2 with
    | tup hs hd => exact ⟨_, _, rfl, .inr (.inl (.inl hs)), by rw [hd.length]; exact q _ H1 KH1 g (.int _)⟩
def rLenZ : List V → Hp → VK → Prop := fun xs H Q => ∃ z, xs = [.str z] ∧ z.length ≤ sizeLine ∧ Q (.int z.length) H
theorem d_lenS {x : Str} (h : Ev f Γ te (.str x)) (hz : x.length ≤ sizeLine) : Ev true Γ (tCB rLenZ (tCons te tNil)) (.int (x.length : Int)) := fun σ H KH E Q q =>
  h σ H KH E _ fun v H1 KH1 g k => by
    cases k
    exact ⟨x, rfl, hz, q _ H1 KH1 g (.int _)⟩
def rLenK : List V → Hp → VK → Prop := fun xs H Q => ∃ a kvs, xs = [V.ref a] ∧ H a = some (.dK kvs) ∧ Q (.int kvs.length) H
theorem d_lenK {kvs : List (Key × D)} (h : OEv Γ te (.dK kvs)) : Ev true Γ (tCB rLenK (tCons te tNil)) (.int (kvs.length : Int)) := fun σ H KH E Q q =>
  h σ H KH E _ fun p H1 KH1 g _ _ ⟨vs, hp, kv⟩ => ⟨p, vs, rfl, hp, by rw [kv.length]; exact q _ H1 KH1 g (.int _)⟩

/-! ### all, any of a list of truth values -/
theorem DtAll.bools {H : Hp} {vs : List V} {bs : List Bool} (h : DtAll H vs (bs.map PyData.bool)) : vs = bs.map V.bl := DtAll.bls h
theorem d_all {bs : List Bool} (h : Ev f Γ te (.list (bs.map .bool))) : Ev true Γ (tCB (rAll K) (tCons te tNil)) (.bool (bs.all id)) := fun σ H KH E Q q =>
  h σ H KH E _ fun v H1 KH1 g k => by
    have k2 := Dt.mono (sel_up g.up) k
    cases k2 with
    | lst hs hd => exact ⟨_, bs, rfl, .inl (.inl (by rw [← DtAll.bls hd]; exact hs)), q _ H1 KH1 g (.bl _)⟩
theorem d_any {bs : List Bool} (h : Ev f Γ te (.list (bs.map .bool))) : Ev true Γ (tCB (rAny K) (tCons te tNil)) (.bool (bs.any id)) := fun σ H KH E Q q =>
  h σ H KH E _ fun v H1 KH1 g k => by
    have k2 := Dt.mono (sel_up g.up) k
    cases k2 with
    | lst hs hd => exact ⟨_, bs, rfl, .inl (.inl (by rw [← DtAll.bls hd]; exact hs)), q _ H1 KH1 g (.bl _)⟩

/-! ### ints -/
def rMaxQ : List V → Hp → VK → Prop := fun xs H Q => ∃ i j, xs = [.int i, .int j] ∧ Q (.int (if j > i then j else i)) H
def rMinQ : List V → Hp → VK → Prop := fun xs H Q => ∃ i j, xs = [.int i, .int j] ∧ Q (.int (if j < i then j else i)) H
theorem d_max2 {i j : Int} (h1 : Ev f Γ ta (.int i)) (h2 : Ev f2 Γ tb (.int j)) : Ev true Γ (tCB rMaxQ (tCons ta (tCons tb tNil))) (.int (if j > i then j else i)) := fun σ H KH E Q q =>
  h1 σ H KH E _ fun v H1 KH1 g1 k1 => h2 σ H1 KH1 (E.grow g1) _ fun w H2 KH2 g2 k2 => by
    cases k1; cases k2
    exact ⟨i, j, rfl, q _ H2 KH2 (g1.trans g2) (.int _)⟩
theorem d_min2 {i j : Int} (h1 : Ev f Γ ta (.int i)) (h2 : Ev f2 Γ tb (.int j)) : Ev true Γ (tCB rMinQ (tCons ta (tCons tb tNil))) (.int (if j < i then j else i)) := fun σ H KH E Q q =>
  h1 σ H KH E _ fun v H1 KH1 g1 k1 => h2 σ H1 KH1 (E.grow g1) _ fun w H2 KH2 g2 k2 => by
    cases k1; cases k2
    exact ⟨i, j, rfl, q _ H2 KH2 (g1.trans g2) (.int _)⟩
def rIntQ : List V → Hp → VK → Prop := fun xs H Q => (∃ i, xs = [.int i] ∧ Q (.int i) H) ∨ ∃ k, xs = [.bl k] ∧ Q (.int (if k then 1 else 0)) H
theorem d_intB (h : Ev f Γ te (.bool b)) : Ev true Γ (tCB rIntQ (tCons te tNil)) (.int (if b then 1 else 0)) := fun σ H KH E Q q =>
  h σ H KH E _ fun v H1 KH1 g k => by
    cases k
    exact .inr ⟨b, rfl, q _ H1 KH1 g (.int _)⟩
theorem d_neg {i : Int} (h : Ev f Γ te (.int i)) : Ev true Γ (tUn (rU fun i => .int (-i)) te) (.int (-i)) := fun σ H KH E Q q =>
  h σ H KH E _ fun v H1 KH1 g k => by
    cases k
    exact ⟨i, rfl, q _ H1 KH1 g (.int _)⟩

/-! ### lists by calls -/
def rListQ (K : PySem.W.Frag) : List V → Hp → VK → Prop := fun xs H Q => ∃ p ys, xs = [.ref p] ∧ (SqL K H p ys ∨ SqT K H p ys) ∧ ∀ l, H l = none → Q (.ref l) (upd H l (.lst ys))
theorem o_list (h : LEv Γ te ds) : OEv Γ (tCB (rListQ K) (tCons te tNil)) (.lst ds) := fun σ H KH E Q q =>
  h σ H KH E _ fun p vs H1 KH1 g hp hd => ⟨p, vs, rfl, .inl (.inl (.inl hp)), fun l hl => q l _ KH1 (g.trans (Grow.newO g.up hl _)) (fresh_back g.ex hl) (fresh_back g.up hl) ⟨vs, upd_same, hd⟩⟩
theorem o_listT (h : Ev true Γ te (.tuple ds)) : OEv Γ (tCB (rListQ K) (tCons te tNil)) (.lst ds) := fun σ H KH E Q q =>
  h σ H KH E _ fun v H1 KH1 g k => by
    have k' : Dt KH1 v (.tuple ds) := k
    cases k' with
    | tup hs hd => exact ⟨_, _, rfl, .inr (.inl (.inl (g.up _ _ hs))), fun l hl => q l _ KH1 (g.trans (Grow.newO g.up hl _)) (fresh_back g.ex hl) (fresh_back g.up hl) ⟨_, upd_same, hd⟩⟩
def rTupQ (K : PySem.W.Frag) : List V → Hp → VK → Prop := fun xs H Q => ∃ p ys, xs = [.ref p] ∧ ((SqL K H p ys ∧ ∀ l, H l = none → Q (.ref l) (upd H l (.tup ys))) ∨ (SqT K H p ys ∧ Q (.ref p) H))
theorem d_tuple (h : LEv Γ te ds) : Ev true Γ (tCB (rTupQ K) (tCons te tNil)) (.tuple ds) := fun σ H KH E Q q =>
  h σ H KH E _ fun p vs H1 KH1 g hp hd => ⟨p, vs, rfl, .inl ⟨.inl (.inl hp), fun l hl => by
    have kl : KH1 l = none := fresh_back g.up hl
    exact q _ _ _ (g.trans (Grow.new g.up hl _)) (.tup upd_same (DtAll.mono (Ex.new kl) hd))⟩⟩
theorem rgV_dt {H : Hp} (a b : Int) : DtAll H (rgV a b) (rngD a (b - a).toNat) := by
  unfold rgV rngD
  generalize List.range (b - a).toNat = l
  induction l with
  | nil => exact .nil
  | cons x l ih => exact .cons (.int _) ih
/-- list(range(n)) -/
theorem o_listRg {n : Int} (h : Ev f Γ te (.int n)) (h1 : RgOk 0 n) : OEv Γ (tLstRg (tRg1 te)) (.lst (rngD 0 (n - 0).toNat)) := fun σ H KH E Q q =>
  h σ H KH E _ fun v H1 KH1 g k => by
    cases k
    exact ⟨n, rfl, h1, fun l hl => q l _ KH1 (g.trans (Grow.newO g.up hl _)) (fresh_back g.ex hl) (fresh_back g.up hl) ⟨_, upd_same, rgV_dt _ _⟩⟩
/-- sorted(xs) of ints -/
def srt (ns : List Int) : List Int := ns.mergeSort fun a b => decide (a ≤ b)
theorem srt_perm (ns : List Int) : (srt ns).Perm ns := List.mergeSort_perm _ _
theorem srt_pw (ns : List Int) : (srt ns).Pairwise (· ≤ ·) := by
  have h := List.pairwise_mergeSort (le := fun (a b : Int) => decide (a ≤ b)) (fun a b c h1 h2 => by simp at h1 h2 ⊢; omega) (fun a b => by simp; omega) ns
  exact h.imp fun h => by simpa using h
theorem srt_eq {a b : List Int} (p : a.Perm b) (h : a.Pairwise (· ≤ ·)) : a = srt b := PySem.W.os_sorted_mergeSort p h
theorem o_sortedI {ns : List Int} (h : LEv Γ te (ns.map .int)) : OEv Γ (tCB (rSortedI K) (tCons te tNil)) (.lst ((srt ns).map .int)) := fun σ H KH E Q q =>
  h σ H KH E _ fun p vs H1 KH1 g hp hd => ⟨p, ns, rfl, .inl (.inl (by rw [← DtAll.ints hd]; exact hp)), fun ns' l hpm hpw hl => by
    rw [srt_eq hpm hpw]
    exact q l _ KH1 (g.trans (Grow.newO g.up hl _)) (fresh_back g.ex hl) (fresh_back g.up hl) ⟨_, upd_same, DtAll.ofInts _⟩⟩
end
end LO
namespace LO
open PySem L2 Evl PySem.Spec PyProof.Rows

/-- a constant of the module -/
theorem pe_globc {X : Cx} {x : Str} {v : V} {pos : Pos} (h : ∃ u, X.mg x = some u ∧ RelV v u) (hg : Gl X x := by rfl) (hd : (x == ("__debug__" : Str)) = false := by decide) : PE X (.Name x pos) (tC v) := by
  obtain ⟨u, h1, h2⟩ := h
  exact pe_glob hg h1 h2 hd
section
variable {P : Program} {w : World} {K : PySem.W.Frag} {mg : Str → Option Value} {base : Heap}
theorem fo_mkD {x : Str} {pa : Arguments} {body : List Stmt} {sc : Scope} {f : Addr} {fd : FuncData} {N ps : List Str} {k : Nat} {R : List D → D → Prop} (F : FunD K x x pa body sc [] [] f fd) (hm : mg x = some (.ref f)) (S : FnScope N ps sc) (hl : ∀ ds d, R ds d → ds.length = ps.length)
    (hbd : ∀ (kV doc pm : Value) (an : Option Addr) (cdv ct : Value) (us : List Value), us.length = ps.length → bindArgs (PySem.W.fnOf x x pa body sc .none kV doc pm an cdv ct) ⟨us, []⟩ = pure (ps.zip us))
    (hb : ∀ (cd : Value) (A : Around) (out : List Env) (s : Shared) (H : Hp) (E : XK), A.guards = some [] → Room k (A.deeper (envOfC x sc s.heap.objs.size f cd)) →
      ∃ t, PSs (cxOf CX0 P w K mg base N x sc f cd A out s H E).nox body t ∧ ∀ (B : Bs) (ds : List D) (d : D), R ds d → Wp B (Γ0 N ds) t { nx := fun _ => d = .none, rt := fun _ d' => d' = d, ro := fun _ o => ∃ es, o = .lst es ∧ d = .list es }) :
    Fo P w K mg base CX0 (k + 1) x (SpD R) :=
  ⟨f, fd, ps, fnG_of F S (SpD.len hl) (fun cd A out s H vs Q E hg hr h => by
    obtain ⟨t, ht, hw⟩ := hb cd A out s H E hg hr
    exact ⟨t, PSs.nox ht, spD_body h hw⟩), hm, F.kp, F.bindsN hbd⟩
theorem fo_mkO {x : Str} {pa : Arguments} {body : List Stmt} {sc : Scope} {f : Addr} {fd : FuncData} {N ps : List Str} {k : Nat} {R : List D → Own → Prop} (F : FunD K x x pa body sc [] [] f fd) (hm : mg x = some (.ref f)) (S : FnScope N ps sc) (hl : ∀ ds d, R ds d → ds.length = ps.length)
    (hbd : ∀ (kV doc pm : Value) (an : Option Addr) (cdv ct : Value) (us : List Value), us.length = ps.length → bindArgs (PySem.W.fnOf x x pa body sc .none kV doc pm an cdv ct) ⟨us, []⟩ = pure (ps.zip us))
    (hb : ∀ (cd : Value) (A : Around) (out : List Env) (s : Shared) (H : Hp) (E : XK), A.guards = some [] → Room k (A.deeper (envOfC x sc s.heap.objs.size f cd)) →
      ∃ t, PSs (cxOf CX0 P w K mg base N x sc f cd A out s H E).nox body t ∧ ∀ (B : Bs) (ds : List D) (o : Own), R ds o → Wp B (Γ0 N ds) t { ro := fun _ o' => o' = o }) :
    Fo P w K mg base CX0 (k + 1) x (SpO R) :=
  ⟨f, fd, ps, fnG_of F S (SpO.len hl) (fun cd A out s H vs Q E hg hr h => by
    obtain ⟨t, ht, hw⟩ := hb cd A out s H E hg hr
    exact ⟨t, PSs.nox ht, spO_body h hw⟩), hm, F.kp, F.bindsN hbd⟩
end
end LO
namespace LO
open PySem L2 Evl PySem.Spec PyProof.Rows

/-! ### what is owned is written -/
def Slo.calm : Slo → Slo
  | .tmp _ => .no
  | s => s
/-- what stands only for now is forgotten -/
def dropT (Γ : Gm) : Gm := Γ.map Slo.calm
theorem dropT_get {Γ : Gm} {i : Nat} {s : Slo} (h : (dropT Γ)[i]? = some s) : (s = .no) ∨ (Γ[i]? = some s ∧ ∀ d, s ≠ .tmp d) := by
  unfold dropT at h
  rw [List.getElem?_map] at h
  cases e : Γ[i]? with
  | none => rw [e] at h; cases h
  | some t =>
    rw [e] at h
    cases t with
    | tmp d => cases h; exact .inl rfl
    | no => cases h; exact .inl rfl
    | dat d => cases h; exact .inr ⟨rfl, fun _ z => by cases z⟩
    | own o => cases h; exact .inr ⟨rfl, fun _ z => by cases z⟩
    | scr K ns => cases h; exact .inr ⟨rfl, fun _ z => by cases z⟩
section
variable {B : Bs} {Γ : Gm} {R : Po} {te ta tb to : TE} {d d1 d2 : D} {ds es : List D} {o o' : Own} {t u tz : TS} {K : PySem.W.Frag} {i : Nat}
theorem Sat.mutate {H KH : Hp} {σ : L2.St} {p : Addr} {ho : HO} (s : Sat B H KH σ Γ) (h : Γ[i]? = some (.own o)) (e : σ[i]? = some (some (.ref p))) (ow : OwnAt (upd H p ho) KH p o') : Sat B (upd H p ho) KH σ ((dropT Γ).set i (.own o')) := by
  obtain ⟨p', e', kp, _⟩ := s.e.own h
  have pp : p' = p := by rw [e] at e'; cases e'; rfl
  subst pp
  have fp := s.o i o p' h e
  have get : ∀ {j : Nat} {t : Slo}, ((dropT Γ).set i (.own o'))[j]? = some t → (i = j ∧ t = .own o') ∨ (i ≠ j ∧ (t = .no ∨ (Γ[j]? = some t ∧ ∀ d, t ≠ .tmp d))) := fun {j t} q => by
    by_cases hj : i = j
    · subst hj
      have hi : i < (dropT Γ).length := by have := (List.getElem?_eq_some_iff.mp q).1; simpa using this
      rw [List.getElem?_set_self hi] at q
      cases q
      exact .inl ⟨rfl, rfl⟩
    · rw [List.getElem?_set_ne hj] at q
      exact .inr ⟨hj, dropT_get q⟩
  have up : Ex KH (upd H p' ho) := fun a w z => by rw [upd_ne (ne_of_none z kp)]; exact s.e.up a w z
  have oldOwn : ∀ {j : Nat} {w : Own}, ((dropT Γ).set i (.own o'))[j]? = some (.own w) → ∃ w', Γ[j]? = some (.own w') := fun {j w} q => by
    rcases get q with ⟨rfl, _⟩ | ⟨_, z | ⟨z, _⟩⟩
    · exact ⟨o, h⟩
    · cases z
    · exact ⟨w, z⟩
  refine ⟨⟨up, by rw [s.e.len]; simp [dropT], fun j t q => ?_, fun j l o1 o2 r hne e1 e2 e3 => ?_⟩, ⟨fun a w z => ?_, s.g.kx, up, s.g.ns⟩, fun j w r e1 e2 => ?_⟩
  · rcases get q with ⟨rfl, rfl⟩ | ⟨hj, rfl | ⟨z, nt⟩⟩
    · exact ⟨_, e, p', rfl, kp, ow⟩
    · have hj' : j < σ.length := by rw [s.e.len]; have := (List.getElem?_eq_some_iff.mp q).1; simpa [dropT] using this
      exact ⟨σ[j], by simp [hj'], trivial⟩
    · obtain ⟨v, ev, k⟩ := s.e.at_ j t z
      refine ⟨v, ev, ?_⟩
      cases t with
      | no => trivial
      | dat d => exact k
      | tmp d => exact absurd rfl (nt d)
      | scr K ns => exact k
      | own w =>
        obtain ⟨r, rfl, kr, ow'⟩ := k
        have hne : r ≠ p' := fun y => by
          subst y
          exact s.e.sep i j o w r hj h z e ev
        exact ⟨r, rfl, kr, ow'.mono (upd_ne hne) (Ex.refl _)⟩
  · obtain ⟨w1, q1⟩ := oldOwn e1
    obtain ⟨w2, q2⟩ := oldOwn e2
    exact s.e.sep j l w1 w2 r hne q1 q2 e3
  · rw [upd_ne (ne_of_none z fp)]; exact s.g.ex a w z
  · obtain ⟨w1, q1⟩ := oldOwn e1
    exact s.o j w1 r q1 e2
/-- l.append(e), l owned -/
theorem w_append (i : Nat) (h : Γ[i]? = some (.own (.lst ds))) (he : Ev true Γ te d) (hl : ds.length < sizeLine) (k : Wp B ((dropT Γ).set i (.own (.lst (ds ++ [d])))) tz R) :
    Wp B Γ (tSeq (tDrop (tBM K "list" rAppend (tVar i) (tCons te tNil))) tz) R := fun σ H KH Dn s ok => by
  obtain ⟨p, e, kp, vs, hp, hd⟩ := s.e.own h
  refine ⟨_, e, .inl ⟨rfl, _, .inl (.inl hp)⟩, he σ H KH s.e _ fun v H1 KH1 g kv => ?_⟩
  have s1 := s.grow g
  have hp1 := g.ex _ _ hp
  exact ⟨p, vs, v, rfl, rfl, hp1, by rw [hd.length]; exact hl, k σ _ KH1 Dn (s1.mutate h e ⟨_, upd_same, (DtAll.mono g.kx hd).append (.one kv)⟩) (ok.mono g.kx)⟩
theorem w_append1 (i : Nat) (h : Γ[i]? = some (.own (.lst ds))) (he : Ev true Γ te d) (hl : ds.length < sizeLine) (k : R.nx ((dropT Γ).set i (.own (.lst (ds ++ [d]))))) :
    Wp B Γ (tDrop (tBM K "list" rAppend (tVar i) (tCons te tNil))) R := by
  have h2 : Wp B Γ (tSeq (tDrop (tBM K "list" rAppend (tVar i) (tCons te tNil))) tNext) R := w_append i h he hl (w_next k)
  exact h2
/-- l[j] = e, l owned -/
theorem w_setIx (i : Nat) {j : Int} {m : Nat} {f : Bool} (h : Γ[i]? = some (.own (.lst ds))) (he : Ev true Γ te d) (hj : Ev f Γ tb (.int j)) (hm : ixN ds.length j = some m) (k : Wp B ((dropT Γ).set i (.own (.lst (ds.set m d)))) tz R) :
    Wp B Γ (tSeq (tAsg te (gSub (tVar i) tb rSetL)) tz) R := fun σ H KH Dn s ok => by
  obtain ⟨p, e, kp, vs, hp, hd⟩ := s.e.own h
  refine he σ H KH s.e _ fun v H1 KH1 g kv => ⟨_, e, hj σ H1 KH1 (s.grow g).e _ fun y H2 KH2 g2 k2 => ?_⟩
  cases k2
  have s2 := (s.grow g).grow g2
  have g3 := g.trans g2
  exact ⟨p, vs, j, m, rfl, rfl, g3.ex _ _ hp, by rw [hd.length]; exact hm, k σ _ KH2 Dn (s2.mutate h e ⟨_, upd_same, DtAll.set (Dt.mono g2.kx kv) m (DtAll.mono g3.kx hd)⟩) (ok.mono g3.kx)⟩
theorem w_setIx1 (i : Nat) {j : Int} {m : Nat} {f : Bool} (h : Γ[i]? = some (.own (.lst ds))) (he : Ev true Γ te d) (hj : Ev f Γ tb (.int j)) (hm : ixN ds.length j = some m) (k : R.nx ((dropT Γ).set i (.own (.lst (ds.set m d))))) :
    Wp B Γ (tAsg te (gSub (tVar i) tb rSetL)) R := by
  have h2 : Wp B Γ (tSeq (tAsg te (gSub (tVar i) tb rSetL)) tNext) R := w_setIx i h he hj hm (w_next k)
  exact h2

/-! ### readings that write what is owned, or whose answer is not told -/
def EvN (Γ : Gm) (te : TE) (P : D → Gm → Prop) : Prop := ∀ B σ H KH, Sat B H KH σ Γ → ∀ Q : VK, (∀ v d H' KH' Γ', P d Γ' → Ex KH KH' → Sat B H' KH' σ Γ' → Dt KH' v d → Q v H') → te σ H Q
/-- what is known of a value for good: data, or the script -/
def Kn (KH : Hp) (v : V) : Slo → Prop
  | .dat d => Dt KH v d
  | .scr K ns => ∃ p, v = .ref p ∧ SqL K KH p (ns.map V.int)
  | _ => False
inductive KnAll (KH : Hp) : List V → List Slo → Prop
  | nil : KnAll KH [] []
  | cons {v : V} {vs : List V} {s : Slo} {ss : List Slo} : Kn KH v s → KnAll KH vs ss → KnAll KH (v :: vs) (s :: ss)
def AEvN (Γ : Gm) (ta : TA) (P : List Slo → Gm → Prop) : Prop := ∀ B σ H KH, Sat B H KH σ Γ → ∀ Q : List V → Hp → Prop, (∀ vs ds H' KH' Γ', P ds Γ' → Ex KH KH' → Sat B H' KH' σ Γ' → KnAll KH' vs ds → Q vs H') → ta σ H Q
def TEvN (Γ : Gm) (tt : TT) (P : Bool → Gm → Prop) : Prop := ∀ B σ H KH, Sat B H KH σ Γ → ∀ Q : Bool → Hp → Prop, (∀ b H' KH' Γ', P b Γ' → Ex KH KH' → Sat B H' KH' σ Γ' → Q b H') → tt σ H Q
/-- .. giving a new list -/
def OEvN (Γ : Gm) (te : TE) (P : Own → Gm → Prop) : Prop := ∀ B σ H KH, Sat B H KH σ Γ → ∀ Q : VK, (∀ p o H' KH' Γ', P o Γ' → Ex KH KH' → Sat B H' KH' σ Γ' → OwnAt H' KH' p o → KH' p = none → B.F p = none → (∀ (j : Nat) (o' : Own), Γ'[j]? = some (.own o') → σ[j]? ≠ some (some (.ref p))) → Q (.ref p) H') → te σ H Q
theorem Ev.n (h : Ev true Γ te d) : EvN Γ te (fun d' Γ' => d' = d ∧ Γ' = Γ) := fun B σ H KH s Q q => h σ H KH s.e Q fun v H' KH' g k => q v d H' KH' Γ ⟨rfl, rfl⟩ g.kx (s.grow g) k
theorem EvN.imp {P P' : D → Gm → Prop} (h : EvN Γ te P) (k : ∀ d g, P d g → P' d g) : EvN Γ te P' := fun B σ H KH s Q q => h B σ H KH s Q fun v d H' KH' Γ' p => q v d H' KH' Γ' (k d Γ' p)
theorem n_op {r : R2} {P1 P : D → Gm → Prop} (ha : EvN Γ ta P1) (hb : ∀ d1 Γ1, P1 d1 Γ1 → ∃ P2, EvN Γ1 tb P2 ∧ ∀ d2 Γ2, P2 d2 Γ2 → ∃ d, RS r d1 d2 d ∧ P d Γ2) : EvN Γ (tOp r ta tb) P := fun B σ H KH s Q q =>
  ha B σ H KH s _ fun x d1 H1 KH1 Γ1 p1 e1 s1 k1 => by
    obtain ⟨P2, h2, h3⟩ := hb d1 Γ1 p1
    refine h2 B σ H1 KH1 s1 _ fun y d2 H2 KH2 Γ2 p2 e2 s2 k2 => ?_
    obtain ⟨d, hr, p⟩ := h3 d2 Γ2 p2
    exact hr x y H2 (Dt.mono s2.e.up (Dt.mono e2 k1)) (Dt.mono s2.e.up k2) Q fun z hz => q z d H2 KH2 Γ2 p (Ex.trans e1 e2) s2 (hz _)
/-- xs[e], xs known, e with draws -/
theorem n_ixL {P1 P : D → Gm → Prop} {f : Bool} (ha : Ev true Γ ta (.list ds)) (hb : EvN Γ tb P1) (hr : ∀ d1 Γ1, P1 d1 Γ1 → ∃ i d, d1 = .int i ∧ atI ds i = some d ∧ P d Γ1) : EvN Γ (tOp (rIxL K) ta tb) P := fun B σ H KH s Q q =>
  ha σ H KH s.e _ fun x H1 KH1 g1 k1 => by
    have k1' : Dt KH1 x (.list ds) := k1
    cases k1' with
    | lst hs hd =>
      refine hb B σ H1 KH1 (s.grow g1) _ fun y d1 H2 KH2 Γ2 p1 e2 s2 k2 => ?_
      obtain ⟨i, d, rfl, ei, p⟩ := hr d1 Γ2 p1
      cases k2
      obtain ⟨v, a, k⟩ := (DtAll.mono e2 hd).at ei
      exact ⟨_, _, i, v, rfl, rfl, .inl (.inl (s2.e.up _ _ (e2 _ _ hs))), a, q v d H2 KH2 Γ2 p (Ex.trans g1.kx e2) s2 k⟩
theorem n_if {tt : TT} {b : Bool} {P : D → Gm → Prop} (h : TEv Γ tt b) (h1 : b = true → EvN Γ ta P) (h2 : b = false → EvN Γ tb P) : EvN Γ (tIf tt ta tb) P := fun B σ H KH s Q q => h σ H KH s.e _ fun H1 KH1 g => by
  cases b with
  | true =>
    show ta σ H1 Q
    exact h1 rfl B σ H1 KH1 (s.grow g) Q fun v d H' KH' Γ' p e => q v d H' KH' Γ' p (Ex.trans g.kx e)
  | false =>
    show tb σ H1 Q
    exact h2 rfl B σ H1 KH1 (s.grow g) Q fun v d H' KH' Γ' p e => q v d H' KH' Γ' p (Ex.trans g.kx e)
theorem n_ifN {tt : TT} {P1 : Bool → Gm → Prop} {P : D → Gm → Prop} (h : TEvN Γ tt P1) (h1 : ∀ b Γ1, P1 b Γ1 → if b then EvN Γ1 ta P else EvN Γ1 tb P) : EvN Γ (tIf tt ta tb) P := fun B σ H KH s Q q => h B σ H KH s _ fun b H1 KH1 Γ1 p1 e1 s1 => by
  have h2 := h1 b Γ1 p1
  cases b with
  | true =>
    show ta σ H1 Q
    exact h2 B σ H1 KH1 s1 Q fun v d H' KH' Γ' p e => q v d H' KH' Γ' p (Ex.trans e1 e)
  | false =>
    show tb σ H1 Q
    exact h2 B σ H1 KH1 s1 Q fun v d H' KH' Γ' p e => q v d H' KH' Γ' p (Ex.trans e1 e)
theorem an_nil : AEvN Γ tNil (fun ds Γ' => ds = [] ∧ Γ' = Γ) := fun B σ H KH s Q q => q [] [] H KH Γ ⟨rfl, rfl⟩ (Ex.refl _) s .nil
theorem an_cons {tr : TA} {P1 : D → Gm → Prop} {P : List Slo → Gm → Prop} (ha : EvN Γ te P1) (hb : ∀ d1 Γ1, P1 d1 Γ1 → ∃ P2, AEvN Γ1 tr P2 ∧ ∀ es Γ2, P2 es Γ2 → P (.dat d1 :: es) Γ2) : AEvN Γ (tCons te tr) P := fun B σ H KH s Q q =>
  ha B σ H KH s _ fun x d1 H1 KH1 Γ1 p1 e1 s1 k1 => by
    obtain ⟨P2, h2, h3⟩ := hb d1 Γ1 p1
    exact h2 B σ H1 KH1 s1 _ fun vs es H2 KH2 Γ2 p2 e2 s2 k2 => q _ _ H2 KH2 Γ2 (h3 es Γ2 p2) (Ex.trans e1 e2) s2 (.cons (Dt.mono e2 k1) k2)
/-- the script, handed on -/
theorem an_scr {tr : TA} {ns : List Int} {P P2 : List Slo → Gm → Prop} (h : Γ[i]? = some (.scr K ns)) (h2 : AEvN Γ tr P2) (h3 : ∀ es Γ2, P2 es Γ2 → P (.scr K ns :: es) Γ2) : AEvN Γ (tCons (tVar i) tr) P := fun B σ H KH s Q q => by
  obtain ⟨v, ev, p, rfl, hs⟩ := s.e.at_ i _ h
  exact ⟨_, ev, h2 B σ H KH s _ fun vs es H2 KH2 Γ2 p2 e2 s2 k2 => q _ _ H2 KH2 Γ2 (h3 es Γ2 p2) e2 s2 (.cons ⟨p, rfl, ex_l e2 hs⟩ k2)⟩
theorem KnAll.dat {KH : Hp} : ∀ {vs : List V} {ds : List D}, DtAll KH vs ds → KnAll KH vs (ds.map .dat)
  | _, _, .nil => .nil
  | _, _, .cons h t => .cons h (KnAll.dat t)
theorem KnAll.dts {KH : Hp} : ∀ {ds : List D} {vs : List V}, KnAll KH vs (ds.map .dat) → DtAll KH vs ds
  | [], _, h => by cases h; exact .nil
  | d :: ds, _, h => by
    cases h with
    | cons h t => exact .cons h (KnAll.dts t)
theorem AEv.n {tr : TA} (h : AEv true Γ tr ds) : AEvN Γ tr (fun ds' Γ' => ds' = ds.map .dat ∧ Γ' = Γ) := fun B σ H KH s Q q => h σ H KH s.e Q fun v H' KH' g k => q v _ H' KH' Γ ⟨rfl, rfl⟩ g.kx (s.grow g) (KnAll.dat k)
theorem n_tup {tr : TA} {P1 : List Slo → Gm → Prop} {P : D → Gm → Prop} (h : AEvN Γ tr P1) (k : ∀ es Γ1, P1 es Γ1 → ∃ ds, es = ds.map .dat ∧ ds.length ≤ sizeLine ∧ P (.tuple ds) Γ1) : EvN Γ (tTup tr) P := fun B σ H KH s Q q =>
  h B σ H KH s _ fun vs es H1 KH1 Γ1 p1 e1 s1 k1 => by
    obtain ⟨ds, rfl, hl, p⟩ := k es Γ1 p1
    have k2 := KnAll.dts k1
    refine ⟨by rw [k2.length]; exact hl, fun r hr => ?_⟩
    have kr : KH1 r = none := fresh_back s1.e.up hr
    exact q _ _ _ _ Γ1 p (Ex.trans e1 (Ex.new kr)) (s1.grow (Grow.new s1.e.up hr _)) (.tup upd_same (DtAll.mono (Ex.new kr) k2))
theorem n_lst {tr : TA} {P1 : List Slo → Gm → Prop} {P : Own → Gm → Prop} (h : AEvN Γ tr P1) (k : ∀ es Γ1, P1 es Γ1 → ∃ ds, es = ds.map .dat ∧ ds.length ≤ sizeLine ∧ P (.lst ds) Γ1) : OEvN Γ (tLst tr) P := fun B σ H KH s Q q =>
  h B σ H KH s _ fun vs es H1 KH1 Γ1 p1 e1 s1 k1 => by
    obtain ⟨ds, rfl, hl, p⟩ := k es Γ1 p1
    have k2 := KnAll.dts k1
    refine ⟨by rw [k2.length]; exact hl, fun r hr => ?_⟩
    exact q r _ _ KH1 Γ1 p e1 (s1.grow (Grow.newO s1.e.up hr _)) ⟨vs, upd_same, k2⟩ (fresh_back s1.e.up hr) (fresh_back s1.g.ex hr) (s1.e.notNew hr)
theorem tn_test {P1 : D → Gm → Prop} {P : Bool → Gm → Prop} (h : EvN Γ te P1) (k : ∀ d Γ1, P1 d Γ1 → ∃ b, d = .bool b ∧ P b Γ1) : TEvN Γ (tTest te) P := fun B σ H KH s Q q =>
  h B σ H KH s _ fun v d H1 KH1 Γ1 p1 e1 s1 k1 => by
    obtain ⟨b, rfl, p⟩ := k d Γ1 p1
    cases k1
    exact ⟨b, rfl, q b H1 KH1 Γ1 p e1 s1⟩
theorem TEv.n {tt : TT} {b : Bool} (h : TEv Γ tt b) : TEvN Γ tt (fun b' Γ' => b' = b ∧ Γ' = Γ) := fun B σ H KH s Q q => h σ H KH s.e Q fun H' KH' g => q b H' KH' Γ ⟨rfl, rfl⟩ g.kx (s.grow g)
theorem tn_and {t1 t2 : TT} {P1 P : Bool → Gm → Prop} (h : TEvN Γ t1 P1) (k : ∀ b Γ1, P1 b Γ1 → if b then TEvN Γ1 t2 P else P false Γ1) : TEvN Γ (tAnd t1 t2) P := fun B σ H KH s Q q => h B σ H KH s _ fun b H1 KH1 Γ1 p1 e1 s1 => by
  have h2 := k b Γ1 p1
  cases b with
  | true =>
    show t2 σ H1 Q
    exact h2 B σ H1 KH1 s1 Q fun b H' KH' Γ' p e => q b H' KH' Γ' p (Ex.trans e1 e)
  | false => exact q false H1 KH1 Γ1 h2 e1 s1
/-- statements -/
theorem w_asgN (i : Nat) {P : D → Gm → Prop} (h : EvN Γ te P) (k : ∀ d Γ', P d Γ' → Wp B (Γ'.set i (.dat d)) tz R) : Wp B Γ (tSeq (tAsg te (gName i)) tz) R := fun σ H KH Dn s ok =>
  h B σ H KH s _ fun v d H1 KH1 Γ1 p e1 s1 k1 => k d Γ1 p _ H1 KH1 Dn (s1.setDat i k1) (ok.mono e1)
theorem w_asgN1 (i : Nat) {P : D → Gm → Prop} (h : EvN Γ te P) (k : ∀ d Γ', P d Γ' → R.nx (Γ'.set i (.dat d))) : Wp B Γ (tAsg te (gName i)) R := fun σ H KH Dn s ok =>
  h B σ H KH s _ fun v d H1 KH1 Γ1 p e1 s1 k1 => ok.nx _ H1 KH1 _ (k d Γ1 p) e1 (s1.setDat i k1)
theorem w_asgON (i : Nat) {P : Own → Gm → Prop} (h : OEvN Γ te P) (k : ∀ o Γ', P o Γ' → Wp B (Γ'.set i (.own o)) tz R) : Wp B Γ (tSeq (tAsg te (gName i)) tz) R := fun σ H KH Dn s ok =>
  h B σ H KH s _ fun p o H1 KH1 Γ1 pp e1 s1 ow kp fp nn => k o Γ1 pp _ H1 KH1 Dn (s1.setOwn i fp kp ow nn) (ok.mono e1)
theorem w_retN {P : D → Gm → Prop} (h : EvN Γ te P) (k : ∀ d Γ', P d Γ' → R.rt Γ' d) : Wp B Γ (tRet te) R := fun σ H KH Dn s ok =>
  h B σ H KH s _ fun v d H1 KH1 Γ1 p e1 s1 k1 => ok.rt v σ H1 KH1 Γ1 d (k d Γ1 p) e1 s1 k1
theorem w_retON {P : Own → Gm → Prop} (h : OEvN Γ te P) (k : ∀ o Γ', P o Γ' → R.ro Γ' o) : Wp B Γ (tRet te) R := fun σ H KH Dn s ok =>
  h B σ H KH s _ fun p o H1 KH1 Γ1 pp e1 s1 ow kp fp nn => ok.ro p σ H1 KH1 Γ1 o (k o Γ1 pp) e1 s1 fp kp ow nn
theorem w_ifN {c : TT} {P : Bool → Gm → Prop} (h : TEvN Γ c P) (k : ∀ b Γ', P b Γ' → if b then Wp B Γ' (tSeq t tz) R else Wp B Γ' (tSeq u tz) R) : Wp B Γ (tSeq (tIfS c t u) tz) R := fun σ H KH Dn s ok =>
  h B σ H KH s _ fun b H1 KH1 Γ1 p e1 s1 => by
    have h2 := k b Γ1 p
    cases b with
    | true => exact h2 σ H1 KH1 Dn s1 (ok.mono e1)
    | false => exact h2 σ H1 KH1 Dn s1 (ok.mono e1)
theorem w_appendN (i : Nat) {P : D → Gm → Prop} (ho : ∃ es, Γ[i]? = some (.own (.lst es))) (he : EvN Γ te P) (k : ∀ d Γ', P d Γ' → ∃ ds, Γ'[i]? = some (.own (.lst ds)) ∧ ds.length < sizeLine ∧ Wp B ((dropT Γ').set i (.own (.lst (ds ++ [d])))) tz R) :
    Wp B Γ (tSeq (tDrop (tBM K "list" rAppend (tVar i) (tCons te tNil))) tz) R := fun σ H KH Dn s ok => by
  obtain ⟨es, h⟩ := ho
  obtain ⟨p, e, kp, vs, hp, hd⟩ := s.e.own h
  refine ⟨_, e, .inl ⟨rfl, _, .inl (.inl hp)⟩, he B σ H KH s _ fun v d H1 KH1 Γ1 pd e1 s1 kv => ?_⟩
  obtain ⟨ds, h1, hl, kk⟩ := k d Γ1 pd
  obtain ⟨p', e', kp', vs', hp', hd'⟩ := s1.e.own h1
  rw [e] at e'
  cases e'
  exact ⟨p, vs', v, rfl, rfl, hp', by rw [hd'.length]; exact hl, kk σ _ KH1 Dn (s1.mutate h1 e ⟨_, upd_same, hd'.append (.one kv)⟩) (ok.mono e1)⟩
/-- l.pop(e) -/
theorem n_pop (i : Nat) {P1 P : D → Gm → Prop} (ho : ∃ es, Γ[i]? = some (.own (.lst es))) (he : EvN Γ te P1)
    (k : ∀ d Γ', P1 d Γ' → ∃ ds j m x, d = .int j ∧ Γ'[i]? = some (.own (.lst ds)) ∧ -(2 ^ 63) ≤ j ∧ j < 2 ^ 63 ∧ seqIndex? j ds.length = some m ∧ ds[m]? = some x ∧ P x ((dropT Γ').set i (.own (.lst (ds.eraseIdx m))))) :
    EvN Γ (tBM K "list" rPopAt (tVar i) (tCons te tNil)) P := fun B σ H KH s Q q => by
  obtain ⟨es, h⟩ := ho
  obtain ⟨p, e, kp, vs, hp, hd⟩ := s.e.own h
  refine ⟨_, e, .inl ⟨rfl, _, .inl (.inl hp)⟩, he B σ H KH s _ fun v d H1 KH1 Γ1 pd e1 s1 kv => ?_⟩
  obtain ⟨ds, j, m, x, rfl, h1, j1, j2, hm, hx, pp⟩ := k d Γ1 pd
  obtain ⟨p', e', kp', vs', hp', hd'⟩ := s1.e.own h1
  rw [e] at e'
  cases e'
  cases kv
  obtain ⟨y, hy, ky⟩ := hd'.get hx
  exact ⟨p, vs', j, m, y, rfl, rfl, hp', j1, j2, by rw [hd'.length]; exact hm, hy, q y x _ KH1 _ pp e1 (s1.mutate h1 e ⟨_, upd_same, hd'.eraseIdx m⟩) ky⟩
end

/-! ### defs that write their first argument -/
/-- the objects but a stay -/
structure GrowM (a : Addr) (H KH H' KH' : Hp) : Prop where
  ex : ∀ b o, b ≠ a → H b = some o → H' b = some o
  kx : Ex KH KH'
  up : Ex KH' H'
  ns : ∀ p, H p ≠ none → KH p = none → KH' p = none
theorem KnAll.length {KH : Hp} : ∀ {vs : List V} {ss : List Slo}, KnAll KH vs ss → vs.length = ss.length
  | _, _, .nil => rfl
  | _, _, .cons _ t => by rw [List.length_cons, List.length_cons, KnAll.length t]
/-- the first argument is owned, its content φ n; at most m steps later it is φ (n + m). R: the other arguments, m, what is told of the answer -/
def SpM (φ : Nat → HO → Prop) (lim : Nat) (R : List Slo → Nat → (D → Prop) → Prop) : Sp := fun vs H Q _ => ∃ KH a rest ds n m P o, vs = .ref a :: rest ∧ Ex KH H ∧ KH a = none ∧ H a = some o ∧ φ n o ∧ KnAll KH rest ds ∧ R ds m P ∧ n + m ≤ lim ∧
  ∀ d v H' KH' o', P d → GrowM a H KH H' KH' → H' a = some o' → φ (n + m) o' → Dt KH' v d → Q v H'
/-- .. the answer a new object -/
def SpMO (φ : Nat → HO → Prop) (lim : Nat) (R : List Slo → Nat → (Own → Prop) → Prop) : Sp := fun vs H Q _ => ∃ KH a rest ds n m P o, vs = .ref a :: rest ∧ Ex KH H ∧ KH a = none ∧ H a = some o ∧ φ n o ∧ KnAll KH rest ds ∧ R ds m P ∧ n + m ≤ lim ∧
  ∀ w p H' KH' o', P w → GrowM a H KH H' KH' → H' a = some o' → φ (n + m) o' → H p = none → KH' p = none → OwnAt H' KH' p w → Q (.ref p) H'
theorem SpM.len {φ : Nat → HO → Prop} {lim : Nat} {R : List Slo → Nat → (D → Prop) → Prop} {k : Nat} (h : ∀ ds m P, R ds m P → ds.length = k) : ∀ vs H Q E, SpM φ lim R vs H Q E → vs.length = k + 1 := by
  rintro vs H Q E ⟨KH, a, rest, ds, n, m, P, o, rfl, _, _, _, _, hd, r, _⟩
  rw [List.length_cons, hd.length, h _ _ _ r]
theorem SpMO.len {φ : Nat → HO → Prop} {lim : Nat} {R : List Slo → Nat → (Own → Prop) → Prop} {k : Nat} (h : ∀ ds m P, R ds m P → ds.length = k) : ∀ vs H Q E, SpMO φ lim R vs H Q E → vs.length = k + 1 := by
  rintro vs H Q E ⟨KH, a, rest, ds, n, m, P, o, rfl, _, _, _, _, hd, r, _⟩
  rw [List.length_cons, hd.length, h _ _ _ r]
/-- behind such a call: the callers' slots -/
theorem Sat.after {B : Bs} {Γ : Gm} {i : Nat} {o o2 : Own} {H KH H' KH' : Hp} {σ : L2.St} {p : Addr} (s : Sat B H KH σ Γ) (h : Γ[i]? = some (.own o)) (e : σ[i]? = some (some (.ref p))) (g : GrowM p H KH H' KH') (ow : OwnAt H' KH' p o2) : Sat B H' KH' σ ((dropT Γ).set i (.own o2)) := by
  obtain ⟨p', e', kp, ow0⟩ := s.e.own h
  have pp : p' = p := by rw [e] at e'; cases e'; rfl
  subst pp
  obtain ⟨u0, hu0⟩ := ow0.some
  have fp := s.o i o p' h e
  have kp' : KH' p' = none := g.ns p' (by rw [hu0]; exact fun z => nomatch z) kp
  have get : ∀ {j : Nat} {t : Slo}, ((dropT Γ).set i (.own o2))[j]? = some t → (i = j ∧ t = .own o2) ∨ (i ≠ j ∧ (t = .no ∨ (Γ[j]? = some t ∧ ∀ d, t ≠ .tmp d))) := fun {j t} q => by
    by_cases hj : i = j
    · subst hj
      have hi : i < (dropT Γ).length := by have := (List.getElem?_eq_some_iff.mp q).1; simpa using this
      rw [List.getElem?_set_self hi] at q
      cases q
      exact .inl ⟨rfl, rfl⟩
    · rw [List.getElem?_set_ne hj] at q
      exact .inr ⟨hj, dropT_get q⟩
  have oldOwn : ∀ {j : Nat} {w : Own}, ((dropT Γ).set i (.own o2))[j]? = some (.own w) → ∃ w', Γ[j]? = some (.own w') := fun {j w} q => by
    rcases get q with ⟨rfl, _⟩ | ⟨_, z | ⟨z, _⟩⟩
    · exact ⟨o, h⟩
    · cases z
    · exact ⟨w, z⟩
  refine ⟨⟨g.up, by rw [s.e.len]; simp [dropT], fun j t q => ?_, fun j l o1 o3 r hne e1 e2 e3 => ?_⟩, ⟨fun a w z => ?_, Ex.trans s.g.kx g.kx, g.up, fun q hq hk => g.ns q (ex_ne s.g.ex hq) (s.g.ns q hq hk)⟩, fun j w r e1 e2 => ?_⟩
  · rcases get q with ⟨rfl, rfl⟩ | ⟨hj, rfl | ⟨z, nt⟩⟩
    · exact ⟨_, e, p', rfl, kp', ow⟩
    · have hj' : j < σ.length := by rw [s.e.len]; have := (List.getElem?_eq_some_iff.mp q).1; simpa [dropT] using this
      exact ⟨σ[j], by simp [hj'], trivial⟩
    · obtain ⟨v, ev, k⟩ := s.e.at_ j t z
      refine ⟨v, ev, ?_⟩
      cases t with
      | no => trivial
      | dat d =>
        obtain ⟨x, ex, dx⟩ := k
        exact ⟨x, ex, Dt.mono g.kx dx⟩
      | tmp d => exact absurd rfl (nt d)
      | scr K ns =>
        obtain ⟨x, ex, dx⟩ := k
        exact ⟨x, ex, ex_l g.kx dx⟩
      | own w =>
        obtain ⟨r, rfl, kr, ow'⟩ := k
        have hne : r ≠ p' := fun y => by
          subst y
          exact s.e.sep i j o w r hj h z e ev
        obtain ⟨u1, hu1⟩ := ow'.some
        exact ⟨r, rfl, g.ns r (by rw [hu1]; exact fun z => nomatch z) kr, ow'.mono ((g.ex r u1 hne hu1).trans hu1.symm) g.kx⟩
  · obtain ⟨w1, q1⟩ := oldOwn e1
    obtain ⟨w2, q2⟩ := oldOwn e2
    exact s.e.sep j l w1 w2 r hne q1 q2 e3
  · exact g.ex a w (ne_of_none z fp) (s.g.ex a w z)
  · obtain ⟨w1, q1⟩ := oldOwn e1
    exact s.o j w1 r q1 e2
section
variable {Γ : Gm} {i : Nat} {φ : Nat → HO → Prop} {lim n : Nat} {R : List Slo → Nat → (D → Prop) → Prop} {RO : List Slo → Nat → (Own → Prop) → Prop} {t : TA} {E : XK} {p : Addr}
/-- f(bag, e, ..) -/
theorem n_callM {P1 : List Slo → Gm → Prop} {P : D → Gm → Prop} (h : ∃ n, Γ[i]? = some (.own (.raw p (φ n)))) (ha : AEvN Γ t P1)
    (hr : ∀ ds Γ1, P1 ds Γ1 → ∃ n m Pd, Γ1[i]? = some (.own (.raw p (φ n))) ∧ R ds m Pd ∧ n + m ≤ lim ∧ ∀ d, Pd d → P d ((dropT Γ1).set i (.own (.raw p (φ (n + m)))))) : EvN Γ (tCall (SpM φ lim R) [] E (tCons (tVar i) t)) P := fun B σ H KH s Q q => by
  obtain ⟨n0, h0⟩ := h
  obtain ⟨p0, e, kp, ow⟩ := s.e.own h0
  have pp : p0 = p := ow.1
  subst pp
  refine ⟨_, e, ha B σ H KH s _ fun vs ds H1 KH1 Γ1 p1 e1 s1 k1 => ?_⟩
  obtain ⟨n, m, Pd, h1, r, hl, hP⟩ := hr ds Γ1 p1
  obtain ⟨p', e', kp', _, ho, hho, hφ⟩ := s1.e.own h1
  rw [e] at e'
  cases e'
  show SpM φ lim R ((.ref p0 :: vs) ++ []) H1 Q E
  rw [List.append_nil]
  exact ⟨KH1, p0, vs, ds, n, m, Pd, ho, rfl, s1.e.up, kp', hho, hφ, k1, r, hl, fun d v H' KH' o' hd g ho' hφ' kv => q v d H' KH' _ (hP d hd) (Ex.trans e1 g.kx) (s1.after h1 e g ⟨rfl, o', ho', hφ'⟩) kv⟩
theorem n_callMO {P1 : List Slo → Gm → Prop} {P : Own → Gm → Prop} (h : ∃ n, Γ[i]? = some (.own (.raw p (φ n)))) (ha : AEvN Γ t P1)
    (hr : ∀ ds Γ1, P1 ds Γ1 → ∃ n m Pd, Γ1[i]? = some (.own (.raw p (φ n))) ∧ RO ds m Pd ∧ n + m ≤ lim ∧ ∀ d, Pd d → P d ((dropT Γ1).set i (.own (.raw p (φ (n + m)))))) : OEvN Γ (tCall (SpMO φ lim RO) [] E (tCons (tVar i) t)) P := fun B σ H KH s Q q => by
  obtain ⟨n0, h0⟩ := h
  obtain ⟨p0, e, kp, ow⟩ := s.e.own h0
  have pp : p0 = p := ow.1
  subst pp
  refine ⟨_, e, ha B σ H KH s _ fun vs ds H1 KH1 Γ1 p1 e1 s1 k1 => ?_⟩
  obtain ⟨n, m, Pd, h1, r, hl, hP⟩ := hr ds Γ1 p1
  obtain ⟨p', e', kp', _, ho, hho, hφ⟩ := s1.e.own h1
  rw [e] at e'
  cases e'
  show SpMO φ lim RO ((.ref p0 :: vs) ++ []) H1 Q E
  rw [List.append_nil]
  refine ⟨KH1, p0, vs, ds, n, m, Pd, ho, rfl, s1.e.up, kp', hho, hφ, k1, r, hl, fun w r H' KH' o' hd g ho' hφ' hr kr ow => q r w H' KH' _ (hP w hd) (Ex.trans e1 g.kx) (s1.after h1 e g ⟨rfl, o', ho', hφ'⟩) ow kr (fresh_back s1.g.ex hr) fun j o2 z y => ?_⟩
  -- the new object is no slot's own: it was not there
  have old : ∃ w', Γ1[j]? = some (.own w') := by
    by_cases hj : i = j
    · subst hj; exact ⟨_, h1⟩
    · rw [List.getElem?_set_ne hj] at z
      rcases dropT_get z with z | ⟨z, _⟩
      · cases z
      · exact ⟨_, z⟩
  obtain ⟨w', hw'⟩ := old
  exact s1.e.notNew hr j w' hw' y
end
end LO
namespace LO
open PySem L2 Evl PySem.Spec PyProof.Rows PySem.W

/-! ### the law's def, called with the script -/
def bitsOk (ns : List Int) : Prop := ∀ k ∈ ns, Builtin.Int.intBits k ≤ 1048576
/-- the law's promise: true, at any script that is not too long -/
def SpLaw (K : Frag) (n : Nat) : Sp := fun vs H Q _ => ∃ a ns, vs = [.ref a] ∧ SqL K H a (ns.map V.int) ∧ ns.length ≤ n ∧ bitsOk ns ∧ ∀ H', Q (.bl true) H'
def okTrue (s0 : Shared) (r : Result) (s2 : Shared) : Prop := r = .ok (.ret (.bool true)) ∧ OldK s0.heap s2.heap ∧ s2.os = s0.os ∧ AllBare s2.gens
section
variable {P : Program} {w : World} {K : Frag} {mg mb : Str → Option Value} {CX : CXT} {k n : Nat} {fa a : Addr} {fd : FuncData} {x : Str} {s0 : Shared} {vs : List Value} {ns : List Int}
/-- no tracked object but the script, and it frozen -/
structure Lone (P : Program) (w : World) (K : Frag) (H : Hp) (a : Addr) (h : Heap) : Prop where
  ok : HOk P w H h
  one : ∀ b, b ≠ a → H b = none
  frz : ∀ u, H a = some u → K.lookup a = none ∧ ∃ o xs, u = .frz o (.lst xs)
theorem lone_run {H : Hp} (z : Lone P w K H a s0.heap) (inK : K.In s0.heap) (nm : s0.heap.Ns mainGlobals mg) (nb : s0.heap.Ns builtinsNs mb) (ab : ∀ y : Str, y ≠ "__name__" → mb y = bootBuiltins y) (nl : s0.heap.NoLimit) (g0 : s0.gens = #[])
    (oa : s0.heap.get? a = some { cls := .type "list", data := .seq vs.toArray }) (rm : Room k callerA) (hn : ns.length ≤ n) (hb : bitsOk ns)
    (G : ∀ bs : Heap, K.In bs → bs.Ns mainGlobals mg → FnG P w K mg bs CX k fa fd [x] (SpLaw K n)) (bd : ∀ (s : Shared) (u : Value), BindsTo s fd ⟨[u], []⟩ [(x, u)]) (sq : SqL K H a (ns.map V.int))
    (nox : ∀ e s2, CX [] H s0 (fun _ _ _ => False) e s2 → False) : codeAny (model P w) callerA (.call (.ref fa) ⟨[.ref a], []⟩) (okTrue s0) s0 := by
  -- what is hidden is the script at most: a list, never a namespace, never the module's own
  have keep1 : ∀ b o, s0.heap.get? b = some o → b ≠ a → (hidT s0.heap H).get? b = some o := fun b o e ne => hidT_get e (z.one b ne)
  have ns1 : ∀ b m, s0.heap.Ns b m → (hidT s0.heap H).Ns b m := by
    rintro b m ⟨ob, es, ep, e, d, rest⟩
    refine ⟨ob, es, ep, keep1 b ob e fun q => ?_, d, rest⟩
    rw [q, oa] at e
    obtain rfl := Option.some.inj e
    exact nomatch (d : Data.seq vs.toArray _ = Data.dict es ep)
  have in1 : K.In (hidT s0.heap H) := fun b o e => by
    by_cases q : b = a
    · have e2 := inK b o e
      cases u : H b with
      | none => exact hidT_get e2 u
      | some y =>
        rw [q] at u e
        rw [(z.frz y u).1] at e
        cases e
    · exact keep1 b o (inK b o e) q
  obtain ⟨mc, c1, c2⟩ := nl
  have M1 : Mod K mg (hidT s0.heap H) := ⟨in1, ns1 _ _ nm, ⟨mb, ns1 _ _ nb, ab⟩, mc, ns1 _ _ c1, c2⟩
  have E1 : Env0 P w K mg (hidT s0.heap H) callerA [] s0 H :=
    { frames := rfl, mod := M1, bs := fun _ _ e => of_hidT e, bsz := Nat.le_of_eq (hidT_size _ _), funs := trivial, frf := fun b m => (List.not_mem_nil (show b ∈ ([] : List Addr) from m)).elim, hok := z.ok, bare := .of_eq g0 }
  have run1 := (G _ in1 (ns1 _ _ nm)).run callerA [] s0 H ⟨[.ref a], []⟩ [.ref a] [.ref a] (fun v _ => v = .bl true) (fun _ _ _ => False) rfl rm E1 (bd s0 (.ref a)) (.cons rfl .nil) ⟨a, ns, rfl, sq, hn, hb, fun _ => rfl⟩
  refine codeAny_mono run1 fun r s2 h => ?_
  match r, h with
  | .error e, h => exact (nox e s2 h).elim
  | .ok .next, h => exact (show False from h).elim
  | .ok .brk, h => exact (show False from h).elim
  | .ok .cont, h => exact (show False from h).elim
  | .ok (.ret u), ⟨v, H2, os2, bare2, un, ok2, rv, tv⟩ =>
    have tv' : v = .bl true := tv
    subst tv'
    have ru : u = .bool true := rv
    refine ⟨by rw [ru], OldK.of_keep fun b o e => ?_, os2, bare2⟩
    cases q : H b with
    | none => exact un.keep b o e q (fun m => (List.not_mem_nil (show b ∈ ([] : List Addr) from m)).elim) (by simp)
    | some y =>
      have ba : b = a := Classical.byContradiction fun ne => by rw [z.one b ne] at q; cases q
      subst ba
      obtain ⟨_, ob, xs, ey⟩ := z.frz y q
      subst ey
      have e1 := (z.ok b _ q).1
      have e2 := (ok2 b _ (un.frzs b ob _ q)).1
      rw [e] at e1
      rw [e2, ← e1]
theorem law_run (inK : K.In s0.heap) (nm : s0.heap.Ns mainGlobals mg) (nb : s0.heap.Ns builtinsNs mb) (ab : ∀ y : Str, y ≠ "__name__" → mb y = bootBuiltins y) (nl : s0.heap.NoLimit) (g0 : s0.gens = #[])
    (oa : s0.heap.get? a = some { cls := .type "list", data := .seq vs.toArray }) (ia : IntsAre vs ns) (rm : Room k callerA) (hn : ns.length ≤ n) (hl : n ≤ sizeLine) (hb : bitsOk ns)
    (G : ∀ bs : Heap, K.In bs → bs.Ns mainGlobals mg → FnG P w K mg bs CX k fa fd [x] (SpLaw K n)) (bd : ∀ (s : Shared) (u : Value), BindsTo s fd ⟨[u], []⟩ [(x, u)])
    (nox : ∀ H e s2, CX [] H s0 (fun _ _ _ => False) e s2 → False) : codeAny (model P w) callerA (.call (.ref fa) ⟨[.ref a], []⟩) (okTrue s0) s0 := by
  have vv := vals_ints ia
  have sz : ns.length ≤ sizeLine := Nat.le_trans hn hl
  cases q : K.lookup a with
  | some o =>
    have e := (oa.symm.trans (inK a o q))
    obtain rfl := Option.some.inj e
    have z : Lone P w K (fun _ => none) a s0.heap := ⟨fun _ u y => (by cases y), fun _ _ => rfl, fun u y => (by cases y)⟩
    exact lone_run z inK nm nb ab nl g0 oa rm hn hb G bd (.inr ⟨_, vs.toArray, _, q, rfl, rfl, rfl, by rw [List.size_toArray, ia.length]; exact sz, by simpa using vv⟩) fun e s2 => nox _ e s2
  | none =>
    let H : Hp := fun b => if b = a then some (.frz { cls := .type "list", data := .seq vs.toArray } (.lst (ns.map V.int))) else none
    have at1 : H a = some (.frz { cls := .type "list", data := .seq vs.toArray } (.lst (ns.map V.int))) := if_pos rfl
    have off : ∀ b, b ≠ a → H b = none := fun b ne => if_neg ne
    have z : Lone P w K H a s0.heap := by
      refine Lone.mk (fun b u y => ?_) off (fun u y => ⟨q, ?_⟩)
      · by_cases ne : b = a
        · rw [ne] at y ⊢
          obtain rfl := Option.some.inj (at1.symm.trans y)
          exact ⟨oa, by rw [List.length_map]; exact sz, vs, _, vv, oa⟩
        · rw [off b ne] at y; cases y
      · obtain rfl := Option.some.inj (at1.symm.trans y)
        exact ⟨_, _, rfl⟩
    exact lone_run z inK nm nb ab nl g0 oa rm hn hb G bd (.inl (.inr ⟨_, at1⟩)) fun e s2 => nox _ e s2
end
/-- a law's walk, from its def's promise over each base -/
theorem walkG {l : OpenLaw} {n k : Nat} {q : Program} {loose : List Str} {XP : (Str → Option Value) → Heap → Prop} {YP : World → Heap → Prop} {d : DefRec} {x : Str}
    (hm : l.most = some n) (hl : n ≤ sizeLine) (nd : d.params.defaults = []) (rm : Room k callerA)
    (G : ∀ (w : World) (mg : Str → Option Value) (fa : Addr) (h : Heap), YP w h → h.Ns mainGlobals mg → mg d.name = some (.ref fa) →
      ∃ (K : Frag) (fd : FuncData), K.In h ∧ (∀ (s : Shared) (u : Value), BindsTo s fd ⟨[u], []⟩ [(x, u)]) ∧ ∀ bs : Heap, K.In bs → bs.Ns mainGlobals mg → FnG l.prog w K mg bs CX0 k fa fd [x] (SpLaw K n)) :
    WalkO q loose XP YP l.row.toRowW d [] (fun f vs => PySem.call f vs) := by
  refine Att.attach_callB hm nd fun w _ s1 mg mb fa _ _ _ _ a vs ns gr y _ _ _ gm oa ia hn hb g0 => ?_
  obtain ⟨K, fd, inK, bd, F⟩ := G w mg fa _ y gr.T.g gm
  exact law_run inK gr.T.g gr.T.b gr.T.builtins gr.T.nolimit g0 oa ia rm hn hl hb F bd fun _ _ _ z => z
end LO
namespace LO
open PySem L2 Evl PySem.Spec PyProof.Rows

/-! ### wide powers -/
def CPowW (i j : Int) : Prop := 0 ≤ j ∧ (Builtin.Int.intBits i : Int) * j ≤ 2 ^ 27
theorem op_powW {X : Cx} : OpR X (binaryOp .Pow) (rI CPowW fun i j => .int (i ^ j.toNat)) := opI fun _ _ _ _ _ _ _ hc q => pow_int hc.1 hc.2 q
theorem powW_ok {i : Int} {j b : Nat} (h : i.natAbs < 2 ^ b) (hb : b * j ≤ 2 ^ 27) : CPowW i (j : Int) := by
  have x := PyProof.Rows.intBits_le h
  refine ⟨Int.natCast_nonneg _, ?_⟩
  have y : (Builtin.Int.intBits i : Int) ≤ (b : Int) := by exact_mod_cast x
  have z : (Builtin.Int.intBits i : Int) * (j : Int) ≤ (b : Int) * (j : Int) := Int.mul_le_mul_of_nonneg_right y (Int.natCast_nonneg _)
  have u : (b : Int) * (j : Int) ≤ 2 ^ 27 := by exact_mod_cast hb
  omega
theorem rs_powW {i j : Int} (hc : CPowW i j) : RS (rI CPowW fun i j => .int (i ^ j.toNat)) (.int i) (.int j) (.int (i ^ j.toNat)) := rs_I (h := fun i j => .int (i ^ j.toNat)) (fun i j _ => .int _) hc
theorem rs_mulW {i j : Int} (hc : CMulW i j) : RS (rI CMulW fun i j => .int (i * j)) (.int i) (.int j) (.int (i * j)) := rs_I (h := fun i j => .int (i * j)) (fun i j _ => .int _) hc
theorem rs_fdivW {i j : Int} (hc : CDivW i j) : RS (rI CDivW fun i j => .int (i / j)) (.int i) (.int j) (.int (i / j)) := rs_I (h := fun i j => .int (i / j)) (fun i j _ => .int _) hc

/-! ### an owned list of ints, held at a known place -/
def hoI (xs : List Int) : HO := .lst (xs.map V.int)
section
variable {Γ : Gm} {i : Nat} {φ : HO → Prop} {xs : List Int} {j n : Int} {m : Nat} {te tb : TE} {f : Bool} {p : Addr} {K : PySem.W.Frag} {B : Bs} {R : Po} {t tz : TS} {d : D} {ds : List D}
theorem atI_map {α β : Type} {f : α → β} {l : List α} {j : Int} {a : α} (h : atI l j = some a) : atI (l.map f) j = some (f a) := by
  unfold atI at h ⊢
  rw [List.length_map]
  cases e : ixN l.length j with
  | none => rw [e] at h; cases h
  | some m =>
    rw [e] at h
    have h2 : l[m]? = some a := h
    show (l.map f)[m]? = _
    rw [List.getElem?_map, h2]
    rfl
theorem d_rawIx (h : Γ[i]? = some (.own (.raw p (· = hoI xs)))) (hb : Ev f Γ tb (.int j)) (e : atI xs j = some n) : Ev true Γ (tOp (rIxL K) (tVar i) tb) (.int n) := fun σ H KH E Q q => by
  obtain ⟨p', ev, _, _, o, ho, eo⟩ := E.own h
  have eo' : o = hoI xs := eo
  subst eo'
  refine ⟨_, ev, hb σ H KH E _ fun y H2 KH2 g2 k2 => ?_⟩
  cases k2
  exact ⟨p', xs.map V.int, j, .int n, rfl, rfl, .inl (.inl (g2.ex _ _ ho)), atI_map e, q _ H2 KH2 g2 (.int n)⟩
theorem w_setRaw (h : Γ[i]? = some (.own (.raw p (· = hoI xs)))) (he : Ev true Γ te (.int n)) (hb : Ev f Γ tb (.int j)) (hm : ixN xs.length j = some m) (k : Wp B ((dropT Γ).set i (.own (.raw p (· = hoI (xs.set m n))))) tz R) :
    Wp B Γ (tSeq (tAsg te (gSub (tVar i) tb rSetL)) tz) R := fun σ H KH Dn s ok => by
  obtain ⟨p', ev, kp, pp, o, ho, eo⟩ := s.e.own h
  have eo' : o = hoI xs := eo
  subst eo'
  subst pp
  refine he σ H KH s.e _ fun v H1 KH1 g kv => ⟨_, ev, hb σ H1 KH1 (s.grow g).e _ fun y H2 KH2 g2 k2 => ?_⟩
  cases k2
  cases kv
  have s2 := (s.grow g).grow g2
  have g3 := g.trans g2
  refine ⟨p', xs.map V.int, j, m, rfl, rfl, g3.ex _ _ ho, by rw [List.length_map]; exact hm, k σ _ KH2 Dn (s2.mutate h ev ⟨rfl, _, upd_same, ?_⟩) (ok.mono g3.kx)⟩
  show HO.lst ((xs.map V.int).set m (.int n)) = hoI (xs.set m n)
  unfold hoI
  rw [List.map_set]
/-- a new list of ints comes to be held at its place -/
theorem w_toRaw (i : Nat) (h : Γ[i]? = some (.own (.lst (xs.map .int)))) (k : ∀ p, Wp B (Γ.set i (.own (.raw p (· = hoI xs)))) t R) : Wp B Γ t R := fun σ H KH Dn s ok => by
  obtain ⟨p, e, kp, vs, hp, hd⟩ := s.e.own h
  have ev := hd.ints
  subst ev
  have hi : i < Γ.length := (List.getElem?_eq_some_iff.mp h).1
  refine k p σ H KH Dn ⟨⟨s.e.up, by rw [s.e.len]; simp, fun j t q => ?_, fun j l o1 o2 r hne e1 e2 e3 => ?_⟩, s.g, fun j w r e1 e2 => ?_⟩ ok
  · by_cases hj : i = j
    · subst hj
      rw [List.getElem?_set_self hi] at q
      cases q
      exact ⟨_, e, p, rfl, kp, rfl, _, hp, rfl⟩
    · rw [List.getElem?_set_ne hj] at q
      exact s.e.at_ j t q
  · have old : ∀ {j : Nat} {w : Own}, (Γ.set i (.own (.raw p (· = hoI xs))))[j]? = some (.own w) → ∃ w', Γ[j]? = some (.own w') := fun {j w} q => by
      by_cases hj : i = j
      · subst hj; exact ⟨_, h⟩
      · rw [List.getElem?_set_ne hj] at q; exact ⟨_, q⟩
    obtain ⟨w1, q1⟩ := old e1
    obtain ⟨w2, q2⟩ := old e2
    exact s.e.sep j l w1 w2 r hne q1 q2 e3
  · by_cases hj : i = j
    · subst hj; exact s.o i _ r h e2
    · rw [List.getElem?_set_ne hj] at e1
      exact s.o j w r e1 e2
/-- less is known of it -/
theorem w_raw (i : Nat) {φ ψ : HO → Prop} (h : Γ[i]? = some (.own (.raw p φ))) (hi : ∀ o, φ o → ψ o) (k : Wp B (Γ.set i (.own (.raw p ψ))) t R) : Wp B Γ t R := fun σ H KH Dn s ok => by
  have hl : i < Γ.length := (List.getElem?_eq_some_iff.mp h).1
  have old : ∀ {j : Nat} {w : Own}, (Γ.set i (.own (.raw p ψ)))[j]? = some (.own w) → ∃ w', Γ[j]? = some (.own w') := fun {j w} q => by
    by_cases hj : i = j
    · subst hj; exact ⟨_, h⟩
    · rw [List.getElem?_set_ne hj] at q; exact ⟨_, q⟩
  refine k σ H KH Dn ⟨⟨s.e.up, by rw [s.e.len]; simp, fun j t q => ?_, fun j l o1 o2 r hne e1 e2 e3 => ?_⟩, s.g, fun j w r e1 e2 => ?_⟩ ok
  · by_cases hj : i = j
    · subst hj
      rw [List.getElem?_set_self hl] at q
      cases q
      obtain ⟨p', e, kp, pp, o, ho, eo⟩ := s.e.own h
      exact ⟨_, e, p', rfl, kp, pp, o, ho, hi o eo⟩
    · rw [List.getElem?_set_ne hj] at q
      exact s.e.at_ j t q
  · obtain ⟨w1, q1⟩ := old e1
    obtain ⟨w2, q2⟩ := old e2
    exact s.e.sep j l w1 w2 r hne q1 q2 e3
  · obtain ⟨w1, q1⟩ := old e1
    exact s.o j w1 r q1 e2
/-- the script -/
theorem d_scrLen {ns : List Int} (h : Γ[i]? = some (.scr K ns)) : Ev true Γ (tCB (rLenQ K) (tCons (tVar i) tNil)) (.int (ns.length : Int)) := fun σ H KH E Q q => by
  obtain ⟨v, ev, p, rfl, hs⟩ := E.at_ i _ h
  refine ⟨_, ev, p, ns.map V.int, rfl, .inl (ex_l E.up hs), ?_⟩
  rw [List.length_map]
  exact q _ H KH (.refl E.up) (.int _)
end

/-! ### bodies of defs whose arguments are slots -/
def ΓS (N : List Str) (ss : List Slo) : Gm := ss ++ List.replicate (N.length - ss.length) .no
theorem Kn.ok {H KH : Hp} {v : V} : ∀ {s : Slo}, Kn KH v s → SloOk H KH (some v) s
  | .dat _, h => ⟨v, rfl, h⟩
  | .scr _ _, ⟨p, e, h⟩ => ⟨p, by rw [e], h⟩
theorem Kn.noOwn {KH : Hp} {v : V} {o : Own} (h : Kn KH v (.own o)) : False := h
theorem KnAll.get {KH : Hp} : ∀ {vs : List V} {ss : List Slo} {i : Nat} {s : Slo}, KnAll KH vs ss → ss[i]? = some s → ∃ v, vs[i]? = some v ∧ Kn KH v s
  | _, _, i, s, .nil, e => by simp at e
  | _, _, 0, s, .cons h t, e => ⟨_, rfl, by simp at e; subst e; exact h⟩
  | _, _, i + 1, s, .cons h t, e => by
    obtain ⟨v, a, b⟩ := KnAll.get (i := i) (s := s) t (by simpa using e)
    exact ⟨v, by simpa using a, b⟩
theorem envo_slots {N : List Str} {vs : List V} {ss : List Slo} {H KH : Hp} (u : Ex KH H) (hl : vs.length = ss.length) (h : ∀ (i : Nat) (s : Slo), ss[i]? = some s → ∃ v, vs[i]? = some v ∧ SloOk H KH (some v) s)
    (one : ∀ (i j : Nat) (o o' : Own), ss[i]? = some (.own o) → ss[j]? = some (.own o') → i = j) : Envo H KH (L2.start N vs) (ΓS N ss) := by
  have cut : ∀ {i : Nat} {s : Slo}, (ΓS N ss)[i]? = some s → ss[i]? = some s ∨ (s = .no ∧ (L2.start N vs)[i]? = some none) := fun {i s} e => by
    unfold ΓS at e
    by_cases hi : i < ss.length
    · rw [List.getElem?_append_left hi] at e; exact .inl e
    · rw [List.getElem?_append_right (by omega), List.getElem?_replicate] at e
      split at e
      · cases e
        rename_i hc
        refine .inr ⟨rfl, ?_⟩
        unfold L2.start
        rw [List.getElem?_append_right (by simp [hl]; omega), List.getElem?_replicate]
        simp only [List.length_map, hl]
        rw [if_pos hc]
      · cases e
  refine ⟨u, by unfold L2.start ΓS; simp [hl], fun i s e => ?_, fun i j o o' p hne e1 e2 => ?_⟩
  · rcases cut e with q | ⟨rfl, q⟩
    · obtain ⟨v, a, b⟩ := h i s q
      refine ⟨some v, ?_, b⟩
      have hi : i < vs.length := (List.getElem?_eq_some_iff.mp a).1
      unfold L2.start
      rw [List.getElem?_append_left (by simpa using hi), List.getElem?_map, a]
      rfl
    · exact ⟨none, q, trivial⟩
  · rcases cut e1 with q1 | ⟨z, _⟩
    · rcases cut e2 with q2 | ⟨z, _⟩
      · exact absurd (one i j o o' q1 q2) hne
      · cases z
    · cases z
/-- pure, the arguments data or the script -/
def SpK (R : List Slo → D → Prop) : Sp := fun vs H Q _ => ∃ KH ss d, Ex KH H ∧ KnAll KH vs ss ∧ R ss d ∧ ∀ v H' KH', Grow H KH H' KH' → Dt KH' v d → Q v H'
def SpKO (R : List Slo → Own → Prop) : Sp := fun vs H Q _ => ∃ KH ss o, Ex KH H ∧ KnAll KH vs ss ∧ R ss o ∧ ∀ p H' KH', Grow H KH H' KH' → H p = none → KH' p = none → OwnAt H' KH' p o → Q (.ref p) H'
theorem SpK.len {R : List Slo → D → Prop} {n : Nat} (h : ∀ ds d, R ds d → ds.length = n) : ∀ vs H Q E, SpK R vs H Q E → vs.length = n := fun vs H Q E ⟨KH, ds, d, u, hd, r, _⟩ => hd.length.trans (h ds d r)
theorem SpKO.len {R : List Slo → Own → Prop} {n : Nat} (h : ∀ ds o, R ds o → ds.length = n) : ∀ vs H Q E, SpKO R vs H Q E → vs.length = n := fun vs H Q E ⟨KH, ds, d, u, hd, r, _⟩ => hd.length.trans (h ds d r)
theorem kn_env {N : List Str} {vs : List V} {ss : List Slo} {H KH : Hp} (u : Ex KH H) (h : KnAll KH vs ss) : Envo H KH (L2.start N vs) (ΓS N ss) :=
  envo_slots u h.length (fun i s e => let ⟨v, a, b⟩ := h.get e; ⟨v, a, b.ok⟩) fun i j o o' e _ => let ⟨_, _, b⟩ := h.get e; b.noOwn.elim
theorem kn_noOwn {N : List Str} {vs : List V} {ss : List Slo} {KH : Hp} (h : KnAll KH vs ss) {i : Nat} {o : Own} (e : (ΓS N ss)[i]? = some (.own o)) : False := by
  unfold ΓS at e
  by_cases hi : i < ss.length
  · rw [List.getElem?_append_left hi] at e
    obtain ⟨_, _, b⟩ := h.get e
    exact b.noOwn
  · rw [List.getElem?_append_right (by omega), List.getElem?_replicate] at e
    split at e <;> cases e
theorem spK_body {R : List Slo → D → Prop} {N : List Str} {vs : List V} {H : Hp} {Q : VK} {E : XK} {t : TS} (h : SpK R vs H Q E)
    (hw : ∀ (B : Bs) (ss : List Slo) (d : D), R ss d → Wp B (ΓS N ss) t { nx := fun _ => d = .none, rt := fun _ d' => d' = d }) : t { nx := fun _ H' => Q .non H', rt := Q } (start N vs) H := by
  obtain ⟨KH, ss, d, u, hd, r, k⟩ := h
  refine hw ⟨H, KH⟩ ss d r (L2.start N vs) H KH _ ⟨kn_env u hd, .refl u, fun i o p e _ => (kn_noOwn hd e).elim⟩ ⟨fun σ' H' KH' Γ' e _ s => ?_, fun _ _ _ _ z => z.elim, fun _ _ _ _ z => z.elim, fun v σ' H' KH' Γ' d' e _ s kv => ?_, fun _ _ _ _ _ _ z => z.elim, fun _ _ _ _ _ _ _ z => z.elim⟩
  · subst e; exact k _ H' KH' s.g .non
  · subst e; exact k v H' KH' s.g kv
theorem spKO_body {R : List Slo → Own → Prop} {N : List Str} {vs : List V} {H : Hp} {Q : VK} {E : XK} {t : TS} (h : SpKO R vs H Q E)
    (hw : ∀ (B : Bs) (ss : List Slo) (o : Own), R ss o → Wp B (ΓS N ss) t { ro := fun _ o' => o' = o }) : t { nx := fun _ H' => Q .non H', rt := Q } (start N vs) H := by
  obtain ⟨KH, ss, o, u, hd, r, k⟩ := h
  refine hw ⟨H, KH⟩ ss o r (L2.start N vs) H KH _ ⟨kn_env u hd, .refl u, fun i o p e _ => (kn_noOwn hd e).elim⟩ ⟨fun _ _ _ _ z => z.elim, fun _ _ _ _ z => z.elim, fun _ _ _ _ z => z.elim, fun _ _ _ _ _ _ z => z.elim, fun p σ' H' KH' Γ' o' e _ s fp kp ow hn => ?_, fun _ _ _ _ _ _ _ z => z.elim⟩
  subst e
  exact k p H' KH' s.g fp kp ow
/-- what stands behind a call that writes its first argument -/
def Fin (p : Addr) (ψ : HO → Prop) (Γ' : Gm) : Prop := ∃ φ, Γ'[0]? = some (.own (.raw p φ)) ∧ ∀ o, φ o → ψ o
section
variable {φ : Nat → HO → Prop} {lim : Nat} {N : List Str} {vs : List V} {H : Hp} {Q : VK} {E : XK} {t : TS}
theorem m_start {KH : Hp} {a : Addr} {rest : List V} {ss : List Slo} {o : HO} (u : Ex KH H) (ka : KH a = none) (ha : H a = some o) (hd : KnAll KH rest ss) :
    Sat ⟨fun b => if b = a then none else H b, KH⟩ H KH (L2.start N (.ref a :: rest)) (ΓS N (.own (.raw a (· = o)) :: ss)) := by
  have e := envo_slots (N := N) (vs := .ref a :: rest) (ss := .own (.raw a (· = o)) :: ss) u (by simp [hd.length]) (fun i s e => by
    cases i with
    | zero => simp at e; subst e; exact ⟨_, rfl, a, rfl, ka, rfl, o, ha, rfl⟩
    | succ i =>
      obtain ⟨v, a1, b⟩ := hd.get (i := i) (by simpa using e)
      exact ⟨v, by simpa using a1, b.ok⟩) fun i j w w' e1 e2 => by
    have nz : ∀ {i : Nat} {w : Own}, (Slo.own (.raw a (· = o)) :: ss)[i]? = some (.own w) → i = 0 := fun {i w} e => by
      cases i with
      | zero => rfl
      | succ i =>
        obtain ⟨_, _, b⟩ := hd.get (i := i) (by simpa using e)
        exact b.noOwn.elim
    rw [nz e1, nz e2]
  refine ⟨e, ⟨fun b w z => ?_, Ex.refl _, u, fun p hp hk => hk⟩, fun i w p e1 e2 => ?_⟩
  · have z' : (if b = a then none else H b) = some w := z
    split at z'
    · cases z'
    · exact z'
  · show (if p = a then none else H p) = none
    have i0 : i = 0 := by
      unfold ΓS at e1
      by_cases hi : i < (Slo.own (.raw a (· = o)) :: ss).length
      · rw [List.getElem?_append_left hi] at e1
        cases i with
        | zero => rfl
        | succ i =>
          obtain ⟨_, _, b⟩ := hd.get (i := i) (by simpa using e1)
          exact b.noOwn.elim
      · rw [List.getElem?_append_right (by omega), List.getElem?_replicate] at e1
        split at e1 <;> cases e1
    subst i0
    have : (L2.start N (.ref a :: rest))[0]? = some (some (.ref a)) := rfl
    rw [this] at e2
    cases e2
    rw [if_pos rfl]
theorem m_end {B : Bs} {KH H' KH' : Hp} {a : Addr} {σ' : L2.St} {Γ' : Gm} {ψ : HO → Prop} (s : Sat ⟨fun b => if b = a then none else H b, KH⟩ H' KH' σ' Γ') (f : Fin a ψ Γ') : GrowM a H KH H' KH' ∧ σ'[0]? = some (some (.ref a)) ∧ ∃ o, H' a = some o ∧ ψ o := by
  obtain ⟨χ, e0, hi⟩ := f
  obtain ⟨p, e, kp, pp, o, ho, eo⟩ := s.e.own e0
  subst pp
  refine ⟨⟨fun b w ne z => s.g.ex b w (by show (if b = p then none else H b) = some w; rw [if_neg ne]; exact z), s.g.kx, s.e.up, fun q hq hk => ?_⟩, e, o, ho, hi o eo⟩
  by_cases ne : q = p
  · rw [ne]; exact kp
  · exact s.g.ns q (by show (if q = p then none else H q) ≠ none; rw [if_neg ne]; exact hq) hk
theorem spM_body {R : List Slo → Nat → (D → Prop) → Prop} (h : SpM φ lim R vs H Q E)
    (hw : ∀ (B : Bs) (p : Addr) (n m : Nat) (o : HO) (ss : List Slo) (Pd : D → Prop), φ n o → R ss m Pd → n + m ≤ lim →
      Wp B (ΓS N (.own (.raw p (· = o)) :: ss)) t { nx := fun Γ' => Pd .none ∧ Fin p (φ (n + m)) Γ', rt := fun Γ' d => Pd d ∧ Fin p (φ (n + m)) Γ', ro := fun Γ' o => ∃ es, o = .lst es ∧ Pd (.list es) ∧ Fin p (φ (n + m)) Γ' }) :
    t { nx := fun _ H' => Q .non H', rt := Q } (start N vs) H := by
  obtain ⟨KH, a, rest, ss, n, m, P, o, rfl, u, ka, ha, hφ, hd, r, hl, k⟩ := h
  refine hw _ a n m o ss P hφ r hl (L2.start N (.ref a :: rest)) H KH _ (m_start u ka ha hd) ⟨fun σ' H' KH' Γ' z _ s => ?_, fun _ _ _ _ z => z.elim, fun _ _ _ _ z => z.elim, fun v σ' H' KH' Γ' d' z _ s kv => ?_, fun p σ' H' KH' Γ' w z _ s fp kp ow hn => ?_, fun _ _ _ _ _ _ _ z => z.elim⟩
  · obtain ⟨g, _, o', ho, hp⟩ := m_end (B := ⟨H, H⟩) s z.2
    exact k .none _ H' KH' o' z.1 g ho hp .non
  · obtain ⟨g, _, o', ho, hp⟩ := m_end (B := ⟨H, H⟩) s z.2
    exact k d' v H' KH' o' z.1 g ho hp kv
  · obtain ⟨es, rfl, pe, f⟩ := z
    obtain ⟨g, e0, o', ho, hp⟩ := m_end (B := ⟨H, H⟩) s f
    obtain ⟨χ, e1, _⟩ := f
    have ne : p ≠ a := fun y => hn 0 _ e1 (y ▸ e0)
    obtain ⟨ws, hpw, hw⟩ := ow
    have hp0 : H p = none := by
      have z : (if p = a then none else H p) = none := fp
      rw [if_neg ne] at z
      exact z
    refine k (.list es) _ H' (upd KH' p (.lst ws)) o' pe ⟨g.ex, Ex.trans g.kx (Ex.new kp), fun b w z => ?_, fun q hq hk => ?_⟩ ho hp (.lst upd_same (DtAll.mono (Ex.new kp) hw))
    · by_cases eb : b = p
      · subst eb; rw [upd_same] at z; rw [hpw]; exact z
      · rw [upd_ne eb] at z; exact g.up b w z
    · have : q ≠ p := fun y => hq (y ▸ hp0)
      rw [upd_ne this]
      exact g.ns q hq hk
theorem spMO_body {R : List Slo → Nat → (Own → Prop) → Prop} (h : SpMO φ lim R vs H Q E)
    (hw : ∀ (B : Bs) (p : Addr) (n m : Nat) (o : HO) (ss : List Slo) (Pd : Own → Prop), φ n o → R ss m Pd → n + m ≤ lim →
      Wp B (ΓS N (.own (.raw p (· = o)) :: ss)) t { ro := fun Γ' o => Pd o ∧ Fin p (φ (n + m)) Γ' }) :
    t { nx := fun _ H' => Q .non H', rt := Q } (start N vs) H := by
  obtain ⟨KH, a, rest, ss, n, m, P, o, rfl, u, ka, ha, hφ, hd, r, hl, k⟩ := h
  refine hw _ a n m o ss P hφ r hl (L2.start N (.ref a :: rest)) H KH _ (m_start u ka ha hd) ⟨fun _ _ _ _ z => z.elim, fun _ _ _ _ z => z.elim, fun _ _ _ _ z => z.elim, fun _ _ _ _ _ _ z => z.elim, fun p σ' H' KH' Γ' w z _ s fp kp ow hn => ?_, fun _ _ _ _ _ _ _ z => z.elim⟩
  obtain ⟨pw, f⟩ := z
  obtain ⟨g, e0, o', ho, hp⟩ := m_end (B := ⟨H, H⟩) s f
  obtain ⟨χ, e1, _⟩ := f
  have ne : p ≠ a := fun y => hn 0 _ e1 (y ▸ e0)
  have hp0 : H p = none := by
    have z : (if p = a then none else H p) = none := fp
    rw [if_neg ne] at z
    exact z
  exact k w p H' KH' o' pw g ho hp hp0 kp ow
end
/-- the law's body -/
theorem spLaw_body {K : PySem.W.Frag} {n : Nat} {N : List Str} {vs : List V} {H : Hp} {Q : VK} {E : XK} {t : TS} (h : SpLaw K n vs H Q E)
    (hw : ∀ (B : Bs) (ns : List Int), ns.length ≤ n → bitsOk ns → Wp B (ΓS N [.scr K ns]) t { rt := fun _ d' => d' = .bool true }) : t { nx := fun _ H' => Q .non H', rt := Q } (start N vs) H := by
  obtain ⟨a, ns, rfl, sq, hl, hb, k⟩ := h
  have hd : KnAll H [V.ref a] [.scr K ns] := .cons ⟨a, rfl, sq⟩ .nil
  refine hw ⟨H, H⟩ ns hl hb (L2.start N [.ref a]) H H _ ⟨kn_env (Ex.refl _) hd, .refl (Ex.refl _), fun i o p e _ => (kn_noOwn hd e).elim⟩ ⟨fun _ _ _ _ z => z.elim, fun _ _ _ _ z => z.elim, fun _ _ _ _ z => z.elim, fun v σ' H' KH' Γ' d' e _ s kv => ?_, fun _ _ _ _ _ _ z => z.elim, fun _ _ _ _ _ _ _ z => z.elim⟩
  subst e
  cases kv
  exact k H'
section
variable {Γ : Gm} {ss : List Slo} {d : D} {o : Own} {t : TA} {E : XK}
/-- arguments: data or the script -/
def GEv (Γ : Gm) (ta : TA) (ss : List Slo) : Prop := ∀ σ H KH, Envo H KH σ Γ → ∀ Q : List V → Hp → Prop, (∀ vs H' KH', Grow H KH H' KH' → KnAll KH' vs ss → Q vs H') → ta σ H Q
theorem Kn.mono {KH KH' : Hp} (e : Ex KH KH') {v : V} : ∀ {s : Slo}, Kn KH v s → Kn KH' v s
  | .dat _, h => Dt.mono e h
  | .scr _ _, ⟨p, q, h⟩ => ⟨p, q, ex_l e h⟩
theorem KnAll.mono {KH KH' : Hp} (e : Ex KH KH') : ∀ {vs : List V} {ss : List Slo}, KnAll KH vs ss → KnAll KH' vs ss
  | _, _, .nil => .nil
  | _, _, .cons h t => .cons (h.mono e) (KnAll.mono e t)
theorem g_nil : GEv Γ tNil [] := fun σ H KH E Q q => q [] H KH (.refl E.up) .nil
theorem g_dat {te : TE} {tr : TA} (h : Ev true Γ te d) (hr : GEv Γ tr ss) : GEv Γ (tCons te tr) (.dat d :: ss) := fun σ H KH E Q q =>
  h σ H KH E _ fun x H1 KH1 g1 k1 => hr σ H1 KH1 (E.grow g1) _ fun xs H2 KH2 g2 k2 => q _ H2 KH2 (g1.trans g2) (.cons (Dt.mono g2.kx k1) k2)
theorem g_scr {i : Nat} {K : PySem.W.Frag} {ns : List Int} {tr : TA} (h : Γ[i]? = some (.scr K ns)) (hr : GEv Γ tr ss) : GEv Γ (tCons (tVar i) tr) (.scr K ns :: ss) := fun σ H KH E Q q => by
  obtain ⟨v, ev, p, rfl, hs⟩ := E.at_ i _ h
  exact ⟨_, ev, hr σ H KH E _ fun xs H2 KH2 g2 k2 => q _ H2 KH2 g2 (.cons ⟨p, rfl, ex_l g2.kx hs⟩ k2)⟩
theorem d_callK {R : List Slo → D → Prop} (h : GEv Γ t ss) (r : R ss d) : Ev true Γ (tCall (SpK R) [] E t) d := fun σ H KH e Q q => h σ H KH e _ fun vs H1 KH1 g k => by
  show SpK R (vs ++ []) H1 Q E
  rw [List.append_nil]
  exact ⟨KH1, ss, d, g.up, k, r, fun v H' KH' g2 k2 => q v H' KH' (g.trans g2) k2⟩
theorem o_callK {R : List Slo → Own → Prop} (h : GEv Γ t ss) (r : R ss o) : OEv Γ (tCall (SpKO R) [] E t) o := fun σ H KH e Q q => h σ H KH e _ fun vs H1 KH1 g k => by
  show SpKO R (vs ++ []) H1 Q E
  rw [List.append_nil]
  exact ⟨KH1, ss, o, g.up, k, r, fun p H' KH' g2 n k2 ow => q p H' KH' (g.trans g2) (fresh_back g.ex n) k2 ow⟩
end
/-! packages -/
section
variable {P : Program} {w : World} {K : PySem.W.Frag} {mg : Str → Option Value} {base : Heap} {x : Str} {pa : Arguments} {body : List Stmt} {sc : Scope} {f : Addr} {fd : FuncData} {N ps : List Str} {k : Nat}
theorem fo_mk {sp : Sp} (F : FunD K x x pa body sc [] [] f fd) (hm : mg x = some (.ref f)) (S : FnScope N ps sc) (hl : ∀ vs H Q E, sp vs H Q E → vs.length = ps.length)
    (hbd : ∀ (kV doc pm : Value) (an : Option Addr) (cdv ct : Value) (us : List Value), us.length = ps.length → bindArgs (PySem.W.fnOf x x pa body sc .none kV doc pm an cdv ct) ⟨us, []⟩ = pure (ps.zip us))
    (hb : ∀ (cd : Value) (A : Around) (out : List Env) (s : Shared) (H : Hp) (E : XK), A.guards = some [] → Room k (A.deeper (envOfC x sc s.heap.objs.size f cd)) →
      ∃ t, PSs (cxOf CX0 P w K mg base N x sc f cd A out s H E).nox body t ∧ ∀ (vs : List V) (Q : VK), sp vs H Q E → t { nx := fun _ H' => Q .non H', rt := Q } (start N vs) H) :
    Fo P w K mg base CX0 (k + 1) x sp :=
  ⟨f, fd, ps, fnG_of F S hl (fun cd A out s H vs Q E hg hr h => by
    obtain ⟨t, ht, hw⟩ := hb cd A out s H E hg hr
    exact ⟨t, PSs.nox ht, hw vs Q h⟩), hm, F.kp, F.bindsN hbd⟩
end
end LO
namespace LO
open PySem L2 Evl PySem.Spec PyProof.Rows

/-! ### a comprehension that writes what is owned -/
def Slo.isOwn : Slo → Bool
  | .own _ => true
  | _ => false
def mask (Γ : Gm) : List Bool := Γ.map Slo.isOwn
theorem mask_own {Γ Γ' : Gm} (h : mask Γ' = mask Γ) {j : Nat} {o : Own} (e : Γ'[j]? = some (.own o)) : ∃ o', Γ[j]? = some (.own o') := by
  have e1 : (mask Γ')[j]? = some true := by unfold mask; rw [List.getElem?_map, e]; rfl
  rw [h] at e1
  unfold mask at e1
  rw [List.getElem?_map] at e1
  cases q : Γ[j]? with
  | none => rw [q] at e1; cases e1
  | some s =>
    rw [q] at e1
    cases s with
    | own o' => exact ⟨o', rfl⟩
    | no => cases e1
    | dat d => cases e1
    | tmp d => cases e1
    | scr K ns => cases e1
section
variable {B : Bs} {Γ Γ' : Gm} {H KH : Hp} {σ : L2.St} {D0 : Addr} {o o' : HO}
theorem Sat.unwipe {vs : List Nat} (s : Sat B H KH (L2.wipe σ vs) Γ') : Sat B H KH σ (wipeG Γ' vs) := by
  have ll : (L2.wipe σ vs).length = σ.length := wipe_length _ _
  have own : ∀ {j : Nat} {w : Own}, (wipeG Γ' vs)[j]? = some (.own w) → j ∉ vs ∧ Γ'[j]? = some (.own w) := fun {j w} e => by
    rcases wipeG_get e with ⟨_, z⟩ | z
    · cases z
    · exact z
  refine ⟨⟨s.e.up, by rw [wipeG_length, ← s.e.len, ll], fun i t e => ?_, fun i j w w' p hne e1 e2 e3 => ?_⟩, s.g, fun i w p e1 e2 => ?_⟩
  · rcases wipeG_get e with ⟨_, rfl⟩ | ⟨a, b⟩
    · have hi : i < σ.length := by
        have := (List.getElem?_eq_some_iff.mp e).1
        rw [wipeG_length, ← s.e.len, ll] at this
        exact this
      exact ⟨σ[i], by simp [hi], trivial⟩
    · obtain ⟨v, ev, k⟩ := s.e.at_ i t b
      exact ⟨v, by rw [← wipe_get a]; exact ev, k⟩
  · obtain ⟨n1, q1⟩ := own e1
    obtain ⟨n2, q2⟩ := own e2
    have := s.e.sep i j w w' p hne q1 q2 (by rw [wipe_get n1]; exact e3)
    rw [wipe_get n2] at this
    exact this
  · obtain ⟨n1, q1⟩ := own e1
    exact s.o i w p q1 (by rw [wipe_get n1]; exact e2)
/-- an object of nobody's is written -/
theorem Sat.poke (s : Sat B H KH σ Γ) (k : KH D0 = none) (f : B.F D0 = none) (n : ∀ (j : Nat) (w : Own), Γ[j]? = some (.own w) → σ[j]? ≠ some (some (.ref D0))) : Sat B (upd H D0 o') KH σ (dropT Γ) := by
  have up : Ex KH (upd H D0 o') := fun a w z => by rw [upd_ne (ne_of_none z k)]; exact s.e.up a w z
  have own : ∀ {j : Nat} {w : Own}, (dropT Γ)[j]? = some (.own w) → Γ[j]? = some (.own w) := fun {j w} q => by
    rcases dropT_get q with z | ⟨z, _⟩
    · cases z
    · exact z
  refine ⟨⟨up, by rw [s.e.len]; simp [dropT], fun j t q => ?_, fun j l o1 o2 r hne e1 e2 e3 => s.e.sep j l o1 o2 r hne (own e1) (own e2) e3⟩, ⟨fun a w z => ?_, s.g.kx, up, s.g.ns⟩, fun j w r e1 e2 => s.o j w r (own e1) e2⟩
  · rcases dropT_get q with rfl | ⟨z, nt⟩
    · have hj' : j < σ.length := by rw [s.e.len]; have := (List.getElem?_eq_some_iff.mp q).1; simpa [dropT] using this
      exact ⟨σ[j], by simp [hj'], trivial⟩
    · obtain ⟨v, ev, kk⟩ := s.e.at_ j t z
      refine ⟨v, ev, ?_⟩
      cases t with
      | no => trivial
      | dat d => exact kk
      | tmp d => exact absurd rfl (nt d)
      | scr K ns => exact kk
      | own w =>
        obtain ⟨r, rfl, kr, ow'⟩ := kk
        have hne : r ≠ D0 := fun y => n j w z (y ▸ ev)
        exact ⟨r, rfl, kr, ow'.mono (upd_ne hne) (Ex.refl _)⟩
  · rw [upd_ne (ne_of_none z f)]; exact s.g.ex a w z
/-- an object of nobody's, put among what a reading leaves as it is -/
def Bs.plus (B : Bs) (D0 : Addr) (o : HO) : Bs := ⟨fun b => if b = D0 then some o else B.F b, B.KE⟩
theorem Sat.plus (s : Sat B H KH σ Γ) (h : H D0 = some o) (k : KH D0 = none) (n : ∀ (j : Nat) (w : Own), Γ[j]? = some (.own w) → σ[j]? ≠ some (some (.ref D0))) : Sat (B.plus D0 o) H KH σ Γ := by
  refine ⟨s.e, ⟨fun a w z => ?_, s.g.kx, s.e.up, fun q hq hk => ?_⟩, fun j w r e1 e2 => ?_⟩
  · have z' : (if a = D0 then some o else B.F a) = some w := z
    split at z'
    · rename_i e; rw [e, h]; exact z'
    · exact s.g.ex a w z'
  · have hq' : (if q = D0 then some o else B.F q) ≠ none := hq
    split at hq'
    · rename_i e; rw [e]; exact k
    · exact s.g.ns q hq' hk
  · show (if r = D0 then some o else B.F r) = none
    rw [if_neg fun (y : r = D0) => n j w e1 (by rw [← y]; exact e2)]
    exact s.o j w r e1 e2
theorem Sat.minus (s : Sat (B.plus D0 o) H KH σ Γ) (f : B.F D0 = none) (k0 : B.KE D0 = none) : Sat B H KH σ Γ ∧ H D0 = some o ∧ KH D0 = none := by
  have at0 : (B.plus D0 o).F D0 = some o := if_pos rfl
  have off : ∀ {b : Addr}, b ≠ D0 → (B.plus D0 o).F b = B.F b := fun ne => if_neg ne
  refine ⟨⟨s.e, ⟨fun a w z => s.g.ex a w (by rw [off (ne_of_none z f)]; exact z), s.g.kx, s.e.up, fun q hq hk => s.g.ns q (by rw [off fun (y : q = D0) => hq (by rw [y]; exact f)]; exact hq) hk⟩, fun j w r e1 e2 => ?_⟩, s.g.ex _ _ at0, s.g.ns D0 (by rw [at0]; exact fun z => nomatch z) k0⟩
  have z := s.o j w r e1 e2
  by_cases ne : r = D0
  · rw [ne]; exact f
  · rw [off ne] at z; exact z
end
section
variable {Γ : Gm} {wi : TI} {g : TG} {tt : TT} {te : TE} {vs : List Nat} {α : Type}
theorem n_lc {l : List α} {enc : α → D} {P : Own → Gm → Prop} (I : Nat → List D → Gm → Prop) (hi : IEv Γ wi (l.map enc)) (hl : l.length < sizeLine) (h0 : I 0 [] (wipeG Γ vs))
    (hs : ∀ i acc Γ' a, l[i]? = some a → I i acc Γ' → ∃ js U b, TgOk g js (enc a) U ∧ (∀ j ∈ js, j ∈ vs) ∧ TEv (U Γ') tt b ∧ (b = true → EvN (U Γ') te (fun d Γ2 => I (i + 1) (acc ++ [d]) (wipeG (dropT Γ2) vs))) ∧ (b = false → I (i + 1) acc Γ'))
    (hd : ∀ acc Γ', I l.length acc Γ' → P (.lst acc) (wipeG Γ' vs)) : OEvN Γ (tLc wi g tt te vs) P := fun B σ H KH s Q q => hi σ H KH s.e _ fun J H1 KH1 g1 wk => fun D0 hD => by
  obtain ⟨Gd, Y, w, hG, hY⟩ := wk.ex
  have s1 := s.grow g1
  have fD : B.F D0 = none := fresh_back s1.g.ex hD
  have kD : KH1 D0 = none := fresh_back g1.up hD
  have keD : B.KE D0 = none := fresh_back s1.g.kx kD
  have s0 : Sat B (upd H1 D0 (.lst [])) KH1 (L2.wipe σ vs) (wipeG Γ vs) := (s1.grow (Grow.newO g1.up hD _)).wipe vs
  have n0 : ∀ (j : Nat) (w : Own), (wipeG Γ vs)[j]? = some (.own w) → (L2.wipe σ vs)[j]? ≠ some (some (.ref D0)) := (s1.wipe vs).e.notNew hD
  refine lc_it w (vs := vs) (σ := σ) (Qd := fun H => Q (.ref D0) H) (fun i H' => ∃ KH' Γ' acc va, I i acc Γ' ∧ Ex KH1 KH' ∧ Sat B H' KH' (L2.wipe σ vs) Γ' ∧ H' D0 = some (.lst va) ∧ KH' D0 = none ∧ DtAll KH' va acc ∧ acc.length ≤ i ∧
      ∀ (j : Nat) (w : Own), Γ'[j]? = some (.own w) → (L2.wipe σ vs)[j]? ≠ some (some (.ref D0)))
    ⟨KH1, wipeG Γ vs, [], [], h0, Ex.refl _, s0, upd_same, kD, .nil, Nat.zero_le _, n0⟩ (fun i H' _ ⟨KH', Γ', acc, va, _, e, s', _⟩ => hG H' KH' e s'.e.up) ?_ ?_
  · rintro i x H' H2 hlt ⟨KH', Γ', acc, va, iv, e, s', hva, kd, da, la, nD⟩ y
    rw [List.length_map] at hlt
    have hx : (l.map enc)[i]? = some (enc l[i]) := by simp [hlt]
    have hx2 : l[i]? = some l[i] := by simp [hlt]
    obtain ⟨KH2, g2, kx⟩ := hY i x H' KH' H2 _ hx e s'.e.up y
    obtain ⟨js, U, b, tg, hj, ht, hT, hF⟩ := hs i acc Γ' l[i] hx2 iv
    obtain ⟨S, h1, _, h3, h4, h5⟩ := tg.run x H2 KH2 g2.up kx
    have sp : Sat (B.plus D0 (.lst va)) H2 KH2 (L2.wipe σ vs) Γ' := (s'.plus hva kd nD).grow g2
    have sp2 : Sat (B.plus D0 (.lst va)) H2 KH2 (S (L2.wipe σ vs)) (U Γ') := h3 _ _ _ sp
    have ww : L2.wipe (S (L2.wipe σ vs)) vs = L2.wipe σ vs := by
      rw [wipe_eq (σ := L2.wipe σ vs) (h4 _) fun i hi => h5 _ i fun z => hi (hj _ z)]
      exact wipe_wipe
    have noD : ∀ {H5 KH5 : Hp} {σ5 : L2.St} {Γ5 : Gm}, Sat (B.plus D0 (.lst va)) H5 KH5 σ5 Γ5 → ∀ (j : Nat) (w : Own), Γ5[j]? = some (.own w) → σ5[j]? ≠ some (some (.ref D0)) := fun z j w e1 e2 => by
      have := z.o j w D0 e1 e2
      rw [show (B.plus D0 (.lst va)).F D0 = some (.lst va) from if_pos rfl] at this
      cases this
    refine h1 _ _ ⟨ww, ht _ H2 KH2 sp2.e _ fun H3 KH3 g3 => ?_⟩
    cases b with
    | true =>
      rw [if_pos rfl]
      refine hT rfl _ _ H3 KH3 (sp2.grow g3) _ fun v d H4 KH4 Γ2 iv2 e4 s4 kv => ?_
      obtain ⟨m1, m2, m3⟩ := s4.minus fD keD
      have n4 := noD s4
      refine ⟨va, m2, ?_, KH4, wipeG (dropT Γ2) vs, acc ++ [d], va ++ [v], iv2, Ex.trans e (Ex.trans g2.kx (Ex.trans g3.kx e4)), ?_, upd_same, m3, ?_, by simp; exact la, fun j w' e1 e2 => ?_⟩
      · rw [DtAll.length da]; omega
      · have z := (m1.poke (o' := .lst (va ++ [v])) m3 fD n4).wipe vs
        rw [ww] at z
        exact z
      · exact (DtAll.mono (Ex.trans g2.kx (Ex.trans g3.kx e4)) da).append (.one kv)
      · rcases wipeG_get e1 with ⟨_, z⟩ | ⟨a, z⟩
        · cases z
        · rcases dropT_get z with z | ⟨z, _⟩
          · cases z
          · refine n4 j w' z ?_
            rw [← ww, wipe_get a] at e2
            exact e2
    | false =>
      rw [if_neg Bool.false_ne_true]
      have s3 := sp.grow g3
      obtain ⟨m1, m2, m3⟩ := s3.minus fD keD
      exact ⟨KH3, Γ', acc, va, hF rfl, Ex.trans e (Ex.trans g2.kx g3.kx), m1, m2, m3, DtAll.mono (Ex.trans g2.kx g3.kx) da, Nat.le_succ_of_le la, nD⟩
  · rintro H' ⟨KH', Γ', acc, va, iv, e, s', hva, kd, da, la, nD⟩
    rw [List.length_map] at iv
    refine q D0 (.lst acc) H' KH' _ (hd acc Γ' iv) (Ex.trans g1.kx e) s'.unwipe ⟨va, hva, da⟩ kd fD fun j w' e1 e2 => ?_
    rcases wipeG_get e1 with ⟨_, z⟩ | ⟨a, z⟩
    · cases z
    · exact nD j w' z (by rw [wipe_get a]; exact e2)
end
/-! ### more statements over readings that write -/
section
variable {B : Bs} {Γ : Gm} {R : Po} {te tb : TE} {tz t u : TS} {d : D} {ds es : List D} {K : PySem.W.Frag}
/-- a new list, known for good from now on -/
theorem OEvN.toD {P : D → Gm → Prop} (h : OEvN Γ te fun o Γ' => ∃ es, o = .lst es ∧ P (.list es) Γ') : EvN Γ te P := fun B σ H KH s Q q => h B σ H KH s Q fun p o H' KH' Γ' z e s' ow kp fp nn => by
  obtain ⟨es, rfl, pp⟩ := z
  obtain ⟨vs, hp, hd⟩ := ow
  have kx : Ex KH' (upd KH' p (.lst vs)) := Ex.new kp
  have up : Ex (upd KH' p (.lst vs)) H' := fun a w z => by
    by_cases ea : a = p
    · subst ea; rw [upd_same] at z; rw [hp]; exact z
    · rw [upd_ne ea] at z; exact s'.e.up a w z
  refine q _ (.list es) H' _ Γ' pp (Ex.trans e kx) ⟨⟨up, s'.e.len, fun j t z => ?_, s'.e.sep⟩, ⟨s'.g.ex, Ex.trans s'.g.kx kx, up, fun a ha hk => ?_⟩, s'.o⟩ (.lst upd_same (DtAll.mono kx hd))
  · obtain ⟨v, ev, k⟩ := s'.e.at_ j t z
    refine ⟨v, ev, ?_⟩
    cases t with
    | no => trivial
    | dat d => obtain ⟨x, ex, dx⟩ := k; exact ⟨x, ex, Dt.mono kx dx⟩
    | tmp d => exact k
    | scr K ns => obtain ⟨r, er, kr⟩ := k; exact ⟨r, er, ex_l kx kr⟩
    | own w =>
      obtain ⟨r, rfl, kr, ow⟩ := k
      have hne : r ≠ p := fun y => nn j w z (y ▸ ev)
      exact ⟨r, rfl, by rw [upd_ne hne]; exact kr, ow.mono rfl kx⟩
  · have : a ≠ p := fun y => ha (y ▸ fp)
    rw [upd_ne this]
    exact s'.g.ns a ha hk
theorem w_dropN {P : D → Gm → Prop} (h : EvN Γ te P) (k : ∀ d Γ', P d Γ' → Wp B Γ' tz R) : Wp B Γ (tSeq (tDrop te) tz) R := fun σ H KH Dn s ok =>
  h B σ H KH s _ fun v d H1 KH1 Γ1 p e1 s1 k1 => k d Γ1 p _ H1 KH1 Dn s1 (ok.mono e1)
theorem w_appendN1 (i : Nat) {P : D → Gm → Prop} (ho : ∃ es, Γ[i]? = some (.own (.lst es))) (he : EvN Γ te P) (k : ∀ d Γ', P d Γ' → ∃ ds, Γ'[i]? = some (.own (.lst ds)) ∧ ds.length < sizeLine ∧ R.nx ((dropT Γ').set i (.own (.lst (ds ++ [d]))))) :
    Wp B Γ (tDrop (tBM K "list" rAppend (tVar i) (tCons te tNil))) R := by
  have h2 : Wp B Γ (tSeq (tDrop (tBM K "list" rAppend (tVar i) (tCons te tNil))) tNext) R := w_appendN i ho he fun d Γ' p => by
    obtain ⟨ds, a, b, c⟩ := k d Γ' p
    exact ⟨ds, a, b, w_next c⟩
  exact h2
/-- a, b = x, y over readings that write -/
theorem w_parN (i j : Nat) {ta : TA} {P : List Slo → Gm → Prop} (h : AEvN Γ ta P) (k : ∀ ss Γ', P ss Γ' → ∃ d1 d2, ss = [.dat d1, .dat d2] ∧ Wp B ((Γ'.set i (.dat d1)).set j (.dat d2)) tz R) : Wp B Γ (tSeq (tPar i j ta) tz) R := fun σ H KH Dn s ok =>
  h B σ H KH s _ fun vs ss H1 KH1 Γ1 p e1 s1 k1 => by
    obtain ⟨d1, d2, rfl, kk⟩ := k ss Γ1 p
    cases k1 with
    | cons a1 k1 =>
      cases k1 with
      | cons a2 k1 =>
        cases k1
        exact ⟨_, _, rfl, kk _ H1 KH1 Dn ((s1.setDat i a1).setDat j a2) (ok.mono e1)⟩
/-- a, b = a pair, over readings that write -/
theorem w_asg2N (i j : Nat) {P : D → Gm → Prop} (h : EvN Γ te P) (k : ∀ d Γ', P d Γ' → ∃ d1 d2, d = .tuple [d1, d2] ∧ Wp B ((Γ'.set i (.dat d1)).set j (.dat d2)) tz R) : Wp B Γ (tSeq (tAsg te (gTup K 2 (gCons (gName i) (gCons (gName j) gNil)))) tz) R := fun σ H KH Dn s ok =>
  h B σ H KH s _ fun v d H1 KH1 Γ1 p e1 s1 k1 => by
    obtain ⟨d1, d2, rfl, kk⟩ := k d Γ1 p
    cases k1 with
    | tup hs hd =>
      cases hd with
      | cons h1 hd =>
        cases hd with
        | cons h2 hd =>
          cases hd
          exact ⟨_, _, rfl, .inl (.inl (s1.e.up _ _ hs)), rfl, _, _, rfl, _, _, rfl, rfl, kk _ H1 KH1 Dn ((s1.setDat i h1).setDat j h2) (ok.mono e1)⟩
end
end LO
namespace LO
open PySem L2 Evl PySem.Spec PyProof.Rows
theorem glob_int {mg : Str → Option Value} {x : Str} {i : Int} (h : ∃ t, mg x = some (.int i t)) : ∃ u, mg x = some u ∧ RelV (.int i) u := let ⟨t, e⟩ := h; ⟨_, e, t, rfl⟩
theorem glob_str {mg : Str → Option Value} {x z : Str} (h : ∃ t, mg x = some (.str z t)) : ∃ u, mg x = some u ∧ RelV (.str z) u := let ⟨t, e⟩ := h; ⟨_, e, t, rfl⟩
section
variable {P : Program} {w : World} {K : PySem.W.Frag} {mg : Str → Option Value} {base : Heap} {x : Str} {pa : Arguments} {body : List Stmt} {sc : Scope} {f : Addr} {fd : FuncData} {N ps : List Str} {k : Nat}
theorem fg_mk {sp : Sp} (F : FunD K x x pa body sc [] [] f fd) (S : FnScope N ps sc) (hl : ∀ vs H Q E, sp vs H Q E → vs.length = ps.length)
    (hb : ∀ (cd : Value) (A : Around) (out : List Env) (s : Shared) (H : Hp) (E : XK), A.guards = some [] → Room k (A.deeper (envOfC x sc s.heap.objs.size f cd)) →
      ∃ t, PSs (cxOf CX0 P w K mg base N x sc f cd A out s H E).nox body t ∧ ∀ (vs : List V) (Q : VK), sp vs H Q E → t { nx := fun _ H' => Q .non H', rt := Q } (start N vs) H) :
    FnG P w K mg base CX0 (k + 1) f fd ps sp :=
  fnG_of F S hl (fun cd A out s H vs Q E hg hr h => by
    obtain ⟨t, ht, hw⟩ := hb cd A out s H E hg hr
    exact ⟨t, PSs.nox ht, hw vs Q h⟩)
end
/-! ### the rules whose reading names the written part: K told -/
section
variable {X : Cx} {K : PySem.W.Frag}
theorem kLen (h : X.K = K) : CallR X (.builtin "len") (rLenQ K) := by subst h; exact call_len_seq
theorem kIsi (h : X.K = K) : CallR X (.builtin "isinstance") (rIsi K) := by subst h; exact call_isi
theorem kAll (h : X.K = K) (c : X.calm = true) : CallR X (.builtin "all") (rAll K) := by subst h; exact cr_all c
theorem kAny (h : X.K = K) (c : X.calm = true) : CallR X (.builtin "any") (rAny K) := by subst h; exact cr_any c
theorem kIxL (h : X.K = K) : IxR X (rIxL K) := by subst h; exact ix_list
theorem kIxT (h : X.K = K) : IxR X (rIxT K) := by subst h; exact ix_tup
theorem kSlL (h : X.K = K) : SlR X (rSlL K) := by subst h; exact sl_list
theorem kiList {tg l : Expr} {tl : TE} (h : X.K = K) (p : PE X l tl) : PI X tg l (iList K tl) := by subst h; exact pi_list p
theorem kiTup {tg l : Expr} {tl : TE} (h : X.K = K) (p : PE X l tl) : PI X tg l (iTup K tl) := by subst h; exact pi_tup p
theorem kiEnum {e : Expr} {ta : TA} {p pos tpos : Pos} {elts : List Expr} {kk : Nat} (h : X.K = K) (g : Gl X "enumerate") (m : X.mg "enumerate" = none) (a : PA X [e] ta) (he : starEach [e] X.env = [(false, eval e X.env)] := by rfl) :
    PI X (.Tuple elts kk tpos) (.Call (.Name "enumerate" p) [e] [] pos) (iEnum K ta) := by subst h; exact pi_enum g m a he
theorem kiZip {e e2 : Expr} {ta : TA} {p pos tpos : Pos} {elts : List Expr} {kk : Nat} (h : X.K = K) (g : Gl X "zip") (m : X.mg "zip" = none) (a : PA X [e, e2] ta) (he : starEach [e, e2] X.env = (false, eval e X.env) :: starEach [e2] X.env := by rfl) (hp : ((backTo pos (starEach [e2] X.env)).any fun x => x.fst) = false := by rfl) :
    PI X (.Tuple elts kk tpos) (.Call (.Name "zip" p) [e, e2] [] pos) (iZip K ta) := by subst h; exact pi_zip g m a he hp
theorem kgTup {pos : Pos} {es : List Expr} {k : Nat} {t : TGs} {n : Nat} (h : X.K = K) (c : X.calm = true) (g : PGs X es t) (hl : (assignEach es X.env).length = n := by rfl) (hf : List.findIdx? (fun x => x.fst) (assignEach es X.env) = none := by rfl) : PG X (.Tuple es k pos) (gTup K n t) := by
  subst h; exact pg_tup c g hl hf
theorem kListOf (h : X.K = K) : CallR X (.type "list") (rListQ K) := by subst h; exact call_list_of
theorem kTupleOf (h : X.K = K) : CallR X (.type "tuple") (rTupQ K) := by subst h; exact call_tuple_of
theorem kSortedI (h : X.K = K) : CallR X (.builtin "sorted") (rSortedI K) := by subst h; exact cr_sortedI
theorem kEqD (h : X.K = K) (u : X.A.units + 64 < cLine) : OpR X (compareOp .Eq) (rEqD K) := by subst h; exact op_eqD u
theorem kNeD (h : X.K = K) (u : X.A.units + 64 < cLine) : OpR X (compareOp .NotEq) (rNeD K) := by subst h; exact op_neD u
theorem kIn (h : X.K = K) : OpR X (compareOp .In) (rIn K false) := by subst h; exact op_in_seq
theorem kNotIn (h : X.K = K) : OpR X (compareOp .NotIn) (rIn K true) := by subst h; exact op_notIn_seq
theorem kBm {o e : Expr} {es : List Expr} {to : TE} {t : TA} {name : Str} {apos cpos : Pos} {T id : String} {r : V → List V → Hp → VK → Prop} (h : X.K = K) (pl : PlainAttrs T) (sl : Slot T name id) (ty : typeOf (Value.builtin id) = pure (Value.type "method_descriptor")) (m : MtR X id r) (po : PE X o to) (pa : PA X (e :: es) t)
    (h1 : attributeBase o name X.env (eval o X.env) = eval o X.env := by rfl)
    (h2 : (((((backTo cpos (starEach (e :: es) X.env)).all fun x => !x.fst) && (backToKw cpos (keywordEach [] X.env)).all fun x => x.fst.isSome) && decide (((e :: es).length + ([] : List Keyword).length + if ([] : List Keyword).isEmpty = true then 0 else 1) < 30)) = true) := by rfl)
    (h3 : (apos.endLine == cpos.line) = true := by rfl) (h4 : starEach (e :: es) X.env = (false, eval e X.env) :: starEach es X.env := by rfl) (h5 : ((backTo cpos (starEach es X.env)).any fun x => x.fst) = false := by rfl) :
    PE X (.Call (.Attribute o name apos) (e :: es) [] cpos) (tBM K T r to t) := by subst h; exact pe_bm pl sl ty m po pa h1 h2 h3 h4 h5
theorem kBm0 {o : Expr} {to : TE} {name : Str} {apos cpos : Pos} {T id : String} {r : V → List V → Hp → VK → Prop} (h : X.K = K) (pl : PlainAttrs T) (sl : Slot T name id) (ty : typeOf (Value.builtin id) = pure (Value.type "method_descriptor")) (m : MtR X id r) (po : PE X o to)
    (h1 : attributeBase o name X.env (eval o X.env) = eval o X.env := by rfl) (h3 : (apos.endLine == cpos.line) = true := by rfl) : PE X (.Call (.Attribute o name apos) [] [] cpos) (tBM0 K T r to) := by subst h; exact pe_bm0 pl sl ty m po h1 h3
/-- sep.join(xs) -/
def rJoinQ (K : PySem.W.Frag) : V → List V → Hp → VK → Prop := fun x xs H Q => ∃ a p ys, x = V.str a ∧ xs = [V.ref p] ∧ (SqL K H p (ys.map V.str) ∨ SqT K H p (ys.map V.str)) ∧ (ys.map fun x => x.length).sum + ys.length * a.length ≤ 16777216 ∧ Q (V.str (Txt.join a ys)) H
theorem kJoin {o e : Expr} {to te : TE} {apos pos : Pos} (h : X.K = K) (po : PE X o to) (pe : PE X e te) (h1 : starEach [e] X.env = [(false, eval e X.env)] := by rfl) (h2 : attributeBase o "join" X.env (eval o X.env) = eval o X.env := by rfl) (h3 : (apos.endLine == pos.line) = true := by rfl) :
    PE X (.Call (.Attribute o "join" apos) [e] [] pos) (tM1 (rJoinQ K) to te) := by subst h; exact pe_join po pe h1 h2 h3
theorem kIndex (h : X.K = K) : MtR X "list.index" (rIndex K) := by subst h; exact mt_index
end
end LO
namespace LO
open PySem L2 Evl PySem.Spec PyProof.Rows

/-! ### repr of lists and tuples -/
def rReprQ (K : PySem.W.Frag) : List V → Hp → VK → Prop := fun xs H Q => ∃ a d, xs = [V.ref a] ∧ Dp K H (V.ref a) d ∧ d.showable = true ∧ d.hasDict = false ∧ d.depth ≤ 20 ∧ d.shown.length ≤ sizeLine ∧ Q (.str d.shown) H
theorem kRepr {X : Cx} {K : PySem.W.Frag} (hg : X.A.guards = some []) (hu : X.A.units + 64 < cLine) (h : X.K = K) : CallR X (.builtin "repr") (rReprQ K) := by
  subst h
  intro pins s σ H xs us Q I r hq
  obtain ⟨a, d, rfl, dp, sh, nd, dep, len, q⟩ := hq
  obtain ⟨u, rfl, rx⟩ := Vals.one r
  cases rx
  obtain ⟨as, rd⟩ := Dp.reads I d _ _ dp rfl
  refine repr_of_reads' rd sh (PyData.noDict_hsm nd) hg (by omega) (fun _ _ e => e) (fun h' u tk hk => ?_) len
  exact ⟨.str d.shown, H, I.kept (t' := tk) hk, ⟨u, rfl⟩, q⟩
def isSeqD : D → Bool
  | .list _ => true
  | .tuple _ => true
  | _ => false
section
variable {Γ : Gm} {f f2 : Bool} {ta tb te : TE} {d d1 d2 : D} {ds es : List D} {b c : Bool} {K : PySem.W.Frag} {t : TA}
theorem d_repr (h : Ev f Γ te d) (hq : isSeqD d = true) (hc : d.canLay0 = true) (hs : d.showable = true) (hd : d.depth ≤ 20) (hl : d.shown.length ≤ sizeLine) : Ev true Γ (tCB (rReprQ K) (tCons te tNil)) (.str d.shown) := fun σ H KH E Q q =>
  h σ H KH E _ fun v H1 KH1 g k => by
    have k2 := Dt.mono (sel_up g.up) k
    have dp : Dp K H1 v d := k2.dp hc
    have nd := PyData.hasDict_of_canLay d hc
    cases k2 with
    | lst e1 e2 => exact ⟨_, _, rfl, dp, hs, nd, hd, hl, q _ H1 KH1 g (.str _)⟩
    | tup e1 e2 => exact ⟨_, _, rfl, dp, hs, nd, hd, hl, q _ H1 KH1 g (.str _)⟩
    | _ => cases hq

/-! ### membership in a list of ints, of texts -/
theorem flat_ints (ns : List Int) : (ns.map V.int).all flatV = true := by simp [flatV]
theorem flat_strs (ns : List Str) : (ns.map V.str).all flatV = true := by simp [flatV]
theorem eqV_int (i j : Int) : eqV (.int i) (.int j) = decide (i = j) := by
  by_cases e : i = j
  · subst e; simp [eqV]
  · simp [eqV, e]
theorem inV_ints (i : Int) (ns : List Int) : inV (.int i) (ns.map V.int) = decide (i ∈ ns) := by
  unfold inV
  rw [List.any_map]
  induction ns with
  | nil => rfl
  | cons n ns ih =>
    rw [List.any_cons, ih]
    show (eqV (.int n) (.int i) || decide (i ∈ ns)) = decide (i ∈ n :: ns)
    rw [eqV_int]
    by_cases e : n = i
    · subst e; simp
    · have : ¬ i = n := fun z => e z.symm
      simp [e, this]
theorem rs_inI {i : Int} {ns : List Int} : RS (rIn K false) (.int i) (.list (ns.map .int)) (.bool (decide (i ∈ ns))) := fun x y H h1 h2 Q q => by
  cases h1
  cases h2 with
  | lst hs hd =>
    rw [DtAll.ints hd] at hs
    refine ⟨_, _, rfl, .inl (.inl (.inl hs)), rfl, flat_ints ns, ?_⟩
    rw [inV_ints]
    exact q _ fun H' => .bl _
theorem rs_notInI {i : Int} {ns : List Int} : RS (rIn K true) (.int i) (.list (ns.map .int)) (.bool (!decide (i ∈ ns))) := fun x y H h1 h2 Q q => by
  cases h1
  cases h2 with
  | lst hs hd =>
    rw [DtAll.ints hd] at hs
    refine ⟨_, _, rfl, .inl (.inl (.inl hs)), rfl, flat_ints ns, ?_⟩
    rw [inV_ints]
    exact q _ fun H' => .bl _

/-! ### isinstance with two classes -/
theorem d_isiT {T1 T2 : String} {b1 b2 : Bool} (h : Ev f Γ te d) (h1 : kitB (tyN d) T1 = some b1) (h2 : kitB (tyN d) T2 = some b2) : Ev true Γ (tCB (rIsiT K) (tCons te (tCons (tTup (tCons (tC (.ty T1)) (tCons (tC (.ty T2)) tNil))) tNil))) (.bool (b1 || b2)) := fun σ H KH E Q q =>
  h σ H KH E _ fun v H1 KH1 g k => by
    refine ⟨(show 2 ≤ sizeLine by decide), fun p hp => ?_⟩
    show rIsiT K [v, .ref p] (upd H1 p (.tup [.ty T1, .ty T2])) Q
    have k2 : Dt (upd H1 p (.tup [.ty T1, .ty T2])) v d := Dt.mono (Ex.new hp) (Dt.mono (sel_up g.up) k)
    refine ⟨v, p, [.ty T1, .ty T2], .type (tyN d), [.type T1, .type T2], b1 || b2, rfl, upd_same, .cons (.ty T1) (.cons (.ty T2) .nil), k2.ty, ?_, q _ _ KH1 (g.trans (Grow.newO g.up hp _)) (.bl _)⟩
    refine kitAny_cons (kit_ty h1) (fun e => ?_) fun e => by rw [e]; rfl
    rw [e]
    refine kitAny_cons (kit_ty h2) (fun e2 => ?_) fun e2 => by rw [e2]; rfl
    rw [e2]
    rfl
end
/-! ### statements that write lists -/
section
variable {B : Bs} {Γ : Gm} {R : Po} {te ta tb to : TE} {d d1 d2 : D} {ds es : List D} {o o' : Own} {t u tz : TS} {K : PySem.W.Frag} {i : Nat}
/-- l.extend(another list) -/
theorem w_extend (i : Nat) (h : Γ[i]? = some (.own (.lst ds))) (he : LEv Γ te es) (hl : ds.length + es.length ≤ sizeLine) (k : Wp B ((dropT Γ).set i (.own (.lst (ds ++ es)))) tz R) :
    Wp B Γ (tSeq (tDrop (tBM K "list" rExtend (tVar i) (tCons te tNil))) tz) R := fun σ H KH Dn s ok => by
  obtain ⟨p, e, kp, vs, hp, hd⟩ := s.e.own h
  refine ⟨_, e, .inl ⟨rfl, _, .inl (.inl hp)⟩, he σ H KH s.e _ fun r zs H1 KH1 g hr hz => ?_⟩
  have s1 := s.grow g
  have hp1 := g.ex _ _ hp
  exact ⟨p, r, vs, zs, rfl, rfl, hp1, hr, by rw [hd.length, hz.length]; exact hl, k σ _ KH1 Dn (s1.mutate h e ⟨_, upd_same, (DtAll.mono g.kx hd).append hz⟩) (ok.mono g.kx)⟩
/-- l.extend(e), e with draws -/
theorem w_extendN1 (i : Nat) {P : Own → Gm → Prop} (ho : ∃ es, Γ[i]? = some (.own (.lst es))) (he : OEvN Γ te P) (k : ∀ o Γ', P o Γ' → ∃ ds es, o = .lst es ∧ Γ'[i]? = some (.own (.lst ds)) ∧ ds.length + es.length ≤ sizeLine ∧ R.nx ((dropT Γ').set i (.own (.lst (ds ++ es))))) :
    Wp B Γ (tDrop (tBM K "list" rExtend (tVar i) (tCons te tNil))) R := fun σ H KH Dn s ok => by
  obtain ⟨es0, h⟩ := ho
  obtain ⟨p, e, kp, vs, hp, hd⟩ := s.e.own h
  refine ⟨_, e, .inl ⟨rfl, _, .inl (.inl hp)⟩, he B σ H KH s _ fun r o H1 KH1 Γ1 po e1 s1 ow kr fr nn => ?_⟩
  obtain ⟨ds, es, rfl, h1, hl, kk⟩ := k o Γ1 po
  obtain ⟨p', e', kp', vs', hp', hd'⟩ := s1.e.own h1
  rw [e] at e'
  cases e'
  obtain ⟨zs, hr, hz⟩ := ow
  exact ⟨p, r, vs', zs, rfl, rfl, hp', hr, by rw [hd'.length, hz.length]; exact hl, ok.nx σ _ KH1 _ kk e1 (s1.mutate h1 e ⟨_, upd_same, hd'.append hz⟩)⟩
theorem w_reverse (i : Nat) (h : Γ[i]? = some (.own (.lst ds))) (k : Wp B ((dropT Γ).set i (.own (.lst ds.reverse))) tz R) : Wp B Γ (tSeq (tDrop (tBM0 K "list" rReverse (tVar i))) tz) R := fun σ H KH Dn s ok => by
  obtain ⟨p, e, kp, vs, hp, hd⟩ := s.e.own h
  refine ⟨_, e, .inl ⟨rfl, _, .inl (.inl hp)⟩, ?_⟩
  exact ⟨p, vs, rfl, rfl, hp, k σ _ KH Dn (s.mutate h e ⟨_, upd_same, hd.reverse⟩) ok⟩
theorem w_reverse1 (i : Nat) (h : Γ[i]? = some (.own (.lst ds))) (k : R.nx ((dropT Γ).set i (.own (.lst ds.reverse)))) : Wp B Γ (tDrop (tBM0 K "list" rReverse (tVar i))) R := by
  have h2 : Wp B Γ (tSeq (tDrop (tBM0 K "list" rReverse (tVar i))) tNext) R := w_reverse i h (w_next k)
  exact h2
end
/-! ### items by a place -/
theorem at_nat {α : Type} {xs : List α} {j : Nat} {a : α} (h : xs[j]? = some a) : atI xs (j : Int) = some a := by
  have hj : j < xs.length := (List.getElem?_eq_some_iff.mp h).1
  unfold atI
  rw [ixN_nat hj]
  exact h
theorem at_of {α : Type} {xs : List α} {i : Int} {a : α} (h0 : 0 ≤ i) (h : xs[i.toNat]? = some a) : atI xs i = some a := by
  have := at_nat h
  rwa [show ((i.toNat : Nat) : Int) = i by omega] at this
theorem at_last {α : Type} {xs : List α} {a : α} (h : xs.getLast? = some a) : atI xs (-1) = some a := by
  rw [List.getLast?_eq_getElem?] at h
  have hj : xs.length - 1 < xs.length := (List.getElem?_eq_some_iff.mp h).1
  unfold atI ixN
  rw [if_neg (by omega), if_pos (by omega)]
  show xs[(-1 + (xs.length : Int)).toNat]? = some a
  rw [show (-1 + (xs.length : Int)).toNat = xs.length - 1 by omega]
  exact h
theorem one_le : 1 ≤ sizeLine := by decide
theorem two_le : 2 ≤ sizeLine := by decide
end LO
namespace LO
open PySem L2 Evl PySem.Spec PyProof.Rows

/-! ### draws -/
/-- one draw: any int from 0 to below k -/
def RDraw (ss : List Slo) (m : Nat) (P : D → Prop) : Prop := ∃ k : Int, 0 < k ∧ k < 2 ^ 100 ∧ ss = [.dat (.int k)] ∧ m = 1 ∧ P = fun d => ∃ x : Int, 0 ≤ x ∧ x < k ∧ d = .int x
/-- what a draw leaves -/
def Drawn (Γ : Gm) (i : Nat) (p : Addr) (φ : Nat → HO → Prop) (n : Nat) (k : Int) (d : D) (Γ' : Gm) : Prop := ∃ x : Int, 0 ≤ x ∧ x < k ∧ d = .int x ∧ Γ' = (dropT Γ).set i (.own (.raw p (φ (n + 1))))
section
variable {Γ : Gm} {i : Nat} {p : Addr} {φ : Nat → HO → Prop} {lim n : Nat} {k : Int} {te ta tb : TE} {E : XK} {d d1 d2 : D} {r : R2} {P P1 P2 : D → Gm → Prop} {K : PySem.W.Frag} {ds : List D}
theorem n_draw (h : Γ[i]? = some (.own (.raw p (φ n)))) (he : Ev true Γ te (.int k)) (h0 : 0 < k) (h1 : k < 2 ^ 100) (hn : n + 1 ≤ lim) : EvN Γ (tCall (SpM φ lim RDraw) [] E (tCons (tVar i) (tCons te tNil))) (Drawn Γ i p φ n k) :=
  n_callM ⟨n, h⟩ (AEv.n (a_cons he a_nil)) fun ss Γ1 z => by
    obtain ⟨rfl, rfl⟩ := z
    exact ⟨n, 1, _, h, ⟨k, h0, h1, rfl, rfl, rfl⟩, hn, fun d ⟨x, a, b, c⟩ => ⟨x, a, b, c, rfl⟩⟩
/-- the limit itself with draws -/
theorem n_drawN (h : ∃ n, Γ[i]? = some (.own (.raw p (φ n)))) (he : EvN Γ te P1) (hk : ∀ d1 Γ1, P1 d1 Γ1 → ∃ k n, d1 = .int k ∧ 0 < k ∧ k < 2 ^ 100 ∧ Γ1[i]? = some (.own (.raw p (φ n))) ∧ n + 1 ≤ lim ∧ ∀ d, Drawn Γ1 i p φ n k d ((dropT Γ1).set i (.own (.raw p (φ (n + 1))))) → P d ((dropT Γ1).set i (.own (.raw p (φ (n + 1)))))) :
    EvN Γ (tCall (SpM φ lim RDraw) [] E (tCons (tVar i) (tCons te tNil))) P :=
  n_callM (P1 := fun ss Γ1 => ∃ d1, ss = [.dat d1] ∧ P1 d1 Γ1) h (an_cons he fun d1 Γ1 p1 => ⟨_, an_nil, fun es Γ2 z => ⟨d1, by rw [z.1], by rw [z.2]; exact p1⟩⟩) fun ss Γ1 z => by
    obtain ⟨d1, rfl, p1⟩ := z
    obtain ⟨k, n, rfl, h0, h1, hg, hn, hP⟩ := hk d1 Γ1 p1
    exact ⟨n, 1, _, hg, ⟨k, h0, h1, rfl, rfl, rfl⟩, hn, fun d ⟨x, a, b, c⟩ => hP d ⟨x, a, b, c, rfl⟩⟩
theorem n_opL (ha : Ev true Γ ta d1) (hb : EvN Γ tb P2) (hr : ∀ d2 Γ2, P2 d2 Γ2 → ∃ d, RS r d1 d2 d ∧ P d Γ2) : EvN Γ (tOp r ta tb) P :=
  n_op ha.n fun d Γ1 z => by
    obtain ⟨rfl, rfl⟩ := z
    exact ⟨P2, hb, hr⟩
theorem n_opR (ha : EvN Γ ta P1) (hb : ∀ d1 Γ1, P1 d1 Γ1 → ∃ d2 d, Ev true Γ1 tb d2 ∧ RS r d1 d2 d ∧ P d Γ1) : EvN Γ (tOp r ta tb) P :=
  n_op ha fun d1 Γ1 z => by
    obtain ⟨d2, d, h1, h2, h3⟩ := hb d1 Γ1 z
    exact ⟨_, h1.n, fun d2' Γ2 z2 => by obtain ⟨rfl, rfl⟩ := z2; exact ⟨d, h2, h3⟩⟩
/-- what a draw leaves, the answer told by f -/
def DrF (Γ : Gm) (i : Nat) (p : Addr) (φ : Nat → HO → Prop) (n : Nat) (k : Int) (f : Int → D → Prop) (d : D) (Γ' : Gm) : Prop := ∃ x : Int, 0 ≤ x ∧ x < k ∧ f x d ∧ Γ' = (dropT Γ).set i (.own (.raw p (φ (n + 1))))
theorem n_drawL {f : Int → D → Prop} (ha : Ev true Γ ta d1) (h : Γ[i]? = some (.own (.raw p (φ n)))) (he : Ev true Γ te (.int k)) (h0 : 0 < k) (h1 : k < 2 ^ 100) (hn : n + 1 ≤ lim) (hr : ∀ x, 0 ≤ x → x < k → ∃ d, RS r d1 (.int x) d ∧ f x d) :
    EvN Γ (tOp r ta (tCall (SpM φ lim RDraw) [] E (tCons (tVar i) (tCons te tNil)))) (DrF Γ i p φ n k f) :=
  n_opL ha (n_draw h he h0 h1 hn) fun d2 Γ2 ⟨x, a, b, c, e⟩ => by
    subst c
    obtain ⟨d, h2, h3⟩ := hr x a b
    exact ⟨d, h2, x, a, b, h3, e⟩
theorem n_drawR {f : Int → D → Prop} (h : Γ[i]? = some (.own (.raw p (φ n)))) (he : Ev true Γ te (.int k)) (h0 : 0 < k) (h1 : k < 2 ^ 100) (hn : n + 1 ≤ lim) (hb : ∀ Γ1, Γ1 = (dropT Γ).set i (.own (.raw p (φ (n + 1)))) → Ev true Γ1 tb d2) (hr : ∀ x, 0 ≤ x → x < k → ∃ d, RS r (.int x) d2 d ∧ f x d) :
    EvN Γ (tOp r (tCall (SpM φ lim RDraw) [] E (tCons (tVar i) (tCons te tNil))) tb) (DrF Γ i p φ n k f) :=
  n_opR (n_draw h he h0 h1 hn) fun d2 Γ2 ⟨x, a, b, c, e⟩ => by
    subst c
    obtain ⟨d, h2, h3⟩ := hr x a b
    exact ⟨_, d, hb Γ2 e, h2, x, a, b, h3, e⟩
theorem n_drawIx {f : Int → D → Prop} (ha : Ev true Γ ta (.list ds)) (h : Γ[i]? = some (.own (.raw p (φ n)))) (he : Ev true Γ te (.int k)) (h0 : 0 < k) (h1 : k < 2 ^ 100) (hn : n + 1 ≤ lim) (hr : ∀ x, 0 ≤ x → x < k → ∃ d, atI ds x = some d ∧ f x d) :
    EvN Γ (tOp (rIxL K) ta (tCall (SpM φ lim RDraw) [] E (tCons (tVar i) (tCons te tNil)))) (DrF Γ i p φ n k f) :=
  n_ixL (f := true) ha (n_draw h he h0 h1 hn) fun d2 Γ2 ⟨x, a, b, c, e⟩ => by
    subst c
    obtain ⟨d, h2, h3⟩ := hr x a b
    exact ⟨x, d, rfl, h2, x, a, b, h3, e⟩
/-- e: a value that writes nothing, as one that might -/
theorem n_of (h : Ev true Γ te d) (hp : P d Γ) : EvN Γ te P := h.n.imp fun d' Γ' z => by
  obtain ⟨rfl, rfl⟩ := z
  exact hp
end
section
variable {B : Bs} {Γ : Gm} {R : Po} {t u tz : TS}
theorem w_ifN1 {c : TT} {P : Bool → Gm → Prop} (h : TEvN Γ c P) (k : ∀ b Γ', P b Γ' → if b then Wp B Γ' t R else Wp B Γ' u R) : Wp B Γ (tIfS c t u) R := fun σ H KH Dn s ok =>
  h B σ H KH s _ fun b H1 KH1 Γ1 p e1 s1 => by
    have h2 := k b Γ1 p
    cases b with
    | true => exact h2 σ H1 KH1 Dn s1 (ok.mono e1)
    | false => exact h2 σ H1 KH1 Dn s1 (ok.mono e1)
end
theorem map_eraseIdx' {α β : Type} {f : α → β} : ∀ {l : List α} {m : Nat}, (l.map f).eraseIdx m = (l.eraseIdx m).map f
  | [], _ => rfl
  | _ :: _, 0 => rfl
  | a :: l, m + 1 => by
    show f a :: (l.map f).eraseIdx m = f a :: (l.eraseIdx m).map f
    rw [map_eraseIdx']
theorem eraseIdx_perm {α : Type} : ∀ {l : List α} {m : Nat} {x : α}, l[m]? = some x → (x :: l.eraseIdx m).Perm l
  | [], m, x, h => by simp at h
  | a :: l, 0, x, h => by simp at h; subst h; exact .refl _
  | a :: l, m + 1, x, h => by
    have ih := eraseIdx_perm (l := l) (m := m) (x := x) (by simpa using h)
    rw [List.eraseIdx_cons_succ]
    exact (List.Perm.swap a x _).trans (ih.cons a)
/-! ### PyData.eqv by shapes -/
theorem eqv_nil_l (ds : List D) : PyData.eqv (.list ds) (.list []) = decide (ds = []) := by
  cases ds with
  | nil => simp [PyData.eqv, PyData.eqvAll]
  | cons d ds => simp [PyData.eqv, PyData.eqvAll]
theorem not_dec {p : Prop} [Decidable p] : (!decide p) = decide (¬ p) := by by_cases h : p <;> simp [h]
end LO
namespace LO
open PySem L2 Evl PySem.Spec PyProof.Rows

/-! ### what is walked, told by readings that write -/
def IEvN (Γ : Gm) (wi : TI) (P : List D → Gm → Prop) : Prop := ∀ B σ H KH, Sat B H KH σ Γ → ∀ R : It → Hp → Prop, (∀ J H1 KH1 Γ' ds, P ds Γ' → Ex KH KH1 → Sat B H1 KH1 σ Γ' → Wks KH1 J ds → R J H1) → wi σ H R
section
variable {B : Bs} {Γ : Gm} {R : Po} {ds es : List D} {wi : TI} {g : TG} {tb tz : TS} {te ta tt : TE} {d d1 d2 : D} {P P1 : D → Gm → Prop} {K : PySem.W.Frag}
theorem IEv.n (h : IEv Γ wi ds) : IEvN Γ wi (fun ds' Γ' => ds' = ds ∧ Γ' = Γ) := fun B σ H KH s R q => h σ H KH s.e R fun J H1 KH1 g k => q J H1 KH1 Γ ds ⟨rfl, rfl⟩ g.kx (s.grow g) k
theorem IEvN.imp {P P' : List D → Gm → Prop} (h : IEvN Γ wi P) (k : ∀ ds Γ', P ds Γ' → P' ds Γ') : IEvN Γ wi P' := fun B σ H KH s R q => h B σ H KH s R fun J H1 KH1 Γ' ds p => q J H1 KH1 Γ' ds (k ds Γ' p)
theorem iN_list {P : List D → Gm → Prop} (h : EvN Γ te P1) (k : ∀ d Γ', P1 d Γ' → ∃ ds, d = .list ds ∧ P ds Γ') : IEvN Γ (iList K te) P := fun B σ H KH s R q => h B σ H KH s _ fun v d H1 KH1 Γ1 p1 e1 s1 k1 => by
  obtain ⟨ds, rfl, p⟩ := k d Γ1 p1
  cases k1 with
  | lst hs hd =>
    rename_i a xs
    refine ⟨a, rfl, ⟨xs, .inl (.inl (s1.e.up _ _ hs))⟩, q _ H1 KH1 Γ1 ds p e1 s1 ⟨fun H => SqL K H a xs, YAt xs, ?_, fun H KH k1 k2 => .inl (.inl (k2 _ _ (k1 _ _ hs))), fun i x H KH H' d e k1 k2 y => ?_⟩⟩
    · rw [← DtAll.length hd]; exact walk_list
    · obtain ⟨rfl, y⟩ := y
      obtain ⟨w, ew, kw⟩ := DtAll.get hd e
      rw [y] at ew; cases ew
      exact ⟨KH, .refl k2, Dt.mono k1 kw⟩
theorem an_one (h : EvN Γ te P1) : AEvN Γ (tCons te tNil) (fun ss Γ' => ∃ d, ss = [.dat d] ∧ P1 d Γ') := an_cons h fun d1 Γ1 z => ⟨_, an_nil, fun es Γ2 z2 => by
  obtain ⟨rfl, rfl⟩ := z2
  exact ⟨d1, rfl, z⟩⟩
theorem an_two {tb : TE} (h : EvN Γ te P1) (h2 : ∀ d1 Γ1, P1 d1 Γ1 → Ev true Γ1 tb d2) : AEvN Γ (tCons te (tCons tb tNil)) (fun ss Γ' => ∃ d, ss = [.dat d, .dat d2] ∧ P1 d Γ') := an_cons h fun d1 Γ1 z => ⟨_, AEv.n (a_cons (h2 d1 Γ1 z) a_nil), fun es Γ2 z2 => by
  obtain ⟨rfl, rfl⟩ := z2
  exact ⟨d1, rfl, z⟩⟩
theorem iN_rng1 {ta : TA} {Q : List Slo → Gm → Prop} {P : List D → Gm → Prop} (h : AEvN Γ ta Q) (k : ∀ ss Γ', Q ss Γ' → ∃ n : Int, ss = [.dat (.int n)] ∧ -(2 ^ 62) ≤ n ∧ n < 2 ^ 62 ∧ P ((List.range n.toNat).map fun (i : Nat) => PyData.int i) Γ') : IEvN Γ (iRng1 ta) P := fun B σ H KH s R q =>
  h B σ H KH s _ fun vs ss H1 KH1 Γ1 p e1 s1 k1 => by
    obtain ⟨n, rfl, h1, h2, pp⟩ := k ss Γ1 p
    cases k1 with
    | cons a k1 =>
      cases k1
      cases a
      refine ⟨n, rfl, h1, h2, q _ H1 KH1 Γ1 _ pp e1 s1 ⟨fun _ => True, YFn fun i => .int (0 + i), ?_, fun _ _ _ _ => trivial, fun i x H KH H' d e k1 k2 y => ?_⟩⟩
      · rw [List.length_map, List.length_range]; exact walk_range
      · obtain ⟨rfl, rfl⟩ := y
        rw [List.getElem?_map] at e
        cases hr : (List.range n.toNat)[i]? with
        | none => rw [hr] at e; cases e
        | some m =>
          rw [hr] at e
          cases e
          obtain ⟨a, b⟩ := List.getElem?_eq_some_iff.mp hr
          rw [List.getElem_range] at b
          subst b
          refine ⟨KH, .refl k2, ?_⟩
          show Dt KH (V.int (0 + (i : Int))) (PyData.int (i : Int))
          rw [Int.zero_add]
          exact .int _
/-- for, over such -/
theorem w_forN {P : List D → Gm → Prop} (hi : IEvN Γ wi P)
    (k : ∀ ds Γ1, P ds Γ1 → ∃ I : Nat → Gm → Prop, I 0 Γ1 ∧ (∀ (i : Nat) (d : D) (Γ' : Gm), ds[i]? = some d → I i Γ' → ∃ js U, TgOk g js d U ∧ Wp B (U Γ') tb { R with nx := I (i + 1), ct := I (i + 1), bk := fun Γ2 => Wp B Γ2 tz R }) ∧ ∀ Γ', I ds.length Γ' → Wp B Γ' tz R) :
    Wp B Γ (tSeq (tFor wi g tb) tz) R := fun σ H KH Dn s ok =>
  hi B σ H KH s _ fun J H1 KH1 Γ1 ds pd ek s1 wk => by
    obtain ⟨I, h0, hs, hd⟩ := k ds Γ1 pd
    obtain ⟨Gd, Y, w, hG, hY⟩ := wk.ex
    refine for_it w (D := { Dn with nx := tz Dn }) (fun i σ' H' => ∃ KH' Γ', I i Γ' ∧ Ex KH1 KH' ∧ Sat B H' KH' σ' Γ') ⟨KH1, Γ1, h0, Ex.refl _, s1⟩ (fun i σ' H' _ ⟨KH', Γ', _, e, s'⟩ => hG H' KH' e s'.e.up) ?_ ?_
    · rintro i x σ' H' H2 hlt ⟨KH', Γ', iv, e, s'⟩ y
      have hx : ds[i]? = some ds[i] := by simp [hlt]
      obtain ⟨KH2, g2, kx⟩ := hY i x H' KH' H2 _ hx e s'.e.up y
      obtain ⟨js, U, tg, wb⟩ := hs i _ Γ' hx iv
      obtain ⟨S, h1, _, h3, _, _⟩ := tg.run x H2 KH2 g2.up kx
      refine h1 σ' _ ?_
      have ex : Ex KH KH2 := Ex.trans ek (Ex.trans e g2.kx)
      refine wb _ H2 KH2 _ (h3 B σ' Γ' (s'.grow g2)) ⟨fun σ3 H3 KH3 Γ3 r x3 s3 => ⟨KH3, Γ3, r, Ex.trans e (Ex.trans g2.kx x3), s3⟩, fun σ3 H3 KH3 Γ3 r x3 s3 => r σ3 H3 KH3 Dn s3 (ok.mono (Ex.trans ex x3)), fun σ3 H3 KH3 Γ3 r x3 s3 => ⟨KH3, Γ3, r, Ex.trans e (Ex.trans g2.kx x3), s3⟩,
        fun v σ3 H3 KH3 Γ3 d r x3 s3 => ok.rt v σ3 H3 KH3 Γ3 d r (Ex.trans ex x3) s3, fun p σ3 H3 KH3 Γ3 o r x3 s3 => ok.ro p σ3 H3 KH3 Γ3 o r (Ex.trans ex x3) s3, fun v σ3 H3 KH3 Γ3 es fs r x3 s3 => ok.r2 v σ3 H3 KH3 Γ3 es fs r (Ex.trans ex x3) s3⟩
    · rintro σ' H' ⟨KH', Γ', iv, e, s'⟩
      exact hd Γ' iv σ' H' KH' Dn s' (ok.mono (Ex.trans ek e))
theorem n_ixN {tb : TE} (ha : EvN Γ ta P1) (hb : ∀ d1 Γ1, P1 d1 Γ1 → ∃ ds i d, d1 = .list ds ∧ Ev true Γ1 tb (.int i) ∧ atI ds i = some d ∧ P d Γ1) : EvN Γ (tOp (rIxL K) ta tb) P := fun B σ H KH s Q q =>
  ha B σ H KH s _ fun x d1 H1 KH1 Γ1 p1 e1 s1 k1 => by
    obtain ⟨ds, i, d, rfl, h2, ei, p⟩ := hb d1 Γ1 p1
    refine h2 σ H1 KH1 s1.e _ fun y H2 KH2 g2 k2 => ?_
    cases k2
    cases k1 with
    | lst hs hd =>
      obtain ⟨v, a, k⟩ := (DtAll.mono g2.kx hd).at ei
      exact ⟨_, _, i, v, rfl, rfl, .inl (.inl (g2.up _ _ (g2.kx _ _ hs))), a, q v d H2 KH2 Γ1 p (Ex.trans e1 g2.kx) (s1.grow g2) k⟩
theorem n_rep {tb : TE} {PO : Own → Gm → Prop} (ha : Ev true Γ ta (.list ds)) (hb : EvN Γ tb P1) (k : ∀ d1 Γ1, P1 d1 Γ1 → ∃ n : Int, d1 = .int n ∧ -(2 ^ 63) ≤ n ∧ n < 2 ^ 63 ∧ ds.length * n.toNat ≤ sizeLine ∧ PO (.lst (List.replicate n.toNat ds).flatten) Γ1) : OEvN Γ (tOp rRep ta tb) PO := fun B σ H KH s Q q =>
  ha σ H KH s.e _ fun x H1 KH1 g1 k1 => by
    have k1' : Dt KH1 x (.list ds) := k1
    cases k1' with
    | lst hs hd =>
      refine hb B σ H1 KH1 (s.grow g1) _ fun y d1 H2 KH2 Γ2 p1 e2 s2 k2 => ?_
      obtain ⟨n, rfl, h1, h2, hl, pp⟩ := k d1 Γ2 p1
      cases k2
      refine ⟨_, n, _, rfl, rfl, s2.e.up _ _ (e2 _ _ hs), h1, h2, by rw [hd.length]; exact hl, fun r hr => ?_⟩
      exact q r _ _ KH2 Γ2 pp (Ex.trans g1.kx e2) (s2.grow (Grow.newO s2.e.up hr _)) ⟨_, upd_same, (DtAll.mono e2 hd).rep _⟩ (fresh_back s2.e.up hr) (fresh_back s2.g.ex hr) (s2.e.notNew hr)
end
theorem cutL_to {α : Type} (xs : List α) {n : Int} (h : 0 ≤ n) : cutL xs none (some n) = xs.take n.toNat := by
  have e : HT.sIx xs.length xs.length (some n) = min n.toNat xs.length := by
    show (if n < 0 then (n + (xs.length : Int)).toNat else min n.toNat xs.length) = _
    rw [if_neg (by omega)]
  unfold cutL
  rw [e]
  show (xs.drop 0).take (min n.toNat xs.length - 0) = _
  rw [List.drop_zero, Nat.sub_zero]
  by_cases hn : n.toNat ≤ xs.length
  · rw [Nat.min_eq_left hn]
  · rw [Nat.min_eq_right (by omega), List.take_length, List.take_of_length_le (by omega)]
theorem cutL_from {α : Type} (xs : List α) {n : Int} (h : 0 ≤ n) : cutL xs (some n) none = xs.drop n.toNat := by
  have e : HT.sIx xs.length 0 (some n) = min n.toNat xs.length := by
    show (if n < 0 then (n + (xs.length : Int)).toNat else min n.toNat xs.length) = _
    rw [if_neg (by omega)]
  unfold cutL
  rw [e]
  show (xs.drop (min n.toNat xs.length)).take (xs.length - min n.toNat xs.length) = _
  by_cases hn : n.toNat ≤ xs.length
  · rw [Nat.min_eq_left hn, List.take_of_length_le (by simp)]
  · rw [Nat.min_eq_right (by omega), Nat.sub_self, List.take_zero, List.drop_of_length_le (by omega)]
end LO
namespace LO
open PySem L2 Evl PySem.Spec PyProof.Rows

/-! ### a new tuple of two new lists: given out, and written -/
theorem Fresh2.dt {F H KH : Hp} {v : V} {es fs : List D} (h : Fresh2 F H KH v es fs) (u : Ex KH H) : Dt H v (.tuple [.list es, .list fs]) := by
  obtain ⟨p, a, b, vs, ws, rfl, _, _, _, _, _, _, _, _, _, h1, h2, h3, d1, d2⟩ := h.ex
  exact .tup h1 (.cons (.lst h2 (DtAll.mono u d1)) (.cons (.lst h3 (DtAll.mono u d2)) .nil))
theorem Fresh2.grow {F H KH H' KH' : Hp} {v : V} {es fs : List D} (h : Fresh2 F H KH v es fs) (g : Grow H KH H' KH') : Fresh2 F H' KH' v es fs := by
  obtain ⟨p, a, b, vs, ws, e, f1, f2, f3, k1, k2, k3, n1, n2, n3, h1, h2, h3, d1, d2⟩ := h.ex
  have ne : ∀ {q : Addr} {o : HO}, H q = some o → H q ≠ none := fun e z => by rw [e] at z; cases z
  exact ⟨p, a, b, vs, ws, e, f1, f2, f3, g.ns p (ne h1) k1, g.ns a (ne h2) k2, g.ns b (ne h3) k3, n1, n2, n3, g.ex _ _ h1, g.ex _ _ h2, g.ex _ _ h3, DtAll.mono g.kx d1, DtAll.mono g.kx d2⟩
/-- nobody's slot owns it or its lists -/
def Apart (σ : L2.St) (Γ : Gm) (v : V) (H : Hp) : Prop := ∀ (p a b : Addr), v = .ref p → H p = some (.tup [.ref a, .ref b]) → ∀ (j : Nat) (o : Own), Γ[j]? = some (.own o) → σ[j]? ≠ some (some (.ref p)) ∧ σ[j]? ≠ some (some (.ref a)) ∧ σ[j]? ≠ some (some (.ref b))
section
variable {B : Bs} {Γ : Gm} {R : Po} {tz t : TS} {te t0 : TE} {es fs ds : List D} {d : D} {i : Nat} {c : TT} {K : PySem.W.Frag}
/-- the slot i holds a new pair of new lists -/
def Wp2 (i : Nat) (es fs : List D) (B : Bs) (Γ : Gm) (ts : TS) (R : Po) : Prop := ∀ σ H KH Dn v, Sat B H KH σ (Γ.set i (.tmp (.tuple [.list es, .list fs]))) → i < Γ.length → σ[i]? = some (some v) → Fresh2 B.F H KH v es fs →
  (∀ (p a b : Addr), v = .ref p → H p = some (.tup [.ref a, .ref b]) → ∀ (j : Nat) (o : Own), (Γ.set i .no)[j]? = some (.own o) → σ[j]? ≠ some (some (.ref p)) ∧ σ[j]? ≠ some (some (.ref a)) ∧ σ[j]? ≠ some (some (.ref b))) → Ok B KH R Dn → ts Dn σ H
/-- an answer that is a new pair -/
def Ev2 (Γ : Gm) (te : TE) (es fs : List D) : Prop := ∀ σ H KH, Envo H KH σ Γ → ∀ Q : VK, (∀ v H' KH', Grow H KH H' KH' → Fresh2 H H' KH' v es fs → Q v H') → te σ H Q
theorem Ev2.toX (h : Ev2 Γ te es fs) : Ev false Γ te (.tuple [.list es, .list fs]) := fun σ H KH E Q q => h σ H KH E Q fun v H' KH' g f => q v H' KH' g (f.dt g.up)
def SpTwo (R : List D → List D → List D → Prop) : Sp := fun vs H Q _ => ∃ KH ds es fs, Ex KH H ∧ DtAll KH vs ds ∧ R ds es fs ∧ ∀ v H' KH', Grow H KH H' KH' → Fresh2 H H' KH' v es fs → Q v H'
theorem SpTwo.len {R : List D → List D → List D → Prop} {n : Nat} (h : ∀ ds es fs, R ds es fs → ds.length = n) : ∀ vs H Q E, SpTwo R vs H Q E → vs.length = n := fun vs H Q E ⟨KH, ds, es, fs, u, hd, r, _⟩ => hd.length.trans (h ds es fs r)
theorem call2 {R : List D → List D → List D → Prop} {t : TA} {E : XK} (h : AEv true Γ t ds) (r : R ds es fs) : Ev2 Γ (tCall (SpTwo R) [] E t) es fs := fun σ H KH e Q q => h σ H KH e _ fun vs H1 KH1 g k => by
  show SpTwo R (vs ++ []) H1 Q E
  rw [List.append_nil]
  refine ⟨KH1, ds, es, fs, g.up, k, r, fun v H' KH' g2 f => q v H' KH' (g.trans g2) ?_⟩
  obtain ⟨p, a, b, vs, ws, e, f1, f2, f3, rest⟩ := f.ex
  exact ⟨p, a, b, vs, ws, e, fresh_back g.ex f1, fresh_back g.ex f2, fresh_back g.ex f3, rest⟩
theorem spTwo_body {R : List D → List D → List D → Prop} {N : List Str} {vs : List V} {H : Hp} {Q : VK} {E : XK} {t : TS} (h : SpTwo R vs H Q E)
    (hw : ∀ (B : Bs) (ds es fs : List D), R ds es fs → Wp B (Γ0 N ds) t { r2 := fun es' fs' => es' = es ∧ fs' = fs }) : t { nx := fun _ H' => Q .non H', rt := Q } (start N vs) H := by
  obtain ⟨KH, ds, es, fs, u, hd, r, k⟩ := h
  refine hw ⟨H, KH⟩ ds es fs r (L2.start N vs) H KH _ ⟨envo_start u hd, .refl u, fun i o p e _ => (no_own0 e).elim⟩ ⟨fun _ _ _ _ z => z.elim, fun _ _ _ _ z => z.elim, fun _ _ _ _ z => z.elim, fun _ _ _ _ _ _ z => z.elim, fun _ _ _ _ _ _ z => z.elim, fun v σ' H' KH' Γ' es' fs' e _ s f => ?_⟩
  obtain ⟨rfl, rfl⟩ := e
  exact k v H' KH' s.g f
/-- return (x, y), both owned -/
theorem w_ret2 (i j : Nat) (hij : i ≠ j) (hi : Γ[i]? = some (.own (.lst es))) (hj : Γ[j]? = some (.own (.lst fs))) (k : R.r2 es fs) : Wp B Γ (tRet (tTup (tCons (tVar i) (tCons (tVar j) tNil)))) R := fun σ H KH Dn s ok => by
  obtain ⟨a, e1, k1, vs, h1, d1⟩ := s.e.own hi
  obtain ⟨b, e2, k2, ws, h2, d2⟩ := s.e.own hj
  have f1 := s.o i _ a hi e1
  have f2 := s.o j _ b hj e2
  have nab : a ≠ b := fun z => by subst z; exact s.e.sep i j _ _ a hij hi hj e1 e2
  refine ⟨_, e1, _, e2, two_le, fun p hp => ?_⟩
  have pa : p ≠ a := fun z => by rw [z, h1] at hp; cases hp
  have pb : p ≠ b := fun z => by rw [z, h2] at hp; cases hp
  have g := Grow.newO s.e.up hp (.tup [.ref a, .ref b])
  exact ok.r2 _ σ _ KH Γ es fs k (Ex.refl _) (s.grow g) ⟨p, a, b, vs, ws, rfl, fresh_back s.g.ex hp, f1, f2, fresh_back s.e.up hp, k1, k2, nab, pa, pb, upd_same, g.ex _ _ h1, g.ex _ _ h2, d1, d2⟩
/-- x = a new pair -/
theorem w_asg2O (i : Nat) (hl : i < Γ.length) (h : Ev2 Γ te es fs) (k : Wp2 i es fs B Γ tz R) : Wp B Γ (tSeq (tAsg te (gName i)) tz) R := fun σ H KH Dn s ok =>
  h σ H KH s.e _ fun v H1 KH1 g f => by
    have hσ : i < σ.length := by rw [s.e.len]; exact hl
    have ff : Fresh2 B.F H1 KH1 v es fs := by
      obtain ⟨p, a, b, vs, ws, e, f1, f2, f3, rest⟩ := f.ex
      exact ⟨p, a, b, vs, ws, e, fresh_back s.g.ex f1, fresh_back s.g.ex f2, fresh_back s.g.ex f3, rest⟩
    refine k _ H1 KH1 Dn v ((s.grow g).setTmp i (f.dt g.up)) hl (List.getElem?_set_self hσ) ff (fun p a b ev hp j o ej => ?_) (ok.mono g.kx)
    obtain ⟨p', a', b', vs, ws, e, f1, f2, f3, _, _, _, _, _, _, h1, _⟩ := f.ex
    rw [e] at ev
    cases ev
    rw [h1] at hp
    cases hp
    obtain ⟨ne, ej'⟩ := own_set_dat (fun _ z => by cases z) ej
    rw [List.getElem?_set_ne ne]
    exact ⟨s.e.notNew f1 j o ej', s.e.notNew f2 j o ej', s.e.notNew f3 j o ej'⟩
theorem wt_weak (k : Wp B (Γ.set i (.tmp (.tuple [.list es, .list fs]))) tz R) : Wp2 i es fs B Γ tz R := fun σ H KH Dn v s _ _ _ _ ok => k σ H KH Dn s ok
/-- a test that fails -/
theorem wt_skip (h : TEv (Γ.set i (.tmp (.tuple [.list es, .list fs]))) c false) (k : Wp2 i es fs B Γ tz R) : Wp2 i es fs B Γ (tSeq (tIfS c t tNext) tz) R := fun σ H KH Dn v s hl e f ap ok =>
  h σ H KH s.e _ fun H1 KH1 g => by
    refine k σ H1 KH1 Dn v (s.grow g) hl e (f.grow g) (fun p a b ev hp => ?_) (ok.mono g.kx)
    obtain ⟨p', a', b', vs, ws, e', _, _, _, _, _, _, _, _, _, h1, _⟩ := f.ex
    have e3 : p' = p := by rw [e'] at ev; cases ev; rfl
    subst e3
    have h1' := g.ex _ _ h1
    rw [h1'] at hp
    have e4 : a' = a ∧ b' = b := by cases hp; exact ⟨rfl, rfl⟩
    obtain ⟨rfl, rfl⟩ := e4
    exact ap p' a' b' e' h1
theorem Sat.tmpAt {H KH : Hp} {σ : L2.St} {v : V} (s : Sat B H KH σ Γ) (e : σ[i]? = some (some v)) (h : Dt H v d) : Sat B H KH σ (Γ.set i (.tmp d)) := by
  have z := s.setTmp i h
  have hi : i < σ.length := (List.getElem?_eq_some_iff.mp e).1
  have e2 : σ[i] = some v := (List.getElem?_eq_some_iff.mp e).2
  rwa [← e2, List.set_getElem_self] at z
theorem dropT_set {Γ : Gm} {i : Nat} {d : D} : (dropT (Γ.set i (.tmp d))).set i (.tmp d) = (dropT Γ).set i (.tmp d) := by
  unfold dropT
  rw [List.map_set, List.set_set]
theorem set_no_own {Γ : Gm} {i j : Nat} {o : Own} (h : ((dropT Γ).set i .no)[j]? = some (.own o)) : (Γ.set i .no)[j]? = some (.own o) := by
  obtain ⟨n, e⟩ := own_set_dat (fun _ z => by cases z) h
  rw [List.getElem?_set_ne n]
  rcases dropT_get e with z | ⟨z, _⟩
  · cases z
  · exact z
/-- one of the two lists is written -/
theorem wt_put {σ : L2.St} {H KH : Hp} {v : V} {p a b : Addr} {es' fs' : List D} {vs' ws' : List V} {q : Addr} {ho : HO} (s : Sat B H KH σ (Γ.set i (.tmp (.tuple [.list es, .list fs])))) (e : σ[i]? = some (some v)) (f : Fresh2 B.F H KH v es fs)
    (ap : ∀ (p a b : Addr), v = .ref p → H p = some (.tup [.ref a, .ref b]) → ∀ (j : Nat) (o : Own), (Γ.set i .no)[j]? = some (.own o) → σ[j]? ≠ some (some (.ref p)) ∧ σ[j]? ≠ some (some (.ref a)) ∧ σ[j]? ≠ some (some (.ref b)))
    (ev : v = .ref p) (hp : H p = some (.tup [.ref a, .ref b])) (hq : q = a ∨ q = b) (h1 : (upd H q ho) a = some (.lst vs')) (h2 : (upd H q ho) b = some (.lst ws')) (d1 : DtAll KH vs' es') (d2 : DtAll KH ws' fs') :
    Sat B (upd H q ho) KH σ ((dropT Γ).set i (.tmp (.tuple [.list es', .list fs']))) ∧ Fresh2 B.F (upd H q ho) KH v es' fs' ∧
      (∀ (p a b : Addr), v = .ref p → (upd H q ho) p = some (.tup [.ref a, .ref b]) → ∀ (j : Nat) (o : Own), ((dropT Γ).set i .no)[j]? = some (.own o) → σ[j]? ≠ some (some (.ref p)) ∧ σ[j]? ≠ some (some (.ref a)) ∧ σ[j]? ≠ some (some (.ref b))) := by
  obtain ⟨p', a', b', vs, ws, e', f1, f2, f3, k1, k2, k3, n1, n2, n3, g1, g2, g3, _, _⟩ := f.ex
  rw [ev] at e'
  cases e'
  rw [hp] at g1
  cases g1
  have ap2 := ap p a b ev hp
  have kq : KH q = none := by rcases hq with rfl | rfl <;> assumption
  have fq : B.F q = none := by rcases hq with rfl | rfl <;> assumption
  have pq : p ≠ q := by rcases hq with rfl | rfl <;> assumption
  have nq : ∀ (j : Nat) (o : Own), (Γ.set i (.tmp (.tuple [.list es, .list fs])))[j]? = some (.own o) → σ[j]? ≠ some (some (.ref q)) := fun j o ej => by
    obtain ⟨ne, ej'⟩ := own_set_dat (fun _ z => by cases z) ej
    have := ap2 j o (by rw [List.getElem?_set_ne ne]; exact ej')
    rcases hq with rfl | rfl
    · exact this.2.1
    · exact this.2.2
  have F2 : Fresh2 B.F (upd H q ho) KH v es' fs' := ⟨p, a, b, vs', ws', ev, f1, f2, f3, k1, k2, k3, n1, n2, n3, by rw [upd_ne pq]; exact hp, h1, h2, d1, d2⟩
  have s1 : Sat B (upd H q ho) KH σ (dropT (Γ.set i (.tmp (.tuple [.list es, .list fs])))) := s.poke kq fq nq
  have s2 := s1.tmpAt e (F2.dt s1.e.up)
  refine ⟨?_, F2, fun p2 a2 b2 ev2 hp2 j o ej => ?_⟩
  · have : (dropT (Γ.set i (.tmp (.tuple [.list es, .list fs])))).set i (.tmp (.tuple [.list es', .list fs'])) = (dropT Γ).set i (.tmp (.tuple [.list es', .list fs'])) := by
      unfold dropT
      rw [List.map_set, List.set_set]
    rwa [this] at s2
  · rw [ev] at ev2
    cases ev2
    rw [upd_ne pq, hp] at hp2
    cases hp2
    exact ap2 j o (set_no_own ej)
/-- x[0].append(e) -/
theorem wt_append0 (h0 : t0 = tC (.int 0)) (he : Ev true (Γ.set i (.tmp (.tuple [.list es, .list fs]))) te d) (hz : es.length < sizeLine) (k : Wp2 i (es ++ [d]) fs B (dropT Γ) tz R) : Wp2 i es fs B Γ (tSeq (tDrop (tBM K "list" rAppend (tOp (rIxT K) (tVar i) t0) (tCons te tNil))) tz) R := fun σ H KH Dn v s hl e f ap ok => by
  subst h0
  obtain ⟨p, a, b, vs, ws, rfl, f1, f2, f3, k1, k2, k3, n1, n2, n3, h1, h2, h3, d1, d2⟩ := f.ex
  refine ⟨_, e, p, [.ref a, .ref b], 0, .ref a, rfl, rfl, .inl (.inl h1), rfl, .inl ⟨rfl, _, .inl (.inl h2)⟩, he σ H KH s.e _ fun x H1 KH1 g kx => ?_⟩
  have f' := f.grow g
  have ap' : ∀ (p2 a2 b2 : Addr), V.ref p = V.ref p2 → H1 p2 = some (.tup [.ref a2, .ref b2]) → ∀ (j : Nat) (o : Own), (Γ.set i .no)[j]? = some (.own o) → σ[j]? ≠ some (some (.ref p2)) ∧ σ[j]? ≠ some (some (.ref a2)) ∧ σ[j]? ≠ some (some (.ref b2)) := fun p2 a2 b2 ev hp => by
    cases ev
    rw [g.ex _ _ h1] at hp
    cases hp
    exact ap p a b rfl h1
  obtain ⟨s2, F2, ap2⟩ := wt_put (q := a) (ho := .lst (vs ++ [x])) (es' := es ++ [d]) (fs' := fs) (vs' := vs ++ [x]) (ws' := ws) (s.grow g) e f' ap' rfl (g.ex _ _ h1) (.inl rfl) upd_same (by rw [upd_ne (Ne.symm n1)]; exact g.ex _ _ h3) ((DtAll.mono g.kx d1).append (.one kx)) (DtAll.mono g.kx d2)
  exact ⟨a, vs, x, rfl, rfl, g.ex _ _ h2, by rw [d1.length]; exact hz, k σ _ KH1 Dn _ s2 (by simpa [dropT] using hl) e F2 ap2 (ok.mono g.kx)⟩
/-- x[1].clear() -/
theorem wt_clear1 (h0 : t0 = tC (.int 1)) (k : Wp2 i es [] B (dropT Γ) tz R) : Wp2 i es fs B Γ (tSeq (tDrop (tBM0 K "list" rClear (tOp (rIxT K) (tVar i) t0))) tz) R := fun σ H KH Dn v s hl e f ap ok => by
  subst h0
  obtain ⟨p, a, b, vs, ws, rfl, f1, f2, f3, k1, k2, k3, n1, n2, n3, h1, h2, h3, d1, d2⟩ := f.ex
  refine ⟨_, e, p, [.ref a, .ref b], 1, .ref b, rfl, rfl, .inl (.inl h1), rfl, .inl ⟨rfl, _, .inl (.inl h3)⟩, ?_⟩
  obtain ⟨s2, F2, ap2⟩ := wt_put (q := b) (ho := .lst []) (es' := es) (fs' := []) (vs' := vs) (ws' := []) s e f ap rfl h1 (.inr rfl) (by rw [upd_ne n1]; exact h2) upd_same d1 .nil
  exact ⟨b, ws, rfl, rfl, h3, k σ _ KH Dn _ s2 (by simpa [dropT] using hl) e F2 ap2 ok⟩
end
end LO
namespace LO
open PySem L2 Evl PySem.Spec PyProof.Rows

/-! ### zip of two lists, of two tuples -/
theorem kiZipA {X : Cx} {K : PySem.W.Frag} {e e2 : Expr} {ta : TA} {p pos tpos : Pos} {elts : List Expr} {kk : Nat} (h : X.K = K) (g : Gl X "zip") (m : X.mg "zip" = none) (a : PA X [e, e2] ta) (he : starEach [e, e2] X.env = (false, eval e X.env) :: starEach [e2] X.env := by rfl) (hp : ((backTo pos (starEach [e2] X.env)).any fun x => x.fst) = false := by rfl) :
    PI X (.Tuple elts kk tpos) (.Call (.Name "zip" p) [e, e2] [] pos) (RZ.iZipA K ta) := by subst h; exact RZ.pi_zipA g m a he hp
theorem walk_zipT {K : PySem.W.Frag} {a b : Addr} {xs ys : List V} : Walk (RZ.ItzT K a b) (min xs.length ys.length) (fun H => SqT K H a xs ∧ SqT K H b ys) (YPair (fun i => xs[i]?) (fun i => ys[i]?)) := by
  refine ⟨fun i H hi q => ⟨xs, ys, xs[i]'(by omega), ys[i]'(by omega), q.1, q.2, List.getElem?_eq_getElem _, List.getElem?_eq_getElem _⟩, fun H q => ⟨xs, ys, q.1, q.2, by omega⟩, fun i H v H' hi q y => ?_⟩
  obtain ⟨T, x, z, h1, h2, h3, h4, h5⟩ := y
  exact ⟨T, x, z, h1, h2, h3, h4 xs q.1, h5 ys q.2⟩
section
variable {Γ : Gm} {ds es : List D} {K : PySem.W.Frag} {ta : TA}
theorem zip_yield {H KH H' : Hp} {xs ys : List V} {i : Nat} {x : V} {d : D} {KH0 : Hp} (hd : DtAll KH0 xs ds) (hd2 : DtAll KH0 ys es) (e : (zipD ds es)[i]? = some d) (k1 : Ex KH0 KH) (k2 : Ex KH H) (y : YPair (fun i => xs[i]?) (fun i => ys[i]?) i H x H') : ∃ KH', Grow H KH H' KH' ∧ Dt KH' x d := by
  obtain ⟨T, x', y', rfl, hT, rfl, e1, e2⟩ := y
  unfold zipD at e
  rw [List.getElem?_zipWith] at e
  obtain ⟨dd, e3, e4⟩ := DtAll.getV hd e1
  obtain ⟨dd2, e5, e6⟩ := DtAll.getV hd2 e2
  rw [e3, e5] at e
  cases e
  have nk := fresh_back k2 hT
  exact ⟨upd KH T (.tup [x', y']), Grow.new k2 hT _, .tup upd_same (.cons (Dt.mono (Ex.trans k1 (Ex.new nk)) e4) (.cons (Dt.mono (Ex.trans k1 (Ex.new nk)) e6) .nil))⟩
theorem i_zipA (h : AEv true Γ ta [.list ds, .list es]) : IEv Γ (RZ.iZipA K ta) (zipD ds es) := fun σ H KH E R q => h σ H KH E _ fun vs H1 KH1 g k => by
  have k' : DtAll KH1 vs [.list ds, .list es] := k
  cases k' with
  | cons k1 k =>
    cases k with
    | cons k2 k =>
      cases k
      cases k1 with
      | lst hs hd =>
        rename_i a xs
        cases k2 with
        | lst hs2 hd2 =>
          rename_i a2 ys
          refine ⟨a, a2, xs, ys, rfl, .inl ⟨.inl (.inl (g.up _ _ hs)), .inl (.inl (g.up _ _ hs2)), q _ H1 KH1 g ⟨fun H => SqL K H a xs ∧ SqL K H a2 ys, YPair (fun i => xs[i]?) (fun i => ys[i]?), ?_, fun H KH k1 k2 => ⟨.inl (.inl (k2 _ _ (k1 _ _ hs))), .inl (.inl (k2 _ _ (k1 _ _ hs2)))⟩, fun i x H KH H' d e k1 k2 y => zip_yield hd hd2 e k1 k2 y⟩⟩⟩
          exact walk_zip (by unfold zipD; rw [List.length_zipWith, DtAll.length hd, DtAll.length hd2])
theorem i_zipT (h : AEv true Γ ta [.tuple ds, .tuple es]) : IEv Γ (RZ.iZipA K ta) (zipD ds es) := fun σ H KH E R q => h σ H KH E _ fun vs H1 KH1 g k => by
  have k' : DtAll KH1 vs [.tuple ds, .tuple es] := k
  cases k' with
  | cons k1 k =>
    cases k with
    | cons k2 k =>
      cases k
      cases k1 with
      | tup hs hd =>
        rename_i a xs
        cases k2 with
        | tup hs2 hd2 =>
          rename_i a2 ys
          refine ⟨a, a2, xs, ys, rfl, .inr ⟨.inl (.inl (g.up _ _ hs)), .inl (.inl (g.up _ _ hs2)), q _ H1 KH1 g ⟨fun H => SqT K H a xs ∧ SqT K H a2 ys, YPair (fun i => xs[i]?) (fun i => ys[i]?), ?_, fun H KH k1 k2 => ⟨.inl (.inl (k2 _ _ (k1 _ _ hs))), .inl (.inl (k2 _ _ (k1 _ _ hs2)))⟩, fun i x H KH H' d e k1 k2 y => zip_yield hd hd2 e k1 k2 y⟩⟩⟩
          have : (zipD ds es).length = min xs.length ys.length := by unfold zipD; rw [List.length_zipWith, DtAll.length hd, DtAll.length hd2]
          rw [this]
          exact walk_zipT
end
/-! ### a def that nothing may be told of (the end of a recursion) -/
theorem fo_false {P : Program} {w : World} {K : PySem.W.Frag} {mg : Str → Option Value} {base : Heap} {x : Str} {pa : Arguments} {body : List Stmt} {sc : Scope} {f : Addr} {fd : FuncData} {ps : List Str} {k : Nat} (F : FunD K x x pa body sc [] [] f fd) (hm : mg x = some (.ref f))
    (hbd : ∀ (kV doc pm : Value) (an : Option Addr) (cdv ct : Value) (us : List Value), us.length = ps.length → bindArgs (PySem.W.fnOf x x pa body sc .none kV doc pm an cdv ct) ⟨us, []⟩ = pure (ps.zip us)) {R : List D → D → Prop} (hR : ∀ ds d, ¬ R ds d) : Fo P w K mg base CX0 k x (SpD R) :=
  ⟨f, fd, ps, ⟨fun vs H Q E ⟨_, ds, d, _, _, r, _⟩ => (hR ds d r).elim, fun A out s H args us vs Q E _ _ _ _ _ ⟨_, ds, d, _, _, r, _⟩ => (hR ds d r).elim⟩, hm, F.kp, F.bindsN hbd⟩
theorem Fo.imp {P : Program} {w : World} {K : PySem.W.Frag} {mg : Str → Option Value} {base : Heap} {x : Str} {k : Nat} {sp sp' : Sp} (h : Fo P w K mg base CX0 k x sp) (hi : ∀ vs H Q E, sp' vs H Q E → sp vs H Q E) : Fo P w K mg base CX0 k x sp' := by
  obtain ⟨f, fd, ps, F, a, b, c⟩ := h.ex
  exact ⟨f, fd, ps, ⟨fun vs H Q E q => F.len vs H Q E (hi _ _ _ _ q), fun A out s H args us vs Q E h1 h2 h3 h4 h5 h6 => F.run A out s H args us vs Q E h1 h2 h3 h4 h5 (hi _ _ _ _ h6)⟩, a, b, c⟩
end LO
namespace My
open PySem L2 Evl PySem.Spec PyProof.Rows LO
/-! ### lineups, as plain Lean -/
abbrev Pp := Int × Nat
def ch (c : Nat) : Str := ⟨#[c]⟩
def eP (p : Pp) : D := .tuple [.int p.1, .str (ch p.2)]
def eL (l : List Pp) : D := .list (l.map eP)
def eI (cs : List Int) : D := .list (cs.map .int)
def abc : Str := "abcdefghijklmnopqrstuvwxyz"
structure Lu (l : List Pp) : Prop where
  one : 1 ≤ l.length
  sixty : l.length ≤ 60
  per : ∀ p ∈ l, 0 ≤ p.1 ∧ p.1 < l.length
  col : ∀ p ∈ l, p.2 ∈ abc.cps.toList
  nd : (l.map Prod.fst).Nodup
def Cs (l : List Pp) (cs : List Int) : Prop := ∀ c ∈ cs, 0 ≤ c ∧ c < l.length
theorem ch_inj {a b : Nat} (h : ch a = ch b) : a = b := by
  unfold ch at h
  injection h with h
  simpa using h
theorem ch_dec (a b : Nat) : decide (ch a = ch b) = decide (a = b) := by
  by_cases e : a = b
  · rw [decide_eq_true e, decide_eq_true (by rw [e])]
  · rw [decide_eq_false e, decide_eq_false fun z => e (ch_inj z)]
/-- a lineup holds every person below its length -/
theorem nodup_range {n : Nat} {l : List Int} (h : l.Nodup) (hl : l.length = n) (hb : ∀ x ∈ l, 0 ≤ x ∧ x < n) : ∀ i : Int, 0 ≤ i → i < n → i ∈ l := by
  intro i h0 h1
  refine Classical.byContradiction fun hn => ?_
  have hs : (i :: l) ⊆ (List.range n).map fun (k : Nat) => (k : Int) := by
    intro x hx
    rw [List.mem_map]
    have hx' : 0 ≤ x ∧ x < n := by
      rcases List.mem_cons.mp hx with rfl | hx
      · exact ⟨h0, h1⟩
      · exact hb x hx
    exact ⟨x.toNat, List.mem_range.mpr (by omega), by omega⟩
  have h2 := (List.nodup_cons.mpr ⟨hn, h⟩).length_le_of_subset hs
  simp [hl] at h2
  omega
theorem Lu.has {l : List Pp} (h : Lu l) {i : Int} (h0 : 0 ≤ i) (h1 : i < l.length) : ∃ c, (i, c) ∈ l := by
  have := nodup_range (n := l.length) h.nd (by simp) (fun x hx => by
    obtain ⟨p, hp, rfl⟩ := List.mem_map.mp hx
    exact h.per p hp) i h0 h1
  obtain ⟨p, hp, e⟩ := List.mem_map.mp this
  exact ⟨p.2, by rw [← e]; exact hp⟩
/-- a person's colour -/
def colOf (l : List Pp) (i : Int) : Nat := match l.find? fun q => decide (q.1 = i) with
  | some q => q.2
  | none => 0
def takeC (l : List Pp) (i : Int) : Option Nat := (l.find? fun q => decide (q.2 ≠ colOf l i)).map Prod.snd
def call1 (l : List Pp) (i : Int) : List Pp := (i, (takeC l i).getD (colOf l i)) :: l.filter fun q => decide (q.1 ≠ i)
def run (l : List Pp) (cs : List Int) : List Pp := cs.foldl call1 l
def takes (l : List Pp) : List Int → List (Option Nat)
  | [] => []
  | c :: cs => takeC l c :: takes (call1 l c) cs
def eO : Option Nat → D
  | none => .none
  | some c => .str (ch c)
theorem filter_ne_length {l : List Pp} {i : Int} (nd : (l.map Prod.fst).Nodup) (h : ∃ c, (i, c) ∈ l) : (l.filter fun q => decide (q.1 ≠ i)).length + 1 = l.length := by
  induction l with
  | nil => obtain ⟨c, h⟩ := h; cases h
  | cons p r ih =>
    rw [List.map_cons, List.nodup_cons] at nd
    by_cases e : p.1 = i
    · have : r.filter (fun q => decide (q.1 ≠ i)) = r := by
        rw [List.filter_eq_self]
        intro q hq
        have : q.1 ≠ i := fun z => nd.1 (by rw [e, ← z]; exact List.mem_map_of_mem hq)
        simpa using this
      rw [List.filter_cons_of_neg (by simpa using e), this, List.length_cons]
    · obtain ⟨c, h⟩ := h
      have h' : (i, c) ∈ r := by
        rcases List.mem_cons.mp h with z | z
        · exact absurd (by rw [← z]) e
        · exact z
      rw [List.filter_cons_of_pos (by simpa using e), List.length_cons, List.length_cons, ih nd.2 ⟨c, h'⟩]
theorem colOf_mem {l : List Pp} {i : Int} (h : ∃ c, (i, c) ∈ l) : (i, colOf l i) ∈ l := by
  obtain ⟨c, h⟩ := h
  unfold colOf
  cases e : l.find? fun q => decide (q.1 = i) with
  | none =>
    have := List.find?_eq_none.mp e (i, c) h
    simp at this
  | some q =>
    have h1 := List.find?_some e
    have h2 := List.mem_of_find?_eq_some e
    simp at h1
    show (i, q.2) ∈ l
    rw [← h1]
    exact h2
theorem takeC_mem {l : List Pp} {i : Int} {c : Nat} (h : takeC l i = some c) : ∃ p, (p, c) ∈ l ∧ c ≠ colOf l i := by
  unfold takeC at h
  cases e : l.find? fun q => decide (q.2 ≠ colOf l i) with
  | none => rw [e] at h; cases h
  | some q =>
    rw [e] at h
    cases h
    have h1 := List.find?_some e
    exact ⟨q.1, List.mem_of_find?_eq_some e, by simpa using h1⟩
theorem newC_col {l : List Pp} (h : Lu l) {i : Int} (h0 : 0 ≤ i) (h1 : i < l.length) : (takeC l i).getD (colOf l i) ∈ abc.cps.toList := by
  cases e : takeC l i with
  | none => exact h.col _ (colOf_mem (h.has h0 h1))
  | some c =>
    obtain ⟨p, hp, _⟩ := takeC_mem e
    exact h.col _ hp
theorem call1_length {l : List Pp} (h : Lu l) {i : Int} (h0 : 0 ≤ i) (h1 : i < l.length) : (call1 l i).length = l.length := by
  unfold call1
  rw [List.length_cons, filter_ne_length h.nd (h.has h0 h1)]
theorem call1_lu {l : List Pp} (h : Lu l) {i : Int} (h0 : 0 ≤ i) (h1 : i < l.length) : Lu (call1 l i) := by
  have hl := call1_length h h0 h1
  refine ⟨by rw [hl]; exact h.one, by rw [hl]; exact h.sixty, fun p hp => ?_, fun p hp => ?_, ?_⟩
  · rw [hl]
    rcases List.mem_cons.mp hp with rfl | hp
    · exact ⟨h0, h1⟩
    · exact h.per p (List.mem_filter.mp hp).1
  · rcases List.mem_cons.mp hp with rfl | hp
    · exact newC_col h h0 h1
    · exact h.col p (List.mem_filter.mp hp).1
  · unfold call1
    rw [List.map_cons, List.nodup_cons]
    refine ⟨fun hm => ?_, ?_⟩
    · obtain ⟨p, hp, e⟩ := List.mem_map.mp hm
      have := (List.mem_filter.mp hp).2
      simp at this
      exact this e
    · exact h.nd.sublist ((List.filter_sublist (l := l)).map Prod.fst)
theorem run_nil (l : List Pp) : run l [] = l := rfl
theorem run_cons (l : List Pp) (c : Int) (cs : List Int) : run l (c :: cs) = run (call1 l c) cs := rfl
theorem run_append (l : List Pp) (a b : List Int) : run l (a ++ b) = run (run l a) b := by unfold run; rw [List.foldl_append]
theorem run_lu : ∀ {cs : List Int} {l : List Pp}, Lu l → Cs l cs → Lu (run l cs) ∧ (run l cs).length = l.length
  | [], l, h, _ => ⟨h, rfl⟩
  | c :: cs, l, h, hc => by
    have hc0 := hc c List.mem_cons_self
    have h1 := call1_lu h hc0.1 hc0.2
    have h2 := call1_length h hc0.1 hc0.2
    have h3 := run_lu (cs := cs) h1 (fun x hx => by rw [h2]; exact hc x (List.mem_cons_of_mem _ hx))
    exact ⟨h3.1, h3.2.trans h2⟩
/-! ### data facts -/
theorem eL_len (l : List Pp) : (l.map eP).length = l.length := List.length_map _
def Ca (l : List Pp) : Prop := ∀ p ∈ l, p.2 ∈ abc.cps.toList
theorem abc_lt {c : Nat} (h : c ∈ abc.cps.toList) : 97 ≤ c ∧ c ≤ 122 := by
  have : ∀ c ∈ abc.cps.toList, 97 ≤ c ∧ c ≤ 122 := by decide +kernel
  exact this c h
theorem mem_abc {c : Nat} (h : 97 ≤ c) (h2 : c ≤ 122) : c ∈ abc.cps.toList := by
  have : ∀ k : Fin 26, 97 + k.val ∈ abc.cps.toList := by decide +kernel
  have := this ⟨c - 97, by omega⟩
  rw [show 97 + (c - 97) = c by omega] at this
  exact this
theorem strOk_ch {c : Nat} (h : c ∈ abc.cps.toList) : PyData.strOk (ch c) = true := by
  have h := abc_lt h
  unfold PyData.strOk ch
  simp
  omega
theorem shaped_eP {p : Pp} (h : p.2 ∈ abc.cps.toList) : (eP p).canLay0 = true ∧ (eP p).depth ≤ 2 := by
  show PyData.canLay0 (.tuple [.int p.1, .str (ch p.2)]) = true ∧ PyData.depth (.tuple [.int p.1, .str (ch p.2)]) ≤ 2
  simp [PyData.canLay0, PyData.canLayAll0, PyData.depth, PyData.depthAll, strOk_ch h]
theorem canLayAll_map {α : Type} {f : α → D} : ∀ {l : List α}, (∀ a ∈ l, (f a).canLay0 = true) → PyData.canLayAll0 (l.map f) = true
  | [], _ => rfl
  | a :: l, h => by
    show ((f a).canLay0 && PyData.canLayAll0 (l.map f)) = true
    rw [h a List.mem_cons_self, canLayAll_map fun b hb => h b (List.mem_cons_of_mem _ hb)]; rfl
theorem depthAll_map {α : Type} {f : α → D} {n : Nat} : ∀ {l : List α}, (∀ a ∈ l, (f a).depth ≤ n) → PyData.depthAll (l.map f) ≤ n
  | [], _ => by show PyData.depthAll [] ≤ n; simp [PyData.depthAll]
  | a :: l, h => by
    show PyData.depthAll (f a :: l.map f) ≤ n
    simp only [PyData.depthAll]
    exact Nat.max_le.mpr ⟨h a List.mem_cons_self, depthAll_map fun b hb => h b (List.mem_cons_of_mem _ hb)⟩
theorem sh_of {d : D} (h1 : d.canLay0 = true) (h2 : d.depth ≤ 64) : SeqAt.shaped d = true := by
  unfold SeqAt.shaped
  rw [h1, decide_eq_true h2]; rfl
theorem cl_list {ds : List D} (h : PyData.canLayAll0 ds = true) : (PyData.list ds).canLay0 = true := by
  show PyData.canLay0 (.list ds) = true
  simp only [PyData.canLay0]
  exact h
theorem dp_list {ds : List D} {n : Nat} (h : PyData.depthAll ds ≤ n) : (PyData.list ds).depth ≤ n + 1 := by
  show PyData.depth (.list ds) ≤ n + 1
  simp only [PyData.depth]
  omega
theorem cl_eL {l : List Pp} (h : Ca l) : (eL l).canLay0 = true := cl_list (canLayAll_map fun p hp => (shaped_eP (h p hp)).1)
theorem dp_eL {l : List Pp} (h : Ca l) : (eL l).depth ≤ 3 := dp_list (depthAll_map (n := 2) fun p hp => (shaped_eP (h p hp)).2)
theorem sh_eL {l : List Pp} (h : Ca l) : SeqAt.shaped (eL l) = true := sh_of (cl_eL h) (Nat.le_trans (dp_eL h) (by decide))
theorem cl_eI (l : List Int) : (eI l).canLay0 = true := cl_list (canLayAll_map fun p _ => by simp [PyData.canLay0])
theorem dp_eI (l : List Int) : (eI l).depth ≤ 2 := dp_list (depthAll_map (n := 1) fun p _ => by simp [PyData.depth])
theorem sh_eI (l : List Int) : SeqAt.shaped (eI l) = true := sh_of (cl_eI l) (Nat.le_trans (dp_eI l) (by decide))
/-- the number of keys -/
theorem putD_new {kvs : List (Key × D)} {k : Key} {d : D} (h : ∀ kv ∈ kvs, kv.1 ≠ k) : putD kvs k d = kvs ++ [(k, d)] := by
  unfold putD
  have : (kvs.any fun kv => decide (kv.1 = k)) = false := by
    rw [List.any_eq_false]
    intro kv hkv
    simpa using h kv hkv
  rw [this]
  rfl
theorem dcD_nodup (l : List (Key × D)) (h : (l.map Prod.fst).Nodup) : dcD l = l := by
  have g : ∀ (l acc : List (Key × D)), ((acc ++ l).map Prod.fst).Nodup → l.foldl (fun acc kv => putD acc kv.1 kv.2) acc = acc ++ l := by
    intro l
    induction l with
    | nil => intro acc _; simp
    | cons a r ih =>
      intro acc hn
      rw [List.foldl_cons, putD_new, ih]
      · simp
      · simpa using hn
      · intro kv hkv e
        rw [List.map_append, List.nodup_append] at hn
        exact hn.2.2 kv.1 (List.mem_map_of_mem hkv) a.1 (by simp) e
  have := g l [] (by simpa using h)
  unfold dcD
  simpa using this
end My
namespace My
open PySem L2 Evl PySem.Spec PyProof.Rows LO
/-! ### data that repr shows -/
structure Rp (dep W : Nat) (d : D) : Prop where
  cl : d.canLay0 = true
  ls : d.leavesShort 13 = true
  sh : d.showable = true
  dp : d.depth ≤ dep
  wt : d.weight ≤ W
theorem Rp.mono {dep W dep' W' : Nat} {d : D} (h : Rp dep W d) (h1 : dep ≤ dep') (h2 : W ≤ W') : Rp dep' W' d := ⟨h.cl, h.ls, h.sh, Nat.le_trans h.dp h1, Nat.le_trans h.wt h2⟩
theorem Rp.len {dep W : Nat} {d : D} (h : Rp dep W d) (hW : W ≤ 2 ^ 20) : d.shown.length ≤ sizeLine := PyData.shown_fits (B := 13) (by decide) (by decide) h.ls (Nat.le_trans h.wt hW)
theorem log2_lt40 {n : Nat} (h : n < 10 ^ 12) : n.log2 < 40 := by
  by_cases h0 : n = 0
  · subst h0; decide
  · exact (Nat.log2_lt h0).mpr (Nat.lt_trans h (by decide))
theorem rp_int {i : Int} (h : i.natAbs < 10 ^ 12) : Rp 1 64 (.int i) := by
  have hl := log2_lt40 h
  refine ⟨by simp [PyData.canLay0], ?_, ?_, by simp [PyData.depth], ?_⟩
  · simp only [PyData.leavesShort, PyData.shown]
    refine decide_eq_true ?_
    have h2 := int_text_length_le10 (a := i) (k := 12) (by decide) h
    have h3 : (Str.ofString (toString i)).length ≤ 13 := by rw [PySem.ofString_length]; exact h2
    exact h3
  · simp only [PyData.showable, decide_eq_true_eq]; omega
  · simp only [PyData.weight]
    split
    · omega
    · omega
theorem rp_ch {c : Nat} (h : c ∈ abc.cps.toList) : Rp 1 1 (.str (ch c)) := by
  have h2 := abc_lt h
  refine ⟨by simp only [PyData.canLay0]; exact strOk_ch h, ?_, by simp [PyData.showable], by simp [PyData.depth], by simp [PyData.weight, ch]⟩
  simp only [PyData.leavesShort, List.all_eq_true, decide_eq_true_eq]
  intro x hx
  have : x = c := by simpa [ch] using hx
  subst this
  omega
theorem all_cl : ∀ {ds : List D}, (∀ d ∈ ds, d.canLay0 = true) → PyData.canLayAll0 ds = true
  | [], _ => rfl
  | a :: ds, h => by
    simp only [PyData.canLayAll0, Bool.and_eq_true]
    exact ⟨h a List.mem_cons_self, all_cl fun d hd => h d (List.mem_cons_of_mem _ hd)⟩
theorem all_ls {B : Nat} : ∀ {ds : List D}, (∀ d ∈ ds, d.leavesShort B = true) → PyData.leavesShortAll B ds = true
  | [], _ => rfl
  | a :: ds, h => by
    simp only [PyData.leavesShortAll, Bool.and_eq_true]
    exact ⟨h a List.mem_cons_self, all_ls fun d hd => h d (List.mem_cons_of_mem _ hd)⟩
theorem all_sh : ∀ {ds : List D}, (∀ d ∈ ds, d.showable = true) → PyData.showableAll ds = true
  | [], _ => rfl
  | a :: ds, h => by
    simp only [PyData.showableAll, Bool.and_eq_true]
    exact ⟨h a List.mem_cons_self, all_sh fun d hd => h d (List.mem_cons_of_mem _ hd)⟩
theorem all_dp {n : Nat} : ∀ {ds : List D}, (∀ d ∈ ds, d.depth ≤ n) → PyData.depthAll ds ≤ n
  | [], _ => by simp [PyData.depthAll]
  | a :: ds, h => by
    simp only [PyData.depthAll]
    exact Nat.max_le.mpr ⟨h a List.mem_cons_self, all_dp fun d hd => h d (List.mem_cons_of_mem _ hd)⟩
theorem all_wt {n : Nat} : ∀ {ds : List D}, (∀ d ∈ ds, d.weight ≤ n) → PyData.weightAll ds ≤ ds.length * (n + 1)
  | [], _ => by simp [PyData.weightAll]
  | a :: ds, h => by
    simp only [PyData.weightAll, List.length_cons]
    have h1 := h a List.mem_cons_self
    have h2 := all_wt fun d hd => h d (List.mem_cons_of_mem _ hd)
    rw [Nat.add_mul]
    omega
theorem rp_list {dep W n : Nat} {ds : List D} (h : ∀ d ∈ ds, Rp dep W d) (hn : ds.length ≤ n) : Rp (dep + 1) (n * (W + 1)) (.list ds) := by
  refine ⟨?_, ?_, ?_, ?_, ?_⟩
  · simp only [PyData.canLay0]; exact all_cl fun d hd => (h d hd).cl
  · simp only [PyData.leavesShort]; exact all_ls fun d hd => (h d hd).ls
  · simp only [PyData.showable]; exact all_sh fun d hd => (h d hd).sh
  · simp only [PyData.depth]
    have := all_dp fun d hd => (h d hd).dp
    omega
  · simp only [PyData.weight]
    exact Nat.le_trans (all_wt fun d hd => (h d hd).wt) (Nat.mul_le_mul_right _ hn)
theorem rp_tuple {dep W n : Nat} {ds : List D} (h : ∀ d ∈ ds, Rp dep W d) (hn : ds.length ≤ n) : Rp (dep + 1) (n * (W + 1)) (.tuple ds) := by
  refine ⟨?_, ?_, ?_, ?_, ?_⟩
  · simp only [PyData.canLay0]; exact all_cl fun d hd => (h d hd).cl
  · simp only [PyData.leavesShort]; exact all_ls fun d hd => (h d hd).ls
  · simp only [PyData.showable]; exact all_sh fun d hd => (h d hd).sh
  · simp only [PyData.depth]
    have := all_dp fun d hd => (h d hd).dp
    omega
  · simp only [PyData.weight]
    exact Nat.le_trans (all_wt fun d hd => (h d hd).wt) (Nat.mul_le_mul_right _ hn)
theorem rp_eP {p : Pp} (h0 : 0 ≤ p.1) (h1 : p.1 < 10 ^ 6) (hc : p.2 ∈ abc.cps.toList) : Rp 2 130 (eP p) :=
  rp_tuple (W := 64) (n := 2) (fun d hd => by
    rcases List.mem_cons.mp hd with rfl | hd
    · exact rp_int (by omega)
    · rcases List.mem_cons.mp hd with rfl | hd
      · exact (rp_ch hc).mono (Nat.le_refl _) (by decide)
      · cases hd) (Nat.le_refl _)
theorem rp_eL {l : List Pp} (h : Lu l) : Rp 3 7860 (eL l) :=
  rp_list (W := 130) (n := 60) (fun d hd => by
    obtain ⟨p, hp, rfl⟩ := List.mem_map.mp hd
    have h1 := h.per p hp
    have h2 := h.sixty
    exact rp_eP h1.1 (by omega) (h.col p hp)) (by rw [List.length_map]; exact h.sixty)
theorem rp_eI {cs : List Int} {n : Nat} (h : ∀ c ∈ cs, 0 ≤ c ∧ c < 10 ^ 6) (hn : cs.length ≤ n) : Rp 2 (n * 65) (eI cs) :=
  rp_list (W := 64) (fun d hd => by
    obtain ⟨c, hc, rfl⟩ := List.mem_map.mp hd
    have := h c hc
    exact rp_int (by omega)) (by rw [List.length_map]; exact hn)
/-- repr of a lineup and a list of calls -/
theorem rp_two {l : List Pp} {cs : List Int} (h : Lu l) (hc : Cs l cs) (hn : cs.length ≤ 5000) : Rp 4 650002 (.list [eL l, eI cs]) :=
  rp_list (W := 325000) (n := 2) (fun d hd => by
    rcases List.mem_cons.mp hd with rfl | hd
    · exact (rp_eL h).mono (Nat.le_refl _) (by decide)
    · rcases List.mem_cons.mp hd with rfl | hd
      · exact (rp_eI (n := 5000) (fun c m => by have := hc c m; have := h.sixty; omega) hn).mono (by decide) (by decide)
      · cases hd) (Nat.le_refl _)
theorem d_reprR {Γ : Gm} {f : Bool} {te : TE} {d : D} {K : PySem.W.Frag} {dep W : Nat} (h : Ev f Γ te d) (hq : isSeqD d = true) (r : Rp dep W d) (h1 : dep ≤ 20) (h2 : W ≤ 2 ^ 20) : Ev true Γ (tCB (rReprQ K) (tCons te tNil)) (.str d.shown) :=
  d_repr h hq r.cl r.sh (Nat.le_trans r.dp h1) (r.len h2)
theorem Rp.shaped {dep W : Nat} {d : D} (r : Rp dep W d) (h : dep ≤ 64) : SeqAt.shaped d = true := sh_of r.cl (Nat.le_trans r.dp h)
mutual
theorem eqv_refl : ∀ {d : D}, d.canLay0 = true → PyData.eqv d d = true
  | .none, _ => by simp [PyData.eqv]
  | .bool b, _ => by simp [PyData.eqv]
  | .int i, _ => by simp [PyData.eqv]
  | .str x, _ => by simp [PyData.eqv]
  | .list ds, h => by
    simp only [PyData.eqv]
    exact eqvAll_refl (by simpa only [PyData.canLay0] using h)
  | .tuple ds, h => by
    simp only [PyData.eqv]
    exact eqvAll_refl (by simpa only [PyData.canLay0] using h)
  | .dict _, h => by simp only [PyData.canLay0] at h; cases h
theorem eqvAll_refl : ∀ {ds : List D}, PyData.canLayAll0 ds = true → PyData.eqvAll ds ds = true
  | [], _ => by simp [PyData.eqvAll]
  | d :: ds, h => by
    simp only [PyData.canLayAll0, Bool.and_eq_true] at h
    simp only [PyData.eqvAll, Bool.and_eq_true]
    exact ⟨eqv_refl h.1, eqvAll_refl h.2⟩
end
end My
namespace My
open PySem L2 Evl PySem.Spec PyProof.Rows LO
/-! ### the random bag: two numbers and a counter -/
def bagOk (n : Nat) (o : HO) : Prop := ∃ a b c : Int, o = hoI [a, b, c] ∧ 0 ≤ a ∧ 0 ≤ b ∧ b < 10 ^ 39 ∧ 0 ≤ c ∧ c ≤ n
def lim : Nat := 10 ^ 6
theorem bagOk.mono {n m : Nat} (h : n ≤ m) {o : HO} : bagOk n o → bagOk m o := fun ⟨a, b, c, e, h1, h2, h3, h4, h5⟩ => ⟨a, b, c, e, h1, h2, h3, h4, by omega⟩
theorem pw3 {i : Int} (h0 : 0 ≤ i) (h1 : i < 2 ^ 200) (j : Nat) (hj : j ≤ 10) : CPowW i (j : Int) := powW_ok (b := 200) (by omega) (by omega)
theorem pw3' {i : Int} {j : Nat} (h : i.natAbs < 2 ^ 10) (hj : j ≤ 1000) : CPowW i (j : Int) := powW_ok (b := 10) h (by omega)
theorem dw {k : Int} (h0 : 0 < k) (h1 : k < 2 ^ 100) (i : Int) : CDivW i k := wide_div h0 (b := 100) (by omega) (by decide) (by decide)
theorem mod_b {i m : Int} (h : 0 < m) : 0 ≤ i % m ∧ i % m < m := ⟨Int.emod_nonneg _ (by omega), Int.emod_lt_of_pos _ h⟩
end My
namespace My
open PySem L2 Evl PySem.Spec PyProof.Rows LO
/-! ### the lineups by moment -/
def hist (l : List Pp) : List Int → List (List Pp)
  | [] => [l]
  | c :: cs => l :: hist (call1 l c) cs
theorem hist_length : ∀ (cs : List Int) (l : List Pp), (hist l cs).length = cs.length + 1
  | [], _ => rfl
  | c :: cs, l => by show (hist (call1 l c) cs).length + 1 = _; rw [hist_length cs]; rfl
theorem hist_snoc : ∀ (cs : List Int) (l : List Pp) (c : Int), hist l (cs ++ [c]) = hist l cs ++ [call1 (run l cs) c]
  | [], _, _ => rfl
  | d :: cs, l, c => by
    show l :: hist (call1 l d) (cs ++ [c]) = (l :: hist (call1 l d) cs) ++ [call1 (run (call1 l d) cs) c]
    rw [hist_snoc cs]; rfl
theorem hist_last : ∀ (cs : List Int) (l : List Pp), (hist l cs).getLast? = some (run l cs)
  | [], _ => rfl
  | d :: cs, l => by
    show (l :: hist (call1 l d) cs).getLast? = _
    rw [List.getLast?_cons, hist_last cs]; rfl
theorem hist_at : ∀ (cs : List Int) (l : List Pp) (k : Nat), k ≤ cs.length → (hist l cs)[k]? = some (run l (cs.take k))
  | cs, l, 0, _ => by cases cs <;> rfl
  | [], l, k + 1, h => by simp at h
  | c :: cs, l, k + 1, h => by
    show (hist (call1 l c) cs)[k]? = _
    rw [hist_at cs _ k (by simpa using h)]; rfl
theorem run_one (l : List Pp) (c : Int) : run l [c] = call1 l c := rfl
theorem Cs.take {l : List Pp} {cs : List Int} (h : Cs l cs) (k : Nat) : Cs l (cs.take k) := fun c hc => h c (List.mem_of_mem_take hc)
theorem Lu.ca {l : List Pp} (h : Lu l) : Ca l := h.col
theorem Lu.front {l : List Pp} (h : Lu l) : ∃ p r, l = p :: r := by
  cases l with
  | nil => have := h.one; simp at this
  | cons p r => exact ⟨p, r, rfl⟩
def frontC (l : List Pp) : Nat := match l with
  | p :: _ => p.2
  | [] => 0
/-! ### the two sides of the called -/
def sameL (l : List Pp) (cs : List Int) : List Int := srt (((run l cs).filter fun a => decide (a.1 ∈ cs) && decide (a.2 = frontC (run l cs))).map Prod.fst)
def othL (l : List Pp) (cs : List Int) : List Int := srt (((run l cs).filter fun a => decide (a.1 ∈ cs) && !decide (a.2 = frontC (run l cs))).map Prod.fst)
theorem range_pw (n : Nat) : ((List.range n).map fun (i : Nat) => (i : Int)).Pairwise (· < ·) := List.Pairwise.map _ (fun a b h => by omega) List.pairwise_lt_range
theorem Lu.perm {l : List Pp} (h : Lu l) : (l.map Prod.fst).Perm ((List.range l.length).map fun (i : Nat) => (i : Int)) := by
  have nd2 : ((List.range l.length).map fun (i : Nat) => (i : Int)).Nodup := (range_pw _).imp fun h => Int.ne_of_lt h
  refine (List.perm_ext_iff_of_nodup h.nd nd2).mpr fun x => ⟨fun hx => ?_, fun hx => ?_⟩
  · obtain ⟨p, hp, rfl⟩ := List.mem_map.mp hx
    have := h.per p hp
    exact List.mem_map.mpr ⟨p.1.toNat, List.mem_range.mpr (by omega), by omega⟩
  · obtain ⟨i, hi, rfl⟩ := List.mem_map.mp hx
    have := List.mem_range.mp hi
    obtain ⟨c, hc⟩ := h.has (i := (i : Int)) (by omega) (by omega)
    exact List.mem_map.mpr ⟨_, hc, rfl⟩
theorem mem_srt {ns : List Int} {x : Int} : x ∈ srt ns ↔ x ∈ ns := (srt_perm ns).mem_iff
theorem fst_inj : ∀ {l : List Pp}, (l.map Prod.fst).Nodup → ∀ {a b : Pp}, a ∈ l → b ∈ l → a.1 = b.1 → a = b
  | [], _, _, _, h, _, _ => by cases h
  | p :: r, nd, a, b, ha, hb, e => by
    rw [List.map_cons, List.nodup_cons] at nd
    rcases List.mem_cons.mp ha with e1 | ha'
    · rcases List.mem_cons.mp hb with e2 | hb'
      · rw [e1, e2]
      · exact absurd (List.mem_map.mpr ⟨b, hb', by rw [← e, e1]⟩) nd.1
    · rcases List.mem_cons.mp hb with e2 | hb'
      · exact absurd (List.mem_map.mpr ⟨a, ha', by rw [e, e2]⟩) nd.1
      · exact fst_inj nd.2 ha' hb' e
/-- the others, by the persons' order -/
theorem oth_eq {l : List Pp} {cs : List Int} (h : Lu l) (hc : Cs l cs) : ((List.range (run l cs).length).map fun (i : Nat) => (i : Int)).filter (fun i => decide (i ∈ cs) && !decide (i ∈ sameL l cs)) = othL l cs := by
  have hr := (run_lu h hc).1
  generalize hL : run l cs = L at hr
  unfold othL sameL
  rw [hL]
  refine srt_eq ?_ ?_
  · have hp := (hr.perm.symm).filter fun i => decide (i ∈ cs) && !decide (i ∈ srt ((L.filter fun a => decide (a.1 ∈ cs) && decide (a.2 = frontC L)).map Prod.fst))
    refine hp.trans ?_
    rw [List.filter_map]
    refine List.Perm.of_eq (congrArg (List.map Prod.fst) (List.filter_congr fun a ha => ?_))
    show (decide (a.1 ∈ cs) && !decide (a.1 ∈ srt _)) = (decide (a.1 ∈ cs) && !decide (a.2 = frontC L))
    by_cases hac : a.1 ∈ cs
    · have : a.1 ∈ srt ((L.filter fun a => decide (a.1 ∈ cs) && decide (a.2 = frontC L)).map Prod.fst) ↔ a.2 = frontC L := by
        rw [mem_srt, List.mem_map]
        constructor
        · rintro ⟨b, hb, e⟩
          have hb' := List.mem_filter.mp hb
          have : b = a := fst_inj hr.nd hb'.1 ha e
          subst this
          have := hb'.2
          simp at this
          exact this.2
        · intro e
          exact ⟨a, List.mem_filter.mpr ⟨ha, by simp [hac, e]⟩, rfl⟩
      simp [hac, this]
    · simp [hac]
  · exact ((range_pw _).sublist List.filter_sublist).imp fun h => Int.le_of_lt h
theorem hist_last_eL' (l : List Pp) (cs : List Int) : ((hist l cs).map eL).getLast? = some (eL (run l cs)) := by rw [List.getLast?_map, hist_last]; rfl
theorem colOf_at' {l : List Pp} {i : Int} (h : ∃ c, (i, c) ∈ l) : atI ((l.filter fun a => decide (a.1 = i)).map fun a => PyData.str (ch a.2)) 0 = some (.str (ch (colOf l i))) := by
  unfold colOf
  have e : (l.find? fun q => decide (q.1 = i)) = (l.filter fun a => decide (a.1 = i))[0]? := by rw [← List.head?_filter, List.head?_eq_getElem?]
  rw [e]
  cases q : l.filter fun a => decide (a.1 = i) with
  | nil =>
    obtain ⟨c, hc⟩ := h
    have := List.filter_eq_nil_iff.mp q (i, c) hc
    simp at this
  | cons a r => exact at_nat (j := 0) rfl
theorem frontC_at {l : List Pp} (h : Lu l) : ∃ p, atI (l.map eP) 0 = some (eP p) ∧ p.2 = frontC l := by
  obtain ⟨p, r, rfl⟩ := h.front
  exact ⟨p, at_nat (j := 0) rfl, rfl⟩
end My
namespace My
open PySem L2 Evl PySem.Spec PyProof.Rows LO
/-! ### the laws' bodies: what a cell gives -/
theorem satDrop {B : Bs} {Γ : Gm} {H KH : Hp} {σ : L2.St} (s : Sat B H KH σ Γ) : Sat B H KH σ (dropT Γ) := s.weak (by simp [dropT]) fun i t e => by
  rcases dropT_get e with rfl | ⟨z, _⟩
  · exact .inl rfl
  · exact .inr z
theorem satRaw {B : Bs} {Γ : Gm} {H KH : Hp} {σ : L2.St} {i : Nat} {p : Addr} {φ ψ : HO → Prop} (s : Sat B H KH σ Γ) (h : Γ[i]? = some (.own (.raw p φ))) (hi : ∀ o, φ o → ψ o) : Sat B H KH σ (Γ.set i (.own (.raw p ψ))) := by
  have hl : i < Γ.length := (List.getElem?_eq_some_iff.mp h).1
  have old : ∀ {j : Nat} {w : Own}, (Γ.set i (.own (.raw p ψ)))[j]? = some (.own w) → ∃ w', Γ[j]? = some (.own w') := fun {j w} q => by
    by_cases hj : i = j
    · subst hj; exact ⟨_, h⟩
    · rw [List.getElem?_set_ne hj] at q; exact ⟨_, q⟩
  refine ⟨⟨s.e.up, by rw [s.e.len]; simp, fun j t q => ?_, fun j l o1 o2 r hne e1 e2 e3 => ?_⟩, s.g, fun j w r e1 e2 => ?_⟩
  · by_cases hj : i = j
    · subst hj
      rw [List.getElem?_set_self hl] at q
      cases q
      obtain ⟨p', e, kp, pp, o, ho, eo⟩ := s.e.own h
      exact ⟨_, e, p', rfl, kp, pp, o, ho, hi o eo⟩
    · rw [List.getElem?_set_ne hj] at q
      exact s.e.at_ j t q
  · obtain ⟨w1, q1⟩ := old e1
    obtain ⟨w2, q2⟩ := old e2
    exact s.e.sep j l w1 w2 r hne q1 q2 e3
  · obtain ⟨w1, q1⟩ := old e1
    exact s.o j w1 r q1 e2
theorem EvN_conv {Γ : Gm} {te : TE} {P P' : D → Gm → Prop} (h : EvN Γ te P) (k : ∀ d Γ', P d Γ' → ∃ Γ2, P' d Γ2 ∧ ∀ (B : Bs) (H KH : Hp) (σ : L2.St), Sat B H KH σ Γ' → Sat B H KH σ Γ2) : EvN Γ te P' := fun B σ H KH s Q q => h B σ H KH s Q fun v d H' KH' Γ' p e s' kv =>
  let ⟨Γ2, p2, c⟩ := k d Γ' p
  q v d H' KH' Γ2 p2 e (c _ _ _ _ s') kv
/-- a size: x0 in the last turn, else one of three -/
theorem n_pick {Γ : Gm} {j4 i : Nat} {p : Addr} {q : Nat} {b : Bool} {x0 x1 x2 x3 : Int} {K : PySem.W.Frag} (h3 : Γ[i]? = some (.own (.raw p (bagOk q)))) (h4 : Γ[j4]? = some (.dat (.bool b))) (hq : q + 1 ≤ 10 ^ 6) :
    EvN Γ (tIf (tTest (tVar j4)) (tC (.int x0)) (tOp (rIxL K) (tLst (tCons (tC (.int x1)) (tCons (tC (.int x2)) (tCons (tC (.int x3)) tNil)))) (tCall (SpM bagOk lim RDraw) [] E0 (tCons (tVar i) (tCons (tC (.int 3)) tNil)))))
      (fun d Γ' => ∃ y : Int, (y = x0 ∨ y = x1 ∨ y = x2 ∨ y = x3) ∧ d = .int y ∧ Γ' = (dropT Γ).set i (.own (.raw p (bagOk (q + 1))))) := by
  refine n_if (t_test (d_var h4)) (fun _ => ?_) fun _ => ?_
  · refine EvN_conv (d_int.n) fun d Γ' z => ?_
    obtain ⟨rfl, rfl⟩ := z
    refine ⟨_, ⟨x0, .inl rfl, rfl, rfl⟩, fun B H KH σ s => satRaw (φ := bagOk q) (satDrop s) ?_ fun o ho => ho.mono (Nat.le_succ q)⟩
    unfold dropT
    rw [List.getElem?_map, h3]; rfl
  · refine (n_drawIx (f := fun _ d => ∃ y : Int, (y = x0 ∨ y = x1 ∨ y = x2 ∨ y = x3) ∧ d = .int y) (OEv.toD (o_lst (a_cons d_int (a_cons d_int (a_cons d_int a_nil))) (show 3 ≤ sizeLine by decide))) h3 d_int (by decide) (by decide) hq fun y y0 y1 => ?_).imp fun d Γ' z => ?_
    · have : y = 0 ∨ y = 1 ∨ y = 2 := by omega
      rcases this with rfl | rfl | rfl
      · exact ⟨_, rfl, x1, .inr (.inl rfl), rfl⟩
      · exact ⟨_, rfl, x2, .inr (.inr (.inl rfl)), rfl⟩
      · exact ⟨_, rfl, x3, .inr (.inr (.inr rfl)), rfl⟩
    · obtain ⟨_, _, _, ⟨y, hy, rfl⟩, rfl⟩ := z
      exact ⟨y, hy, rfl, rfl⟩
theorem Lu.rev {l : List Pp} (h : Lu l) : Lu l.reverse := by
  refine ⟨by simpa using h.one, by simpa using h.sixty, fun p hp => ?_, fun p hp => h.col p (List.mem_reverse.mp hp), ?_⟩
  · rw [List.length_reverse]; exact h.per p (List.mem_reverse.mp hp)
  · rw [List.map_reverse]
    exact (List.reverse_perm _).nodup_iff.mpr h.nd
theorem cutL_len {α : Type} (xs : List α) (lo hi : Option Int) : (cutL xs lo hi).length ≤ xs.length := by
  unfold cutL
  rw [List.length_take, List.length_drop]
  omega
end My
namespace My
open PySem L2 Evl PySem.Spec PyProof.Rows LO
def top (i : Nat) : Stmt := PySem.Challenge.pw_lastother_k71_sides_of_called_people.main.body.getD i (.Pass ⟨0, 0, 0, 0⟩)
abbrev FnP (K : PySem.W.Frag) (x : Str) (st : Stmt) (f : Addr) (fd : FuncData) : Prop := FunD K x x (defArgs st) (defBody st) (defScope st) [] [] f fd
structure Txt (K : PySem.W.Frag) (mg : Str → Option Value) : Prop where
  b_max : mg "max" = none
  b_int : mg "int" = none
  b_len : mg "len" = none
  b_list : mg "list" = none
  b_range : mg "range" = none
  b_min : mg "min" = none
  b_sorted : mg "sorted" = none
  b_bool : mg "bool" = none
  b_isinstance : mg "isinstance" = none
  b_str : mg "str" = none
  b_tuple : mg "tuple" = none
  b_all : mg "all" = none
  b_enumerate : mg "enumerate" = none
  b_zip : mg "zip" = none
  b_repr : mg "repr" = none
  c_LETTERS : ∃ u, mg "LETTERS" = some u ∧ RelV (.str "abcdefghijklmnopqrstuvwxyz") u
  c_MAX_PEOPLE : ∃ u, mg "MAX_PEOPLE" = some u ∧ RelV (.int (60)) u
section
variable {P : Program} {w : World} {K : PySem.W.Frag} {mg : Str → Option Value} {base : Heap}
def R__law_bag (ds : List D) (o : Own) : Prop := ∃ c : Int, ds = [.int c] ∧ o = .lst [.int (if c - 10 ^ 18 > 0 then c - 10 ^ 18 else 0), .int (c % (10 ^ 38 + 133)), .int 0]
abbrev s24 : Stmt := top 24
theorem fo__law_bag (T : Txt K mg) {f : Addr} {fd : FuncData} (F : FnP K "_law_bag" s24 f fd) (hm : mg "_law_bag" = some (.ref f))  : Fo P w K mg base CX0 1 "_law_bag" (SpO R__law_bag) := by
  have S : FnScope ["cell"] ["cell"] (defScope s24) := ⟨rfl, rfl, rfl, by decide +kernel, rfl, by decide +kernel, by decide +kernel⟩
  refine fo_mk F hm S (SpO.len (n := 1) (by first | (rintro _ _ ⟨rfl, _⟩; rfl) | (rintro _ _ ⟨_, rfl, _⟩; rfl) | (rintro _ _ ⟨_, _, rfl, _⟩; rfl) | (rintro _ _ ⟨_, _, _, rfl, _⟩; rfl) | (rintro _ _ ⟨_, _, _, _, rfl, _⟩; rfl) | (rintro _ _ ⟨_, _, _, _, _, rfl, _⟩; rfl) | (rintro _ _ ⟨_, _, _, _, _, _, rfl, _⟩; rfl) | (rintro _ _ ⟨_, _, _, _, _, _, _, rfl, _⟩; rfl) | (rintro _ _ ⟨_, _, _, _, _, _, _, _, rfl, _⟩; rfl) | (rintro _ _ ⟨_, _, _, _, _, _, _, _, _, rfl, _⟩; rfl) | (rintro _ _ ⟨_, _, _, _, _, _, _, _, _, _, rfl, _⟩; rfl))) (fun _ _ _ _ _ _ us hl => match us, hl with | [_], _ => rfl) fun cd A out s H E hg hr => ?_
  have nd := S.nd
  refine ⟨_, (pss_one (ps_ret (pe_lst (pa_cons (pe_callB (call_max2 (by rfl)) (by rfl) T.b_max (by decide +kernel) (pa_cons pe_int (pa_cons (pe_op op_sub (pv 0) (pe_op op_powW pe_int pe_int)) pa_nil))) (pa_cons (pe_op op_mod (pv 0) (pe_op op_add (pe_op op_powW pe_int pe_int) pe_int)) (pa_cons pe_int pa_nil)))))), fun vs Q h => ?_⟩
  refine spO_body h ?_
  rintro B _ _ ⟨c, rfl, rfl⟩
  have p18 : Ev true (Γ0 ["cell"] [.int c]) (tOp (rI CPowW fun i j => .int (i ^ j.toNat)) (tC (.int 10)) (tC (.int 18))) (.int (10 ^ 18)) := d_op d_int d_int (rs_powW (pw3' (by decide) (by decide)))
  have p38 : Ev true (Γ0 ["cell"] [.int c]) (tOp (rI CPowW fun i j => .int (i ^ j.toNat)) (tC (.int 10)) (tC (.int 38))) (.int (10 ^ 38)) := d_op d_int d_int (rs_powW (pw3' (by decide) (by decide)))
  exact w_retO (o_lst (a_cons (d_max2 d_int (d_op (d_var rfl) p18 rs_sub)) (a_cons (d_op (d_var rfl) (d_op p38 d_int rs_add) (rs_mod (by decide))) (a_cons d_int a_nil))) (show 3 ≤ sizeLine by decide)) rfl
abbrev s25 : Stmt := top 25
theorem fo__law_draw (T : Txt K mg) {f : Addr} {fd : FuncData} (F : FnP K "_law_draw" s25 f fd) (hm : mg "_law_draw" = some (.ref f))  : Fo P w K mg base CX0 1 "_law_draw" (SpM bagOk lim RDraw) := by
  have S : FnScope ["bag", "limit", "mixed", "digit"] ["bag", "limit"] (defScope s25) := ⟨rfl, rfl, rfl, by decide +kernel, rfl, by decide +kernel, by decide +kernel⟩
  refine fo_mk F hm S (SpM.len (k := 1) (by first | (rintro _ _ _ ⟨rfl, _⟩; rfl) | (rintro _ _ _ ⟨_, rfl, _⟩; rfl) | (rintro _ _ _ ⟨_, _, rfl, _⟩; rfl) | (rintro _ _ _ ⟨_, _, _, rfl, _⟩; rfl) | (rintro _ _ _ ⟨_, _, _, _, rfl, _⟩; rfl) | (rintro _ _ _ ⟨_, _, _, _, _, rfl, _⟩; rfl) | (rintro _ _ _ ⟨_, _, _, _, _, _, rfl, _⟩; rfl) | (rintro _ _ _ ⟨_, _, _, _, _, _, _, rfl, _⟩; rfl) | (rintro _ _ _ ⟨_, _, _, _, _, _, _, _, rfl, _⟩; rfl) | (rintro _ _ _ ⟨_, _, _, _, _, _, _, _, _, rfl, _⟩; rfl) | (rintro _ _ _ ⟨_, _, _, _, _, _, _, _, _, _, rfl, _⟩; rfl))) (fun _ _ _ _ _ _ us hl => match us, hl with | [_, _], _ => rfl) fun cd A out s H E hg hr => ?_
  have nd := S.nd
  refine ⟨_, (pss_cons (ps_if (pt_cmpR op_gt (pe_ix (kIxL (K := K) (by rfl)) (pv 0) pe_int (fun _ _ => by rfl)) pe_int (nomark _)) (pss_cons (ps_set (i := 3) (by exact nd) (by rfl) (by first | exact Or.inl rfl | exact Or.inr rfl) (pe_op op_mod (pe_ix (kIxL (K := K) (by rfl)) (pv 0) pe_int (fun _ _ => by rfl)) (pv 1)))
      (pss_cons (ps_asg (pe_op op_fdivW (pe_ix (kIxL (K := K) (by rfl)) (pv 0) pe_int (fun _ _ => by rfl)) (pv 1)) (pg_sub (pv 0) pe_int set_list))
      (pss_one (ps_ret (pv 3))))) pss_nil)
      (pss_cons (ps_asg (pe_op op_add (pe_ix (kIxL (K := K) (by rfl)) (pv 0) pe_int (fun _ _ => by rfl)) pe_int) (pg_sub (pv 0) pe_int set_list))
      (pss_cons (ps_set (i := 2) (by exact nd) (by rfl) (by first | exact Or.inl rfl | exact Or.inr rfl) (pe_op op_mod (pe_op op_powW (pe_op op_add (pe_ix (kIxL (K := K) (by rfl)) (pv 0) pe_int (fun _ _ => by rfl)) (pe_op op_mul pe_int (pe_ix (kIxL (K := K) (by rfl)) (pv 0) pe_int (fun _ _ => by rfl)))) pe_int) (pe_op op_add (pe_op op_powW pe_int pe_int) pe_int)))
      (pss_cons (ps_set (i := 2) (by exact nd) (by rfl) (by first | exact Or.inl rfl | exact Or.inr rfl) (pe_op op_mod (pe_op op_powW (pe_op op_add (pv 2) (pe_op op_mul pe_int (pe_ix (kIxL (K := K) (by rfl)) (pv 0) pe_int (fun _ _ => by rfl)))) pe_int) (pe_op op_add (pe_op op_powW pe_int pe_int) pe_int)))
      (pss_one (ps_ret (pe_op op_mod (pe_op op_fdivW (pv 2) pe_int) (pv 1)))))))), fun vs Q h => ?_⟩
  refine spM_body h ?_
  rintro B p n m o ss Pd ⟨a, b, c, rfl, ha, hb, hb2, hc, hc2⟩ ⟨k, h0, h1, rfl, rfl, rfl⟩ hn
  have hl : (n : Int) + 1 ≤ 10 ^ 6 := by
    have : n + 1 ≤ lim := hn
    unfold lim at this
    omega
  refine w_ifS (t_test (d_op (d_rawIx (j := 0) rfl d_int rfl) d_int rs_gt)) (fun h => ?_) fun h => w_seqNext ?_
  · have ha' : 0 < a := by simpa using h
    refine w_seqA (w_asg 3 (d_op (d_rawIx (j := 0) rfl d_int rfl) (d_var rfl) (rs_mod h0)) (w_seqA (w_setRaw rfl (d_op (d_rawIx (j := 0) rfl d_int rfl) (d_var rfl) (rs_fdivW (dw h0 h1 _))) d_int rfl (w_seqRet (w_ret (d_var rfl) ?_)))))
    exact ⟨⟨_, (mod_b h0).1, (mod_b h0).2, rfl⟩, _, rfl, fun o e => ⟨_, _, _, e, Int.ediv_nonneg ha (by omega), hb, hb2, hc, by omega⟩⟩
  · refine w_setRaw rfl (d_op (d_rawIx (j := 2) rfl d_int rfl) d_int rs_add) d_int rfl ?_
    have p36 : ∀ {Γ : Gm}, Ev true Γ (tOp (rI CPowW fun i j => .int (i ^ j.toNat)) (tC (.int 10)) (tC (.int 36))) (.int (10 ^ 36)) := d_op d_int d_int (rs_powW (pw3' (by decide) (by decide)))
    have p40 : ∀ {Γ : Gm}, Ev true Γ (tOp (rI CPowW fun i j => .int (i ^ j.toNat)) (tC (.int 10)) (tC (.int 40))) (.int (10 ^ 40)) := d_op d_int d_int (rs_powW (pw3' (by decide) (by decide)))
    refine w_asg 2 (d_op (d_op (d_op (d_rawIx (j := 1) rfl d_int rfl) (d_op d_int (d_rawIx (j := 2) rfl d_int rfl) (rs_mul (.inl (by decide)))) rs_add) d_int (rs_powW (pw3 (j := 3) (by omega) (by omega) (by decide)))) (d_op p36 d_int rs_add) (rs_mod (by decide))) ?_
    generalize hx : (b + 15485863 * (c + 1)) ^ (3 : Int).toNat % (10 ^ 36 + 67) = x
    have hx1 : 0 ≤ x ∧ x < 10 ^ 36 + 67 := by rw [← hx]; exact mod_b (by decide)
    refine w_asg 2 (d_op (d_op (d_op (d_var rfl) (d_op d_int (d_rawIx (j := 2) rfl d_int rfl) (rs_mul (.inl (by decide)))) rs_add) d_int (rs_powW (pw3 (j := 5) (by omega) (by omega) (by decide)))) (d_op p40 d_int rs_add) (rs_mod (by decide))) ?_
    refine w_ret (d_op (d_op (d_var rfl) d_int (rs_fdivW (dw (by decide) (by decide) _))) (d_var rfl) (rs_mod h0)) ?_
    exact ⟨⟨_, (mod_b h0).1, (mod_b h0).2, rfl⟩, _, rfl, fun o e => ⟨_, _, _, e, ha, hb, hb2, by omega, by omega⟩⟩
def RLineup (ss : List Slo) (m : Nat) (P : Own → Prop) : Prop := ∃ most : Int, 1 ≤ most ∧ most ≤ 60 ∧ ss = [.dat (.int most)] ∧ m = 200 ∧ P = fun o => ∃ l, Lu l ∧ (l.length : Int) ≤ most ∧ o = .lst (l.map eP)
/-- a text of letters -/
def Lt (z : Str) : Prop := 2 ≤ z.length ∧ z.length ≤ 26 ∧ ∀ c ∈ z.cps.toList, c ∈ abc.cps.toList
theorem Lt.at {z : Str} (h : Lt z) {x : Int} (h0 : 0 ≤ x) (h1 : x < z.length) : ∃ c, c ∈ abc.cps.toList ∧ atI z.cps.toList x = some c := by
  have hx : x.toNat < z.cps.toList.length := by
    have : z.cps.toList.length = z.length := by simp [Str.length]
    omega
  exact ⟨z.cps.toList[x.toNat], h.2.2 _ (List.getElem_mem hx), at_of h0 (by simp [hx])⟩
theorem letters_ok : ∀ z ∈ (["ab", "abc", "abcdefgh", "abcdefghijklmnopqrstuvwxyz", "zy"] : List Str), Lt z := by
  intro z hz
  simp only [List.mem_cons, List.not_mem_nil, or_false] at hz
  rcases hz with rfl | rfl | rfl | rfl | rfl <;> exact ⟨by decide +kernel, by decide +kernel, by decide +kernel⟩
/-- what stands while a lineup is drawn: l so far, ns left, n in all -/
structure Dw (n : Nat) (l : List Pp) (ns : List Int) : Prop where
  pm : (l.map Prod.fst ++ ns).Perm ((List.range n).map fun (i : Nat) => (i : Int))
  ca : Ca l
theorem Dw.lu {n : Nat} {l : List Pp} (h : Dw n l []) (h1 : 1 ≤ n) (h60 : n ≤ 60) : Lu l ∧ l.length = n := by
  have hp := h.pm
  rw [List.append_nil] at hp
  have hl : l.length = n := by have := hp.length_eq; simpa using this
  refine ⟨⟨by omega, by omega, fun p hm => ?_, h.ca, ?_⟩, hl⟩
  · have := hp.mem_iff.mp (List.mem_map_of_mem (f := Prod.fst) hm)
    obtain ⟨i, hi, e⟩ := List.mem_map.mp this
    have := List.mem_range.mp hi
    rw [hl]
    omega
  · exact hp.nodup_iff.mpr (List.Pairwise.map _ (fun a b h z => h (Int.ofNat.inj z)) List.nodup_range)
theorem Dw.step {n : Nat} {l : List Pp} {ns : List Int} (h : Dw n l ns) {m : Nat} {x : Int} (hx : ns[m]? = some x) {c : Nat} (hc : c ∈ abc.cps.toList) : Dw n (l ++ [(x, c)]) (ns.eraseIdx m) := by
  refine ⟨?_, fun p hp => ?_⟩
  · refine List.Perm.trans ?_ h.pm
    rw [List.map_append, List.append_assoc]
    refine List.Perm.append_left _ ?_
    exact eraseIdx_perm hx
  · rcases List.mem_append.mp hp with z | z
    · exact h.ca p z
    · simp at z; rw [z]; exact hc
abbrev s26 : Stmt := top 26
theorem fo__law_lineup (T : Txt K mg) {f : Addr} {fd : FuncData} (F : FnP K "_law_lineup" s26 f fd) (hm : mg "_law_lineup" = some (.ref f)) (c__law_draw : Fo P w K mg base CX0 1 "_law_draw" (SpM bagOk lim RDraw)) : Fo P w K mg base CX0 2 "_law_lineup" (SpMO bagOk lim RLineup) := by
  have S : FnScope ["bag", "most", "size", "letters", "style", "left", "found", "k", "color"] ["bag", "most"] (defScope s26) := ⟨rfl, rfl, rfl, by decide +kernel, rfl, by decide +kernel, by decide +kernel⟩
  refine fo_mk F hm S (SpMO.len (k := 1) (by first | (rintro _ _ _ ⟨rfl, _⟩; rfl) | (rintro _ _ _ ⟨_, rfl, _⟩; rfl) | (rintro _ _ _ ⟨_, _, rfl, _⟩; rfl) | (rintro _ _ _ ⟨_, _, _, rfl, _⟩; rfl) | (rintro _ _ _ ⟨_, _, _, _, rfl, _⟩; rfl) | (rintro _ _ _ ⟨_, _, _, _, _, rfl, _⟩; rfl) | (rintro _ _ _ ⟨_, _, _, _, _, _, rfl, _⟩; rfl) | (rintro _ _ _ ⟨_, _, _, _, _, _, _, rfl, _⟩; rfl) | (rintro _ _ _ ⟨_, _, _, _, _, _, _, _, rfl, _⟩; rfl) | (rintro _ _ _ ⟨_, _, _, _, _, _, _, _, _, rfl, _⟩; rfl) | (rintro _ _ _ ⟨_, _, _, _, _, _, _, _, _, _, rfl, _⟩; rfl))) (fun _ _ _ _ _ _ us hl => match us, hl with | [_, _], _ => rfl) fun cd A out s H E hg hr => ?_
  have nd := S.nd
  have hu := hr.units
  refine ⟨_, (pss_cons (ps_set (i := 2) (by exact nd) (by rfl) (by first | exact Or.inl rfl | exact Or.inr rfl) (pe_op op_add pe_int (pe_f c__law_draw (by exact hg) (by exact hr) (by decide) pass0 (by rfl) (pa_cons (pv 0) (pa_cons (pv 1) pa_nil)))))
      (pss_cons (ps_set (i := 3) (by exact nd) (by rfl) (by first | exact Or.inl rfl | exact Or.inr rfl) (pe_ix (kIxL (K := K) (by rfl)) (pe_lst (pa_cons pe_str (pa_cons pe_str (pa_cons pe_str (pa_cons pe_str (pa_cons pe_str pa_nil)))))) (pe_f c__law_draw (by exact hg) (by exact hr) (by decide) pass0 (by rfl) (pa_cons (pv 0) (pa_cons pe_int pa_nil))) (fun _ _ => by rfl)))
      (pss_cons (ps_set (i := 4) (by exact nd) (by rfl) (by first | exact Or.inl rfl | exact Or.inr rfl) (pe_f c__law_draw (by exact hg) (by exact hr) (by decide) pass0 (by rfl) (pa_cons (pv 0) (pa_cons pe_int pa_nil))))
      (pss_cons (ps_set (i := 5) (by exact nd) (by rfl) (by first | exact Or.inl rfl | exact Or.inr rfl) (pe_listRg (by rfl) (by rfl) T.b_list (prg_1 (by rfl) T.b_range (pv 2))))
      (pss_cons (ps_set (i := 6) (by exact nd) (by rfl) (by first | exact Or.inl rfl | exact Or.inr rfl) (pe_lst pa_nil))
      (pss_cons (ps_for PassesOwn.never (by rfl) (pi_range1 (by rfl) T.b_range (pa_cons (pv 2) pa_nil)) (pg_name (i := 7) (by exact nd) (by rfl) (by first | exact Or.inl rfl | exact Or.inr rfl))
      (pss_cons (ps_set (i := 8) (by exact nd) (by rfl) (by first | exact Or.inl rfl | exact Or.inr rfl) (pe_ix ix_str (pv 3) (pe_f c__law_draw (by exact hg) (by exact hr) (by decide) pass0 (by rfl) (pa_cons (pv 0) (pa_cons (pe_callB call_len_str (by rfl) T.b_len (by decide +kernel) (pa_cons (pv 3) pa_nil)) pa_nil))) (fun _ _ => by rfl)))
      (pss_cons (ps_if (PW.pt (pw_and (pt_cmpR op_eq (pv 4) pe_int (nomark _)) (pw_and (pt_cmpR (kNeD (K := K) (by rfl) (by exact hu)) (pv 6) (pe_lst pa_nil) (nomark _)) (pw_and1 (pt_cmpR op_gt (pe_f c__law_draw (by exact hg) (by exact hr) (by decide) pass0 (by rfl) (pa_cons (pv 0) (pa_cons pe_int pa_nil))) pe_int (nomark _)))))) (pss_one (ps_set (i := 8) (by exact nd) (by rfl) (by first | exact Or.inl rfl | exact Or.inr rfl) (pe_ix (kIxT (K := K) (by rfl)) (pe_ix (kIxL (K := K) (by rfl)) (pv 6) (pe_un un_neg pe_int) (fun _ _ => by rfl)) pe_int (fun _ _ => by rfl)))) pss_nil)
      (pss_cons (ps_if (pt_cmpR op_eq (pv 4) pe_int (nomark _)) (pss_one (ps_set (i := 8) (by exact nd) (by rfl) (by first | exact Or.inl rfl | exact Or.inr rfl) (pe_ix ix_str (pv 3) (pe_callTy call_int1 (by rfl) T.b_int (by decide +kernel) (pa_cons (pe_cmpR op_eq (pv 7) (pe_op op_sub (pv 2) pe_int) (nomark _)) pa_nil)) (fun _ _ => by rfl)))) pss_nil)
      (pss_one (ps_expr (kBm (K := K) (by rfl) PySem.F.plainAttrs_list PySem.F.slot_list_append PySem.F.type_list_append mt_append (pv 6) (pa_cons (pe_tup (pa_cons (kBm (K := K) (by rfl) PySem.F.plainAttrs_list PySem.F.slot_list_pop PySem.F.type_list_pop mt_popAt (pv 5) (pa_cons (pe_f c__law_draw (by exact hg) (by exact hr) (by decide) pass0 (by rfl) (pa_cons (pv 0) (pa_cons (pe_callB (kLen (K := K) (by rfl)) (by rfl) T.b_len (by decide +kernel) (pa_cons (pv 5) pa_nil)) pa_nil))) pa_nil)) (pa_cons (pv 8) pa_nil))) pa_nil))))))))
      (pss_one (ps_ret (pv 6))))))))), fun vs Q h => ?_⟩
  refine spMO_body h ?_
  rintro B p n m o ss Pd ho ⟨most, h1, h60, rfl, rfl, rfl⟩ hn
  have hlim : n + 200 ≤ 10 ^ 6 := hn
  refine w_raw 0 (ψ := bagOk n) rfl (fun o' e => by rw [e]; exact ho) ?_
  refine w_asgN 2 (n_drawL (f := fun x d => d = .int (1 + x)) d_int rfl (d_var rfl) (by omega) (by omega) (show n + 1 ≤ 10 ^ 6 by omega) fun x _ _ => ⟨_, rs_add, rfl⟩) ?_
  rintro d Γ' ⟨x, x0, x1, rfl, rfl⟩
  refine w_asgN 3 (n_drawIx (ds := (["ab", "abc", "abcdefgh", "abcdefghijklmnopqrstuvwxyz", "zy"] : List Str).map PyData.str) (f := fun _ d => ∃ z, Lt z ∧ d = .str z) (OEv.toD (o_lst (a_cons d_str (a_cons d_str (a_cons d_str (a_cons d_str (a_cons d_str a_nil))))) (show 5 ≤ sizeLine by decide))) rfl d_int (by decide) (by decide) (show n + 1 + 1 ≤ 10 ^ 6 by omega) fun y y0 y1 => ?_) ?_
  · have hy : y.toNat < (["ab", "abc", "abcdefgh", "abcdefghijklmnopqrstuvwxyz", "zy"] : List Str).length := by show y.toNat < 5; omega
    exact ⟨_, atI_map (f := PyData.str) (at_of y0 (List.getElem?_eq_getElem hy)), _, letters_ok _ (List.getElem_mem hy), rfl⟩
  rintro d Γ' ⟨_, _, _, ⟨z, hz, rfl⟩, rfl⟩
  refine w_asgN 4 (n_draw rfl d_int (by decide) (by decide) (show n + 1 + 1 + 1 ≤ 10 ^ 6 by omega)) ?_
  rintro d Γ' ⟨sty, _, _, rfl, rfl⟩
  have hsz : 1 ≤ (1 + x).toNat ∧ (1 + x).toNat ≤ 60 ∧ (((1 + x).toNat : Nat) : Int) = 1 + x ∧ (((1 + x).toNat : Nat) : Int) ≤ most := by omega
  generalize hN : (1 + x).toNat = N at hsz
  have hx : (1 + x) = (N : Int) := hsz.2.2.1.symm
  rw [hx]
  clear hx hN x0 x1
  refine w_asgO 5 (o_listRg (n := (N : Int)) (d_var rfl) ⟨by decide, by omega⟩) ?_
  refine w_asgO 6 (o_lst a_nil (Nat.zero_le _)) ?_
  have e0 : rngD 0 ((N : Int) - 0).toNat = ((List.range N).map fun (i : Nat) => (i : Int)).map PyData.int := by
    unfold rngD
    rw [List.map_map, show ((N : Int) - 0).toNat = N by omega]
    exact List.map_congr_left fun a _ => by show PyData.int (0 + (a : Int)) = PyData.int (a : Int); rw [Int.zero_add]
  rw [e0]
  have hrg : ((List.range ((N : Int)).toNat).map fun (i : Nat) => PyData.int i).length = N := by simp
  refine w_for (fun k Γ => k ≤ N ∧ ∃ l ns q, q ≤ n + 3 + 3 * k ∧ Dw N l ns ∧ l.length = k ∧ Γ[0]? = some (.own (.raw p (bagOk q))) ∧ Γ[2]? = some (.dat (.int N)) ∧ Γ[3]? = some (.dat (.str z)) ∧ Γ[4]? = some (.dat (.int sty)) ∧ Γ[5]? = some (.own (.lst (ns.map .int))) ∧ Γ[6]? = some (.own (.lst (l.map eP))) ∧ Γ.length = 9)
    (i_rng1 (n := (N : Int)) (a_cons (d_var rfl) a_nil) (by omega) (by omega)) ⟨Nat.zero_le _, [], _, n + 3, by omega, ⟨by simp, fun _ h => by cases h⟩, rfl, rfl, rfl, rfl, rfl, rfl, rfl, rfl⟩ (fun k d Γ' e ⟨hk, l, ns, q, hq, hw, hl, g0, g2, g3, g4, g5, g6, gl⟩ => ?_) fun Γ' ⟨_, l, ns, q, hq, hw, hl, g0, g2, g3, g4, g5, g6, gl⟩ => ?_
  · have hkN : k < N := by have := (List.getElem?_eq_some_iff.mp e).1; rw [hrg] at this; exact this
    have ed : d = .int (k : Int) := by
      rw [List.getElem?_map, List.getElem?_range (by omega)] at e
      cases e; rfl
    subst ed
    have hns : ns.length + k = N := by
      have := hw.pm.length_eq
      simp at this
      omega
    match Γ', gl, g0, g2, g3, g4, g5, g6 with
    | [a0, a1, a2, a3, a4, a5, a6, a7, a8], _, g0, g2, g3, g4, g5, g6 =>
    cases g0; cases g2; cases g3; cases g4; cases g5; cases g6
    refine ⟨_, _, tg_name 7 _, ?_⟩
    -- the colour
    refine w_asgN 8 (n_drawL (f := fun _ d => ∃ c, c ∈ abc.cps.toList ∧ d = .str (ch c)) (d_var rfl) rfl (d_lenS (x := z) (d_var rfl) (Nat.le_trans hz.2.1 (by decide))) (by have := hz.1; omega) (by have := hz.2.1; omega) (show q + 1 ≤ 10 ^ 6 by omega) fun y y0 y1 => ?_) ?_
    · obtain ⟨c, hc, hat⟩ := hz.at y0 y1
      exact ⟨_, rs_ixS (Nat.le_trans hz.2.1 (by decide)) hat, c, hc, rfl⟩
    rintro d Γ' ⟨_, _, _, ⟨c, hc, rfl⟩, rfl⟩
    -- the one ahead of it
    refine w_use (M := fun Γ' => ∃ c q v, c ∈ abc.cps.toList ∧ q ≤ n + 3 + 3 * k + 2 ∧ Γ' = [.own (.raw p (bagOk q)), v, .dat (.int N), .dat (.str z), .dat (.int sty), .own (.lst (ns.map .int)), .own (.lst (l.map eP)), .dat (.int k), .dat (.str (ch c))]) ?_ ?_
    · refine w_ifN1 (P := fun b Γ' => (b = true → l ≠ []) ∧ ∃ q v, q ≤ n + 3 + 3 * k + 2 ∧ Γ' = [.own (.raw p (bagOk q)), v, .dat (.int N), .dat (.str z), .dat (.int sty), .own (.lst (ns.map .int)), .own (.lst (l.map eP)), .dat (.int k), .dat (.str (ch c))]) ?_ ?_
      · refine tn_and (TEv.n (t_test (d_op (d_var rfl) d_int rs_eqI))) fun b Γ1 z1 => ?_
        obtain ⟨rfl, rfl⟩ := z1
        split
        · refine tn_and (TEv.n (t_test (d_op (x_own rfl) (x_lst a_nil (Nat.zero_le _)) (rs_neD (sh_eL hw.ca) rfl)))) fun b Γ1 z1 => ?_
          obtain ⟨rfl, rfl⟩ := z1
          split
          · rename_i h2
            rw [eqv_nil_l] at h2
            have hne : l ≠ [] := by intro e; subst e; simp at h2
            refine tn_test (n_drawR (f := fun _ d => ∃ b, d = .bool b) rfl d_int (by decide) (by decide) (show q + 1 + 1 ≤ 10 ^ 6 by omega) (fun Γ1 e => d_int) fun y _ _ => ⟨_, rs_gt, _, rfl⟩) ?_
            rintro d Γ1 ⟨_, _, _, ⟨b, rfl⟩, rfl⟩
            exact ⟨b, rfl, fun _ => hne, _, _, Nat.add_le_add_right hq 2, rfl⟩
          · exact ⟨(fun h => nomatch h), _, _, Nat.le_trans (Nat.add_le_add_right hq 1) (Nat.le_succ _), rfl⟩
        · exact ⟨(fun h => nomatch h), _, _, Nat.le_trans (Nat.add_le_add_right hq 1) (Nat.le_succ _), rfl⟩
      · rintro b Γ' ⟨hb, q, v, hq, rfl⟩
        cases b with
        | true =>
          obtain ⟨a, r, rfl⟩ : ∃ a r, l = r ++ [a] := by
            have := hb rfl
            exact ⟨l.getLast this, l.dropLast, (List.dropLast_concat_getLast this).symm⟩
          refine w_asg1 8 (d_ixT (d_ixL (l_own rfl) (d_neg d_int) (at_last (xs := (r ++ [a]).map eP) (a := eP a) (by rw [List.map_append]; exact List.getLast?_concat))) d_int rfl) ?_
          exact ⟨a.2, q, v, hw.ca a (by simp), hq, rfl⟩
        | false => exact w_next ⟨c, q, v, hc, hq, rfl⟩
    clear hq
    rintro Γ' ⟨c, q, v, hc, hq, rfl⟩
    -- the last one's own
    refine w_use (M := fun Γ' => ∃ c, c ∈ abc.cps.toList ∧ Γ' = [.own (.raw p (bagOk q)), v, .dat (.int N), .dat (.str z), .dat (.int sty), .own (.lst (ns.map .int)), .own (.lst (l.map eP)), .dat (.int k), .dat (.str (ch c))]) ?_ ?_
    · refine w_if (t_test (d_op (d_var rfl) d_int rs_eqI)) (fun _ => ?_) fun _ => w_next ⟨c, hc, rfl⟩
      generalize hb : decide ((k : Int) = (N : Int) - 1) = b
      obtain ⟨c2, hc2, hat⟩ := hz.at (x := if b then 1 else 0) (by cases b <;> decide) (by cases b <;> simp <;> (have := hz.1; have := hz.2.1; omega))
      refine w_asg1 8 (d_op (d_var rfl) (d_intB ((d_op (d_var rfl) (d_op (d_var rfl) d_int rs_sub) rs_eqI).is (by rw [hb]))) (rs_ixS (Nat.le_trans hz.2.1 (by decide)) hat)) ⟨c2, hc2, rfl⟩
    rintro Γ' ⟨c, hc, rfl⟩
    refine w_appendN1 6 (P := fun d Γ' => ∃ x m q2 v, ns[m]? = some x ∧ q2 ≤ n + 3 + 3 * (k + 1) ∧ d = eP (x, c) ∧ Γ' = [.own (.raw p (bagOk q2)), v, .dat (.int N), .dat (.str z), .dat (.int sty), .own (.lst ((ns.eraseIdx m).map .int)), .own (.lst (l.map eP)), .dat (.int k), .dat (.str (ch c))]) ⟨_, rfl⟩ ?_ ?_
    · refine n_tup (P1 := fun es Γ' => ∃ x m q2 v, ns[m]? = some x ∧ q2 ≤ n + 3 + 3 * (k + 1) ∧ es = [.dat (.int x), .dat (.str (ch c))] ∧ Γ' = [.own (.raw p (bagOk q2)), v, .dat (.int N), .dat (.str z), .dat (.int sty), .own (.lst ((ns.eraseIdx m).map .int)), .own (.lst (l.map eP)), .dat (.int k), .dat (.str (ch c))]) (an_cons (P1 := fun d Γ' => ∃ x m q2 v, ns[m]? = some x ∧ q2 ≤ n + 3 + 3 * (k + 1) ∧ d = .int x ∧ Γ' = [.own (.raw p (bagOk q2)), v, .dat (.int N), .dat (.str z), .dat (.int sty), .own (.lst ((ns.eraseIdx m).map .int)), .own (.lst (l.map eP)), .dat (.int k), .dat (.str (ch c))])
        (n_pop 5 ⟨_, rfl⟩ (n_draw rfl (d_len (ds := ns.map .int) (x_own rfl)) (by rw [List.length_map]; omega) (by rw [List.length_map]; omega) (show q + 1 ≤ 10 ^ 6 by omega)) ?_) ?_) ?_
      · rintro d Γ' ⟨y, y0, y1, rfl, rfl⟩
        rw [List.length_map] at y1
        have hy : y.toNat < ns.length := by omega
        have hm : ns[y.toNat]? = some ns[y.toNat] := List.getElem?_eq_getElem hy
        refine ⟨ns.map .int, y, y.toNat, .int ns[y.toNat], rfl, rfl, by omega, by omega, ?_, by rw [List.getElem?_map, hm]; rfl, ns[y.toNat], y.toNat, q + 1, Slo.calm (Slo.calm v), hm, by omega, rfl, ?_⟩
        · have := ixN_nat (n := (ns.map PyData.int).length) (j := y.toNat) (by rw [List.length_map]; exact hy)
          rw [show ((y.toNat : Nat) : Int) = y by omega] at this
          exact (ixN_seq this).1
        · have ee : (ns.map PyData.int).eraseIdx y.toNat = (ns.eraseIdx y.toNat).map PyData.int := map_eraseIdx'
          rw [← ee]; rfl
      · rintro d Γ' ⟨x, m, q2, v, hx, hq2, rfl, rfl⟩
        exact ⟨_, AEv.n (a_cons (d_var rfl) a_nil), fun es Γ2 ⟨e1, e2⟩ => by subst e1; subst e2; exact ⟨x, m, q2, v, hx, hq2, rfl, rfl⟩⟩
      · rintro es Γ' ⟨x, m, q2, v, hx, hq2, rfl, rfl⟩
        exact ⟨[.int x, .str (ch c)], rfl, two_le, x, m, q2, v, hx, hq2, rfl, rfl⟩
    · rintro d Γ' ⟨x, m, q2, v, hx, hq2, rfl, rfl⟩
      refine ⟨_, rfl, ?_, by omega, l ++ [(x, c)], ns.eraseIdx m, q2, hq2, hw.step hx hc, by simp [hl], rfl, rfl, rfl, rfl, rfl, ?_, rfl⟩
      · rw [List.length_map, hl]
        exact Nat.lt_trans hkN (Nat.lt_of_le_of_lt hsz.2.1 (by decide))
      · show some (Slo.own (Own.lst (l.map eP ++ [eP (x, c)]))) = some (.own (.lst ((l ++ [(x, c)]).map eP)))
        rw [List.map_append]; rfl
  · rw [hrg] at hl
    have hns : ns = [] := by
      have := hw.pm.length_eq
      simp at this
      exact List.eq_nil_of_length_eq_zero (by omega)
    subst hns
    obtain ⟨lu, _⟩ := hw.lu hsz.1 hsz.2.1
    refine w_raw 0 (ψ := bagOk (n + 200)) g0 (fun o h => h.mono (by omega)) ?_
    have g6' : (Γ'.set 0 (.own (.raw p (bagOk (n + 200)))))[6]? = some (.own (.lst (l.map eP))) := by rw [List.getElem?_set_ne (by decide)]; exact g6
    refine w_retV 6 g6' ⟨⟨l, lu, by omega, rfl⟩, bagOk (n + 200), ?_, fun _ h => h⟩
    rw [List.getElem?_set_ne (by decide)]
    exact List.getElem?_set_self (by omega)
def RCalls (ss : List Slo) (m : Nat) (P : Own → Prop) : Prop := ∃ size most : Int, 1 ≤ size ∧ size ≤ 60 ∧ 0 ≤ most ∧ most ≤ 200 ∧ ss = [.dat (.int size), .dat (.int most)] ∧ m = 500 ∧ P = fun o => ∃ cs : List Int, (∀ c ∈ cs, 0 ≤ c ∧ c < size) ∧ (cs.length : Int) ≤ most ∧ o = .lst (cs.map .int)
abbrev GC (p : Addr) (q : Nat) (size most sty w fst : Int) (cs : List Int) (v7 v8 : Slo) : Gm := [.own (.raw p (bagOk q)), .dat (.int size), .dat (.int most), .dat (.int sty), .dat (.int w), .dat (.int fst), .own (.lst (cs.map .int)), v7, v8]
abbrev s27 : Stmt := top 27
theorem fo__law_calls (T : Txt K mg) {f : Addr} {fd : FuncData} (F : FnP K "_law_calls" s27 f fd) (hm : mg "_law_calls" = some (.ref f)) (c__law_draw : Fo P w K mg base CX0 1 "_law_draw" (SpM bagOk lim RDraw)) : Fo P w K mg base CX0 2 "_law_calls" (SpMO bagOk lim RCalls) := by
  have S : FnScope ["bag", "size", "most", "style", "wide", "first", "found", "k", "person"] ["bag", "size", "most"] (defScope s27) := ⟨rfl, rfl, rfl, by decide +kernel, rfl, by decide +kernel, by decide +kernel⟩
  refine fo_mk F hm S (SpMO.len (k := 2) (by first | (rintro _ _ _ ⟨rfl, _⟩; rfl) | (rintro _ _ _ ⟨_, rfl, _⟩; rfl) | (rintro _ _ _ ⟨_, _, rfl, _⟩; rfl) | (rintro _ _ _ ⟨_, _, _, rfl, _⟩; rfl) | (rintro _ _ _ ⟨_, _, _, _, rfl, _⟩; rfl) | (rintro _ _ _ ⟨_, _, _, _, _, rfl, _⟩; rfl) | (rintro _ _ _ ⟨_, _, _, _, _, _, rfl, _⟩; rfl) | (rintro _ _ _ ⟨_, _, _, _, _, _, _, rfl, _⟩; rfl) | (rintro _ _ _ ⟨_, _, _, _, _, _, _, _, rfl, _⟩; rfl) | (rintro _ _ _ ⟨_, _, _, _, _, _, _, _, _, rfl, _⟩; rfl) | (rintro _ _ _ ⟨_, _, _, _, _, _, _, _, _, _, rfl, _⟩; rfl))) (fun _ _ _ _ _ _ us hl => match us, hl with | [_, _, _], _ => rfl) fun cd A out s H E hg hr => ?_
  have nd := S.nd
  refine ⟨_, (pss_cons (ps_set (i := 3) (by exact nd) (by rfl) (by first | exact Or.inl rfl | exact Or.inr rfl) (pe_f c__law_draw (by exact hg) (by exact hr) (by decide) pass0 (by rfl) (pa_cons (pv 0) (pa_cons pe_int pa_nil))))
      (pss_cons (ps_set (i := 4) (by exact nd) (by rfl) (by first | exact Or.inl rfl | exact Or.inr rfl) (pe_ix (kIxL (K := K) (by rfl)) (pe_lst (pa_cons (pv 1) (pa_cons (pe_callB (call_min2 (by rfl)) (by rfl) T.b_min (by decide +kernel) (pa_cons (pv 1) (pa_cons pe_int pa_nil))) (pa_cons (pv 1) (pa_cons (pv 1) pa_nil))))) (pv 3) (fun _ _ => by rfl)))
      (pss_cons (ps_set (i := 5) (by exact nd) (by rfl) (by first | exact Or.inl rfl | exact Or.inr rfl) (pe_f c__law_draw (by exact hg) (by exact hr) (by decide) pass0 (by rfl) (pa_cons (pv 0) (pa_cons (pv 1) pa_nil))))
      (pss_cons (ps_set (i := 6) (by exact nd) (by rfl) (by first | exact Or.inl rfl | exact Or.inr rfl) (pe_lst pa_nil))
      (pss_cons (ps_for PassesOwn.never (by rfl) (pi_range1 (by rfl) T.b_range (pa_cons (pe_f c__law_draw (by exact hg) (by exact hr) (by decide) pass0 (by rfl) (pa_cons (pv 0) (pa_cons (pe_op op_add (pv 2) pe_int) pa_nil))) pa_nil)) (pg_name (i := 7) (by exact nd) (by rfl) (by first | exact Or.inl rfl | exact Or.inr rfl))
      (pss_cons (ps_set (i := 8) (by exact nd) (by rfl) (by first | exact Or.inl rfl | exact Or.inr rfl) (pe_op op_mod (pe_op op_add (pv 5) (pe_ix (kIxL (K := K) (by rfl)) (pe_lst (pa_cons (pe_f c__law_draw (by exact hg) (by exact hr) (by decide) pass0 (by rfl) (pa_cons (pv 0) (pa_cons (pv 4) pa_nil))) (pa_cons (pv 7) pa_nil))) (pe_callTy call_int1 (by rfl) T.b_int (by decide +kernel) (pa_cons (pe_cmpR op_eq (pv 3) pe_int (nomark _)) pa_nil)) (fun _ _ => by rfl))) (pv 1)))
      (pss_one (ps_expr (kBm (K := K) (by rfl) PySem.F.plainAttrs_list PySem.F.slot_list_extend PySem.F.type_list_extend mt_extend (pv 6) (pa_cons (pe_op op_rep (pe_lst (pa_cons (pv 8) pa_nil)) (pe_op op_add pe_int (pe_op op_mul (pe_ix (kIxL (K := K) (by rfl)) (pe_lst (pa_cons pe_int (pa_cons pe_int (pa_cons pe_int (pa_cons pe_int pa_nil))))) (pe_f c__law_draw (by exact hg) (by exact hr) (by decide) pass0 (by rfl) (pa_cons (pv 0) (pa_cons pe_int pa_nil))) (fun _ _ => by rfl)) (pe_callTy call_int1 (by rfl) T.b_int (by decide +kernel) (pa_cons (pe_cmpR op_eq (pv 3) pe_int (nomark _)) pa_nil))))) pa_nil))))))
      (pss_one (ps_ret (pe_slice (kSlL (K := K) (by rfl)) (pv 6) po_none (po_some (pv 2)))))))))), fun vs Q h => ?_⟩
  refine spMO_body h ?_
  rintro B p n m o ss Pd ho ⟨size, most, h1, h60, m0, m200, rfl, rfl, rfl⟩ hn
  have hlim : n + 500 ≤ 10 ^ 6 := hn
  refine w_raw 0 (ψ := bagOk n) rfl (fun o' e => by rw [e]; exact ho) ?_
  refine w_asgN 3 (n_draw rfl d_int (by decide) (by decide) (show n + 1 ≤ 10 ^ 6 by omega)) ?_
  rintro d Γ' ⟨sty, s0, s4, rfl, rfl⟩
  have mn : 1 ≤ (if (3 : Int) < size then 3 else size) ∧ (if (3 : Int) < size then 3 else size) ≤ size := by split <;> omega
  generalize hmn : (if (3 : Int) < size then 3 else size) = mi at mn
  have hw : ∃ w, 1 ≤ w ∧ w ≤ size ∧ atI [PyData.int size, .int mi, .int size, .int size] sty = some (.int w) := by
    have : sty = 0 ∨ sty = 1 ∨ sty = 2 ∨ sty = 3 := by omega
    rcases this with rfl | rfl | rfl | rfl
    · exact ⟨size, h1, Int.le_refl _, rfl⟩
    · exact ⟨mi, mn.1, mn.2, rfl⟩
    · exact ⟨size, h1, Int.le_refl _, rfl⟩
    · exact ⟨size, h1, Int.le_refl _, rfl⟩
  obtain ⟨w, w1, w2, hat⟩ := hw
  refine w_asg 4 (d_ixL (OEv.toL (o_lst (a_cons (d_var rfl) (a_cons ((d_min2 (d_var rfl) d_int).is (by rw [hmn])) (a_cons (d_var rfl) (a_cons (d_var rfl) a_nil)))) (show 4 ≤ sizeLine by decide))) (d_var rfl) hat) ?_
  refine w_asgN 5 (n_draw rfl (d_var rfl) (by omega) (by omega) (show n + 1 + 1 ≤ 10 ^ 6 by omega)) ?_
  rintro d Γ' ⟨fst, f0, f1, rfl, rfl⟩
  refine w_asgO 6 (o_lst a_nil (Nat.zero_le _)) ?_
  refine w_forN (P := fun ds Γ' => ∃ (cnt : Int) (v7 v8 : Slo), 0 ≤ cnt ∧ cnt ≤ most ∧ ds = ((List.range cnt.toNat).map fun (i : Nat) => PyData.int i) ∧ Γ' = GC p (n + 3) size most sty w fst [] v7 v8) ?_ ?_
  · refine iN_rng1 (an_one (n_draw (n := n + 2) rfl (d_op (d_var rfl) d_int rs_add) (by omega) (by omega) (show n + 2 + 1 ≤ 10 ^ 6 by omega))) ?_
    rintro ss Γ' ⟨d, rfl, x, x0, x1, rfl, rfl⟩
    exact ⟨x, rfl, by omega, by omega, x, .no, .no, x0, by omega, rfl, rfl⟩
  · rintro ds Γ1 ⟨cnt, v7, v8, c0, c1, rfl, rfl⟩
    have hrg : ((List.range cnt.toNat).map fun (i : Nat) => PyData.int i).length = cnt.toNat := by simp
    refine ⟨fun k Γ => ∃ (q : Nat) (cs : List Int) (v7 v8 : Slo), q ≤ n + 3 + 2 * k ∧ (∀ c ∈ cs, 0 ≤ c ∧ c < size) ∧ cs.length ≤ 3 * k ∧ Γ = GC p q size most sty w fst cs v7 v8, ⟨n + 3, [], v7, v8, by omega, (fun _ h => by cases h), by simp, rfl⟩, fun k d Γ' e hI => ?_, fun Γ' hI => ?_⟩
    · have hk : k < cnt.toNat := by have := (List.getElem?_eq_some_iff.mp e).1; rw [hrg] at this; exact this
      have ed : d = .int (k : Int) := by
        rw [List.getElem?_map, List.getElem?_range hk] at e
        cases e; rfl
      subst ed
      obtain ⟨q, cs, v7, v8, hq, hc, hcl, rfl⟩ := hI
      refine ⟨_, _, tg_name 7 _, ?_⟩
      have e1 := n_draw (Γ := GC p q size most sty w fst cs (.dat (.int k)) v8) (i := 0) (p := p) (φ := bagOk) (n := q) (E := E0) (lim := lim) (te := tVar 4) (k := w) rfl (d_var rfl) (by omega) (by omega) (show q + 1 ≤ 10 ^ 6 by omega)
      have e2 := OEvN.toD (P := fun d Γ' => ∃ x : Int, d = .list [.int x, .int k] ∧ Γ' = GC p (q + 1) size most sty w fst cs (.dat (.int k)) v8.calm) (n_lst (an_two (d2 := .int k) (tb := tVar 7) e1 fun d1 Γ1 z => by obtain ⟨x, _, _, _, rfl⟩ := z; exact d_var rfl) (P := fun o Γ' => ∃ es, o = .lst es ∧ ∃ x : Int, PyData.list es = .list [.int x, .int k] ∧ Γ' = GC p (q + 1) size most sty w fst cs (.dat (.int k)) v8.calm) fun es Γ1 z => by
        obtain ⟨d, rfl, x, _, _, rfl, rfl⟩ := z
        exact ⟨[.int x, .int k], rfl, two_le, _, rfl, x, rfl, rfl⟩)
      generalize hb : decide (sty = 2) = b
      have e3 := n_ixN (K := K) (P := fun d Γ' => ∃ x : Int, d = .int x ∧ Γ' = GC p (q + 1) size most sty w fst cs (.dat (.int k)) v8.calm) (tb := tCB rIntQ (tCons (tOp rEq (tVar 3) (tC (.int 2))) tNil)) e2 fun d1 Γ1 z => by
        obtain ⟨x, rfl, rfl⟩ := z
        refine ⟨_, _, .int (if b then (k : Int) else x), rfl, d_intB ((d_op (d_var rfl) d_int rs_eqI).is (d1 := .bool b) (by rw [hb])), ?_, _, rfl, rfl⟩
        cases b <;> rfl
      have e4 := n_opR (r := rI (fun _ j => 0 < j) fun i j => .int (i % j)) (tb := tVar 1) (P := fun d Γ' => ∃ x : Int, 0 ≤ x ∧ x < size ∧ d = .int x ∧ Γ' = GC p (q + 1) size most sty w fst cs (.dat (.int k)) v8.calm) (n_opL (r := rI0 fun i j => .int (i + j)) (ta := tVar 5) (d1 := .int fst) (P := fun d Γ' => ∃ x : Int, d = .int x ∧ Γ' = GC p (q + 1) size most sty w fst cs (.dat (.int k)) v8.calm) (d_var rfl) e3 fun d2 Γ2 z => by
        obtain ⟨x, rfl, rfl⟩ := z
        exact ⟨_, rs_add, _, rfl, rfl⟩) fun d1 Γ1 z => by
        obtain ⟨x, rfl, rfl⟩ := z
        exact ⟨.int size, _, d_var rfl, rs_mod (by omega), _, (mod_b (by omega)).1, (mod_b (by omega)).2, rfl, rfl⟩
      refine w_asgN 8 e4 ?_
      rintro d Γ' ⟨x, x0, x1, rfl, rfl⟩
      have e5 := n_drawIx (K := K) (Γ := GC p (q + 1) size most sty w fst cs (.dat (.int k)) (.dat (.int x))) (i := 0) (p := p) (φ := bagOk) (n := q + 1) (E := E0) (lim := lim) (te := tC (.int 4)) (k := 4) (ta := tLst (tCons (tC (.int 0)) (tCons (tC (.int 0)) (tCons (tC (.int 1)) (tCons (tC (.int 2)) tNil))))) (ds := [.int 0, .int 0, .int 1, .int 2]) (f := fun _ d => ∃ y : Int, 0 ≤ y ∧ y ≤ 2 ∧ d = .int y) (OEv.toD (o_lst (a_cons d_int (a_cons d_int (a_cons d_int (a_cons d_int a_nil)))) (show 4 ≤ sizeLine by decide))) rfl d_int (by decide) (by decide) (show q + 1 + 1 ≤ 10 ^ 6 by omega) fun y y0 y1 => by
        have : y = 0 ∨ y = 1 ∨ y = 2 ∨ y = 3 := by omega
        rcases this with rfl | rfl | rfl | rfl
        · exact ⟨_, rfl, 0, by decide, by decide, rfl⟩
        · exact ⟨_, rfl, 0, by decide, by decide, rfl⟩
        · exact ⟨_, rfl, 1, by decide, by decide, rfl⟩
        · exact ⟨_, rfl, 2, by decide, by decide, rfl⟩
      generalize hb3 : decide (sty = 3) = b3
      have e6 := n_opR (r := rI CMul fun i j => .int (i * j)) (tb := tCB rIntQ (tCons (tOp rEq (tVar 3) (tC (.int 3))) tNil)) (P := fun d Γ' => ∃ y : Int, 0 ≤ y ∧ y ≤ 2 ∧ d = .int y ∧ Γ' = GC p (q + 2) size most sty w fst cs (.dat (.int k)) (.dat (.int x))) e5 fun d1 Γ1 z => by
        obtain ⟨_, _, _, ⟨y, y0, y1, rfl⟩, rfl⟩ := z
        refine ⟨_, _, d_intB ((d_op (d_var rfl) d_int rs_eqI).is (d1 := .bool b3) (by rw [hb3])), rs_mul (.inl ⟨by omega, by omega⟩), _, ?_, ?_, rfl, rfl⟩
        · cases b3 <;> simp; exact y0
        · cases b3 <;> simp; exact y1
      have e7 := n_opL (r := rI0 fun i j => .int (i + j)) (ta := tC (.int 1)) (d1 := .int 1) (P := fun d Γ' => ∃ y : Int, 1 ≤ y ∧ y ≤ 3 ∧ d = .int y ∧ Γ' = GC p (q + 2) size most sty w fst cs (.dat (.int k)) (.dat (.int x))) d_int e6 fun d2 Γ2 z => by
        obtain ⟨y, y0, y1, rfl, rfl⟩ := z
        exact ⟨_, rs_add, _, by omega, by omega, rfl, rfl⟩
      refine w_extendN1 6 ⟨_, rfl⟩ (n_rep (ds := [.int x]) (PO := fun o Γ' => ∃ y : Int, 1 ≤ y ∧ y ≤ 3 ∧ o = .lst ((List.replicate y.toNat x).map .int) ∧ Γ' = GC p (q + 2) size most sty w fst cs (.dat (.int k)) (.dat (.int x))) (OEv.toD (o_lst (a_cons (d_var rfl) a_nil) one_le)) e7 fun d1 Γ1 z => ?_) fun o Γ1 z => ?_
      · obtain ⟨y, y0, y1, rfl, rfl⟩ := z
        refine ⟨y, rfl, by omega, by omega, ?_, y, y0, y1, ?_, rfl⟩
        · show 1 * y.toNat ≤ sizeLine
          have : (3 : Nat) ≤ sizeLine := by decide
          omega
        · congr 1
          rw [List.map_replicate]
          generalize y.toNat = j
          induction j with
          | zero => rfl
          | succ j ih => rw [List.replicate_succ, List.replicate_succ, List.flatten_cons, ih]; rfl
      · obtain ⟨y, y0, y1, rfl, rfl⟩ := z
        refine ⟨_, _, rfl, rfl, ?_, q + 2, cs ++ List.replicate y.toNat x, .dat (.int k), .dat (.int x), by omega, fun c h => ?_, ?_, ?_⟩
        · rw [List.length_map, List.length_map, List.length_replicate]
          have : (1000 : Nat) ≤ sizeLine := by decide
          omega
        · rcases List.mem_append.mp h with h | h
          · exact hc c h
          · rw [(List.mem_replicate.mp h).2]; exact ⟨x0, x1⟩
        · rw [List.length_append, List.length_replicate]; omega
        · unfold GC; rw [List.map_append]; rfl
    · obtain ⟨q, cs, v7, v8, hq, hc, hcl, rfl⟩ := hI
      rw [hrg] at hq hcl
      refine w_raw 0 (ψ := bagOk (n + 500)) rfl (fun o h => h.mono (by omega)) ?_
      refine w_retO (o_sl (l_own rfl) p_none (p_some (d_var rfl))) ⟨⟨cs.take most.toNat, fun c h => hc c (List.mem_of_mem_take h), ?_, ?_⟩, _, rfl, fun _ h => h⟩
      · rw [List.length_take]; omega
      · rw [cutL_to _ m0, List.map_take]
def R__law_called (ds : List D) (d : D) : Prop := ∃ (l : List Pp) (i : Int), Lu l ∧ 0 ≤ i ∧ i < l.length ∧ ds = [eL l, .int i] ∧ d = eL (call1 l i)
theorem eqv_nil_map {α : Type} {f : α → D} (l : List α) : PyData.eqv (.list (l.map f)) (.list []) = decide (l = []) := by
  rw [eqv_nil_l]
  cases l <;> simp
abbrev s28 : Stmt := top 28
theorem fo__law_called (T : Txt K mg) {f : Addr} {fd : FuncData} (F : FnP K "_law_called" s28 f fd) (hm : mg "_law_called" = some (.ref f))  : Fo P w K mg base CX0 1 "_law_called" (SpD R__law_called) := by
  have S : FnScope ["lineup", "person", "own", "others", "new", "one", "color", "pair"] ["lineup", "person"] (defScope s28) := ⟨rfl, rfl, rfl, by decide +kernel, rfl, by decide +kernel, by decide +kernel⟩
  refine fo_mk F hm S (SpD.len (n := 2) (by first | (rintro _ _ ⟨rfl, _⟩; rfl) | (rintro _ _ ⟨_, rfl, _⟩; rfl) | (rintro _ _ ⟨_, _, rfl, _⟩; rfl) | (rintro _ _ ⟨_, _, _, rfl, _⟩; rfl) | (rintro _ _ ⟨_, _, _, _, rfl, _⟩; rfl) | (rintro _ _ ⟨_, _, _, _, _, rfl, _⟩; rfl) | (rintro _ _ ⟨_, _, _, _, _, _, rfl, _⟩; rfl) | (rintro _ _ ⟨_, _, _, _, _, _, _, rfl, _⟩; rfl) | (rintro _ _ ⟨_, _, _, _, _, _, _, _, rfl, _⟩; rfl) | (rintro _ _ ⟨_, _, _, _, _, _, _, _, _, rfl, _⟩; rfl) | (rintro _ _ ⟨_, _, _, _, _, _, _, _, _, _, rfl, _⟩; rfl))) (fun _ _ _ _ _ _ us hl => match us, hl with | [_, _], _ => rfl) fun cd A out s H E hg hr => ?_
  have nd := S.nd
  have hu := hr.units
  refine ⟨_, (pss_cons (ps_set (i := 2) (by exact nd) (by rfl) (by first | exact Or.inl rfl | exact Or.inr rfl) (pe_ix (kIxL (K := K) (by rfl)) (pe_lc (own := [("one", 5), ("color", 6)]) (by rfl) (by exact nd) (kiList (K := K) (by rfl) (pv 0)) (blkOk_by (N := ["lineup", "person", "own", "others", "new", "one", "color", "pair"]) (sc := (defScope s28)) (by decide +kernel)) (fun _ _ _ _ _ => (kgTup (n := 2) (K := K) (by rfl) (by rfl) (pgs_cons (pg_name (i := 5) (by exact nd) (by rfl) (by first | exact Or.inl rfl | exact Or.inr rfl)) (pgs_cons (pg_name (i := 6) (by exact nd) (by rfl) (by first | exact Or.inl rfl | exact Or.inr rfl)) pgs_nil)))) (fun _ _ _ _ _ => (pts_one (pt_cmpR op_eq (pv 5) (pv 1) (nomark _)))) (fun _ _ _ _ _ => (pv 6))) pe_int (fun _ _ => by rfl)))
      (pss_cons (ps_setLc (i := 3) (own := [("one", 5), ("color", 6)]) (by rfl) (by exact nd) (by rfl) (by rfl) (sw_true (by rfl) (by rfl) (by rfl) (by decide +kernel)) (kiList (K := K) (by rfl) (pv 0)) (blkOk_by (N := ["lineup", "person", "own", "others", "new", "one", "color", "pair"]) (sc := (defScope s28)) (by decide +kernel)) (fun _ _ _ _ _ => (kgTup (n := 2) (K := K) (by rfl) (by rfl) (pgs_cons (pg_name (i := 5) (by exact nd) (by rfl) (by first | exact Or.inl rfl | exact Or.inr rfl)) (pgs_cons (pg_name (i := 6) (by exact nd) (by rfl) (by first | exact Or.inl rfl | exact Or.inr rfl)) pgs_nil)))) (fun _ _ _ _ _ => (pts_one (pt_cmpR op_ne (pv 6) (pv 2) (nomark _)))) (fun _ _ _ _ _ => (pv 6)))
      (pss_cons (ps_set (i := 4) (by exact nd) (by rfl) (by first | exact Or.inl rfl | exact Or.inr rfl) (pe_ifExp (pt_cmpR (kNeD (K := K) (by rfl) (by exact hu)) (pv 3) (pe_lst pa_nil) (nomark _)) (pe_ix (kIxL (K := K) (by rfl)) (pv 3) pe_int (fun _ _ => by rfl)) (pv 2)))
      (pss_one (ps_ret (pe_op op_cat (pe_lst (pa_cons (pe_tup (pa_cons (pv 1) (pa_cons (pv 4) pa_nil))) pa_nil)) (pe_lc (own := [("pair", 7)]) (by rfl) (by exact nd) (kiList (K := K) (by rfl) (pv 0)) (blkOk_by (N := ["lineup", "person", "own", "others", "new", "one", "color", "pair"]) (sc := (defScope s28)) (by decide +kernel)) (fun _ _ _ _ _ => (pg_name (i := 7) (by exact nd) (by rfl) (by first | exact Or.inl rfl | exact Or.inr rfl))) (fun _ _ _ _ _ => (pts_one (pt_cmpR op_ne (pe_ix (kIxT (K := K) (by rfl)) (pv 7) pe_int (fun _ _ => by rfl)) (pv 1) (nomark _)))) (fun _ _ _ _ _ => (pv 7))))))))), fun vs Q h => ?_⟩
  refine spD_body h ?_
  rintro B _ _ ⟨l, i, hl, h0, h1, rfl, rfl⟩
  have hi := hl.has h0 h1
  have hs : l.length < sizeLine := Nat.lt_of_le_of_lt hl.sixty (by decide)
  refine w_asg 2 (d_ixL (OEv.toL (o_lc (l := l) (enc := eP) (fun a => decide (a.1 = i)) (fun a => .str (ch a.2)) (i_list (d_var rfl)) hs fun a ha =>
    ⟨_, _, tg_pair _ _ _ _, by simp, t_test (d_op (d_var rfl) (d_var rfl) rs_eqI), fun _ => d_var rfl⟩)) d_int (colOf_at' hi)) ?_
  refine w_asg 3 (OEv.toD (o_lc (l := l) (enc := eP) (fun a => !decide (a.2 = colOf l i)) (fun a => .str (ch a.2)) (i_list (d_var rfl)) hs fun a ha =>
    ⟨_, _, tg_pair _ _ _ _, by simp, (t_test (d_op (d_var rfl) (d_var rfl) rs_neS)).is (by rw [ch_dec]), fun _ => d_var rfl⟩)) ?_
  have sh : SeqAt.shaped (.list ((l.filter fun a => !decide (a.2 = colOf l i)).map fun a => PyData.str (ch a.2))) = true :=
    sh_of (cl_list (canLayAll_map fun a ha => by simp only [PyData.canLay0]; exact strOk_ch (hl.col a (List.mem_filter.mp ha).1))) (Nat.le_trans (dp_list (depthAll_map (n := 1) fun a _ => by simp [PyData.depth])) (by decide))
  have ef : (l.filter fun a => !decide (a.2 = colOf l i))[0]? = l.find? fun q => decide (q.2 ≠ colOf l i) := by
    rw [← List.head?_eq_getElem?, List.head?_filter]
    congr 1
    funext a
    rw [not_dec]
  refine w_asg 4 ((d_if (b := decide (takeC l i ≠ none)) (d1 := .str (ch ((takeC l i).getD 0))) (d2 := .str (ch (colOf l i))) ((t_test (d_op (d_var rfl) (OEv.toD (o_lst a_nil (Nat.zero_le _))) (rs_neD sh rfl))).is ?_) (fun h => ?_) (fun _ => d_var rfl)).is (d1 := .str (ch ((takeC l i).getD (colOf l i)))) ?_) ?_
  · rw [eqv_nil_map, not_dec]
    congr 1
    unfold takeC
    rw [← ef]
    cases l.filter fun a => !decide (a.2 = colOf l i) <;> simp
  · refine d_ixL (Ev.toL (d_var rfl)) d_int (at_nat (j := 0) ?_)
    have h : takeC l i ≠ none := by simpa using h
    rw [List.getElem?_map, ef]
    unfold takeC at h ⊢
    cases e : l.find? fun q => decide (q.2 ≠ colOf l i) with
    | none => rw [e] at h; exact absurd rfl h
    | some q => rfl
  · cases e : takeC l i <;> simp
  refine w_retO (o_cat (OEv.toL (o_lst (a_cons (d_tup (a_cons (d_var rfl) (a_cons (d_var rfl) a_nil)) two_le) a_nil) one_le)) (OEv.toL (o_lc (l := l) (enc := eP) (fun a => decide (a.1 ≠ i)) (fun a => eP a) (i_list (d_var rfl)) hs fun a ha =>
    ⟨_, _, tg_name _ _, by simp, (t_test (d_op (d_ixT (d_var rfl) d_int rfl) (d_var rfl) rs_neI)).is (by simp), fun _ => d_var rfl⟩)) ?_) ⟨_, rfl, rfl⟩
  have := List.length_filter_le (fun a : Pp => decide (a.1 ≠ i)) l
  have h60 := hl.sixty
  simp only [List.length_map, List.length_cons, List.length_nil]
  have : (60 : Nat) + 1 ≤ sizeLine := by decide
  omega
def R__law_applied (ds : List D) (d : D) : Prop := ∃ (l : List Pp) (cs : List Int), Lu l ∧ Cs l cs ∧ cs.length ≤ 10 ^ 4 ∧ ds = [eL l, eI cs] ∧ d = .list ((hist l cs).map eL)
abbrev s29 : Stmt := top 29
theorem fo__law_applied (T : Txt K mg) {f : Addr} {fd : FuncData} (F : FnP K "_law_applied" s29 f fd) (hm : mg "_law_applied" = some (.ref f)) (c__law_called : Fo P w K mg base CX0 1 "_law_called" (SpD R__law_called)) : Fo P w K mg base CX0 2 "_law_applied" (SpD R__law_applied) := by
  have S : FnScope ["lineup", "calls", "found", "person"] ["lineup", "calls"] (defScope s29) := ⟨rfl, rfl, rfl, by decide +kernel, rfl, by decide +kernel, by decide +kernel⟩
  refine fo_mk F hm S (SpD.len (n := 2) (by first | (rintro _ _ ⟨rfl, _⟩; rfl) | (rintro _ _ ⟨_, rfl, _⟩; rfl) | (rintro _ _ ⟨_, _, rfl, _⟩; rfl) | (rintro _ _ ⟨_, _, _, rfl, _⟩; rfl) | (rintro _ _ ⟨_, _, _, _, rfl, _⟩; rfl) | (rintro _ _ ⟨_, _, _, _, _, rfl, _⟩; rfl) | (rintro _ _ ⟨_, _, _, _, _, _, rfl, _⟩; rfl) | (rintro _ _ ⟨_, _, _, _, _, _, _, rfl, _⟩; rfl) | (rintro _ _ ⟨_, _, _, _, _, _, _, _, rfl, _⟩; rfl) | (rintro _ _ ⟨_, _, _, _, _, _, _, _, _, rfl, _⟩; rfl) | (rintro _ _ ⟨_, _, _, _, _, _, _, _, _, _, rfl, _⟩; rfl))) (fun _ _ _ _ _ _ us hl => match us, hl with | [_, _], _ => rfl) fun cd A out s H E hg hr => ?_
  have nd := S.nd
  refine ⟨_, (pss_cons (ps_set (i := 2) (by exact nd) (by rfl) (by first | exact Or.inl rfl | exact Or.inr rfl) (pe_lst (pa_cons (pe_callTy (kListOf (K := K) (by rfl)) (by rfl) T.b_list (by decide +kernel) (pa_cons (pv 0) pa_nil)) pa_nil)))
      (pss_cons (ps_for PassesOwn.never (by rfl) (kiList (K := K) (by rfl) (pv 1)) (pg_name (i := 3) (by exact nd) (by rfl) (by first | exact Or.inl rfl | exact Or.inr rfl))
      (pss_one (ps_expr (kBm (K := K) (by rfl) PySem.F.plainAttrs_list PySem.F.slot_list_append PySem.F.type_list_append mt_append (pv 2) (pa_cons (pe_f c__law_called (by exact hg) (by exact hr) (by decide) pass0 (by rfl) (pa_cons (pe_ix (kIxL (K := K) (by rfl)) (pv 2) (pe_un un_neg pe_int) (fun _ _ => by rfl)) (pa_cons (pv 3) pa_nil))) pa_nil)))))
      (pss_one (ps_ret (pv 2))))), fun vs Q h => ?_⟩
  refine spD_body h ?_
  rintro B _ _ ⟨l, cs, hl, hc, hcl, rfl, rfl⟩
  refine w_asgO 2 (o_lst (a_cons (OEv.toD (o_list (Ev.toL (d_var rfl)))) a_nil) one_le) ?_
  refine w_for (fun k Γ => Γ[1]? = some (.dat (eI cs)) ∧ Γ[2]? = some (.own (.lst ((hist l (cs.take k)).map eL))) ∧ Γ.length = 4) (i_list (d_var rfl)) ⟨rfl, rfl, rfl⟩ (fun k d Γ' e ⟨g1, g2, gl⟩ => ?_) fun Γ' ⟨_, g2, gl⟩ => ?_
  · rw [List.getElem?_map] at e
    cases e2 : cs[k]? with
    | none => rw [e2] at e; cases e
    | some c =>
      rw [e2] at e
      cases e
      have hcm := hc c (List.mem_of_getElem? e2)
      have hk := run_lu (cs := cs.take k) hl (hc.take k)
      have tk : cs.take (k + 1) = cs.take k ++ [c] := by rw [List.take_succ, e2]; rfl
      match Γ', gl, g1, g2 with
      | [a0, a1, a2, a3], _, g1, g2 =>
      cases g1; cases g2
      refine ⟨_, _, tg_name 3 _, ?_⟩
      refine w_append1 2 rfl (d_call (a_cons (d_ixL (l_own rfl) (d_neg d_int) (at_last (hist_last_eL' _ _))) (a_cons (d_var rfl) a_nil)) ⟨run l (cs.take k), c, hk.1, hcm.1, by rw [hk.2]; exact hcm.2, rfl, rfl⟩) ?_ ⟨rfl, ?_, rfl⟩
      · rw [List.length_map, hist_length, List.length_take]
        have : (10 : Nat) ^ 5 < sizeLine := by decide
        omega
      · rw [tk, hist_snoc, List.map_append]; rfl
  · rw [List.length_map, List.take_length] at g2
    exact w_retV 2 g2 ⟨_, rfl, rfl⟩
def R__law_due (ds : List D) (d : D) : Prop := ∃ (l : List Pp) (cs : List Int), Lu l ∧ Cs l cs ∧ cs.length ≤ 10 ^ 4 ∧ ds = [eL l, eI cs] ∧ d = .tuple [eI (sameL l cs), eI (othL l cs)]
abbrev s31 : Stmt := top 31
theorem fo__law_due (T : Txt K mg) {f : Addr} {fd : FuncData} (F : FnP K "_law_due" s31 f fd) (hm : mg "_law_due" = some (.ref f)) (c__law_applied : Fo P w K mg base CX0 2 "_law_applied" (SpD R__law_applied)) : Fo P w K mg base CX0 3 "_law_due" (SpD R__law_due) := by
  have S : FnScope ["lineup", "calls", "there", "same", "person", "color"] ["lineup", "calls"] (defScope s31) := ⟨rfl, rfl, rfl, by decide +kernel, rfl, by decide +kernel, by decide +kernel⟩
  refine fo_mk F hm S (SpD.len (n := 2) (by first | (rintro _ _ ⟨rfl, _⟩; rfl) | (rintro _ _ ⟨_, rfl, _⟩; rfl) | (rintro _ _ ⟨_, _, rfl, _⟩; rfl) | (rintro _ _ ⟨_, _, _, rfl, _⟩; rfl) | (rintro _ _ ⟨_, _, _, _, rfl, _⟩; rfl) | (rintro _ _ ⟨_, _, _, _, _, rfl, _⟩; rfl) | (rintro _ _ ⟨_, _, _, _, _, _, rfl, _⟩; rfl) | (rintro _ _ ⟨_, _, _, _, _, _, _, rfl, _⟩; rfl) | (rintro _ _ ⟨_, _, _, _, _, _, _, _, rfl, _⟩; rfl) | (rintro _ _ ⟨_, _, _, _, _, _, _, _, _, rfl, _⟩; rfl) | (rintro _ _ ⟨_, _, _, _, _, _, _, _, _, _, rfl, _⟩; rfl))) (fun _ _ _ _ _ _ us hl => match us, hl with | [_, _], _ => rfl) fun cd A out s H E hg hr => ?_
  have nd := S.nd
  refine ⟨_, (pss_cons (ps_set (i := 2) (by exact nd) (by rfl) (by first | exact Or.inl rfl | exact Or.inr rfl) (pe_ix (kIxL (K := K) (by rfl)) (pe_f c__law_applied (by exact hg) (by exact hr) (by decide) pass0 (by rfl) (pa_cons (pv 0) (pa_cons (pv 1) pa_nil))) (pe_un un_neg pe_int) (fun _ _ => by rfl)))
      (pss_cons (ps_set (i := 3) (by exact nd) (by rfl) (by first | exact Or.inl rfl | exact Or.inr rfl) (pe_callB (kSortedI (K := K) (by rfl)) (by rfl) T.b_sorted (by decide +kernel) (pa_cons (pe_lc (own := [("person", 4), ("color", 5)]) (by rfl) (by exact nd) (kiList (K := K) (by rfl) (pv 2)) (blkOk_by (N := ["lineup", "calls", "there", "same", "person", "color"]) (sc := (defScope s31)) (by decide +kernel)) (fun _ _ _ _ _ => (kgTup (n := 2) (K := K) (by rfl) (by rfl) (pgs_cons (pg_name (i := 4) (by exact nd) (by rfl) (by first | exact Or.inl rfl | exact Or.inr rfl)) (pgs_cons (pg_name (i := 5) (by exact nd) (by rfl) (by first | exact Or.inl rfl | exact Or.inr rfl)) pgs_nil)))) (fun _ _ _ _ _ => (pts_one (PW.pt (pw_and (pt_cmpR (kIn (K := K) (by rfl)) (pv 4) (pv 1) (by rfl)) (pw_and1 (pt_cmpR op_eq (pv 5) (pe_ix (kIxT (K := K) (by rfl)) (pe_ix (kIxL (K := K) (by rfl)) (pv 2) pe_int (fun _ _ => by rfl)) pe_int (fun _ _ => by rfl)) (nomark _))))))) (fun _ _ _ _ _ => (pv 4))) pa_nil)))
      (pss_one (ps_ret (pe_tup (pa_cons (pv 3) (pa_cons (pe_lc (own := [("person", 4)]) (by rfl) (by exact nd) (pi_range1 (by rfl) T.b_range (pa_cons (pe_callB (kLen (K := K) (by rfl)) (by rfl) T.b_len (by decide +kernel) (pa_cons (pv 2) pa_nil)) pa_nil)) (blkOk_by (N := ["lineup", "calls", "there", "same", "person", "color"]) (sc := (defScope s31)) (by decide +kernel)) (fun _ _ _ _ _ => (pg_name (i := 4) (by exact nd) (by rfl) (by first | exact Or.inl rfl | exact Or.inr rfl))) (fun _ _ _ _ _ => (pts_one (PW.pt (pw_and (pt_cmpR (kIn (K := K) (by rfl)) (pv 4) (pv 1) (by rfl)) (pw_and1 (pt_cmpR (kNotIn (K := K) (by rfl)) (pv 4) (pv 3) (by rfl))))))) (fun _ _ _ _ _ => (pv 4))) pa_nil))))))), fun vs Q h => ?_⟩
  refine spD_body h ?_
  rintro B _ _ ⟨l, cs, hl, hc, hcl, rfl, rfl⟩
  have hr := run_lu hl hc
  have hs : (run l cs).length < sizeLine := Nat.lt_of_le_of_lt hr.1.sixty (by decide)
  refine w_asg 2 (d_ixL (Ev.toL (d_call (a_cons (d_var rfl) (a_cons (d_var rfl) a_nil)) ⟨l, cs, hl, hc, hcl, rfl, rfl⟩)) (d_neg d_int) (at_last (hist_last_eL' l cs))) ?_
  obtain ⟨p, hp, ep⟩ := frontC_at hr.1
  refine w_asg 3 (OEv.toD (o_sortedI (OEv.toL (OEv.is (o_lc (l := run l cs) (enc := eP) (fun a => decide (a.1 ∈ cs) && decide (a.2 = frontC (run l cs))) (fun a => .int a.1) (i_list (d_var rfl)) hs fun a ha =>
    ⟨_, _, tg_pair _ _ _ _, by simp, t_and (t_test (d_op (d_var rfl) (d_var rfl) rs_inI)) (fun _ => (t_test (d_op (d_var rfl) (d_ixT (d_ixL (Ev.toL (d_var rfl)) d_int hp) d_int rfl) rs_eqS)).is (by rw [ch_dec, ep])), fun _ => d_var rfl⟩) (by rw [List.map_map]; rfl))))) ?_
  have hn : (((run l cs).map eP).length : Int) = ((run l cs).length : Int) := by rw [eL_len]
  refine w_ret (d_tup (a_cons (d_var rfl) (a_cons (OEv.toD (o_lc (l := (List.range (run l cs).length).map fun (i : Nat) => (i : Int)) (enc := .int) (fun i => decide (i ∈ cs) && !decide (i ∈ sameL l cs)) (fun i => .int i) (IEv.is (i_rng1 (n := ((run l cs).length : Int)) (a_cons ((d_len (ds := (run l cs).map eP) (d_var rfl)).is (by rw [hn])) a_nil) (by have := hr.1.sixty; omega) (by omega)) (by rw [List.map_map, Int.toNat_natCast]; rfl)) (by rw [List.length_map, List.length_range]; exact hs) fun a ha =>
    ⟨_, _, tg_name _ _, by simp, t_and (t_test (d_op (d_var rfl) (d_var rfl) rs_inI)) (fun _ => t_test (d_op (d_var rfl) (d_var rfl) rs_notInI)), fun _ => d_var rfl⟩)) a_nil)) two_le) ?_
  show PyData.tuple [.list ((sameL l cs).map .int), .list ((List.filter (fun i => decide (i ∈ cs) && !decide (i ∈ sameL l cs)) _).map .int)] = .tuple [eI (sameL l cs), eI (othL l cs)]
  rw [oth_eq hl hc]; rfl
def R_is_integer_in (ds : List D) (d : D) : Prop := ∃ v lo hi : Int, ds = [.int v, .int lo, .int hi] ∧ d = .bool (decide (lo ≤ v) && decide (v ≤ hi))
abbrev s7 : Stmt := top 7
theorem fo_is_integer_in (T : Txt K mg) {f : Addr} {fd : FuncData} (F : FnP K "is_integer_in" s7 f fd) (hm : mg "is_integer_in" = some (.ref f))  : Fo P w K mg base CX0 1 "is_integer_in" (SpD R_is_integer_in) := by
  have S : FnScope ["value", "low", "high"] ["value", "low", "high"] (defScope s7) := ⟨rfl, rfl, rfl, by decide +kernel, rfl, by decide +kernel, by decide +kernel⟩
  refine fo_mk F hm S (SpD.len (n := 3) (by first | (rintro _ _ ⟨rfl, _⟩; rfl) | (rintro _ _ ⟨_, rfl, _⟩; rfl) | (rintro _ _ ⟨_, _, rfl, _⟩; rfl) | (rintro _ _ ⟨_, _, _, rfl, _⟩; rfl) | (rintro _ _ ⟨_, _, _, _, rfl, _⟩; rfl) | (rintro _ _ ⟨_, _, _, _, _, rfl, _⟩; rfl) | (rintro _ _ ⟨_, _, _, _, _, _, rfl, _⟩; rfl) | (rintro _ _ ⟨_, _, _, _, _, _, _, rfl, _⟩; rfl) | (rintro _ _ ⟨_, _, _, _, _, _, _, _, rfl, _⟩; rfl) | (rintro _ _ ⟨_, _, _, _, _, _, _, _, _, rfl, _⟩; rfl) | (rintro _ _ ⟨_, _, _, _, _, _, _, _, _, _, rfl, _⟩; rfl))) (fun _ _ _ _ _ _ us hl => match us, hl with | [_, _, _], _ => rfl) fun cd A out s H E hg hr => ?_
  have nd := S.nd
  refine ⟨_, (pss_one (ps_ret (pe_and (pe_callB (kIsi (K := K) (by rfl)) (by rfl) T.b_isinstance (by decide +kernel) (pa_cons (pv 0) (pa_cons (pe_bltn (v := .ty "int") (by rfl) T.b_int (by decide +kernel) rfl) pa_nil))) (pe_and (pe_not (pe_callB (kIsi (K := K) (by rfl)) (by rfl) T.b_isinstance (by decide +kernel) (pa_cons (pv 0) (pa_cons (pe_bltn (v := .ty "bool") (by rfl) T.b_bool (by decide +kernel) rfl) pa_nil)))) (pe_one (pe_chain op_le op_le (pv 1) (pv 0) (pv 2))))))), fun vs Q h => ?_⟩
  refine spD_body h ?_
  rintro B _ _ ⟨v, lo, hi, rfl, rfl⟩
  exact w_ret (d_andV (d_isInt (d_var rfl)) fun _ => d_andV (d_notV (d_isBool (d_var rfl))) fun _ => d_chain (d_var rfl) (d_var rfl) rs_le (fun _ => d_var rfl) fun _ => rs_le) rfl
def R_is_color (ds : List D) (d : D) : Prop := ∃ c : Nat, c ∈ abc.cps.toList ∧ ds = [.str (ch c)] ∧ d = .bool true
abbrev s8 : Stmt := top 8
theorem fo_is_color (T : Txt K mg) {f : Addr} {fd : FuncData} (F : FnP K "is_color" s8 f fd) (hm : mg "is_color" = some (.ref f))  : Fo P w K mg base CX0 1 "is_color" (SpD R_is_color) := by
  have S : FnScope ["value"] ["value"] (defScope s8) := ⟨rfl, rfl, rfl, by decide +kernel, rfl, by decide +kernel, by decide +kernel⟩
  refine fo_mk F hm S (SpD.len (n := 1) (by first | (rintro _ _ ⟨rfl, _⟩; rfl) | (rintro _ _ ⟨_, rfl, _⟩; rfl) | (rintro _ _ ⟨_, _, rfl, _⟩; rfl) | (rintro _ _ ⟨_, _, _, rfl, _⟩; rfl) | (rintro _ _ ⟨_, _, _, _, rfl, _⟩; rfl) | (rintro _ _ ⟨_, _, _, _, _, rfl, _⟩; rfl) | (rintro _ _ ⟨_, _, _, _, _, _, rfl, _⟩; rfl) | (rintro _ _ ⟨_, _, _, _, _, _, _, rfl, _⟩; rfl) | (rintro _ _ ⟨_, _, _, _, _, _, _, _, rfl, _⟩; rfl) | (rintro _ _ ⟨_, _, _, _, _, _, _, _, _, rfl, _⟩; rfl) | (rintro _ _ ⟨_, _, _, _, _, _, _, _, _, _, rfl, _⟩; rfl))) (fun _ _ _ _ _ _ us hl => match us, hl with | [_], _ => rfl) fun cd A out s H E hg hr => ?_
  have nd := S.nd
  refine ⟨_, (pss_one (ps_ret (pe_and (pe_callB (kIsi (K := K) (by rfl)) (by rfl) T.b_isinstance (by decide +kernel) (pa_cons (pv 0) (pa_cons (pe_bltn (v := .ty "str") (by rfl) T.b_str (by decide +kernel) rfl) pa_nil))) (pe_and (pe_cmpR op_eq (pe_callB call_len_str (by rfl) T.b_len (by decide +kernel) (pa_cons (pv 0) pa_nil)) pe_int (nomark _)) (pe_one (pe_cmpR op_in_sign (pv 0) (pe_globc T.c_LETTERS) (by rfl))))))), fun vs Q h => ?_⟩
  refine spD_body h ?_
  rintro B _ _ ⟨c, hc, rfl, rfl⟩
  refine w_ret (d_andV (d_isStr (d_var rfl)) fun _ => d_andV (d_op (d_lenS (x := ch c) (d_var rfl) (show 1 ≤ sizeLine by decide)) d_int rs_eqI) fun _ => d_op (d_var rfl) d_str rs_inS) ?_
  show PyData.bool (true && (decide (((1 : Nat) : Int) = 1) && decide (c ∈ abc.cps.toList))) = .bool true
  rw [decide_eq_true hc]; rfl
def R_is_entry (ds : List D) (d : D) : Prop := ∃ (p : Pp) (n : Int), 0 ≤ p.1 ∧ p.1 < n ∧ p.2 ∈ abc.cps.toList ∧ ds = [eP p, .int n] ∧ d = .bool true
abbrev s9 : Stmt := top 9
theorem fo_is_entry (T : Txt K mg) {f : Addr} {fd : FuncData} (F : FnP K "is_entry" s9 f fd) (hm : mg "is_entry" = some (.ref f)) (c_is_color : Fo P w K mg base CX0 1 "is_color" (SpD R_is_color)) (c_is_integer_in : Fo P w K mg base CX0 1 "is_integer_in" (SpD R_is_integer_in)) : Fo P w K mg base CX0 2 "is_entry" (SpD R_is_entry) := by
  have S : FnScope ["value", "size"] ["value", "size"] (defScope s9) := ⟨rfl, rfl, rfl, by decide +kernel, rfl, by decide +kernel, by decide +kernel⟩
  refine fo_mk F hm S (SpD.len (n := 2) (by first | (rintro _ _ ⟨rfl, _⟩; rfl) | (rintro _ _ ⟨_, rfl, _⟩; rfl) | (rintro _ _ ⟨_, _, rfl, _⟩; rfl) | (rintro _ _ ⟨_, _, _, rfl, _⟩; rfl) | (rintro _ _ ⟨_, _, _, _, rfl, _⟩; rfl) | (rintro _ _ ⟨_, _, _, _, _, rfl, _⟩; rfl) | (rintro _ _ ⟨_, _, _, _, _, _, rfl, _⟩; rfl) | (rintro _ _ ⟨_, _, _, _, _, _, _, rfl, _⟩; rfl) | (rintro _ _ ⟨_, _, _, _, _, _, _, _, rfl, _⟩; rfl) | (rintro _ _ ⟨_, _, _, _, _, _, _, _, _, rfl, _⟩; rfl) | (rintro _ _ ⟨_, _, _, _, _, _, _, _, _, _, rfl, _⟩; rfl))) (fun _ _ _ _ _ _ us hl => match us, hl with | [_, _], _ => rfl) fun cd A out s H E hg hr => ?_
  have nd := S.nd
  refine ⟨_, (pss_one (ps_ret (pe_and (pe_callB (kIsi (K := K) (by rfl)) (by rfl) T.b_isinstance (by decide +kernel) (pa_cons (pv 0) (pa_cons (pe_bltn (v := .ty "tuple") (by rfl) T.b_tuple (by decide +kernel) rfl) pa_nil))) (pe_and (pe_cmpR op_eq (pe_callB (kLen (K := K) (by rfl)) (by rfl) T.b_len (by decide +kernel) (pa_cons (pv 0) pa_nil)) pe_int (nomark _)) (pe_and (pe_f c_is_integer_in (by exact hg) (by exact hr) (by decide) pass0 (by rfl) (pa_cons (pe_ix (kIxT (K := K) (by rfl)) (pv 0) pe_int (fun _ _ => by rfl)) (pa_cons pe_int (pa_cons (pe_op op_sub (pv 1) pe_int) pa_nil)))) (pe_one (pe_f c_is_color (by exact hg) (by exact hr) (by decide) pass0 (by rfl) (pa_cons (pe_ix (kIxT (K := K) (by rfl)) (pv 0) pe_int (fun _ _ => by rfl)) pa_nil)))))))), fun vs Q h => ?_⟩
  refine spD_body h ?_
  rintro B _ _ ⟨p, n, h0, h1, hc, rfl, rfl⟩
  refine w_ret (d_andV (d_isTup (d_var rfl)) fun _ => d_andV (d_op (d_lenT (ds := [.int p.1, .str (ch p.2)]) (d_var rfl)) d_int rs_eqI) fun _ => d_andV (d_call (a_cons (d_ixT (d_var rfl) d_int rfl) (a_cons d_int (a_cons (d_op (d_var rfl) d_int rs_sub) a_nil))) ⟨_, _, _, rfl, rfl⟩) fun _ => d_call (a_cons (d_ixT (d_var rfl) d_int rfl) a_nil) ⟨p.2, hc, rfl, rfl⟩) ?_
  show PyData.bool (true && (decide (((2 : Nat) : Int) = 2) && ((decide (0 ≤ p.1) && decide (p.1 ≤ n - 1)) && true))) = .bool true
  rw [decide_eq_true h0, decide_eq_true (show p.1 ≤ n - 1 by omega)]; rfl
def R_is_lineup (ds : List D) (d : D) : Prop := ∃ l, Lu l ∧ ds = [eL l] ∧ d = .bool true
abbrev s10 : Stmt := top 10
theorem fo_is_lineup (T : Txt K mg) {f : Addr} {fd : FuncData} (F : FnP K "is_lineup" s10 f fd) (hm : mg "is_lineup" = some (.ref f)) (c_is_entry : Fo P w K mg base CX0 2 "is_entry" (SpD R_is_entry)) : Fo P w K mg base CX0 3 "is_lineup" (SpD R_is_lineup) := by
  have S : FnScope ["value", "entry", "person", "color"] ["value"] (defScope s10) := ⟨rfl, rfl, rfl, by decide +kernel, rfl, by decide +kernel, by decide +kernel⟩
  refine fo_mk F hm S (SpD.len (n := 1) (by first | (rintro _ _ ⟨rfl, _⟩; rfl) | (rintro _ _ ⟨_, rfl, _⟩; rfl) | (rintro _ _ ⟨_, _, rfl, _⟩; rfl) | (rintro _ _ ⟨_, _, _, rfl, _⟩; rfl) | (rintro _ _ ⟨_, _, _, _, rfl, _⟩; rfl) | (rintro _ _ ⟨_, _, _, _, _, rfl, _⟩; rfl) | (rintro _ _ ⟨_, _, _, _, _, _, rfl, _⟩; rfl) | (rintro _ _ ⟨_, _, _, _, _, _, _, rfl, _⟩; rfl) | (rintro _ _ ⟨_, _, _, _, _, _, _, _, rfl, _⟩; rfl) | (rintro _ _ ⟨_, _, _, _, _, _, _, _, _, rfl, _⟩; rfl) | (rintro _ _ ⟨_, _, _, _, _, _, _, _, _, _, rfl, _⟩; rfl))) (fun _ _ _ _ _ _ us hl => match us, hl with | [_], _ => rfl) fun cd A out s H E hg hr => ?_
  have nd := S.nd
  refine ⟨_, (pss_cons (ps_if (PW.pt (pw_or (pt_not (pt_val (pe_callB (kIsi (K := K) (by rfl)) (by rfl) T.b_isinstance (by decide +kernel) (pa_cons (pv 0) (pa_cons (pe_bltn (v := .ty "list") (by rfl) T.b_list (by decide +kernel) rfl) pa_nil))))) (pw_or1 (pt_not (pt_chain op_le op_le pe_int (pe_callB (kLen (K := K) (by rfl)) (by rfl) T.b_len (by decide +kernel) (pa_cons (pv 0) pa_nil)) (pe_globc T.c_MAX_PEOPLE)))))) (pss_one (ps_ret pe_bl)) pss_nil)
      (pss_cons (ps_if (pt_not (pt_val (pe_callB (kAll (K := K) (by rfl) (by rfl)) (by rfl) T.b_all (by decide +kernel) (pa_cons (pe_lc (own := [("entry", 1)]) (by rfl) (by exact nd) (kiList (K := K) (by rfl) (pv 0)) (blkOk_by (N := ["value", "entry", "person", "color"]) (sc := (defScope s10)) (by decide +kernel)) (fun _ _ _ _ _ => (pg_name (i := 1) (by exact nd) (by rfl) (by first | exact Or.inl rfl | exact Or.inr rfl))) (fun _ _ _ _ _ => pts_nil) (fun _ _ _ _ _ => (pe_f c_is_entry (by exact hg) (by exact hr) (by decide) pass0 (by rfl) (pa_cons (pv 1) (pa_cons (pe_callB (kLen (K := K) (by rfl)) (by rfl) T.b_len (by decide +kernel) (pa_cons (pv 0) pa_nil)) pa_nil))))) pa_nil)))) (pss_one (ps_ret pe_bl)) pss_nil)
      (pss_one (ps_ret (pe_cmpR op_eq (pe_callB call_lenD (by rfl) T.b_len (by decide +kernel) (pa_cons (pe_dc (own := [("person", 2), ("color", 3)]) (by rfl) (by exact nd) (kiList (K := K) (by rfl) (pv 0)) (blkOk_by (N := ["value", "entry", "person", "color"]) (sc := (defScope s10)) (by decide +kernel)) (fun _ _ _ _ _ => (kgTup (n := 2) (K := K) (by rfl) (by rfl) (pgs_cons (pg_name (i := 2) (by exact nd) (by rfl) (by first | exact Or.inl rfl | exact Or.inr rfl)) (pgs_cons (pg_name (i := 3) (by exact nd) (by rfl) (by first | exact Or.inl rfl | exact Or.inr rfl)) pgs_nil)))) (fun _ _ _ _ _ => pts_nil) (fun _ _ _ _ _ => (pv 2)) (fun _ _ _ _ _ => pe_bl)) pa_nil)) (pe_callB (kLen (K := K) (by rfl)) (by rfl) T.b_len (by decide +kernel) (pa_cons (pv 0) pa_nil)) (nomark _)))))), fun vs Q h => ?_⟩
  refine spD_body h ?_
  rintro B _ _ ⟨l, hl, rfl, rfl⟩
  have len : ∀ {Γ : Gm}, Γ[0]? = some (.dat (eL l)) → Ev true Γ (tCB (rLenQ K) (tCons (tVar 0) tNil)) (.int (l.length : Int)) := fun h => (d_len (ds := l.map eP) (d_var h)).is (by rw [eL_len])
  have h1 := hl.one
  have h6 := hl.sixty
  have hs : l.length < sizeLine := Nat.lt_of_le_of_lt h6 (by decide)
  refine w_ifS (b := false) ((t_or (t_not (t_test (d_isList (d_var rfl)))) fun _ => t_not (t_test (d_chain d_int (len rfl) rs_le (fun _ => d_int) fun _ => rs_le))).is ?_) (fun e => nomatch e) fun _ => w_seqNext ?_
  · show (!true || !(decide ((1 : Int) ≤ (l.length : Int)) && decide ((l.length : Int) ≤ 60))) = false
    rw [decide_eq_true (by omega), decide_eq_true (by omega)]; rfl
  refine w_ifS (b := false) ((t_not (t_test (d_all (bs := l.map fun _ => true) (Ev.is (OEv.toD (o_lc (l := l) (enc := eP) (fun _ => true) (fun _ => .bool true) (i_list (d_var rfl)) hs fun a ha =>
    ⟨_, _, tg_name _ _, by simp, t_yes, fun _ => d_call (a_cons (d_var rfl) (a_cons (len rfl) a_nil)) ⟨a, _, (hl.per a ha).1, (hl.per a ha).2, hl.col a ha, rfl, rfl⟩⟩)) ?_)))).is ?_) (fun e => nomatch e) fun _ => w_seqNext ?_
  · rw [List.filter_eq_self.mpr fun _ _ => rfl, List.map_map]; rfl
  · simp
  refine w_ret (d_op (d_lenK (o_dc (l := l) (enc := eP) (fun a => .inl a.1) (fun _ => .bool true) (i_list (d_var rfl)) hs fun a ha =>
    ⟨_, _, tg_pair _ _ _ _, by simp, t_yes, d_var rfl, d_bl⟩)) (len rfl) rs_eqI) ?_
  rw [dcD_nodup]
  · simp
  · have e : (l.map fun a : Pp => ((.inl a.1 : Key), (PyData.bool true))).map Prod.fst = (l.map Prod.fst).map Sum.inl := by rw [List.map_map, List.map_map]; rfl
    rw [e]
    exact List.Pairwise.map _ (fun _ _ h z => h (Sum.inl.inj z)) hl.nd
def R_check_lineup (ds : List D) (d : D) : Prop := ∃ l, Lu l ∧ ds = [eL l] ∧ d = .none
abbrev s11 : Stmt := top 11
theorem fo_check_lineup (T : Txt K mg) {f : Addr} {fd : FuncData} (F : FnP K "check_lineup" s11 f fd) (hm : mg "check_lineup" = some (.ref f)) (c_is_lineup : Fo P w K mg base CX0 3 "is_lineup" (SpD R_is_lineup)) : Fo P w K mg base CX0 4 "check_lineup" (SpD R_check_lineup) := by
  have S : FnScope ["lineup"] ["lineup"] (defScope s11) := ⟨rfl, rfl, rfl, by decide +kernel, rfl, by decide +kernel, by decide +kernel⟩
  refine fo_mk F hm S (SpD.len (n := 1) (by first | (rintro _ _ ⟨rfl, _⟩; rfl) | (rintro _ _ ⟨_, rfl, _⟩; rfl) | (rintro _ _ ⟨_, _, rfl, _⟩; rfl) | (rintro _ _ ⟨_, _, _, rfl, _⟩; rfl) | (rintro _ _ ⟨_, _, _, _, rfl, _⟩; rfl) | (rintro _ _ ⟨_, _, _, _, _, rfl, _⟩; rfl) | (rintro _ _ ⟨_, _, _, _, _, _, rfl, _⟩; rfl) | (rintro _ _ ⟨_, _, _, _, _, _, _, rfl, _⟩; rfl) | (rintro _ _ ⟨_, _, _, _, _, _, _, _, rfl, _⟩; rfl) | (rintro _ _ ⟨_, _, _, _, _, _, _, _, _, rfl, _⟩; rfl) | (rintro _ _ ⟨_, _, _, _, _, _, _, _, _, _, rfl, _⟩; rfl))) (fun _ _ _ _ _ _ us hl => match us, hl with | [_], _ => rfl) fun cd A out s H E hg hr => ?_
  have nd := S.nd
  refine ⟨_, (pss_one (ps_if (pt_not (pt_val (pe_f c_is_lineup (by exact hg) (by exact hr) (by decide) pass0 (by rfl) (pa_cons (pv 0) pa_nil)))) (pss_one ps_never) pss_nil)), fun vs Q h => ?_⟩
  refine spD_body h ?_
  rintro B _ _ ⟨l, hl, rfl, rfl⟩
  exact w_if (t_not (t_test (d_call (a_cons (d_var rfl) a_nil) ⟨l, hl, rfl, rfl⟩))) (fun e => nomatch e) fun _ => w_next rfl
def R_check_calls (ds : List D) (d : D) : Prop := ∃ (cs : List Int) (n : Int), (∀ c ∈ cs, 0 ≤ c ∧ c < n) ∧ ds = [eI cs, .int n] ∧ d = .none
abbrev s13 : Stmt := top 13
theorem fo_check_calls (T : Txt K mg) {f : Addr} {fd : FuncData} (F : FnP K "check_calls" s13 f fd) (hm : mg "check_calls" = some (.ref f)) (c_is_integer_in : Fo P w K mg base CX0 1 "is_integer_in" (SpD R_is_integer_in)) : Fo P w K mg base CX0 2 "check_calls" (SpD R_check_calls) := by
  have S : FnScope ["calls", "people", "index", "person"] ["calls", "people"] (defScope s13) := ⟨rfl, rfl, rfl, by decide +kernel, rfl, by decide +kernel, by decide +kernel⟩
  refine fo_mk F hm S (SpD.len (n := 2) (by first | (rintro _ _ ⟨rfl, _⟩; rfl) | (rintro _ _ ⟨_, rfl, _⟩; rfl) | (rintro _ _ ⟨_, _, rfl, _⟩; rfl) | (rintro _ _ ⟨_, _, _, rfl, _⟩; rfl) | (rintro _ _ ⟨_, _, _, _, rfl, _⟩; rfl) | (rintro _ _ ⟨_, _, _, _, _, rfl, _⟩; rfl) | (rintro _ _ ⟨_, _, _, _, _, _, rfl, _⟩; rfl) | (rintro _ _ ⟨_, _, _, _, _, _, _, rfl, _⟩; rfl) | (rintro _ _ ⟨_, _, _, _, _, _, _, _, rfl, _⟩; rfl) | (rintro _ _ ⟨_, _, _, _, _, _, _, _, _, rfl, _⟩; rfl) | (rintro _ _ ⟨_, _, _, _, _, _, _, _, _, _, rfl, _⟩; rfl))) (fun _ _ _ _ _ _ us hl => match us, hl with | [_, _], _ => rfl) fun cd A out s H E hg hr => ?_
  have nd := S.nd
  refine ⟨_, (pss_cons (ps_if (pt_not (pt_val (pe_callB (kIsi (K := K) (by rfl)) (by rfl) T.b_isinstance (by decide +kernel) (pa_cons (pv 0) (pa_cons (pe_bltn (v := .ty "list") (by rfl) T.b_list (by decide +kernel) rfl) pa_nil))))) (pss_one ps_never) pss_nil)
      (pss_one (ps_for PassesOwn.never (by rfl) (kiEnum (K := K) (by rfl) (by rfl) T.b_enumerate (pa_cons (pv 0) pa_nil)) (kgTup (n := 2) (K := K) (by rfl) (by rfl) (pgs_cons (pg_name (i := 2) (by exact nd) (by rfl) (by first | exact Or.inl rfl | exact Or.inr rfl)) (pgs_cons (pg_name (i := 3) (by exact nd) (by rfl) (by first | exact Or.inl rfl | exact Or.inr rfl)) pgs_nil)))
      (pss_one (ps_if (pt_not (pt_val (pe_f c_is_integer_in (by exact hg) (by exact hr) (by decide) pass0 (by rfl) (pa_cons (pv 3) (pa_cons pe_int (pa_cons (pe_op op_sub (pv 1) pe_int) pa_nil)))))) (pss_one ps_never) pss_nil))))), fun vs Q h => ?_⟩
  refine spD_body h ?_
  rintro B _ _ ⟨cs, n, hc, rfl, rfl⟩
  refine w_ifS (b := false) ((t_not (t_B (d_isList (d_var rfl)))).is rfl) (fun e => nomatch e) fun _ => w_seqNext ?_
  refine w_for1 (fun _ Γ => Γ[0]? = some (.dat (eI cs)) ∧ Γ[1]? = some (.dat (.int n)) ∧ Γ.length = 4) (i_enum (a_cons (d_var rfl) a_nil)) ⟨rfl, rfl, rfl⟩ (fun i d Γ' e ⟨g0, g1, gl⟩ => ?_) fun _ _ => rfl
  rw [enumD_get, List.getElem?_map] at e
  cases e2 : cs[i]? with
  | none => rw [e2] at e; cases e
  | some c =>
    rw [e2] at e
    cases e
    have hm := hc c (List.mem_of_getElem? e2)
    have g1' : ((Γ'.set 2 (.dat (.int (i : Int)))).set 3 (.dat (.int c)))[1]? = some (.dat (.int n)) := by rw [List.getElem?_set_ne (by decide), List.getElem?_set_ne (by decide)]; exact g1
    have g0' : ((Γ'.set 2 (.dat (.int (i : Int)))).set 3 (.dat (.int c)))[0]? = some (.dat (eI cs)) := by rw [List.getElem?_set_ne (by decide), List.getElem?_set_ne (by decide)]; exact g0
    have g3 : ((Γ'.set 2 (.dat (.int (i : Int)))).set 3 (.dat (.int c)))[3]? = some (.dat (.int c)) := List.getElem?_set_self (by simp [gl])
    refine ⟨_, _, tg_pair 2 3 _ _, w_if (b := false) ((t_not (t_test (d_call (a_cons (d_var g3) (a_cons d_int (a_cons (d_op (d_var g1') d_int rs_sub) a_nil))) ⟨_, _, _, rfl, rfl⟩))).is ?_) (fun e => nomatch e) fun _ => w_next ⟨g0', g1', by simp [gl]⟩⟩
    rw [decide_eq_true hm.1, decide_eq_true (show c ≤ n - 1 by omega)]; rfl
def R_check_lineup_and_calls (ds : List D) (d : D) : Prop := ∃ (l : List Pp) (cs : List Int), Lu l ∧ Cs l cs ∧ ds = [eL l, eI cs] ∧ d = .none
abbrev s18 : Stmt := top 18
theorem fo_check_lineup_and_calls (T : Txt K mg) {f : Addr} {fd : FuncData} (F : FnP K "check_lineup_and_calls" s18 f fd) (hm : mg "check_lineup_and_calls" = some (.ref f)) (c_check_lineup : Fo P w K mg base CX0 4 "check_lineup" (SpD R_check_lineup)) (c_check_calls : Fo P w K mg base CX0 2 "check_calls" (SpD R_check_calls)) : Fo P w K mg base CX0 5 "check_lineup_and_calls" (SpD R_check_lineup_and_calls) := by
  have S : FnScope ["lineup", "calls"] ["lineup", "calls"] (defScope s18) := ⟨rfl, rfl, rfl, by decide +kernel, rfl, by decide +kernel, by decide +kernel⟩
  refine fo_mk F hm S (SpD.len (n := 2) (by first | (rintro _ _ ⟨rfl, _⟩; rfl) | (rintro _ _ ⟨_, rfl, _⟩; rfl) | (rintro _ _ ⟨_, _, rfl, _⟩; rfl) | (rintro _ _ ⟨_, _, _, rfl, _⟩; rfl) | (rintro _ _ ⟨_, _, _, _, rfl, _⟩; rfl) | (rintro _ _ ⟨_, _, _, _, _, rfl, _⟩; rfl) | (rintro _ _ ⟨_, _, _, _, _, _, rfl, _⟩; rfl) | (rintro _ _ ⟨_, _, _, _, _, _, _, rfl, _⟩; rfl) | (rintro _ _ ⟨_, _, _, _, _, _, _, _, rfl, _⟩; rfl) | (rintro _ _ ⟨_, _, _, _, _, _, _, _, _, rfl, _⟩; rfl) | (rintro _ _ ⟨_, _, _, _, _, _, _, _, _, _, rfl, _⟩; rfl))) (fun _ _ _ _ _ _ us hl => match us, hl with | [_, _], _ => rfl) fun cd A out s H E hg hr => ?_
  have nd := S.nd
  refine ⟨_, (pss_cons (ps_expr (pe_f c_check_lineup (by exact hg) (by exact hr) (by decide) pass0 (by rfl) (pa_cons (pv 0) pa_nil)))
      (pss_one (ps_expr (pe_f c_check_calls (by exact hg) (by exact hr) (by decide) pass0 (by rfl) (pa_cons (pv 1) (pa_cons (pe_callB (kLen (K := K) (by rfl)) (by rfl) T.b_len (by decide +kernel) (pa_cons (pv 0) pa_nil)) pa_nil)))))), fun vs Q h => ?_⟩
  refine spD_body h ?_
  rintro B _ _ ⟨l, cs, hl, hc, rfl, rfl⟩
  refine w_drop (d_call (a_cons (d_var rfl) a_nil) ⟨l, hl, rfl, rfl⟩) ?_
  have h := w_drop (B := B) (R := { nx := fun _ => PyData.none = PyData.none, rt := fun _ d' => d' = PyData.none, ro := fun _ o => ∃ es, o = .lst es ∧ PyData.none = .list es }) (tz := tNext) (d_call (E := E0) (R := R_check_calls) (a_cons (d_var (i := 1) (Γ := Γ0 ["lineup", "calls"] [eL l, eI cs]) rfl) (a_cons (d_len (K := K) (f := true) (ds := l.map eP) (d_var (i := 0) rfl)) a_nil)) ⟨cs, l.length, hc, by rw [eL_len], rfl⟩) (w_next rfl)
  exact h
def R_color_of (ds : List D) (d : D) : Prop := ∃ (l : List Pp) (i : Int), l.length ≤ 60 ∧ (∃ c, (i, c) ∈ l) ∧ ds = [eL l, .int i] ∧ d = .str (ch (colOf l i))
theorem colOf_at {l : List Pp} {i : Int} (h : ∃ c, (i, c) ∈ l) : atI ((l.filter fun a => decide (a.1 = i)).map fun a => PyData.str (ch a.2)) 0 = some (.str (ch (colOf l i))) := by
  unfold colOf
  have e : (l.find? fun q => decide (q.1 = i)) = (l.filter fun a => decide (a.1 = i))[0]? := by rw [← List.head?_filter, List.head?_eq_getElem?]
  rw [e]
  cases q : l.filter fun a => decide (a.1 = i) with
  | nil =>
    obtain ⟨c, hc⟩ := h
    have := List.filter_eq_nil_iff.mp q (i, c) hc
    simp at this
  | cons a r => exact at_nat (j := 0) rfl
abbrev s14 : Stmt := top 14
theorem fo_color_of (T : Txt K mg) {f : Addr} {fd : FuncData} (F : FnP K "color_of" s14 f fd) (hm : mg "color_of" = some (.ref f))  : Fo P w K mg base CX0 1 "color_of" (SpD R_color_of) := by
  have S : FnScope ["lineup", "person", "other", "color"] ["lineup", "person"] (defScope s14) := ⟨rfl, rfl, rfl, by decide +kernel, rfl, by decide +kernel, by decide +kernel⟩
  refine fo_mk F hm S (SpD.len (n := 2) (by first | (rintro _ _ ⟨rfl, _⟩; rfl) | (rintro _ _ ⟨_, rfl, _⟩; rfl) | (rintro _ _ ⟨_, _, rfl, _⟩; rfl) | (rintro _ _ ⟨_, _, _, rfl, _⟩; rfl) | (rintro _ _ ⟨_, _, _, _, rfl, _⟩; rfl) | (rintro _ _ ⟨_, _, _, _, _, rfl, _⟩; rfl) | (rintro _ _ ⟨_, _, _, _, _, _, rfl, _⟩; rfl) | (rintro _ _ ⟨_, _, _, _, _, _, _, rfl, _⟩; rfl) | (rintro _ _ ⟨_, _, _, _, _, _, _, _, rfl, _⟩; rfl) | (rintro _ _ ⟨_, _, _, _, _, _, _, _, _, rfl, _⟩; rfl) | (rintro _ _ ⟨_, _, _, _, _, _, _, _, _, _, rfl, _⟩; rfl))) (fun _ _ _ _ _ _ us hl => match us, hl with | [_, _], _ => rfl) fun cd A out s H E hg hr => ?_
  have nd := S.nd
  refine ⟨_, (pss_one (ps_ret (pe_ix (kIxL (K := K) (by rfl)) (pe_lc (own := [("other", 2), ("color", 3)]) (by rfl) (by exact nd) (kiList (K := K) (by rfl) (pv 0)) (blkOk_by (N := ["lineup", "person", "other", "color"]) (sc := (defScope s14)) (by decide +kernel)) (fun _ _ _ _ _ => (kgTup (n := 2) (K := K) (by rfl) (by rfl) (pgs_cons (pg_name (i := 2) (by exact nd) (by rfl) (by first | exact Or.inl rfl | exact Or.inr rfl)) (pgs_cons (pg_name (i := 3) (by exact nd) (by rfl) (by first | exact Or.inl rfl | exact Or.inr rfl)) pgs_nil)))) (fun _ _ _ _ _ => (pts_one (pt_cmpR op_eq (pv 2) (pv 1) (nomark _)))) (fun _ _ _ _ _ => (pv 3))) pe_int (fun _ _ => by rfl)))), fun vs Q h => ?_⟩
  refine spD_body h ?_
  rintro B _ _ ⟨l, i, hl, hi, rfl, rfl⟩
  exact w_ret (d_ixL (OEv.toL (o_lc (l := l) (enc := eP) (fun a => decide (a.1 = i)) (fun a => .str (ch a.2)) (i_list (d_var rfl)) (Nat.lt_of_le_of_lt hl (by decide)) fun a ha =>
    ⟨_, _, tg_pair _ _ _ _, by simp, t_test (d_op (d_var rfl) (d_var rfl) rs_eqI), fun _ => d_var rfl⟩)) d_int (colOf_at hi)) rfl
def R_color_to_take (ds : List D) (d : D) : Prop := ∃ (l : List Pp) (i : Int), l.length ≤ 60 ∧ (∃ c, (i, c) ∈ l) ∧ ds = [eL l, .int i] ∧ d = eO (takeC l i)
abbrev s15 : Stmt := top 15
theorem fo_color_to_take (T : Txt K mg) {f : Addr} {fd : FuncData} (F : FnP K "color_to_take" s15 f fd) (hm : mg "color_to_take" = some (.ref f)) (c_color_of : Fo P w K mg base CX0 1 "color_of" (SpD R_color_of)) : Fo P w K mg base CX0 2 "color_to_take" (SpD R_color_to_take) := by
  have S : FnScope ["lineup", "person", "own", "other", "color"] ["lineup", "person"] (defScope s15) := ⟨rfl, rfl, rfl, by decide +kernel, rfl, by decide +kernel, by decide +kernel⟩
  refine fo_mk F hm S (SpD.len (n := 2) (by first | (rintro _ _ ⟨rfl, _⟩; rfl) | (rintro _ _ ⟨_, rfl, _⟩; rfl) | (rintro _ _ ⟨_, _, rfl, _⟩; rfl) | (rintro _ _ ⟨_, _, _, rfl, _⟩; rfl) | (rintro _ _ ⟨_, _, _, _, rfl, _⟩; rfl) | (rintro _ _ ⟨_, _, _, _, _, rfl, _⟩; rfl) | (rintro _ _ ⟨_, _, _, _, _, _, rfl, _⟩; rfl) | (rintro _ _ ⟨_, _, _, _, _, _, _, rfl, _⟩; rfl) | (rintro _ _ ⟨_, _, _, _, _, _, _, _, rfl, _⟩; rfl) | (rintro _ _ ⟨_, _, _, _, _, _, _, _, _, rfl, _⟩; rfl) | (rintro _ _ ⟨_, _, _, _, _, _, _, _, _, _, rfl, _⟩; rfl))) (fun _ _ _ _ _ _ us hl => match us, hl with | [_, _], _ => rfl) fun cd A out s H E hg hr => ?_
  have nd := S.nd
  refine ⟨_, (pss_cons (ps_set (i := 2) (by exact nd) (by rfl) (by first | exact Or.inl rfl | exact Or.inr rfl) (pe_f c_color_of (by exact hg) (by exact hr) (by decide) pass0 (by rfl) (pa_cons (pv 0) (pa_cons (pv 1) pa_nil))))
      (pss_cons (ps_for PassesOwn.never (by rfl) (kiList (K := K) (by rfl) (pv 0)) (kgTup (n := 2) (K := K) (by rfl) (by rfl) (pgs_cons (pg_name (i := 3) (by exact nd) (by rfl) (by first | exact Or.inl rfl | exact Or.inr rfl)) (pgs_cons (pg_name (i := 4) (by exact nd) (by rfl) (by first | exact Or.inl rfl | exact Or.inr rfl)) pgs_nil)))
      (pss_one (ps_if (pt_cmpR op_ne (pv 4) (pv 2) (nomark _)) (pss_one (ps_ret (pv 4))) pss_nil)))
      (pss_one (ps_ret pe_non)))), fun vs Q h => ?_⟩
  refine spD_body h ?_
  rintro B _ _ ⟨l, i, hl, hi, rfl, rfl⟩
  refine w_asg 2 (d_call (a_cons (d_var rfl) (a_cons (d_var rfl) a_nil)) ⟨l, i, hl, hi, rfl, rfl⟩) ?_
  refine w_for (fun k Γ => Γ[2]? = some (.dat (.str (ch (colOf l i)))) ∧ Γ.length = 5 ∧ ∀ a ∈ l.take k, a.2 = colOf l i) (i_list (d_var rfl)) ⟨rfl, rfl, by simp⟩ (fun k d Γ' e ⟨g2, gl, hk⟩ => ?_) fun Γ' ⟨_, _, hk⟩ => ?_
  · rw [List.getElem?_map] at e
    cases e2 : l[k]? with
    | none => rw [e2] at e; cases e
    | some a =>
      rw [e2] at e
      cases e
      have hkl : k < l.length := (List.getElem?_eq_some_iff.mp e2).1
      have ea : l[k] = a := (List.getElem?_eq_some_iff.mp e2).2
      have g2' : ((Γ'.set 3 (.dat (.int a.1))).set 4 (.dat (.str (ch a.2))))[2]? = some (.dat (.str (ch (colOf l i)))) := by rw [List.getElem?_set_ne (by decide), List.getElem?_set_ne (by decide)]; exact g2
      have g4 : ((Γ'.set 3 (.dat (.int a.1))).set 4 (.dat (.str (ch a.2))))[4]? = some (.dat (.str (ch a.2))) := List.getElem?_set_self (by simp [gl])
      refine ⟨_, _, tg_pair 3 4 _ _, w_if (t_test (d_op (d_var g4) (d_var g2') rs_neS)) (fun h => w_ret (d_var g4) ?_) fun h => w_next ⟨g2', by simp [gl], ?_⟩⟩
      · rw [ch_dec] at h
        have hne : a.2 ≠ colOf l i := by simpa using h
        unfold takeC
        have : (l.find? fun q => decide (q.2 ≠ colOf l i)) = some a := by
          rw [List.find?_eq_some_iff_getElem]
          refine ⟨by simpa using hne, k, hkl, ea, fun j hj => ?_⟩
          have : l[j] ∈ l.take k := by
            rw [List.mem_take_iff_getElem]
            exact ⟨j, by omega, rfl⟩
          simpa using hk _ this
        rw [this]; rfl
      · rw [ch_dec] at h
        have he : a.2 = colOf l i := by simpa using h
        intro b hb
        rw [List.take_succ, e2] at hb
        rcases List.mem_append.mp hb with hb | hb
        · exact hk b hb
        · simp at hb; rw [hb]; exact he
  · refine w_ret d_non ?_
    rw [List.length_map, List.take_length] at hk
    unfold takeC
    rw [List.find?_eq_none.mpr fun a ha => by simpa using hk a ha]; rfl
def R_apply_call (ds : List D) (d : D) : Prop := ∃ (l : List Pp) (i : Int), l.length ≤ 60 ∧ (∃ c, (i, c) ∈ l) ∧ ds = [eL l, .int i] ∧ d = .tuple [eL (call1 l i), eO (takeC l i)]
theorem sc_eO : ∀ o : Option Nat, Sc (eO o)
  | none => trivial
  | some _ => trivial
abbrev s16 : Stmt := top 16
theorem fo_apply_call (T : Txt K mg) {f : Addr} {fd : FuncData} (F : FnP K "apply_call" s16 f fd) (hm : mg "apply_call" = some (.ref f)) (c_color_to_take : Fo P w K mg base CX0 2 "color_to_take" (SpD R_color_to_take)) (c_color_of : Fo P w K mg base CX0 1 "color_of" (SpD R_color_of)) : Fo P w K mg base CX0 3 "apply_call" (SpD R_apply_call) := by
  have S : FnScope ["lineup", "person", "new_color", "color", "entry"] ["lineup", "person"] (defScope s16) := ⟨rfl, rfl, rfl, by decide +kernel, rfl, by decide +kernel, by decide +kernel⟩
  refine fo_mk F hm S (SpD.len (n := 2) (by first | (rintro _ _ ⟨rfl, _⟩; rfl) | (rintro _ _ ⟨_, rfl, _⟩; rfl) | (rintro _ _ ⟨_, _, rfl, _⟩; rfl) | (rintro _ _ ⟨_, _, _, rfl, _⟩; rfl) | (rintro _ _ ⟨_, _, _, _, rfl, _⟩; rfl) | (rintro _ _ ⟨_, _, _, _, _, rfl, _⟩; rfl) | (rintro _ _ ⟨_, _, _, _, _, _, rfl, _⟩; rfl) | (rintro _ _ ⟨_, _, _, _, _, _, _, rfl, _⟩; rfl) | (rintro _ _ ⟨_, _, _, _, _, _, _, _, rfl, _⟩; rfl) | (rintro _ _ ⟨_, _, _, _, _, _, _, _, _, rfl, _⟩; rfl) | (rintro _ _ ⟨_, _, _, _, _, _, _, _, _, _, rfl, _⟩; rfl))) (fun _ _ _ _ _ _ us hl => match us, hl with | [_, _], _ => rfl) fun cd A out s H E hg hr => ?_
  have nd := S.nd
  refine ⟨_, (pss_cons (ps_set (i := 2) (by exact nd) (by rfl) (by first | exact Or.inl rfl | exact Or.inr rfl) (pe_f c_color_to_take (by exact hg) (by exact hr) (by decide) pass0 (by rfl) (pa_cons (pv 0) (pa_cons (pv 1) pa_nil))))
      (pss_cons (ps_set (i := 3) (by exact nd) (by rfl) (by first | exact Or.inl rfl | exact Or.inr rfl) (pe_ifExp (pt_cmpR op_isN (pv 2) pe_non (nomark _)) (pe_f c_color_of (by exact hg) (by exact hr) (by decide) pass0 (by rfl) (pa_cons (pv 0) (pa_cons (pv 1) pa_nil))) (pv 2)))
      (pss_one (ps_ret (pe_tup (pa_cons (pe_op op_cat (pe_lst (pa_cons (pe_tup (pa_cons (pv 1) (pa_cons (pv 3) pa_nil))) pa_nil)) (pe_lc (own := [("entry", 4)]) (by rfl) (by exact nd) (kiList (K := K) (by rfl) (pv 0)) (blkOk_by (N := ["lineup", "person", "new_color", "color", "entry"]) (sc := (defScope s16)) (by decide +kernel)) (fun _ _ _ _ _ => (pg_name (i := 4) (by exact nd) (by rfl) (by first | exact Or.inl rfl | exact Or.inr rfl))) (fun _ _ _ _ _ => (pts_one (pt_cmpR op_ne (pe_ix (kIxT (K := K) (by rfl)) (pv 4) pe_int (fun _ _ => by rfl)) (pv 1) (nomark _)))) (fun _ _ _ _ _ => (pv 4)))) (pa_cons (pv 2) pa_nil))))))), fun vs Q h => ?_⟩
  refine spD_body h ?_
  rintro B _ _ ⟨l, i, hl, hi, rfl, rfl⟩
  have hs : l.length < sizeLine := Nat.lt_of_le_of_lt hl (by decide)
  refine w_asg 2 (d_call (a_cons (d_var rfl) (a_cons (d_var rfl) a_nil)) ⟨l, i, hl, hi, rfl, rfl⟩) ?_
  refine w_asg 3 ((d_if (t_test (d_op (d_var rfl) d_non (rs_isN (sc_eO _)))) (fun _ => d_call (a_cons (d_var rfl) (a_cons (d_var rfl) a_nil)) ⟨l, i, hl, hi, rfl, rfl⟩) fun _ => d_var rfl).is (d1 := .str (ch ((takeC l i).getD (colOf l i)))) ?_) ?_
  · cases takeC l i <;> rfl
  refine w_ret (d_tup (a_cons (OEv.toD (o_cat (OEv.toL (o_lst (a_cons (d_tup (a_cons (d_var rfl) (a_cons (d_var rfl) a_nil)) two_le) a_nil) one_le)) (OEv.toL (o_lc (l := l) (enc := eP) (fun a => decide (a.1 ≠ i)) (fun a => eP a) (i_list (d_var rfl)) hs fun a ha =>
    ⟨_, _, tg_name _ _, by simp, (t_test (d_op (d_ixT (d_var rfl) d_int rfl) (d_var rfl) rs_neI)).is (by simp), fun _ => d_var rfl⟩)) ?_)) (a_cons (d_var rfl) a_nil)) two_le) ?_
  · have := List.length_filter_le (fun a : Pp => decide (a.1 ≠ i)) l
    simp only [List.length_map, List.length_cons, List.length_nil]
    have : (60 : Nat) + 1 ≤ sizeLine := by decide
    omega
  · rfl
def R_apply_calls (ds : List D) (d : D) : Prop := ∃ (l : List Pp) (cs : List Int), Lu l ∧ Cs l cs ∧ cs.length ≤ 10 ^ 6 ∧ ds = [eL l, eI cs] ∧ d = .tuple [eL (run l cs), .list ((takes l cs).map eO)]
theorem takes_snoc : ∀ (cs : List Int) (l : List Pp) (c : Int), takes l (cs ++ [c]) = takes l cs ++ [takeC (run l cs) c]
  | [], _, _ => rfl
  | d :: cs, l, c => by
    show takeC l d :: takes (call1 l d) (cs ++ [c]) = takeC l d :: (takes (call1 l d) cs ++ [takeC (run (call1 l d) cs) c])
    rw [takes_snoc cs]
theorem takes_length : ∀ (cs : List Int) (l : List Pp), (takes l cs).length = cs.length
  | [], _ => rfl
  | d :: cs, l => by show (takes (call1 l d) cs).length + 1 = _; rw [takes_length cs]; rfl
abbrev s17 : Stmt := top 17
theorem fo_apply_calls (T : Txt K mg) {f : Addr} {fd : FuncData} (F : FnP K "apply_calls" s17 f fd) (hm : mg "apply_calls" = some (.ref f)) (c_apply_call : Fo P w K mg base CX0 3 "apply_call" (SpD R_apply_call)) : Fo P w K mg base CX0 4 "apply_calls" (SpD R_apply_calls) := by
  have S : FnScope ["lineup", "calls", "current", "colors", "person", "color"] ["lineup", "calls"] (defScope s17) := ⟨rfl, rfl, rfl, by decide +kernel, rfl, by decide +kernel, by decide +kernel⟩
  refine fo_mk F hm S (SpD.len (n := 2) (by first | (rintro _ _ ⟨rfl, _⟩; rfl) | (rintro _ _ ⟨_, rfl, _⟩; rfl) | (rintro _ _ ⟨_, _, rfl, _⟩; rfl) | (rintro _ _ ⟨_, _, _, rfl, _⟩; rfl) | (rintro _ _ ⟨_, _, _, _, rfl, _⟩; rfl) | (rintro _ _ ⟨_, _, _, _, _, rfl, _⟩; rfl) | (rintro _ _ ⟨_, _, _, _, _, _, rfl, _⟩; rfl) | (rintro _ _ ⟨_, _, _, _, _, _, _, rfl, _⟩; rfl) | (rintro _ _ ⟨_, _, _, _, _, _, _, _, rfl, _⟩; rfl) | (rintro _ _ ⟨_, _, _, _, _, _, _, _, _, rfl, _⟩; rfl) | (rintro _ _ ⟨_, _, _, _, _, _, _, _, _, _, rfl, _⟩; rfl))) (fun _ _ _ _ _ _ us hl => match us, hl with | [_, _], _ => rfl) fun cd A out s H E hg hr => ?_
  have nd := S.nd
  refine ⟨_, (pss_cons (ps_set (i := 2) (by exact nd) (by rfl) (by first | exact Or.inl rfl | exact Or.inr rfl) (pe_callTy (kListOf (K := K) (by rfl)) (by rfl) T.b_list (by decide +kernel) (pa_cons (pv 0) pa_nil)))
      (pss_cons (ps_set (i := 3) (by exact nd) (by rfl) (by first | exact Or.inl rfl | exact Or.inr rfl) (pe_lst pa_nil))
      (pss_cons (ps_for PassesOwn.never (by rfl) (kiList (K := K) (by rfl) (pv 1)) (pg_name (i := 4) (by exact nd) (by rfl) (by first | exact Or.inl rfl | exact Or.inr rfl))
      (pss_cons (ps_asg (pe_f c_apply_call (by exact hg) (by exact hr) (by decide) pass0 (by rfl) (pa_cons (pv 2) (pa_cons (pv 4) pa_nil))) (kgTup (n := 2) (K := K) (by rfl) (by rfl) (pgs_cons (pg_name (i := 2) (by exact nd) (by rfl) (by first | exact Or.inl rfl | exact Or.inr rfl)) (pgs_cons (pg_name (i := 5) (by exact nd) (by rfl) (by first | exact Or.inl rfl | exact Or.inr rfl)) pgs_nil))))
      (pss_one (ps_expr (kBm (K := K) (by rfl) PySem.F.plainAttrs_list PySem.F.slot_list_append PySem.F.type_list_append mt_append (pv 3) (pa_cons (pv 5) pa_nil))))))
      (pss_one (ps_ret (pe_tup (pa_cons (pv 2) (pa_cons (pv 3) pa_nil)))))))), fun vs Q h => ?_⟩
  refine spD_body h ?_
  rintro B _ _ ⟨l, cs, hl, hc, hcl, rfl, rfl⟩
  refine w_asg 2 (OEv.toD (o_list (Ev.toL (d_var rfl)))) ?_
  refine w_asgO 3 (o_lst a_nil (by decide)) ?_
  refine w_for (fun k Γ => Γ[1]? = some (.dat (eI cs)) ∧ Γ[2]? = some (.dat (eL (run l (cs.take k)))) ∧ Γ[3]? = some (.own (.lst ((takes l (cs.take k)).map eO))) ∧ Γ.length = 6) (i_list (d_var rfl)) ⟨rfl, rfl, rfl, rfl⟩ (fun k d Γ' e ⟨g1, g2, g3, gl⟩ => ?_) fun Γ' ⟨_, g2, g3, gl⟩ => ?_
  · rw [List.getElem?_map] at e
    cases e2 : cs[k]? with
    | none => rw [e2] at e; cases e
    | some c =>
      rw [e2] at e
      cases e
      have hcm := hc c (List.mem_of_getElem? e2)
      have hk := run_lu (cs := cs.take k) hl fun x hx => hc x (List.mem_of_mem_take hx)
      have tk : cs.take (k + 1) = cs.take k ++ [c] := by rw [List.take_succ, e2]; rfl
      match Γ', gl, g1, g2, g3 with
      | [a0, a1, a2, a3, a4, a5], _, g1, g2, g3 =>
      cases g1; cases g2; cases g3
      refine ⟨_, _, tg_name 4 _, ?_⟩
      refine w_asg2 2 5 (by decide) (d_call (a_cons (d_var rfl) (a_cons (d_var rfl) a_nil)) ⟨run l (cs.take k), c, by rw [hk.2]; exact hl.sixty, hk.1.has hcm.1 (by rw [hk.2]; exact hcm.2), rfl, rfl⟩) ?_
      refine w_append1 3 rfl (d_var rfl) ?_ ⟨rfl, ?_, ?_, rfl⟩
      · rw [List.length_map, takes_length, List.length_take]
        have : (10 : Nat) ^ 6 < sizeLine := by decide
        omega
      · rw [tk, run_append]; rfl
      · rw [tk, takes_snoc, List.map_append]; rfl
  · rw [List.length_map, List.take_length] at g2 g3
    refine w_freeze 3 g3 ?_
    have g2' : (Γ'.set 3 (.dat (.list ((takes l cs).map eO))))[2]? = some (.dat (eL (run l cs))) := by rw [List.getElem?_set_ne (by decide)]; exact g2
    have g3' : (Γ'.set 3 (.dat (.list ((takes l cs).map eO))))[3]? = some (.dat (.list ((takes l cs).map eO))) := List.getElem?_set_self (by simp [gl])
    exact w_ret (d_tup (a_cons (d_var g2') (a_cons (d_var g3') a_nil)) two_le) rfl
def R_lineup_after (ds : List D) (d : D) : Prop := ∃ (l : List Pp) (cs : List Int), Lu l ∧ Cs l cs ∧ cs.length ≤ 10 ^ 6 ∧ ds = [eL l, eI cs] ∧ d = eL (run l cs)
abbrev s19 : Stmt := top 19
theorem fo_lineup_after (T : Txt K mg) {f : Addr} {fd : FuncData} (F : FnP K "lineup_after" s19 f fd) (hm : mg "lineup_after" = some (.ref f)) (c_check_lineup_and_calls : Fo P w K mg base CX0 5 "check_lineup_and_calls" (SpD R_check_lineup_and_calls)) (c_apply_calls : Fo P w K mg base CX0 4 "apply_calls" (SpD R_apply_calls)) : Fo P w K mg base CX0 6 "lineup_after" (SpD R_lineup_after) := by
  have S : FnScope ["lineup", "calls"] ["lineup", "calls"] (defScope s19) := ⟨rfl, rfl, rfl, by decide +kernel, rfl, by decide +kernel, by decide +kernel⟩
  refine fo_mk F hm S (SpD.len (n := 2) (by first | (rintro _ _ ⟨rfl, _⟩; rfl) | (rintro _ _ ⟨_, rfl, _⟩; rfl) | (rintro _ _ ⟨_, _, rfl, _⟩; rfl) | (rintro _ _ ⟨_, _, _, rfl, _⟩; rfl) | (rintro _ _ ⟨_, _, _, _, rfl, _⟩; rfl) | (rintro _ _ ⟨_, _, _, _, _, rfl, _⟩; rfl) | (rintro _ _ ⟨_, _, _, _, _, _, rfl, _⟩; rfl) | (rintro _ _ ⟨_, _, _, _, _, _, _, rfl, _⟩; rfl) | (rintro _ _ ⟨_, _, _, _, _, _, _, _, rfl, _⟩; rfl) | (rintro _ _ ⟨_, _, _, _, _, _, _, _, _, rfl, _⟩; rfl) | (rintro _ _ ⟨_, _, _, _, _, _, _, _, _, _, rfl, _⟩; rfl))) (fun _ _ _ _ _ _ us hl => match us, hl with | [_, _], _ => rfl) fun cd A out s H E hg hr => ?_
  have nd := S.nd
  refine ⟨_, (pss_cons (ps_expr (pe_f c_check_lineup_and_calls (by exact hg) (by exact hr) (by decide) pass0 (by rfl) (pa_cons (pv 0) (pa_cons (pv 1) pa_nil))))
      (pss_one (ps_ret (pe_ix (kIxT (K := K) (by rfl)) (pe_f c_apply_calls (by exact hg) (by exact hr) (by decide) pass0 (by rfl) (pa_cons (pv 0) (pa_cons (pv 1) pa_nil))) pe_int (fun _ _ => by rfl))))), fun vs Q h => ?_⟩
  refine spD_body h ?_
  rintro B _ _ ⟨l, cs, hl, hc, hcl, rfl, rfl⟩
  refine w_drop (d_call (a_cons (d_var rfl) (a_cons (d_var rfl) a_nil)) ⟨l, cs, hl, hc, rfl, rfl⟩) ?_
  exact w_ret (d_ixT (d_call (a_cons (d_var rfl) (a_cons (d_var rfl) a_nil)) ⟨l, cs, hl, hc, hcl, rfl, rfl⟩) d_int rfl) rfl
def R_lineups_by_moment (ds : List D) (d : D) : Prop := ∃ (l : List Pp) (cs : List Int), Lu l ∧ Cs l cs ∧ cs.length ≤ 10 ^ 4 ∧ ds = [eL l, eI cs] ∧ d = .list ((hist l cs).map eL)
theorem hist_last_eL (l : List Pp) (cs : List Int) : ((hist l cs).map eL).getLast? = some (eL (run l cs)) := by rw [List.getLast?_map, hist_last]; rfl
abbrev s21 : Stmt := top 21
theorem fo_lineups_by_moment (T : Txt K mg) {f : Addr} {fd : FuncData} (F : FnP K "lineups_by_moment" s21 f fd) (hm : mg "lineups_by_moment" = some (.ref f)) (c_lineup_after : Fo P w K mg base CX0 6 "lineup_after" (SpD R_lineup_after)) : Fo P w K mg base CX0 7 "lineups_by_moment" (SpD R_lineups_by_moment) := by
  have S : FnScope ["lineup", "calls", "found", "person"] ["lineup", "calls"] (defScope s21) := ⟨rfl, rfl, rfl, by decide +kernel, rfl, by decide +kernel, by decide +kernel⟩
  refine fo_mk F hm S (SpD.len (n := 2) (by first | (rintro _ _ ⟨rfl, _⟩; rfl) | (rintro _ _ ⟨_, rfl, _⟩; rfl) | (rintro _ _ ⟨_, _, rfl, _⟩; rfl) | (rintro _ _ ⟨_, _, _, rfl, _⟩; rfl) | (rintro _ _ ⟨_, _, _, _, rfl, _⟩; rfl) | (rintro _ _ ⟨_, _, _, _, _, rfl, _⟩; rfl) | (rintro _ _ ⟨_, _, _, _, _, _, rfl, _⟩; rfl) | (rintro _ _ ⟨_, _, _, _, _, _, _, rfl, _⟩; rfl) | (rintro _ _ ⟨_, _, _, _, _, _, _, _, rfl, _⟩; rfl) | (rintro _ _ ⟨_, _, _, _, _, _, _, _, _, rfl, _⟩; rfl) | (rintro _ _ ⟨_, _, _, _, _, _, _, _, _, _, rfl, _⟩; rfl))) (fun _ _ _ _ _ _ us hl => match us, hl with | [_, _], _ => rfl) fun cd A out s H E hg hr => ?_
  have nd := S.nd
  refine ⟨_, (pss_cons (ps_expr (pe_f c_lineup_after (by exact hg) (by exact hr) (by decide) pass0 (by rfl) (pa_cons (pv 0) (pa_cons (pv 1) pa_nil))))
      (pss_cons (ps_set (i := 2) (by exact nd) (by rfl) (by first | exact Or.inl rfl | exact Or.inr rfl) (pe_lst (pa_cons (pe_f c_lineup_after (by exact hg) (by exact hr) (by decide) pass0 (by rfl) (pa_cons (pv 0) (pa_cons (pe_lst pa_nil) pa_nil))) pa_nil)))
      (pss_cons (ps_for PassesOwn.never (by rfl) (kiList (K := K) (by rfl) (pv 1)) (pg_name (i := 3) (by exact nd) (by rfl) (by first | exact Or.inl rfl | exact Or.inr rfl))
      (pss_one (ps_expr (kBm (K := K) (by rfl) PySem.F.plainAttrs_list PySem.F.slot_list_append PySem.F.type_list_append mt_append (pv 2) (pa_cons (pe_f c_lineup_after (by exact hg) (by exact hr) (by decide) pass0 (by rfl) (pa_cons (pe_ix (kIxL (K := K) (by rfl)) (pv 2) (pe_un un_neg pe_int) (fun _ _ => by rfl)) (pa_cons (pe_lst (pa_cons (pv 3) pa_nil)) pa_nil))) pa_nil)))))
      (pss_one (ps_ret (pv 2)))))), fun vs Q h => ?_⟩
  refine spD_body h ?_
  rintro B _ _ ⟨l, cs, hl, hc, hcl, rfl, rfl⟩
  refine w_drop (d_call (a_cons (d_var rfl) (a_cons (d_var rfl) a_nil)) ⟨l, cs, hl, hc, by omega, rfl, rfl⟩) ?_
  refine w_asgO 2 (o_lst (a_cons (d_call (a_cons (d_var rfl) (a_cons (OEv.toD (o_lst a_nil (Nat.zero_le _))) a_nil)) ⟨l, [], hl, (fun _ h => by cases h), by decide, rfl, rfl⟩) a_nil) one_le) ?_
  refine w_for (fun k Γ => Γ[1]? = some (.dat (eI cs)) ∧ Γ[2]? = some (.own (.lst ((hist l (cs.take k)).map eL))) ∧ Γ.length = 4) (i_list (d_var rfl)) ⟨rfl, rfl, rfl⟩ (fun k d Γ' e ⟨g1, g2, gl⟩ => ?_) fun Γ' ⟨_, g2, gl⟩ => ?_
  · rw [List.getElem?_map] at e
    cases e2 : cs[k]? with
    | none => rw [e2] at e; cases e
    | some c =>
      rw [e2] at e
      cases e
      have hcm := hc c (List.mem_of_getElem? e2)
      have hk := run_lu (cs := cs.take k) hl (hc.take k)
      have tk : cs.take (k + 1) = cs.take k ++ [c] := by rw [List.take_succ, e2]; rfl
      match Γ', gl, g1, g2 with
      | [a0, a1, a2, a3], _, g1, g2 =>
      cases g1; cases g2
      refine ⟨_, _, tg_name 3 _, ?_⟩
      refine w_append1 2 rfl (d_call (a_cons (d_ixL (l_own rfl) (d_neg d_int) (at_last (hist_last_eL _ _))) (a_cons (OEv.toD (o_lst (a_cons (d_var rfl) a_nil) one_le)) a_nil)) ⟨run l (cs.take k), [c], hk.1, ?_, (show 1 ≤ 10 ^ 6 by decide), rfl, rfl⟩) ?_ ⟨rfl, ?_, rfl⟩
      · intro x hx
        simp at hx
        rw [hx, hk.2]; exact hcm
      · rw [List.length_map, hist_length, List.length_take]
        have : (10 : Nat) ^ 5 < sizeLine := by decide
        omega
      · rw [tk, hist_snoc, List.map_append]; rfl
  · rw [List.length_map, List.take_length] at g2
    exact w_retV 2 g2 ⟨_, rfl, rfl⟩
def R_called_sides (ds es fs : List D) : Prop := ∃ (l : List Pp) (cs : List Int), Lu l ∧ Cs l cs ∧ cs.length ≤ 10 ^ 4 ∧ ds = [eL l, eI cs] ∧ es = (sameL l cs).map .int ∧ fs = (othL l cs).map .int
abbrev s22 : Stmt := top 22
theorem fo_called_sides (T : Txt K mg) {f : Addr} {fd : FuncData} (F : FnP K "called_sides" s22 f fd) (hm : mg "called_sides" = some (.ref f)) (c_lineups_by_moment : Fo P w K mg base CX0 7 "lineups_by_moment" (SpD R_lineups_by_moment)) : Fo P w K mg base CX0 8 "called_sides" (SpTwo R_called_sides) := by
  have S : FnScope ["lineup", "calls", "there", "color_at_front", "same", "others", "person", "color"] ["lineup", "calls"] (defScope s22) := ⟨rfl, rfl, rfl, by decide +kernel, rfl, by decide +kernel, by decide +kernel⟩
  refine fo_mk F hm S (SpTwo.len (n := 2) (by first | (rintro _ _ _ ⟨rfl, _⟩; rfl) | (rintro _ _ _ ⟨_, rfl, _⟩; rfl) | (rintro _ _ _ ⟨_, _, rfl, _⟩; rfl) | (rintro _ _ _ ⟨_, _, _, rfl, _⟩; rfl) | (rintro _ _ _ ⟨_, _, _, _, rfl, _⟩; rfl) | (rintro _ _ _ ⟨_, _, _, _, _, rfl, _⟩; rfl) | (rintro _ _ _ ⟨_, _, _, _, _, _, rfl, _⟩; rfl) | (rintro _ _ _ ⟨_, _, _, _, _, _, _, rfl, _⟩; rfl) | (rintro _ _ _ ⟨_, _, _, _, _, _, _, _, rfl, _⟩; rfl) | (rintro _ _ _ ⟨_, _, _, _, _, _, _, _, _, rfl, _⟩; rfl) | (rintro _ _ _ ⟨_, _, _, _, _, _, _, _, _, _, rfl, _⟩; rfl))) (fun _ _ _ _ _ _ us hl => match us, hl with | [_, _], _ => rfl) fun cd A out s H E hg hr => ?_
  have nd := S.nd
  refine ⟨_, (pss_cons (ps_set (i := 2) (by exact nd) (by rfl) (by first | exact Or.inl rfl | exact Or.inr rfl) (pe_ix (kIxL (K := K) (by rfl)) (pe_f c_lineups_by_moment (by exact hg) (by exact hr) (by decide) pass0 (by rfl) (pa_cons (pv 0) (pa_cons (pv 1) pa_nil))) (pe_un un_neg pe_int) (fun _ _ => by rfl)))
      (pss_cons (ps_set (i := 3) (by exact nd) (by rfl) (by first | exact Or.inl rfl | exact Or.inr rfl) (pe_ix (kIxT (K := K) (by rfl)) (pe_ix (kIxL (K := K) (by rfl)) (pv 2) pe_int (fun _ _ => by rfl)) pe_int (fun _ _ => by rfl)))
      (pss_cons (ps_set (i := 4) (by exact nd) (by rfl) (by first | exact Or.inl rfl | exact Or.inr rfl) (pe_callB (kSortedI (K := K) (by rfl)) (by rfl) T.b_sorted (by decide +kernel) (pa_cons (pe_lc (own := [("person", 6), ("color", 7)]) (by rfl) (by exact nd) (kiList (K := K) (by rfl) (pv 2)) (blkOk_by (N := ["lineup", "calls", "there", "color_at_front", "same", "others", "person", "color"]) (sc := (defScope s22)) (by decide +kernel)) (fun _ _ _ _ _ => (kgTup (n := 2) (K := K) (by rfl) (by rfl) (pgs_cons (pg_name (i := 6) (by exact nd) (by rfl) (by first | exact Or.inl rfl | exact Or.inr rfl)) (pgs_cons (pg_name (i := 7) (by exact nd) (by rfl) (by first | exact Or.inl rfl | exact Or.inr rfl)) pgs_nil)))) (fun _ _ _ _ _ => (pts_one (PW.pt (pw_and (pt_cmpR (kIn (K := K) (by rfl)) (pv 6) (pv 1) (by rfl)) (pw_and1 (pt_cmpR op_eq (pv 7) (pv 3) (nomark _))))))) (fun _ _ _ _ _ => (pv 6))) pa_nil)))
      (pss_cons (ps_set (i := 5) (by exact nd) (by rfl) (by first | exact Or.inl rfl | exact Or.inr rfl) (pe_callB (kSortedI (K := K) (by rfl)) (by rfl) T.b_sorted (by decide +kernel) (pa_cons (pe_lc (own := [("person", 6), ("color", 7)]) (by rfl) (by exact nd) (kiList (K := K) (by rfl) (pv 2)) (blkOk_by (N := ["lineup", "calls", "there", "color_at_front", "same", "others", "person", "color"]) (sc := (defScope s22)) (by decide +kernel)) (fun _ _ _ _ _ => (kgTup (n := 2) (K := K) (by rfl) (by rfl) (pgs_cons (pg_name (i := 6) (by exact nd) (by rfl) (by first | exact Or.inl rfl | exact Or.inr rfl)) (pgs_cons (pg_name (i := 7) (by exact nd) (by rfl) (by first | exact Or.inl rfl | exact Or.inr rfl)) pgs_nil)))) (fun _ _ _ _ _ => (pts_one (PW.pt (pw_and (pt_cmpR (kIn (K := K) (by rfl)) (pv 6) (pv 1) (by rfl)) (pw_and1 (pt_cmpR op_ne (pv 7) (pv 3) (nomark _))))))) (fun _ _ _ _ _ => (pv 6))) pa_nil)))
      (pss_one (ps_ret (pe_tup (pa_cons (pv 4) (pa_cons (pv 5) pa_nil))))))))), fun vs Q h => ?_⟩
  refine spTwo_body h ?_
  rintro B _ _ _ ⟨l, cs, hl, hc, hcl, rfl, rfl, rfl⟩
  have hr := run_lu hl hc
  have hs : (run l cs).length < sizeLine := Nat.lt_of_le_of_lt hr.1.sixty (by decide)
  refine w_asg 2 (d_ixL (Ev.toL (d_call (a_cons (d_var rfl) (a_cons (d_var rfl) a_nil)) ⟨l, cs, hl, hc, hcl, rfl, rfl⟩)) (d_neg d_int) (at_last (hist_last_eL l cs))) ?_
  obtain ⟨p, hp, ep⟩ := frontC_at hr.1
  refine w_asg 3 (d_ixT (d_ixL (Ev.toL (d_var rfl)) d_int hp) d_int rfl) ?_
  rw [ep]
  refine w_asgO 4 (o_sortedI (OEv.toL (OEv.is (o_lc (l := run l cs) (enc := eP) (fun a => decide (a.1 ∈ cs) && decide (a.2 = frontC (run l cs))) (fun a => .int a.1) (i_list (d_var rfl)) hs fun a ha =>
    ⟨_, _, tg_pair _ _ _ _, by simp, t_and (t_test (d_op (d_var rfl) (d_var rfl) rs_inI)) (fun _ => (t_test (d_op (d_var rfl) (d_var rfl) rs_eqS)).is (ch_dec _ _)), fun _ => d_var rfl⟩) (by rw [List.map_map]; rfl)))) ?_
  refine w_asgO 5 (o_sortedI (OEv.toL (OEv.is (o_lc (l := run l cs) (enc := eP) (fun a => decide (a.1 ∈ cs) && !decide (a.2 = frontC (run l cs))) (fun a => .int a.1) (i_list (d_var rfl)) hs fun a ha =>
    ⟨_, _, tg_pair _ _ _ _, by simp, t_and (t_test (d_op (d_var rfl) (d_var rfl) rs_inI)) (fun _ => (t_test (d_op (d_var rfl) (d_var rfl) rs_neS)).is (by rw [ch_dec])), fun _ => d_var rfl⟩) (by rw [List.map_map]; rfl)))) ?_
  exact w_ret2 4 5 (by decide) rfl rfl ⟨rfl, rfl⟩
/-- data of depth at most n, no truth values, no dicts -/
def Eqb : Nat → D → Prop
  | 0, _ => False
  | _ + 1, .none => True
  | _ + 1, .int _ => True
  | _ + 1, .str _ => True
  | n + 1, .list ds => (∀ d ∈ ds, Eqb n d) ∧ ds.length < sizeLine
  | n + 1, .tuple ds => (∀ d ∈ ds, Eqb n d) ∧ ds.length < sizeLine
  | _ + 1, _ => False
def R__law_equal (n : Nat) (ds : List D) (d : D) : Prop := ∃ x, ds = [x, x] ∧ Eqb n x ∧ SeqAt.shaped x = true ∧ d = .bool true
theorem R__law_equal_0 (ds : List D) (d : D) : ¬ R__law_equal 0 ds d := fun ⟨_, _, h, _⟩ => h
theorem zipD_self (ds : List D) : zipD ds ds = ds.map fun d => .tuple [d, d] := by
  unfold zipD
  induction ds with
  | nil => rfl
  | cons d ds ih => rw [List.zipWith_cons_cons, ih]; rfl
theorem eqv_sc : ∀ x : D, (∀ ds, x ≠ .list ds) → (∀ ds, x ≠ .tuple ds) → (∀ ds, x ≠ .dict ds) → PyData.eqv x x = true
  | .none, _, _, _ => by simp [PyData.eqv]
  | .bool b, _, _, _ => by simp [PyData.eqv]
  | .int i, _, _, _ => by simp [PyData.eqv]
  | .str x, _, _, _ => by simp [PyData.eqv]
  | .list ds, h, _, _ => absurd rfl (h ds)
  | .tuple ds, _, h, _ => absurd rfl (h ds)
  | .dict ds, _, _, h => absurd rfl (h ds)
theorem canLay_mem : ∀ {ds : List D}, PyData.canLayAll0 ds = true → ∀ d ∈ ds, d.canLay0 = true
  | [], _, d, h => by cases h
  | a :: ds, h, d, hd => by
    simp only [PyData.canLayAll0, Bool.and_eq_true] at h
    rcases List.mem_cons.mp hd with rfl | hd
    · exact h.1
    · exact canLay_mem h.2 d hd
theorem depth_mem : ∀ {ds : List D}, ∀ d ∈ ds, d.depth ≤ PyData.depthAll ds
  | [], d, h => by cases h
  | a :: ds, d, hd => by
    simp only [PyData.depthAll]
    rcases List.mem_cons.mp hd with rfl | hd
    · exact Nat.le_max_left _ _
    · exact Nat.le_trans (depth_mem d hd) (Nat.le_max_right _ _)
theorem shaped_list {ds : List D} (h : SeqAt.shaped (.list ds) = true) : ∀ d ∈ ds, SeqAt.shaped d = true := fun d hd => by
  have h1 := SeqAt.canLay_of_shaped h
  have h2 := SeqAt.depth_of_shaped h
  simp only [PyData.canLay0] at h1
  simp only [PyData.depth] at h2
  have := depth_mem d hd
  exact sh_of (canLay_mem h1 d hd) (by omega)
theorem shaped_tuple {ds : List D} (h : SeqAt.shaped (.tuple ds) = true) : ∀ d ∈ ds, SeqAt.shaped d = true := fun d hd => by
  have h1 := SeqAt.canLay_of_shaped h
  have h2 := SeqAt.depth_of_shaped h
  simp only [PyData.canLay0] at h1
  simp only [PyData.depth] at h2
  have := depth_mem d hd
  exact sh_of (canLay_mem h1 d hd) (by omega)
abbrev s30 : Stmt := top 30
theorem fo__law_equal_step (T : Txt K mg) {f : Addr} {fd : FuncData} (F : FnP K "_law_equal" s30 f fd) (hm : mg "_law_equal" = some (.ref f)) (j n : Nat) (c__law_equal : Fo P w K mg base CX0 j "_law_equal" (SpD (R__law_equal n))) : Fo P w K mg base CX0 (j + 1) "_law_equal" (SpD (R__law_equal (n + 1))) := by
  have S : FnScope ["found", "due", "one", "other"] ["found", "due"] (defScope s30) := ⟨rfl, rfl, rfl, by decide +kernel, rfl, by decide +kernel, by decide +kernel⟩
  refine fo_mk F hm S (SpD.len (n := 2) (by first | (rintro _ _ ⟨rfl, _⟩; rfl) | (rintro _ _ ⟨_, rfl, _⟩; rfl) | (rintro _ _ ⟨_, _, rfl, _⟩; rfl) | (rintro _ _ ⟨_, _, _, rfl, _⟩; rfl) | (rintro _ _ ⟨_, _, _, _, rfl, _⟩; rfl) | (rintro _ _ ⟨_, _, _, _, _, rfl, _⟩; rfl) | (rintro _ _ ⟨_, _, _, _, _, _, rfl, _⟩; rfl) | (rintro _ _ ⟨_, _, _, _, _, _, _, rfl, _⟩; rfl) | (rintro _ _ ⟨_, _, _, _, _, _, _, _, rfl, _⟩; rfl) | (rintro _ _ ⟨_, _, _, _, _, _, _, _, _, rfl, _⟩; rfl) | (rintro _ _ ⟨_, _, _, _, _, _, _, _, _, _, rfl, _⟩; rfl))) (fun _ _ _ _ _ _ us hl => match us, hl with | [_, _], _ => rfl) fun cd A out s H E hg hr => ?_
  have nd := S.nd
  have hu := hr.units
  refine ⟨_, (pss_cons (ps_if (pt_val (pe_callB call_isiT (by rfl) T.b_isinstance (by decide +kernel) (pa_cons (pv 1) (pa_cons (pe_tup (pa_cons (pe_bltn (v := .ty "list") (by rfl) T.b_list (by decide +kernel) rfl) (pa_cons (pe_bltn (v := .ty "tuple") (by rfl) T.b_tuple (by decide +kernel) rfl) pa_nil))) pa_nil)))) (pss_cons (ps_if (PW.pt (pw_or (pt_cmpR op_ne (pe_callB (kIsi (K := K) (by rfl)) (by rfl) T.b_isinstance (by decide +kernel) (pa_cons (pv 0) (pa_cons (pe_bltn (v := .ty "list") (by rfl) T.b_list (by decide +kernel) rfl) pa_nil))) (pe_callB (kIsi (K := K) (by rfl)) (by rfl) T.b_isinstance (by decide +kernel) (pa_cons (pv 1) (pa_cons (pe_bltn (v := .ty "list") (by rfl) T.b_list (by decide +kernel) rfl) pa_nil))) (nomark _)) (pw_or1 (pt_cmpR op_ne (pe_callB (kIsi (K := K) (by rfl)) (by rfl) T.b_isinstance (by decide +kernel) (pa_cons (pv 0) (pa_cons (pe_bltn (v := .ty "tuple") (by rfl) T.b_tuple (by decide +kernel) rfl) pa_nil))) (pe_callB (kIsi (K := K) (by rfl)) (by rfl) T.b_isinstance (by decide +kernel) (pa_cons (pv 1) (pa_cons (pe_bltn (v := .ty "tuple") (by rfl) T.b_tuple (by decide +kernel) rfl) pa_nil))) (nomark _))))) (pss_one (ps_ret pe_bl)) pss_nil)
      (pss_one (ps_ret (pe_and (pe_cmpR op_eq (pe_callB (kLen (K := K) (by rfl)) (by rfl) T.b_len (by decide +kernel) (pa_cons (pv 0) pa_nil)) (pe_callB (kLen (K := K) (by rfl)) (by rfl) T.b_len (by decide +kernel) (pa_cons (pv 1) pa_nil)) (nomark _)) (pe_one (pe_callB (kAll (K := K) (by rfl) (by rfl)) (by rfl) T.b_all (by decide +kernel) (pa_cons (pe_lc (own := [("one", 2), ("other", 3)]) (by rfl) (by exact nd) (kiZipA (K := K) (by rfl) (by rfl) T.b_zip (pa_cons (pv 0) (pa_cons (pv 1) pa_nil))) (blkOk_by (N := ["found", "due", "one", "other"]) (sc := (defScope s30)) (by decide +kernel)) (fun _ _ _ _ _ => (kgTup (n := 2) (K := K) (by rfl) (by rfl) (pgs_cons (pg_name (i := 2) (by exact nd) (by rfl) (by first | exact Or.inl rfl | exact Or.inr rfl)) (pgs_cons (pg_name (i := 3) (by exact nd) (by rfl) (by first | exact Or.inl rfl | exact Or.inr rfl)) pgs_nil)))) (fun _ _ _ _ _ => pts_nil) (fun _ _ _ _ _ => (pe_f c__law_equal (by exact hg) (by exact hr) (Nat.le_refl _) pass0 (by rfl) (pa_cons (pv 2) (pa_cons (pv 3) pa_nil))))) pa_nil))))))) pss_nil)
      (pss_cons (ps_if (PW.pt (pw_or (pt_cmpR op_isN (pv 1) pe_non (nomark _)) (pw_or1 (pt_val (pe_callB call_isiT (by rfl) T.b_isinstance (by decide +kernel) (pa_cons (pv 1) (pa_cons (pe_tup (pa_cons (pe_bltn (v := .ty "bool") (by rfl) T.b_bool (by decide +kernel) rfl) (pa_cons (pe_bltn (v := .ty "str") (by rfl) T.b_str (by decide +kernel) rfl) pa_nil))) pa_nil))))))) (pss_one (ps_ret (pe_and (pe_cmpR (kEqD (K := K) (by rfl) (by exact hu)) (pv 0) (pv 1) (nomark _)) (pe_one (pe_cmpR op_eq (pe_callB (kIsi (K := K) (by rfl)) (by rfl) T.b_isinstance (by decide +kernel) (pa_cons (pv 0) (pa_cons (pe_bltn (v := .ty "bool") (by rfl) T.b_bool (by decide +kernel) rfl) pa_nil))) (pe_callB (kIsi (K := K) (by rfl)) (by rfl) T.b_isinstance (by decide +kernel) (pa_cons (pv 1) (pa_cons (pe_bltn (v := .ty "bool") (by rfl) T.b_bool (by decide +kernel) rfl) pa_nil))) (nomark _)))))) pss_nil)
      (pss_one (ps_ret (pe_and (pe_callB (kIsi (K := K) (by rfl)) (by rfl) T.b_isinstance (by decide +kernel) (pa_cons (pv 0) (pa_cons (pe_bltn (v := .ty "int") (by rfl) T.b_int (by decide +kernel) rfl) pa_nil))) (pe_and (pe_not (pe_callB (kIsi (K := K) (by rfl)) (by rfl) T.b_isinstance (by decide +kernel) (pa_cons (pv 0) (pa_cons (pe_bltn (v := .ty "bool") (by rfl) T.b_bool (by decide +kernel) rfl) pa_nil)))) (pe_one (pe_cmpR (kEqD (K := K) (by rfl) (by exact hu)) (pv 0) (pv 1) (nomark _))))))))), fun vs Q h => ?_⟩
  refine spD_body h ?_
  rintro B _ _ ⟨x, rfl, hx, hsh, rfl⟩
  cases x with
  | list ds =>
    have hd := shaped_list hsh
    refine w_ifS (b := true) ((t_test (d_isiT (d_var rfl) (kit_list _) (kit_tup _))).is rfl) (fun _ => ?_) (fun e => nomatch e)
    refine w_seqA (w_ifS (b := false) ((t_or (t_test (d_op (d_isList (d_var rfl)) (d_isList (d_var rfl)) (rs_ne trivial trivial rfl))) fun _ => t_test (d_op (d_isTup (d_var rfl)) (d_isTup (d_var rfl)) (rs_ne trivial trivial rfl))).is rfl) (fun e => nomatch e) fun _ => w_seqNext ?_)
    refine w_seqRet (w_ret (d_andV (d_op (d_len (d_var rfl)) (d_len (d_var rfl)) rs_eqI) fun _ => d_all (bs := ds.map fun _ => true) (Ev.is (OEv.toD (o_lc (l := ds) (enc := fun d => .tuple [d, d]) (fun _ => true) (fun _ => .bool true) (IEv.is (i_zipA (a_cons (d_var rfl) (a_cons (d_var rfl) a_nil))) (zipD_self ds)) hx.2 fun a ha =>
      ⟨_, _, tg_pair _ _ _ _, by simp, t_yes, fun _ => d_call (a_cons (d_var rfl) (a_cons (d_var rfl) a_nil)) ⟨a, rfl, hx.1 a ha, hd a ha, rfl⟩⟩)) ?_)) ?_)
    · rw [List.filter_eq_self.mpr fun _ _ => rfl, List.map_map]; rfl
    · simp
  | tuple ds =>
    have hd := shaped_tuple hsh
    refine w_ifS (b := true) ((t_test (d_isiT (d_var rfl) (kit_list _) (kit_tup _))).is rfl) (fun _ => ?_) (fun e => nomatch e)
    refine w_seqA (w_ifS (b := false) ((t_or (t_test (d_op (d_isList (d_var rfl)) (d_isList (d_var rfl)) (rs_ne trivial trivial rfl))) fun _ => t_test (d_op (d_isTup (d_var rfl)) (d_isTup (d_var rfl)) (rs_ne trivial trivial rfl))).is rfl) (fun e => nomatch e) fun _ => w_seqNext ?_)
    refine w_seqRet (w_ret (d_andV (d_op (d_lenT (d_var rfl)) (d_lenT (d_var rfl)) rs_eqI) fun _ => d_all (bs := ds.map fun _ => true) (Ev.is (OEv.toD (o_lc (l := ds) (enc := fun d => .tuple [d, d]) (fun _ => true) (fun _ => .bool true) (IEv.is (i_zipT (a_cons (d_var rfl) (a_cons (d_var rfl) a_nil))) (zipD_self ds)) hx.2 fun a ha =>
      ⟨_, _, tg_pair _ _ _ _, by simp, t_yes, fun _ => d_call (a_cons (d_var rfl) (a_cons (d_var rfl) a_nil)) ⟨a, rfl, hx.1 a ha, hd a ha, rfl⟩⟩)) ?_)) ?_)
    · rw [List.filter_eq_self.mpr fun _ _ => rfl, List.map_map]; rfl
    · simp
  | bool b => exact (hx : False).elim
  | dict b => exact (hx : False).elim
  | none =>
    refine w_ifS (b := false) ((t_test (d_isiT (d_var rfl) (kit_list _) (kit_tup _))).is rfl) (fun e => nomatch e) fun _ => w_seqNext ?_
    refine w_ifS (b := true) ((t_or (t_test (d_op (d_var rfl) d_non (rs_isN (d := .none) trivial))) fun _ => t_test (d_isiT (d_var rfl) (kit_bool _) (kit_str _))).is rfl) (fun _ => ?_) (fun e => nomatch e)
    refine w_seqRet (w_ret (d_andV (d_op (d_var rfl) (d_var rfl) (rs_eqD hsh hsh)) fun _ => d_op (d_isBool (d_var rfl)) (d_isBool (d_var rfl)) (rs_eq trivial trivial rfl)) ?_)
    rw [eqv_sc _ (by intro ds h; cases h) (by intro ds h; cases h) (by intro ds h; cases h)]; rfl
  | str x =>
    refine w_ifS (b := false) ((t_test (d_isiT (d_var rfl) (kit_list _) (kit_tup _))).is rfl) (fun e => nomatch e) fun _ => w_seqNext ?_
    refine w_ifS (b := true) ((t_or (t_test (d_op (d_var rfl) d_non (rs_isN (d := .str x) trivial))) fun _ => t_test (d_isiT (d_var rfl) (kit_bool _) (kit_str _))).is rfl) (fun _ => ?_) (fun e => nomatch e)
    refine w_seqRet (w_ret (d_andV (d_op (d_var rfl) (d_var rfl) (rs_eqD hsh hsh)) fun _ => d_op (d_isBool (d_var rfl)) (d_isBool (d_var rfl)) (rs_eq trivial trivial rfl)) ?_)
    rw [eqv_sc _ (by intro ds h; cases h) (by intro ds h; cases h) (by intro ds h; cases h)]; rfl
  | int i =>
    refine w_ifS (b := false) ((t_test (d_isiT (d_var rfl) (kit_list _) (kit_tup _))).is rfl) (fun e => nomatch e) fun _ => w_seqNext ?_
    refine w_ifS (b := false) ((t_or (t_test (d_op (d_var rfl) d_non (rs_isN (d := .int i) trivial))) fun _ => t_test (d_isiT (d_var rfl) (kit_bool _) (kit_str _))).is rfl) (fun e => nomatch e) fun _ => w_seqNext ?_
    refine w_ret (d_andV (d_isInt (d_var rfl)) fun _ => d_andV (d_notV (d_isBool (d_var rfl))) fun _ => d_op (d_var rfl) (d_var rfl) (rs_eqD hsh hsh)) ?_
    rw [eqv_sc _ (by intro ds h; cases h) (by intro ds h; cases h) (by intro ds h; cases h)]; rfl
theorem fo__law_equal (T : Txt K mg) {f : Addr} {fd : FuncData} (F : FnP K "_law_equal" s30 f fd) (hm : mg "_law_equal" = some (.ref f)) : ∀ n : Nat, Fo P w K mg base CX0 n "_law_equal" (SpD (R__law_equal n))
  | 0 => fo_false (ps := ["found", "due"]) F hm (fun _ _ _ _ _ _ us hl => match us, hl with | [_, _], _ => rfl) R__law_equal_0
  | n + 1 => fo__law_equal_step T F hm n n (fo__law_equal T F hm n)
def R__law_holds (ds : List D) (d : D) : Prop := ∃ (l : List Pp) (cs : List Int), Lu l ∧ Cs l cs ∧ cs.length ≤ 5000 ∧ ds = [eL l, eI cs] ∧ d = .bool true
theorem rp_sides {l : List Pp} {cs : List Int} (h : Lu l) (hc : Cs l cs) : Rp 3 8000 (.tuple [eI (sameL l cs), eI (othL l cs)]) := by
  have hr := run_lu h hc
  have sub : ∀ (f : Pp → Bool) (x : Int), x ∈ srt (((run l cs).filter f).map Prod.fst) → 0 ≤ x ∧ x < 10 ^ 6 := fun f x hx => by
    rw [mem_srt] at hx
    obtain ⟨p, hp, rfl⟩ := List.mem_map.mp hx
    have h1 := hr.1.per p (List.mem_filter.mp hp).1
    have h2 := hr.1.sixty
    omega
  have ln : ∀ (f : Pp → Bool), (srt (((run l cs).filter f).map Prod.fst)).length ≤ 60 := fun f => by
    rw [(srt_perm _).length_eq, List.length_map]
    exact Nat.le_trans (List.length_filter_le _ _) hr.1.sixty
  exact (rp_tuple (W := 3900) (n := 2) (fun d hd => by
    rcases List.mem_cons.mp hd with rfl | hd
    · exact rp_eI (n := 60) (sub _) (ln _)
    · rcases List.mem_cons.mp hd with rfl | hd
      · exact rp_eI (n := 60) (sub _) (ln _)
      · cases hd) (Nat.le_refl _)).mono (Nat.le_refl _) (by decide)
theorem eqb_sides {l : List Pp} {cs : List Int} (h : Lu l) (hc : Cs l cs) : Eqb 5 (.tuple [eI (sameL l cs), eI (othL l cs)]) := by
  have hr := run_lu h hc
  have ln : ∀ (f : Pp → Bool), (srt (((run l cs).filter f).map Prod.fst)).length < sizeLine := fun f => by
    rw [(srt_perm _).length_eq, List.length_map]
    exact Nat.lt_of_le_of_lt (Nat.le_trans (List.length_filter_le _ _) hr.1.sixty) (by decide)
  have one : ∀ (ns : List Int), ns.length < sizeLine → Eqb 4 (eI ns) := fun ns hn => ⟨fun d hd => by obtain ⟨c, _, rfl⟩ := List.mem_map.mp hd; trivial, by rw [List.length_map]; exact hn⟩
  refine ⟨fun d hd => ?_, (show 2 < sizeLine by decide)⟩
  rcases List.mem_cons.mp hd with rfl | hd
  · exact one _ (ln _)
  · rcases List.mem_cons.mp hd with rfl | hd
    · exact one _ (ln _)
    · cases hd
abbrev s32 : Stmt := top 32
theorem fo__law_holds (T : Txt K mg) {f : Addr} {fd : FuncData} (F : FnP K "_law_holds" s32 f fd) (hm : mg "_law_holds" = some (.ref f)) (c__law_due : Fo P w K mg base CX0 3 "_law_due" (SpD R__law_due)) (c_called_sides : Fo P w K mg base CX0 8 "called_sides" (SpTwo R_called_sides)) (c__law_equal : Fo P w K mg base CX0 5 "_law_equal" (SpD (R__law_equal 5))) : Fo P w K mg base CX0 9 "_law_holds" (SpD R__law_holds) := by
  have S : FnScope ["lineup", "calls", "before", "due", "told"] ["lineup", "calls"] (defScope s32) := ⟨rfl, rfl, rfl, by decide +kernel, rfl, by decide +kernel, by decide +kernel⟩
  refine fo_mk F hm S (SpD.len (n := 2) (by first | (rintro _ _ ⟨rfl, _⟩; rfl) | (rintro _ _ ⟨_, rfl, _⟩; rfl) | (rintro _ _ ⟨_, _, rfl, _⟩; rfl) | (rintro _ _ ⟨_, _, _, rfl, _⟩; rfl) | (rintro _ _ ⟨_, _, _, _, rfl, _⟩; rfl) | (rintro _ _ ⟨_, _, _, _, _, rfl, _⟩; rfl) | (rintro _ _ ⟨_, _, _, _, _, _, rfl, _⟩; rfl) | (rintro _ _ ⟨_, _, _, _, _, _, _, rfl, _⟩; rfl) | (rintro _ _ ⟨_, _, _, _, _, _, _, _, rfl, _⟩; rfl) | (rintro _ _ ⟨_, _, _, _, _, _, _, _, _, rfl, _⟩; rfl) | (rintro _ _ ⟨_, _, _, _, _, _, _, _, _, _, rfl, _⟩; rfl))) (fun _ _ _ _ _ _ us hl => match us, hl with | [_, _], _ => rfl) fun cd A out s H E hg hr => ?_
  have nd := S.nd
  have hu := hr.units
  refine ⟨_, (pss_cons (ps_set (i := 2) (by exact nd) (by rfl) (by first | exact Or.inl rfl | exact Or.inr rfl) (pe_callB (kRepr (K := K) (by exact hg) (by exact hu) (by rfl)) (by rfl) T.b_repr (by decide +kernel) (pa_cons (pe_lst (pa_cons (pv 0) (pa_cons (pv 1) pa_nil))) pa_nil)))
      (pss_cons (ps_set (i := 3) (by exact nd) (by rfl) (by first | exact Or.inl rfl | exact Or.inr rfl) (pe_f c__law_due (by exact hg) (by exact hr) (by decide) pass0 (by rfl) (pa_cons (pv 0) (pa_cons (pv 1) pa_nil))))
      (pss_cons (ps_set (i := 4) (by exact nd) (by rfl) (by first | exact Or.inl rfl | exact Or.inr rfl) (pe_f c_called_sides (by exact hg) (by exact hr) (by decide) pass0 (by rfl) (pa_cons (pv 0) (pa_cons (pv 1) pa_nil))))
      (pss_cons (ps_if (pt_not (pt_val (pe_f c__law_equal (by exact hg) (by exact hr) (by decide) pass0 (by rfl) (pa_cons (pv 4) (pa_cons (pv 3) pa_nil))))) (pss_one (ps_ret pe_bl)) pss_nil)
      (pss_cons (ps_expr (kBm (K := K) (by rfl) PySem.F.plainAttrs_list PySem.F.slot_list_append PySem.F.type_list_append mt_append (pe_ix (kIxT (K := K) (by rfl)) (pv 4) pe_int (fun _ _ => by rfl)) (pa_cons pe_int pa_nil)))
      (pss_cons (ps_if (pt_cmpR (kNeD (K := K) (by rfl) (by exact hu)) (pe_ix (kIxT (K := K) (by rfl)) (pv 4) pe_int (fun _ _ => by rfl)) (pe_ix (kIxT (K := K) (by rfl)) (pv 3) pe_int (fun _ _ => by rfl)) (nomark _)) (pss_one (ps_ret pe_bl)) pss_nil)
      (pss_cons (ps_expr (kBm0 (K := K) (by rfl) PySem.F.plainAttrs_list PySem.F.slot_list_clear PySem.F.type_list_clear mt_clear (pe_ix (kIxT (K := K) (by rfl)) (pv 4) pe_int (fun _ _ => by rfl))))
      (pss_one (ps_ret (pe_and (pe_f c__law_equal (by exact hg) (by exact hr) (by decide) pass0 (by rfl) (pa_cons (pe_f c_called_sides (by exact hg) (by exact hr) (by decide) pass0 (by rfl) (pa_cons (pv 0) (pa_cons (pv 1) pa_nil))) (pa_cons (pv 3) pa_nil))) (pe_one (pe_cmpR op_eq (pe_callB (kRepr (K := K) (by exact hg) (by exact hu) (by rfl)) (by rfl) T.b_repr (by decide +kernel) (pa_cons (pe_lst (pa_cons (pv 0) (pa_cons (pv 1) pa_nil))) pa_nil)) (pv 2) (nomark _))))))))))))), fun vs Q h => ?_⟩
  refine spD_body h ?_
  rintro B _ _ ⟨l, cs, hl, hc, hcl, rfl, rfl⟩
  have rp := rp_two hl hc hcl
  have rs := rp_sides hl hc
  have eb := eqb_sides hl hc
  have hb : ∀ {Γ : Gm}, Γ[0]? = some (.dat (eL l)) → Γ[1]? = some (.dat (eI cs)) → Ev true Γ (tCB (rReprQ K) (tCons (tLst (tCons (tVar 0) (tCons (tVar 1) tNil))) tNil)) (.str (PyData.shown (.list [eL l, eI cs]))) := fun g0 g1 => d_reprR (OEv.toD (o_lst (a_cons (d_var g0) (a_cons (d_var g1) a_nil)) two_le)) rfl rp (by decide) (by decide)
  refine w_asg 2 (hb rfl rfl) ?_
  refine w_asg 3 (d_call (a_cons (d_var rfl) (a_cons (d_var rfl) a_nil)) ⟨l, cs, hl, hc, by omega, rfl, rfl⟩) ?_
  refine w_asg2O 4 (show 4 < 5 by decide) (call2 (a_cons (d_var rfl) (a_cons (d_var rfl) a_nil)) ⟨l, cs, hl, hc, by omega, rfl, rfl, rfl⟩) ?_
  refine wt_skip ((t_not (t_test (d_callX (a_cons (x_tmp rfl) (a_cons (d_var rfl).toX a_nil)) (⟨_, rfl, eb, rs.shaped (by decide), rfl⟩ : R__law_equal 5 _ _) trivial))).is rfl) ?_
  refine wt_append0 rfl d_int ?_ ?_
  · have hr := run_lu hl hc
    unfold sameL
    rw [List.length_map, (srt_perm _).length_eq, List.length_map]
    exact Nat.lt_of_le_of_lt (Nat.le_trans (List.length_filter_le _ _) hr.1.sixty) (by decide)
  refine wt_skip ((t_test (d_op (d_ixT (d := eI (othL l cs)) (x_tmp rfl) d_int rfl) (d_ixT (d := eI (othL l cs)) (d_var rfl) d_int rfl) (rs_neD (sh_eI _) (sh_eI _)))).is ?_) ?_
  · rw [eqv_refl (cl_eI _)]; rfl
  refine wt_clear1 rfl (wt_weak ?_)
  refine w_ret (d_andV (d_callX (a_cons (Ev2.toX (call2 (a_cons (d_var rfl) (a_cons (d_var rfl) a_nil)) ⟨l, cs, hl, hc, by omega, rfl, rfl, rfl⟩)) (a_cons (d_var rfl).toX a_nil)) (⟨_, rfl, eb, rs.shaped (by decide), rfl⟩ : R__law_equal 5 _ _) trivial) fun _ => d_op (hb rfl rfl) (d_var rfl) rs_eqS) ?_
  rw [decide_eq_true rfl]; rfl
abbrev GL (K : PySem.W.Frag) (ns : List Int) (v1 v2 : Slo) (p : Addr) (q : Nat) (v4 : Slo) (l : List Pp) (cs : List Int) (v7 v8 : Slo) : Gm := [.scr K ns, v1, v2, .own (.raw p (bagOk q)), v4, .own (.lst (l.map eP)), .own (.lst (cs.map .int)), v7, v8]
abbrev s33 : Stmt := top 33
theorem fo_law (T : Txt K mg) {f : Addr} {fd : FuncData} (F : FnP K "law" s33 f fd) (hm : mg "law" = some (.ref f)) (c__law_bag : Fo P w K mg base CX0 1 "_law_bag" (SpO R__law_bag)) (c__law_lineup : Fo P w K mg base CX0 2 "_law_lineup" (SpMO bagOk lim RLineup)) (c__law_draw : Fo P w K mg base CX0 1 "_law_draw" (SpM bagOk lim RDraw)) (c__law_calls : Fo P w K mg base CX0 2 "_law_calls" (SpMO bagOk lim RCalls)) (c__law_holds : Fo P w K mg base CX0 9 "_law_holds" (SpD R__law_holds)) : FnG P w K mg base CX0 10 f fd ["script"] (SpLaw K 63) := by
  have S : FnScope ["script", "k", "cell", "bag", "is_last", "lineup", "calls", "cut", "turn"] ["script"] (defScope s33) := ⟨rfl, rfl, rfl, by decide +kernel, rfl, by decide +kernel, by decide +kernel⟩
  refine fg_mk F S ((fun vs H Q E ⟨_, _, e, _⟩ => by rw [e]; rfl)) fun cd A out s H E hg hr => ?_
  have nd := S.nd
  refine ⟨_, (pss_cons (ps_for PassesOwn.never (by rfl) (kiEnum (K := K) (by rfl) (by rfl) T.b_enumerate (pa_cons (pe_op op_cat (pe_slice (kSlL (K := K) (by rfl)) (pv 0) po_none (po_some pe_int)) (pe_lst (pa_cons pe_int pa_nil))) pa_nil)) (kgTup (n := 2) (K := K) (by rfl) (by rfl) (pgs_cons (pg_name (i := 1) (by exact nd) (by rfl) (by first | exact Or.inl rfl | exact Or.inr rfl)) (pgs_cons (pg_name (i := 2) (by exact nd) (by rfl) (by first | exact Or.inl rfl | exact Or.inr rfl)) pgs_nil)))
      (pss_cons (ps_set (i := 3) (by exact nd) (by rfl) (by first | exact Or.inl rfl | exact Or.inr rfl) (pe_f c__law_bag (by exact hg) (by exact hr) (by decide) pass0 (by rfl) (pa_cons (pv 2) pa_nil)))
      (pss_cons (ps_set (i := 4) (by exact nd) (by rfl) (by first | exact Or.inl rfl | exact Or.inr rfl) (pe_cmpR op_eq (pv 1) (pe_callB (kLen (K := K) (by rfl)) (by rfl) T.b_len (by decide +kernel) (pa_cons (pe_slice (kSlL (K := K) (by rfl)) (pv 0) po_none (po_some pe_int)) pa_nil)) (nomark _)))
      (pss_cons (ps_set (i := 5) (by exact nd) (by rfl) (by first | exact Or.inl rfl | exact Or.inr rfl) (pe_f c__law_lineup (by exact hg) (by exact hr) (by decide) pass0 (by rfl) (pa_cons (pv 3) (pa_cons (pe_ifExp (pt_val (pv 4)) pe_int (pe_ix (kIxL (K := K) (by rfl)) (pe_lst (pa_cons pe_int (pa_cons pe_int (pa_cons pe_int pa_nil)))) (pe_f c__law_draw (by exact hg) (by exact hr) (by decide) pass0 (by rfl) (pa_cons (pv 3) (pa_cons pe_int pa_nil))) (fun _ _ => by rfl))) pa_nil))))
      (pss_cons (ps_set (i := 6) (by exact nd) (by rfl) (by first | exact Or.inl rfl | exact Or.inr rfl) (pe_f c__law_calls (by exact hg) (by exact hr) (by decide) pass0 (by rfl) (pa_cons (pv 3) (pa_cons (pe_callB (kLen (K := K) (by rfl)) (by rfl) T.b_len (by decide +kernel) (pa_cons (pv 5) pa_nil)) (pa_cons (pe_ifExp (pt_val (pv 4)) pe_int (pe_ix (kIxL (K := K) (by rfl)) (pe_lst (pa_cons pe_int (pa_cons pe_int (pa_cons pe_int pa_nil)))) (pe_f c__law_draw (by exact hg) (by exact hr) (by decide) pass0 (by rfl) (pa_cons (pv 3) (pa_cons pe_int pa_nil))) (fun _ _ => by rfl))) pa_nil)))))
      (pss_cons (ps_for PassesOwn.never (by rfl) (kiList (K := K) (by rfl) (pe_lst (pa_cons (pe_callB (kLen (K := K) (by rfl)) (by rfl) T.b_len (by decide +kernel) (pa_cons (pv 6) pa_nil)) (pa_cons pe_int (pa_cons (pe_f c__law_draw (by exact hg) (by exact hr) (by decide) pass0 (by rfl) (pa_cons (pv 3) (pa_cons (pe_op op_add (pe_callB (kLen (K := K) (by rfl)) (by rfl) T.b_len (by decide +kernel) (pa_cons (pv 6) pa_nil)) pe_int) pa_nil))) (pa_cons (pe_f c__law_draw (by exact hg) (by exact hr) (by decide) pass0 (by rfl) (pa_cons (pv 3) (pa_cons (pe_op op_add (pe_callB (kLen (K := K) (by rfl)) (by rfl) T.b_len (by decide +kernel) (pa_cons (pv 6) pa_nil)) pe_int) pa_nil))) pa_nil)))))) (pg_name (i := 7) (by exact nd) (by rfl) (by first | exact Or.inl rfl | exact Or.inr rfl))
      (pss_one (ps_if (pt_not (pt_val (pe_f c__law_holds (by exact hg) (by exact hr) (by decide) pass0 (by rfl) (pa_cons (pv 5) (pa_cons (pe_slice (kSlL (K := K) (by rfl)) (pv 6) po_none (po_some (pv 7))) pa_nil))))) (pss_one (ps_ret pe_bl)) pss_nil)))
      (pss_cons (ps_for PassesOwn.never (by rfl) (pi_range1 (by rfl) T.b_range (pa_cons pe_int pa_nil)) (pg_name (i := 8) (by exact nd) (by rfl) (by first | exact Or.inl rfl | exact Or.inr rfl))
      (pss_cons (ps_if (pt_not (pt_val (pe_f c__law_holds (by exact hg) (by exact hr) (by decide) pass0 (by rfl) (pa_cons (pv 5) (pa_cons (pv 6) pa_nil))))) (pss_one (ps_ret pe_bl)) pss_nil)
      (pss_cons (ps_expr (kBm0 (K := K) (by rfl) PySem.F.plainAttrs_list PySem.F.slot_list_reverse PySem.F.type_list_reverse mt_reverse (pv 5)))
      (pss_one (ps_expr (kBm0 (K := K) (by rfl) PySem.F.plainAttrs_list PySem.F.slot_list_reverse PySem.F.type_list_reverse mt_reverse (pv 6)))))))
      (pss_one (ps_if (pt_not (pt_val (pe_f c__law_holds (by exact hg) (by exact hr) (by decide) pass0 (by rfl) (pa_cons (pv 5) (pa_cons (pv 6) pa_nil))))) (pss_one (ps_ret pe_bl)) pss_nil)))))))))
      (pss_one (ps_ret pe_bl))), fun vs Q h => ?_⟩
  refine spLaw_body h ?_
  intro B ns hns hbits
  have hall : ((cutL ns none (some 8)).map PyData.int).length + [PyData.int 0].length ≤ sizeLine := by
    have := cutL_len ns none (some 8)
    have h2 : (64 : Nat) ≤ sizeLine := by decide
    simp only [List.length_map, List.length_cons, List.length_nil]
    omega
  refine w_for (fun _ Γ => Γ[0]? = some (.scr K ns) ∧ Γ.length = 9) (i_enum (a_cons (OEv.toD (o_cat (OEv.toL (o_scrSl rfl p_none (p_some d_int))) (OEv.toL (o_lst (a_cons d_int a_nil) one_le)) hall)) a_nil)) ⟨rfl, rfl⟩ (fun k d Γ' e ⟨g0, gl⟩ => ?_) fun Γ' _ => w_ret d_bl rfl
  rw [enumD_get] at e
  obtain ⟨cell, hcell⟩ : ∃ cell : Int, d = .tuple [.int (k : Int), .int cell] := by
    cases e2 : ((cutL ns none (some 8)).map PyData.int ++ [PyData.int 0])[k]? with
    | none => rw [e2] at e; cases e
    | some x =>
      rw [e2] at e
      cases e
      have := List.mem_of_getElem? e2
      rcases List.mem_append.mp this with z | z
      · obtain ⟨c, _, rfl⟩ := List.mem_map.mp z
        exact ⟨c, rfl⟩
      · simp at z; subst z; exact ⟨0, rfl⟩
  subst hcell
  clear e
  match Γ', gl, g0 with
  | [a0, a1, a2, a3, a4, a5, a6, a7, a8], _, g0 =>
  cases g0
  refine ⟨_, _, tg_pair 1 2 _ _, ?_⟩
  refine w_asgO 3 (o_call (a_cons (d_var rfl) a_nil) ⟨cell, rfl, rfl⟩) ?_
  refine w_toRaw (xs := [if cell - 10 ^ 18 > 0 then cell - 10 ^ 18 else 0, cell % (10 ^ 38 + 133), 0]) 3 rfl fun p => ?_
  refine w_raw 3 (ψ := bagOk 0) rfl (fun o e => ⟨_, _, _, e, by split <;> omega, (mod_b (by decide)).1, by have := (mod_b (i := cell) (m := 10 ^ 38 + 133) (by decide)).2; omega, Int.le_refl _, Int.le_refl _⟩) ?_
  refine w_asg 4 (d_op (d_var rfl) (d_len (OEv.toD (o_scrSl rfl p_none (p_some d_int)))) rs_eqI) ?_
  generalize hb : decide ((k : Int) = (((cutL ns none (some 8)).map PyData.int).length : Int)) = b
  refine w_asgON 5 (P := fun o Γ' => ∃ l, Lu l ∧ o = .lst (l.map eP) ∧ Γ' = [.scr K ns, .dat (.int k), .dat (.int cell), .own (.raw p (bagOk 201)), .dat (.bool b), a5.calm.calm, a6.calm.calm, a7.calm.calm, a8.calm.calm]) (n_callMO ⟨_, rfl⟩ (an_one (n_pick (x0 := 3) (x1 := 4) (x2 := 12) (x3 := 60) rfl rfl (by decide))) fun ss Γ1 z => ?_) fun o Γ1 z => ?_
  · obtain ⟨d, rfl, y, hy, rfl, rfl⟩ := z
    exact ⟨1, 200, _, rfl, ⟨y, by omega, by omega, rfl, rfl, rfl⟩, by decide, fun o ⟨l, hl, _, e⟩ => ⟨l, hl, e, rfl⟩⟩
  obtain ⟨l, hl, rfl, rfl⟩ := z
  have hN : 1 ≤ (l.length : Int) ∧ (l.length : Int) ≤ 60 := by have := hl.one; have := hl.sixty; omega
  refine w_asgON 6 (P := fun o Γ' => ∃ (cs : List Int) (v6 v7 v8 : Slo), Cs l cs ∧ cs.length ≤ 200 ∧ o = .lst (cs.map .int) ∧ Γ' = [.scr K ns, .dat (.int k), .dat (.int cell), .own (.raw p (bagOk 702)), .dat (.bool b), .own (.lst (l.map eP)), v6, v7, v8])
    (n_callMO (P1 := fun ss Γ' => ∃ (y : Int) (v6 v7 v8 : Slo), (y = 4 ∨ y = 12 ∨ y = 40 ∨ y = 200) ∧ ss = [.dat (.int l.length), .dat (.int y)] ∧ Γ' = [.scr K ns, .dat (.int k), .dat (.int cell), .own (.raw p (bagOk 202)), .dat (.bool b), .own (.lst (l.map eP)), v6, v7, v8]) ⟨_, rfl⟩
      (an_cons (Ev.n ((d_len (ds := l.map eP) (x_own rfl)).is (by rw [eL_len]))) fun d1 Γ1 z => by
        obtain ⟨rfl, rfl⟩ := z
        refine ⟨_, an_one (n_pick (x0 := 4) (x1 := 12) (x2 := 40) (x3 := 200) (q := 201) rfl rfl (by decide)), fun es Γ2 z2 => ?_⟩
        obtain ⟨d, rfl, y, hy, rfl, rfl⟩ := z2
        exact ⟨y, _, _, _, hy, rfl, rfl⟩) fun ss Γ1 z => ?_) fun o Γ1 z => ?_
  · obtain ⟨y, v6, v7, v8, hy, rfl, rfl⟩ := z
    exact ⟨202, 500, _, rfl, ⟨l.length, y, hN.1, hN.2, by omega, by omega, rfl, rfl, rfl⟩, by decide, fun o ⟨cs, hc, hcl, e⟩ => ⟨cs, _, _, _, hc, by omega, e, rfl⟩⟩
  obtain ⟨cs, v6, v7, v8, hc, hcl, rfl, rfl⟩ := z
  have holds : ∀ {Γ : Gm} {l : List Pp} {cs : List Int}, Γ[5]? = some (.own (.lst (l.map eP))) → Γ[6]? = some (.own (.lst (cs.map .int))) → Lu l → Cs l cs → cs.length ≤ 200 → TEv Γ (tNot (tTest (tCall (SpD R__law_holds) [] E0 (tCons (tVar 5) (tCons (tVar 6) tNil))))) false := fun g5 g6 hl hc hn =>
    (t_not (t_test (d_callX (a_cons (x_own g5) (a_cons (x_own g6) a_nil)) (⟨_, _, hl, hc, by omega, rfl, rfl⟩ : R__law_holds _ _) trivial))).is rfl
  -- the cuts
  refine w_forN (P := fun ds Γ' => ∃ v7 v8 : Slo, (∀ d ∈ ds, ∃ n : Int, 0 ≤ n ∧ d = .int n) ∧ Γ' = GL K ns (.dat (.int k)) (.dat (.int cell)) p 704 (.dat (.bool b)) l cs v7 v8) (iN_list (P1 := fun d Γ' => ∃ (ds : List D) (v7 v8 : Slo), d = .list ds ∧ (∀ d ∈ ds, ∃ n : Int, 0 ≤ n ∧ d = .int n) ∧ Γ' = GL K ns (.dat (.int k)) (.dat (.int cell)) p 704 (.dat (.bool b)) l cs v7 v8) (OEvN.toD (n_lst (P1 := fun ss Γ' => ∃ (a b' c d : Int) (v7 v8 : Slo), 0 ≤ a ∧ 0 ≤ b' ∧ 0 ≤ c ∧ 0 ≤ d ∧ ss = [.dat (.int a), .dat (.int b'), .dat (.int c), .dat (.int d)] ∧ Γ' = GL K ns (.dat (.int k)) (.dat (.int cell)) p 704 (.dat (.bool b)) l cs v7 v8) ?_ ?_)) ?_) ?_
  · refine an_cons (Ev.n ((d_len (ds := cs.map .int) (x_own rfl)).is (by rw [List.length_map]))) fun d1 Γ1 z => ?_
    obtain ⟨rfl, rfl⟩ := z
    refine ⟨_, an_cons (Ev.n d_int) fun d1 Γ1 z => ?_, fun es Γ2 z2 => z2⟩
    obtain ⟨rfl, rfl⟩ := z
    have e1 : ∀ {q : Nat} {v7 v8 : Slo}, q + 1 ≤ 10 ^ 6 → EvN (GL K ns (.dat (.int k)) (.dat (.int cell)) p q (.dat (.bool b)) l cs v7 v8) (tCall (SpM bagOk lim RDraw) [] E0 (tCons (tVar 3) (tCons (tOp (rI0 fun i j => .int (i + j)) (tCB (rLenQ K) (tCons (tVar 6) tNil)) (tC (.int 1))) tNil))) (fun d Γ' => ∃ x : Int, 0 ≤ x ∧ d = .int x ∧ Γ' = GL K ns (.dat (.int k)) (.dat (.int cell)) p (q + 1) (.dat (.bool b)) l cs v7.calm v8.calm) := fun hq =>
      (n_draw rfl (d_op (d_len (ds := cs.map .int) (x_own rfl)) d_int rs_add) (by omega) (by rw [List.length_map]; omega) hq).imp fun d Γ' ⟨x, x0, _, e, e2⟩ => ⟨x, x0, e, e2⟩
    refine ⟨_, an_cons (e1 (q := 702) (by decide)) fun d1 Γ1 z => ?_, fun es Γ2 z2 => z2⟩
    obtain ⟨x, x0, rfl, rfl⟩ := z
    refine ⟨_, an_one (e1 (q := 703) (by decide)), fun es Γ2 z2 => ?_⟩
    obtain ⟨d, rfl, y, y0, rfl, rfl⟩ := z2
    exact ⟨_, _, x, y, _, _, by omega, by omega, x0, y0, rfl, rfl⟩
  · rintro es Γ1 ⟨a, b', c, d, v7, v8, ha, hb', hc', hd, rfl, rfl⟩
    refine ⟨[.int a, .int b', .int c, .int d], rfl, (show 4 ≤ sizeLine by decide), _, rfl, _, v7, v8, rfl, fun x hx => ?_, rfl⟩
    simp only [List.mem_cons, List.not_mem_nil, or_false] at hx
    rcases hx with rfl | rfl | rfl | rfl
    · exact ⟨_, ha, rfl⟩
    · exact ⟨_, hb', rfl⟩
    · exact ⟨_, hc', rfl⟩
    · exact ⟨_, hd, rfl⟩
  · rintro d Γ1 ⟨ds, v7, v8, rfl, h1, h2⟩
    exact ⟨ds, rfl, v7, v8, h1, h2⟩
  rintro ds Γ1 ⟨v7, v8, hds, rfl⟩
  refine ⟨fun _ Γ => ∃ v7 v8 : Slo, Γ = GL K ns (.dat (.int k)) (.dat (.int cell)) p 704 (.dat (.bool b)) l cs v7 v8, ⟨v7, v8, rfl⟩, fun i d Γ' e ⟨v7, v8, hΓ⟩ => ?_, fun Γ' ⟨v7, v8, hΓ⟩ => ?_⟩
  · subst hΓ
    obtain ⟨n, hn, rfl⟩ := hds d (List.mem_of_getElem? e)
    refine ⟨_, _, tg_name 7 _, w_if (b := false) ((t_not (t_test (d_callX (a_cons (x_own (ds := l.map eP) rfl) (a_cons (OEv.toD (o_sl (l_own rfl) p_none (p_some (d_var rfl)))).toX a_nil)) (⟨l, cs.take n.toNat, hl, Cs.take hc _, by rw [List.length_take]; omega, ?_, rfl⟩ : R__law_holds _ (.bool true)) trivial))).is rfl) (fun e => nomatch e) fun _ => w_next ⟨_, _, rfl⟩⟩
    rw [cutL_to _ hn, ← List.map_take]; rfl
  subst hΓ
  -- the turns
  refine w_for (fun _ Γ => ∃ (l : List Pp) (cs : List Int) (v7 v8 : Slo), Lu l ∧ Cs l cs ∧ cs.length ≤ 200 ∧ Γ = GL K ns (.dat (.int k)) (.dat (.int cell)) p 704 (.dat (.bool b)) l cs v7 v8) (i_rng1 (n := 2) (a_cons d_int a_nil) (by decide) (by decide)) ⟨l, cs, v7, v8, hl, hc, hcl, rfl⟩ (fun i d Γ' e ⟨l, cs, v7, v8, hl, hc, hcl, hΓ⟩ => ?_) fun Γ' ⟨l, cs, v7, v8, hl, hc, hcl, hΓ⟩ => ?_
  · subst hΓ
    refine ⟨_, _, tg_name 8 _, ?_⟩
    refine w_ifS (holds rfl rfl hl hc hcl) (fun e => nomatch e) fun _ => w_seqNext ?_
    refine w_reverse 5 rfl (w_reverse1 6 rfl ⟨l.reverse, cs.reverse, v7.calm.calm, .dat d, hl.rev, ?_, by simpa using hcl, ?_⟩)
    · intro c hc'
      rw [List.length_reverse]
      exact hc c (List.mem_reverse.mp hc')
    · unfold GL; rw [List.map_reverse, List.map_reverse]; rfl
  subst hΓ
  exact w_if (holds rfl rfl hl hc hcl) (fun e => nomatch e) fun _ => w_next ⟨rfl, rfl⟩
end
def fn : List He.DefD := [⟨("_law_bag", none), "_law_bag", "_law_bag", defArgs s24, defBody s24, defScope s24, [], []⟩, ⟨("_law_draw", none), "_law_draw", "_law_draw", defArgs s25, defBody s25, defScope s25, [], []⟩, ⟨("_law_lineup", none), "_law_lineup", "_law_lineup", defArgs s26, defBody s26, defScope s26, [], []⟩, ⟨("_law_calls", none), "_law_calls", "_law_calls", defArgs s27, defBody s27, defScope s27, [], []⟩, ⟨("_law_called", none), "_law_called", "_law_called", defArgs s28, defBody s28, defScope s28, [], []⟩, ⟨("_law_applied", none), "_law_applied", "_law_applied", defArgs s29, defBody s29, defScope s29, [], []⟩, ⟨("_law_due", none), "_law_due", "_law_due", defArgs s31, defBody s31, defScope s31, [], []⟩, ⟨("is_integer_in", none), "is_integer_in", "is_integer_in", defArgs s7, defBody s7, defScope s7, [], []⟩, ⟨("is_color", none), "is_color", "is_color", defArgs s8, defBody s8, defScope s8, [], []⟩, ⟨("is_entry", none), "is_entry", "is_entry", defArgs s9, defBody s9, defScope s9, [], []⟩, ⟨("is_lineup", none), "is_lineup", "is_lineup", defArgs s10, defBody s10, defScope s10, [], []⟩, ⟨("check_lineup", none), "check_lineup", "check_lineup", defArgs s11, defBody s11, defScope s11, [], []⟩, ⟨("check_calls", none), "check_calls", "check_calls", defArgs s13, defBody s13, defScope s13, [], []⟩, ⟨("check_lineup_and_calls", none), "check_lineup_and_calls", "check_lineup_and_calls", defArgs s18, defBody s18, defScope s18, [], []⟩, ⟨("color_of", none), "color_of", "color_of", defArgs s14, defBody s14, defScope s14, [], []⟩, ⟨("color_to_take", none), "color_to_take", "color_to_take", defArgs s15, defBody s15, defScope s15, [], []⟩, ⟨("apply_call", none), "apply_call", "apply_call", defArgs s16, defBody s16, defScope s16, [], []⟩, ⟨("apply_calls", none), "apply_calls", "apply_calls", defArgs s17, defBody s17, defScope s17, [], []⟩, ⟨("lineup_after", none), "lineup_after", "lineup_after", defArgs s19, defBody s19, defScope s19, [], []⟩, ⟨("lineups_by_moment", none), "lineups_by_moment", "lineups_by_moment", defArgs s21, defBody s21, defScope s21, [], []⟩, ⟨("called_sides", none), "called_sides", "called_sides", defArgs s22, defBody s22, defScope s22, [], []⟩, ⟨("_law_equal", none), "_law_equal", "_law_equal", defArgs s30, defBody s30, defScope s30, [], []⟩, ⟨("_law_holds", none), "_law_holds", "_law_holds", defArgs s32, defBody s32, defScope s32, [], []⟩, ⟨("law", none), "law", "law", defArgs s33, defBody s33, defScope s33, [], []⟩]
def fa : List He.Fa := [.glo "_law_bag", .glo "_law_draw", .glo "_law_lineup", .glo "_law_calls", .glo "_law_called", .glo "_law_applied", .glo "_law_due", .glo "is_integer_in", .glo "is_color", .glo "is_entry", .glo "is_lineup", .glo "check_lineup", .glo "check_calls", .glo "check_lineup_and_calls", .glo "color_of", .glo "color_to_take", .glo "apply_call", .glo "apply_calls", .glo "lineup_after", .glo "lineups_by_moment", .glo "called_sides", .glo "_law_equal", .glo "_law_holds", .glo "law", .free "max", .free "int", .free "len", .free "list", .free "range", .free "min", .free "sorted", .free "bool", .free "isinstance", .free "str", .free "tuple", .free "all", .free "enumerate", .free "zip", .free "repr", .str "LETTERS" "abcdefghijklmnopqrstuvwxyz", .int "MAX_PEOPLE" (60)]
theorem facts {P : Program} {w : World} {K : PySem.W.Frag} {h : Heap} {mg : Str → Option Value} {f : Addr} (X : K.In h) (G : h.Ns mainGlobals mg) (hf : mg ("law" : Str) = some (.ref f)) (c : He.SaysD fa fn K) :
    ∃ fd : FuncData, (∀ (s : Shared) (v : Value), BindsTo s fd ⟨[v], []⟩ [("script", v)]) ∧ ∀ base : Heap, K.In base → base.Ns mainGlobals mg → FnG P w K mg base CX0 10 f fd ["script"] (SpLaw K 63) := by
  obtain ⟨fd__law_bag, F__law_bag⟩ := c.def_ 0 (d := ⟨("_law_bag", none), "_law_bag", "_law_bag", defArgs s24, defBody s24, defScope s24, [], []⟩) rfl
  have m__law_bag := He.glo_ok X G (c.fact 0 (f := .glo "_law_bag") rfl)
  obtain ⟨fd__law_draw, F__law_draw⟩ := c.def_ 1 (d := ⟨("_law_draw", none), "_law_draw", "_law_draw", defArgs s25, defBody s25, defScope s25, [], []⟩) rfl
  have m__law_draw := He.glo_ok X G (c.fact 1 (f := .glo "_law_draw") rfl)
  obtain ⟨fd__law_lineup, F__law_lineup⟩ := c.def_ 2 (d := ⟨("_law_lineup", none), "_law_lineup", "_law_lineup", defArgs s26, defBody s26, defScope s26, [], []⟩) rfl
  have m__law_lineup := He.glo_ok X G (c.fact 2 (f := .glo "_law_lineup") rfl)
  obtain ⟨fd__law_calls, F__law_calls⟩ := c.def_ 3 (d := ⟨("_law_calls", none), "_law_calls", "_law_calls", defArgs s27, defBody s27, defScope s27, [], []⟩) rfl
  have m__law_calls := He.glo_ok X G (c.fact 3 (f := .glo "_law_calls") rfl)
  obtain ⟨fd__law_called, F__law_called⟩ := c.def_ 4 (d := ⟨("_law_called", none), "_law_called", "_law_called", defArgs s28, defBody s28, defScope s28, [], []⟩) rfl
  have m__law_called := He.glo_ok X G (c.fact 4 (f := .glo "_law_called") rfl)
  obtain ⟨fd__law_applied, F__law_applied⟩ := c.def_ 5 (d := ⟨("_law_applied", none), "_law_applied", "_law_applied", defArgs s29, defBody s29, defScope s29, [], []⟩) rfl
  have m__law_applied := He.glo_ok X G (c.fact 5 (f := .glo "_law_applied") rfl)
  obtain ⟨fd__law_due, F__law_due⟩ := c.def_ 6 (d := ⟨("_law_due", none), "_law_due", "_law_due", defArgs s31, defBody s31, defScope s31, [], []⟩) rfl
  have m__law_due := He.glo_ok X G (c.fact 6 (f := .glo "_law_due") rfl)
  obtain ⟨fd_is_integer_in, F_is_integer_in⟩ := c.def_ 7 (d := ⟨("is_integer_in", none), "is_integer_in", "is_integer_in", defArgs s7, defBody s7, defScope s7, [], []⟩) rfl
  have m_is_integer_in := He.glo_ok X G (c.fact 7 (f := .glo "is_integer_in") rfl)
  obtain ⟨fd_is_color, F_is_color⟩ := c.def_ 8 (d := ⟨("is_color", none), "is_color", "is_color", defArgs s8, defBody s8, defScope s8, [], []⟩) rfl
  have m_is_color := He.glo_ok X G (c.fact 8 (f := .glo "is_color") rfl)
  obtain ⟨fd_is_entry, F_is_entry⟩ := c.def_ 9 (d := ⟨("is_entry", none), "is_entry", "is_entry", defArgs s9, defBody s9, defScope s9, [], []⟩) rfl
  have m_is_entry := He.glo_ok X G (c.fact 9 (f := .glo "is_entry") rfl)
  obtain ⟨fd_is_lineup, F_is_lineup⟩ := c.def_ 10 (d := ⟨("is_lineup", none), "is_lineup", "is_lineup", defArgs s10, defBody s10, defScope s10, [], []⟩) rfl
  have m_is_lineup := He.glo_ok X G (c.fact 10 (f := .glo "is_lineup") rfl)
  obtain ⟨fd_check_lineup, F_check_lineup⟩ := c.def_ 11 (d := ⟨("check_lineup", none), "check_lineup", "check_lineup", defArgs s11, defBody s11, defScope s11, [], []⟩) rfl
  have m_check_lineup := He.glo_ok X G (c.fact 11 (f := .glo "check_lineup") rfl)
  obtain ⟨fd_check_calls, F_check_calls⟩ := c.def_ 12 (d := ⟨("check_calls", none), "check_calls", "check_calls", defArgs s13, defBody s13, defScope s13, [], []⟩) rfl
  have m_check_calls := He.glo_ok X G (c.fact 12 (f := .glo "check_calls") rfl)
  obtain ⟨fd_check_lineup_and_calls, F_check_lineup_and_calls⟩ := c.def_ 13 (d := ⟨("check_lineup_and_calls", none), "check_lineup_and_calls", "check_lineup_and_calls", defArgs s18, defBody s18, defScope s18, [], []⟩) rfl
  have m_check_lineup_and_calls := He.glo_ok X G (c.fact 13 (f := .glo "check_lineup_and_calls") rfl)
  obtain ⟨fd_color_of, F_color_of⟩ := c.def_ 14 (d := ⟨("color_of", none), "color_of", "color_of", defArgs s14, defBody s14, defScope s14, [], []⟩) rfl
  have m_color_of := He.glo_ok X G (c.fact 14 (f := .glo "color_of") rfl)
  obtain ⟨fd_color_to_take, F_color_to_take⟩ := c.def_ 15 (d := ⟨("color_to_take", none), "color_to_take", "color_to_take", defArgs s15, defBody s15, defScope s15, [], []⟩) rfl
  have m_color_to_take := He.glo_ok X G (c.fact 15 (f := .glo "color_to_take") rfl)
  obtain ⟨fd_apply_call, F_apply_call⟩ := c.def_ 16 (d := ⟨("apply_call", none), "apply_call", "apply_call", defArgs s16, defBody s16, defScope s16, [], []⟩) rfl
  have m_apply_call := He.glo_ok X G (c.fact 16 (f := .glo "apply_call") rfl)
  obtain ⟨fd_apply_calls, F_apply_calls⟩ := c.def_ 17 (d := ⟨("apply_calls", none), "apply_calls", "apply_calls", defArgs s17, defBody s17, defScope s17, [], []⟩) rfl
  have m_apply_calls := He.glo_ok X G (c.fact 17 (f := .glo "apply_calls") rfl)
  obtain ⟨fd_lineup_after, F_lineup_after⟩ := c.def_ 18 (d := ⟨("lineup_after", none), "lineup_after", "lineup_after", defArgs s19, defBody s19, defScope s19, [], []⟩) rfl
  have m_lineup_after := He.glo_ok X G (c.fact 18 (f := .glo "lineup_after") rfl)
  obtain ⟨fd_lineups_by_moment, F_lineups_by_moment⟩ := c.def_ 19 (d := ⟨("lineups_by_moment", none), "lineups_by_moment", "lineups_by_moment", defArgs s21, defBody s21, defScope s21, [], []⟩) rfl
  have m_lineups_by_moment := He.glo_ok X G (c.fact 19 (f := .glo "lineups_by_moment") rfl)
  obtain ⟨fd_called_sides, F_called_sides⟩ := c.def_ 20 (d := ⟨("called_sides", none), "called_sides", "called_sides", defArgs s22, defBody s22, defScope s22, [], []⟩) rfl
  have m_called_sides := He.glo_ok X G (c.fact 20 (f := .glo "called_sides") rfl)
  obtain ⟨fd__law_equal, F__law_equal⟩ := c.def_ 21 (d := ⟨("_law_equal", none), "_law_equal", "_law_equal", defArgs s30, defBody s30, defScope s30, [], []⟩) rfl
  have m__law_equal := He.glo_ok X G (c.fact 21 (f := .glo "_law_equal") rfl)
  obtain ⟨fd__law_holds, F__law_holds⟩ := c.def_ 22 (d := ⟨("_law_holds", none), "_law_holds", "_law_holds", defArgs s32, defBody s32, defScope s32, [], []⟩) rfl
  have m__law_holds := He.glo_ok X G (c.fact 22 (f := .glo "_law_holds") rfl)
  obtain ⟨fd_law, F_law⟩ := c.def_ 23 (d := ⟨("law", none), "law", "law", defArgs s33, defBody s33, defScope s33, [], []⟩) rfl
  have m_law := He.glo_ok X G (c.fact 23 (f := .glo "law") rfl)
  have T : Txt K mg := ⟨He.free_ok X G (c.fact 24 (f := .free "max") rfl), He.free_ok X G (c.fact 25 (f := .free "int") rfl), He.free_ok X G (c.fact 26 (f := .free "len") rfl), He.free_ok X G (c.fact 27 (f := .free "list") rfl), He.free_ok X G (c.fact 28 (f := .free "range") rfl), He.free_ok X G (c.fact 29 (f := .free "min") rfl), He.free_ok X G (c.fact 30 (f := .free "sorted") rfl), He.free_ok X G (c.fact 31 (f := .free "bool") rfl), He.free_ok X G (c.fact 32 (f := .free "isinstance") rfl), He.free_ok X G (c.fact 33 (f := .free "str") rfl), He.free_ok X G (c.fact 34 (f := .free "tuple") rfl), He.free_ok X G (c.fact 35 (f := .free "all") rfl), He.free_ok X G (c.fact 36 (f := .free "enumerate") rfl), He.free_ok X G (c.fact 37 (f := .free "zip") rfl), He.free_ok X G (c.fact 38 (f := .free "repr") rfl), glob_str (He.str_ok X G (c.fact 39 (f := .str "LETTERS" "abcdefghijklmnopqrstuvwxyz") rfl)), glob_int (He.int_ok X G (c.fact 40 (f := .int "MAX_PEOPLE" (60)) rfl))⟩
  have e := hf.symm.trans m_law
  cases e
  have b := FunD.bindsA (ps := ["script"]) F_law fun _ _ _ _ _ _ us hl => match us, hl with | [_], _ => rfl
  refine ⟨fd_law, fun s v => b s [v] rfl, fun base _ _ => ?_⟩
  have h__law_bag := fo__law_bag (P := P) (w := w) (base := base) T F__law_bag m__law_bag 
  have h__law_draw := fo__law_draw (P := P) (w := w) (base := base) T F__law_draw m__law_draw 
  have h__law_lineup := fo__law_lineup (P := P) (w := w) (base := base) T F__law_lineup m__law_lineup h__law_draw
  have h__law_calls := fo__law_calls (P := P) (w := w) (base := base) T F__law_calls m__law_calls h__law_draw
  have h__law_called := fo__law_called (P := P) (w := w) (base := base) T F__law_called m__law_called 
  have h__law_applied := fo__law_applied (P := P) (w := w) (base := base) T F__law_applied m__law_applied h__law_called
  have h__law_due := fo__law_due (P := P) (w := w) (base := base) T F__law_due m__law_due h__law_applied
  have h_is_integer_in := fo_is_integer_in (P := P) (w := w) (base := base) T F_is_integer_in m_is_integer_in 
  have h_is_color := fo_is_color (P := P) (w := w) (base := base) T F_is_color m_is_color 
  have h_is_entry := fo_is_entry (P := P) (w := w) (base := base) T F_is_entry m_is_entry h_is_color h_is_integer_in
  have h_is_lineup := fo_is_lineup (P := P) (w := w) (base := base) T F_is_lineup m_is_lineup h_is_entry
  have h_check_lineup := fo_check_lineup (P := P) (w := w) (base := base) T F_check_lineup m_check_lineup h_is_lineup
  have h_check_calls := fo_check_calls (P := P) (w := w) (base := base) T F_check_calls m_check_calls h_is_integer_in
  have h_check_lineup_and_calls := fo_check_lineup_and_calls (P := P) (w := w) (base := base) T F_check_lineup_and_calls m_check_lineup_and_calls h_check_lineup h_check_calls
  have h_color_of := fo_color_of (P := P) (w := w) (base := base) T F_color_of m_color_of 
  have h_color_to_take := fo_color_to_take (P := P) (w := w) (base := base) T F_color_to_take m_color_to_take h_color_of
  have h_apply_call := fo_apply_call (P := P) (w := w) (base := base) T F_apply_call m_apply_call h_color_to_take h_color_of
  have h_apply_calls := fo_apply_calls (P := P) (w := w) (base := base) T F_apply_calls m_apply_calls h_apply_call
  have h_lineup_after := fo_lineup_after (P := P) (w := w) (base := base) T F_lineup_after m_lineup_after h_check_lineup_and_calls h_apply_calls
  have h_lineups_by_moment := fo_lineups_by_moment (P := P) (w := w) (base := base) T F_lineups_by_moment m_lineups_by_moment h_lineup_after
  have h_called_sides := fo_called_sides (P := P) (w := w) (base := base) T F_called_sides m_called_sides h_lineups_by_moment
  have h__law_equal := fo__law_equal (P := P) (w := w) (base := base) T F__law_equal m__law_equal 5
  have h__law_holds := fo__law_holds (P := P) (w := w) (base := base) T F__law_holds m__law_holds h__law_due h_called_sides h__law_equal
  have h_law := fo_law (P := P) (w := w) (base := base) T F_law m_law h__law_bag h__law_lineup h__law_draw h__law_calls h__law_holds
  exact h_law
end My
open PySem PySem.W PySem.Calls PyProof.Rows
abbrev Hd.R : OpenRow := OpenLaw.row PySem.Challenge.rw_lastother_k71_sides_of_called_people
abbrev Hd.hk : Hook := He.hookD 4 My.fa My.fn
def Hd.ob (s : SharedT) : He.AlD := He.obsDG 4 My.fa My.fn (HandSHeadRun.getT s)
theorem Hd.ob_eq (s : SharedT) : Hd.ob s = Hd.hk.obs s.abs := He.obsDG_eq (HandSHeadRun.getT_eq s)
theorem Hd.run (w : World) : HandSHeadRun.RunEq Hd.R (view Hd.R.prog [33]) Hd.hk Hd.ob 4000 ["LineupError", "InvalidLineupError", "InvalidCallsError", "LETTERS", "MAX_PEOPLE", "is_integer_in", "is_color", "is_entry", "is_lineup", "check_lineup", "check_calls", "color_of", "color_to_take", "apply_call", "apply_calls", "check_lineup_and_calls", "lineup_after", "lineups_by_moment", "called_sides", "_law_bag", "_law_draw", "_law_lineup", "_law_calls", "_law_called", "_law_applied", "_law_equal", "_law_due", "_law_holds"] w := by
  intro os
  kernel_rfl
theorem PySem.Challenge.cw_lastother_k71_sides_of_called_people_holds : PySem.Challenge.rw_lastother_k71_sides_of_called_people.Holds := by
  w_on; o_law
  refine HandSHeadRun.head_any (r := Hd.R) (q := view Hd.R.prog [33]) (H := Hd.hk) (ob := Hd.ob) (M := 4000) (loose := ["LineupError", "InvalidLineupError", "InvalidCallsError", "LETTERS", "MAX_PEOPLE", "is_integer_in", "is_color", "is_entry", "is_lineup", "check_lineup", "check_calls", "color_of", "color_to_take", "apply_call", "apply_calls", "check_lineup_and_calls", "lineup_after", "lineups_by_moment", "called_sides", "_law_bag", "_law_draw", "_law_lineup", "_law_calls", "_law_called", "_law_applied", "_law_equal", "_law_due", "_law_holds"]) (d := HandSHeadRun.topDef Hd.R.prog 33) (kwd := []) Hd.ob_eq
    (by kernel_rfl) (fun s => by kernel_rfl) Hd.run (by kernel_rfl) (by kernel_rfl) (by kernel_rfl) (by rfl) (by first | assumption | decide +kernel) (by decide +kernel) ⟨rfl, rfl, rfl, rfl, rfl, by decide +kernel⟩ ?hw ?hc
  case hw => w_witness2
  case hc =>
    refine LO.walkG (l := PySem.Challenge.rw_lastother_k71_sides_of_called_people) (n := 63) (k := 10) (x := "script") rfl (by decide) (by kernel_rfl) ⟨rfl, by decide, by decide⟩ ?_
    intro w mg fa h Y G hmg0
    obtain ⟨K, KX, c⟩ := Y
    have hmg : mg ("law" : PySem.Str) = some (.ref fa) := by
      have e : (HandSHeadRun.topDef Hd.R.prog 33).name = ("law" : PySem.Str) := by kernel_rfl
      rw [← e]
      exact hmg0
    obtain ⟨fd, hb, hF⟩ := My.facts (P := (PySem.Challenge.rw_lastother_k71_sides_of_called_people).prog) (w := w) KX G hmg c
    exact ⟨K, fd, KX, hb, hF⟩
