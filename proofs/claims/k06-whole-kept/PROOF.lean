import PyProof.Rows.All
import Wide.All
import OpenK.AllK
import Wide.FinOn
import HandS.Base
import HandS.Call
import HandS.List
import HandS.Comp
import HandS.Ends
import HandS.Iter
import HandS.Words
import HandS.WordsList
import HandS.EndBits
import HandS.Wide
import HandS.Style
import HandS.Zip
import HandS.Conv
import HandS.IsInst
import HandS.Strs
import HandS.SetFor
import KE.SortData
import PySem.Challenge.RW_setahead_k06_whole_kept
set_option Elab.async false
set_option linter.all false
set_option maxRecDepth 100000
set_option maxHeartbeats 4000000
/-! Ab: data told by slots; frames of what is frozen; own lists beside. -/
namespace Ab
open PySem L2

/-! ### heaps -/
def Ex (H H' : Hp) : Prop := ∀ a o, H a = some o → H' a = some o
theorem Ex.rfl (H : Hp) : Ex H H := fun _ _ h => h
theorem Ex.tr {H H1 H2 : Hp} (a : Ex H H1) (b : Ex H1 H2) : Ex H H2 := fun x o h => b x o (a x o h)
theorem Ex.none {H H' : Hp} {p : Addr} (e : Ex H H') (h : H' p = Option.none) : H p = Option.none := by
  cases q : H p with
  | none => rfl
  | some o => rw [e p o q] at h; cases h
theorem Ex.sqL {K : PySem.W.Frag} {H H' : Hp} {a : Addr} {xs : List V} (e : Ex H H') (h : SqL K H a xs) : SqL K H' a xs := by
  rcases h with (h | ⟨o, h⟩) | h
  · exact .inl (.inl (e _ _ h))
  · exact .inl (.inr ⟨o, e _ _ h⟩)
  · exact .inr h
theorem Ex.sqT {K : PySem.W.Frag} {H H' : Hp} {a : Addr} {xs : List V} (e : Ex H H') (h : SqT K H a xs) : SqT K H' a xs := by
  rcases h with (h | ⟨o, h⟩) | h
  · exact .inl (.inl (e _ _ h))
  · exact .inl (.inr ⟨o, e _ _ h⟩)
  · exact .inr h

/-- what a step leads to: G the frozen part of H -/
structure Ext (G H G' H' : Hp) : Prop where
  gg : Ex G G'
  hh : Ex H H'
  gh : Ex G' H'
  ap : ∀ p, G p = Option.none → H p ≠ Option.none → G' p = Option.none
theorem Ext.rfl {G H : Hp} (e : Ex G H) : Ext G H G H := ⟨Ex.rfl G, Ex.rfl H, e, fun _ h _ => h⟩
theorem Ext.tr {G H G1 H1 G2 H2 : Hp} (a : Ext G H G1 H1) (b : Ext G1 H1 G2 H2) : Ext G H G2 H2 where
  gg := a.gg.tr b.gg
  hh := a.hh.tr b.hh
  gh := b.gh
  ap := fun p h1 h2 => b.ap p (a.ap p h1 h2) fun z => h2 (a.hh.none z)
theorem Ext.grow {G H H' : Hp} (e : Ex G H) (h : Ex H H') : Ext G H G H' := ⟨Ex.rfl G, h, e.tr h, fun _ h _ => h⟩
theorem Ex.upd {H : Hp} {p : Addr} {o : HO} (h : H p = Option.none) : Ex H (upd H p o) := fun a u e => by
  rw [upd_ne (ne_of_none e h)]; exact e
/-- a new object, frozen -/
theorem Ext.new {G H : Hp} {p : Addr} {o : HO} (e : Ex G H) (h : H p = Option.none) : Ext G H (L2.upd G p o) (L2.upd H p o) where
  gg := Ex.upd (e.none h)
  hh := Ex.upd h
  gh := fun a u q => by
    by_cases z : a = p
    · subst z; rw [upd_same] at q ⊢; exact q
    · rw [upd_ne z] at q ⊢; exact e a u q
  ap := fun q h1 h2 => by
    by_cases z : q = p
    · subst z; exact absurd h h2
    · rw [upd_ne z]; exact h1
/-- a new object, not frozen -/
theorem Ext.newO {G H : Hp} {p : Addr} {o : HO} (e : Ex G H) (h : H p = Option.none) : Ext G H G (L2.upd H p o) := Ext.grow e (Ex.upd h)
/-- a thing that is not of H is frozen later -/
theorem Ext.frz {G H G' H' : Hp} {p : Addr} {o : HO} (e : Ext G H G' H') (h : H p = Option.none) (h' : H' p = some o) (g : G' p = Option.none) : Ext G H (L2.upd G' p o) H' where
  gg := e.gg.tr (Ex.upd g)
  hh := e.hh
  gh := fun a u q => by
    by_cases z : a = p
    · subst z; rw [upd_same] at q; rw [h']; exact q
    · rw [upd_ne z] at q; exact e.gh a u q
  ap := fun q h1 h2 => by
    by_cases z : q = p
    · subst z; exact absurd h h2
    · rw [upd_ne z]; exact e.ap q h1 h2
/-- a thing that is not of H changes -/
theorem Ext.mut {G H G' H' : Hp} {p : Addr} {o : HO} (e : Ext G H G' H') (h : H p = Option.none) (g : G' p = Option.none) : Ext G H G' (L2.upd H' p o) where
  gg := e.gg
  hh := fun a u q => by rw [upd_ne (ne_of_none q h)]; exact e.hh a u q
  gh := fun a u q => by rw [upd_ne (ne_of_none q g)]; exact e.gh a u q
  ap := e.ap

/-! ### data -/
mutual
inductive Dt (H : Hp) : V → PyData → Prop
  | non : Dt H .non .none
  | bl (b : Bool) : Dt H (.bl b) (.bool b)
  | int (i : Int) : Dt H (.int i) (.int i)
  | str (x : Str) : Dt H (.str x) (.str x)
  | lst {a : Addr} {xs : List V} {ds : List PyData} : H a = some (.lst xs) → DtAll H xs ds → Dt H (.ref a) (.list ds)
  | tup {a : Addr} {xs : List V} {ds : List PyData} : H a = some (.tup xs) → DtAll H xs ds → Dt H (.ref a) (.tuple ds)
inductive DtAll (H : Hp) : List V → List PyData → Prop
  | nil : DtAll H [] []
  | cons {v : V} {vs : List V} {d : PyData} {ds : List PyData} : Dt H v d → DtAll H vs ds → DtAll H (v :: vs) (d :: ds)
end
section
mutual
theorem Dt.ex {H H' : Hp} (e : Ex H H') : ∀ {v : V} {d : PyData}, Dt H v d → Dt H' v d
  | _, _, .non => .non
  | _, _, .bl b => .bl b
  | _, _, .int i => .int i
  | _, _, .str x => .str x
  | _, _, .lst h a => .lst (e _ _ h) (DtAll.ex e a)
  | _, _, .tup h a => .tup (e _ _ h) (DtAll.ex e a)
theorem DtAll.ex {H H' : Hp} (e : Ex H H') : ∀ {vs : List V} {ds : List PyData}, DtAll H vs ds → DtAll H' vs ds
  | _, _, .nil => .nil
  | _, _, .cons h t => .cons (Dt.ex e h) (DtAll.ex e t)
end
mutual
theorem Dt.dp {K : PySem.W.Frag} {H : Hp} : ∀ {v : V} {d : PyData}, Dt H v d → Dp K H v d
  | _, _, .non => .non
  | _, _, .bl b => .bl b
  | _, _, .int i => .int i
  | _, _, .str x => .str x
  | _, _, .lst h a => .lst (.inl (.inl h)) (DtAll.dp a)
  | _, _, .tup h a => .tup (.inl (.inl h)) (DtAll.dp a)
theorem DtAll.dp {K : PySem.W.Frag} {H : Hp} : ∀ {vs : List V} {ds : List PyData}, DtAll H vs ds → DpAll K H vs ds
  | _, _, .nil => .nil
  | _, _, .cons h t => .cons (Dt.dp h) (DtAll.dp t)
end
theorem DtAll.len {H : Hp} : ∀ {vs : List V} {ds : List PyData}, DtAll H vs ds → vs.length = ds.length
  | _, _, .nil => rfl
  | _, _, .cons _ t => by simp [DtAll.len t]
theorem DtAll.at {H : Hp} : ∀ {vs : List V} {ds : List PyData} {i : Nat} {d : PyData}, DtAll H vs ds → ds[i]? = some d → ∃ v, vs[i]? = some v ∧ Dt H v d
  | _, _, _, _, .nil, e => by simp at e
  | _, _, 0, _, .cons h _, e => by simp at e; subst e; exact ⟨_, rfl, h⟩
  | _, _, i + 1, d, .cons _ t, e => by
    obtain ⟨v, h1, h2⟩ := DtAll.at (i := i) (d := d) t (by simpa using e)
    exact ⟨v, by simpa using h1, h2⟩
theorem DtAll.app {H : Hp} : ∀ {vs us : List V} {ds es : List PyData}, DtAll H vs ds → DtAll H us es → DtAll H (vs ++ us) (ds ++ es)
  | _, _, _, _, .nil, s => s
  | _, _, _, _, .cons h t, s => .cons h (DtAll.app t s)
theorem DtAll.set {H : Hp} {v : V} {d : PyData} (r : Dt H v d) : ∀ {vs : List V} {ds : List PyData} (i : Nat), DtAll H vs ds → DtAll H (vs.set i v) (ds.set i d)
  | _, _, _, .nil => .nil
  | _, _, 0, .cons _ t => .cons r t
  | _, _, i + 1, .cons q t => .cons q (DtAll.set r i t)
theorem DtAll.take {H : Hp} : ∀ {vs : List V} {ds : List PyData} (n : Nat), DtAll H vs ds → DtAll H (vs.take n) (ds.take n)
  | _, _, 0, _ => .nil
  | _, _, _ + 1, .nil => .nil
  | _, _, n + 1, .cons r t => .cons r (DtAll.take n t)
theorem DtAll.drop {H : Hp} : ∀ {vs : List V} {ds : List PyData} (n : Nat), DtAll H vs ds → DtAll H (vs.drop n) (ds.drop n)
  | _, _, 0, r => r
  | _, _, _ + 1, .nil => .nil
  | _, _, n + 1, .cons _ t => DtAll.drop n t
theorem DtAll.rev {H : Hp} : ∀ {vs : List V} {ds : List PyData}, DtAll H vs ds → DtAll H vs.reverse ds.reverse
  | _, _, .nil => .nil
  | _, _, .cons r t => by rw [List.reverse_cons, List.reverse_cons]; exact DtAll.app (DtAll.rev t) (.cons r .nil)
theorem DtAll.rep {H : Hp} {vs : List V} {ds : List PyData} (h : DtAll H vs ds) : ∀ k : Nat, DtAll H (List.replicate k vs).flatten (List.replicate k ds).flatten
  | 0 => .nil
  | k + 1 => by rw [List.replicate_succ, List.replicate_succ, List.flatten_cons, List.flatten_cons]; exact DtAll.app h (DtAll.rep h k)
theorem Dt.int_of {H : Hp} {v : V} {i : Int} (h : Dt H v (.int i)) : v = .int i := by cases h; rfl
theorem Dt.bl_of {H : Hp} {v : V} {b : Bool} (h : Dt H v (.bool b)) : v = .bl b := by cases h; rfl
theorem Dt.non_of {H : Hp} {v : V} (h : Dt H v .none) : v = .non := by cases h; rfl
theorem Dt.lst_of {H : Hp} {v : V} {ds : List PyData} (h : Dt H v (.list ds)) : ∃ a vs, v = .ref a ∧ H a = some (.lst vs) ∧ DtAll H vs ds := by
  cases h with
  | lst h a => exact ⟨_, _, rfl, h, a⟩
theorem Dt.tup_of {H : Hp} {v : V} {ds : List PyData} (h : Dt H v (.tuple ds)) : ∃ a vs, v = .ref a ∧ H a = some (.tup vs) ∧ DtAll H vs ds := by
  cases h with
  | tup h a => exact ⟨_, _, rfl, h, a⟩
theorem DtAll.ints {H : Hp} : ∀ {ns : List Int} {vs : List V}, DtAll H vs (ns.map PyData.int) → vs = ns.map V.int
  | [], _, .nil => rfl
  | n :: ns, _, .cons h t => by rw [Dt.int_of h, DtAll.ints t]; rfl
theorem DtAll.bools {H : Hp} : ∀ {ns : List Bool} {vs : List V}, DtAll H vs (ns.map PyData.bool) → vs = ns.map V.bl
  | [], _, .nil => rfl
  | n :: ns, _, .cons h t => by rw [Dt.bl_of h, DtAll.bools t]; rfl
theorem dtAll_ints {H : Hp} : ∀ (ns : List Int), DtAll H (ns.map V.int) (ns.map PyData.int)
  | [] => .nil
  | n :: ns => .cons (.int n) (dtAll_ints ns)
end

/-! ### slots -/
inductive Sl where
  | unk
  | dat (d : PyData)
  | own (ds : List PyData)
  | scr (ns : List Int)
abbrev Sls := List Sl
section
variable (K : PySem.W.Frag)
def SlOk (H0 G H : Hp) (ov : Option V) : Sl → Prop
  | .unk => True
  | .dat d => ∃ v, ov = some v ∧ Dt G v d
  | .own ds => ∃ p vs, ov = some (.ref p) ∧ H p = some (.lst vs) ∧ G p = Option.none ∧ H0 p = Option.none ∧ DtAll G vs ds
  | .scr ns => ∃ a, ov = some (.ref a) ∧ SqL K G a (ns.map V.int)
structure Rel (G0 H0 G H : Hp) (σ : L2.St) (τ : Sls) : Prop where
  base : Ex G0 H0
  ext : Ext G0 H0 G H
  len : σ.length = τ.length
  at_ : ∀ (i : Nat) (s : Sl), τ[i]? = some s → ∃ ov, σ[i]? = some ov ∧ SlOk K H0 G H ov s
  sep : ∀ (i j : Nat) (di dj : List PyData) (p : Addr), τ[i]? = some (.own di) → τ[j]? = some (.own dj) → σ[i]? = some (some (.ref p)) → σ[j]? = some (some (.ref p)) → i = j
end
section
variable {K : PySem.W.Frag} {G0 H0 G H G' H' : Hp} {σ : L2.St} {τ : Sls}
theorem SlOk.step {ov : Option V} {s : Sl} (h : SlOk K H0 G H ov s) (e : Ext G H G' H') : SlOk K H0 G' H' ov s := by
  cases s with
  | unk => trivial
  | dat d => obtain ⟨v, h1, h2⟩ := h; exact ⟨v, h1, Dt.ex e.gg h2⟩
  | own ds =>
    obtain ⟨p, vs, h1, h2, h3, h4, h5⟩ := h
    exact ⟨p, vs, h1, e.hh _ _ h2, e.ap p h3 (by rw [h2]; exact fun z => nomatch z), h4, DtAll.ex e.gg h5⟩
  | scr ns => obtain ⟨a, h1, h2⟩ := h; exact ⟨a, h1, e.gg.sqL h2⟩
theorem Rel.step (r : Rel K G0 H0 G H σ τ) (e : Ext G H G' H') : Rel K G0 H0 G' H' σ τ where
  base := r.base
  ext := r.ext.tr e
  len := r.len
  at_ := fun i s h => by
    obtain ⟨ov, h1, h2⟩ := r.at_ i s h
    exact ⟨ov, h1, h2.step e⟩
  sep := r.sep
theorem Rel.gh (r : Rel K G0 H0 G H σ τ) : Ex G H := r.ext.gh
theorem Rel.var (r : Rel K G0 H0 G H σ τ) {i : Nat} {d : PyData} (h : τ[i]? = some (.dat d)) : ∃ v, σ[i]? = some (some v) ∧ Dt G v d := by
  obtain ⟨ov, h1, v, h2, h3⟩ := r.at_ i _ h
  exact ⟨v, by rw [h1, h2], h3⟩
theorem Rel.ownAt (r : Rel K G0 H0 G H σ τ) {i : Nat} {ds : List PyData} (h : τ[i]? = some (.own ds)) : ∃ p vs, σ[i]? = some (some (.ref p)) ∧ H p = some (.lst vs) ∧ G p = Option.none ∧ H0 p = Option.none ∧ DtAll G vs ds := by
  obtain ⟨ov, h1, p, vs, h2, h3⟩ := r.at_ i _ h
  exact ⟨p, vs, by rw [h1, h2], h3⟩
/-- a slot gets data -/
theorem Rel.set (r : Rel K G0 H0 G H σ τ) (i : Nat) {v : V} {d : PyData} (h : Dt G v d) : Rel K G0 H0 G H (σ.set i (some v)) (τ.set i (.dat d)) where
  base := r.base
  ext := r.ext
  len := by rw [List.length_set, List.length_set]; exact r.len
  at_ := fun j s hj => by
    by_cases z : i = j
    · subst z
      by_cases hl : i < τ.length
      · rw [List.getElem?_set_self hl] at hj
        cases hj
        exact ⟨some v, List.getElem?_set_self (by rw [r.len]; exact hl), v, rfl, h⟩
      · rw [List.getElem?_eq_none (by rw [List.length_set]; omega)] at hj; cases hj
    · rw [List.getElem?_set_ne z] at hj ⊢
      exact r.at_ j s hj
  sep := fun a b da db p ha hb h1 h2 => by
    by_cases z : i = a
    · subst z
      by_cases hl : i < τ.length
      · rw [List.getElem?_set_self hl] at ha; cases ha
      · rw [List.getElem?_eq_none (by rw [List.length_set]; omega)] at ha; cases ha
    · by_cases z2 : i = b
      · subst z2
        by_cases hl : i < τ.length
        · rw [List.getElem?_set_self hl] at hb; cases hb
        · rw [List.getElem?_eq_none (by rw [List.length_set]; omega)] at hb; cases hb
      · rw [List.getElem?_set_ne z] at ha h1
        rw [List.getElem?_set_ne z2] at hb h2
        exact r.sep a b da db p ha hb h1 h2
/-- a slot gets a new list of its own -/
theorem Rel.setOwn (r : Rel K G0 H0 G H σ τ) (e : Ext G H G' H') (i : Nat) {p : Addr} {vs : List V} {ds : List PyData} (hp : H p = Option.none) (hg : G' p = Option.none) (hh : H' p = some (.lst vs)) (h : DtAll G' vs ds) :
    Rel K G0 H0 G' H' (σ.set i (some (.ref p))) (τ.set i (.own ds)) := by
  have r' := r.step e
  have fr : ∀ (a : Nat) (da : List PyData), τ[a]? = some (.own da) → σ[a]? ≠ some (some (.ref p)) := fun a da ha z => by
    obtain ⟨q, us, h1, h2, _⟩ := r.ownAt ha
    rw [z] at h1
    cases h1
    rw [hp] at h2; cases h2
  refine ⟨r.base, r'.ext, by rw [List.length_set, List.length_set]; exact r.len, fun j s hj => ?_, fun a b da db q ha hb h1 h2 => ?_⟩
  · by_cases z : i = j
    · subst z
      by_cases hl : i < τ.length
      · rw [List.getElem?_set_self hl] at hj
        cases hj
        exact ⟨_, List.getElem?_set_self (by rw [r.len]; exact hl), p, vs, rfl, hh, hg, r.ext.hh.none hp, h⟩
      · rw [List.getElem?_eq_none (by rw [List.length_set]; omega)] at hj; cases hj
    · rw [List.getElem?_set_ne z] at hj ⊢
      exact r'.at_ j s hj
  · by_cases z : i = a
    · by_cases z2 : i = b
      · exact z.symm.trans z2
      · subst z
        rw [List.getElem?_set_ne z2] at hb h2
        by_cases hl : i < τ.length
        · rw [List.getElem?_set_self (by rw [r.len]; exact hl)] at h1
          cases h1
          exact absurd h2 (fr b db hb)
        · rw [List.getElem?_eq_none (by rw [List.length_set]; omega)] at ha; cases ha
    · by_cases z2 : i = b
      · subst z2
        rw [List.getElem?_set_ne z] at ha h1
        by_cases hl : i < τ.length
        · rw [List.getElem?_set_self (by rw [r.len]; exact hl)] at h2
          cases h2
          exact absurd h1 (fr a da ha)
        · rw [List.getElem?_eq_none (by rw [List.length_set]; omega)] at hb; cases hb
      · rw [List.getElem?_set_ne z] at ha h1
        rw [List.getElem?_set_ne z2] at hb h2
        exact r.sep a b da db q ha hb h1 h2
/-- an own list changes in place -/
theorem Rel.mut (r : Rel K G0 H0 G H σ τ) {i : Nat} {ds es : List PyData} {p : Addr} {us : List V} (ht : τ[i]? = some (.own ds)) (hs : σ[i]? = some (some (.ref p))) (h : DtAll G us es) :
    Rel K G0 H0 G (upd H p (.lst us)) σ (τ.set i (.own es)) := by
  obtain ⟨p', vs, e1, e2, e3, e4, e5⟩ := r.ownAt ht
  rw [hs] at e1; cases e1
  have hl : i < τ.length := by
    by_cases q : i < τ.length
    · exact q
    · rw [List.getElem?_eq_none (by omega)] at ht; cases ht
  refine ⟨r.base, r.ext.mut e4 e3, by rw [List.length_set]; exact r.len, fun j s hj => ?_, fun a b da db q ha hb h1 h2 => ?_⟩
  · by_cases z : i = j
    · subst z
      rw [List.getElem?_set_self hl] at hj
      cases hj
      exact ⟨_, hs, p, us, rfl, upd_same, e3, e4, h⟩
    · rw [List.getElem?_set_ne z] at hj
      obtain ⟨ov, h1, h2⟩ := r.at_ j s hj
      refine ⟨ov, h1, ?_⟩
      cases s with
      | unk => trivial
      | dat d => exact h2
      | scr ns => exact h2
      | own dj =>
        obtain ⟨q, ws, f1, f2, f3⟩ := h2
        refine ⟨q, ws, f1, ?_, f3⟩
        rw [upd_ne]
        · exact f2
        · intro zz
          subst zz
          rw [f1] at h1
          exact z (r.sep i j ds dj q ht hj hs h1)
  · have back : ∀ (a : Nat) (da : List PyData), (τ.set i (.own es))[a]? = some (.own da) → ∃ da', τ[a]? = some (.own da') := fun a da ha => by
      by_cases z : i = a
      · subst z; exact ⟨ds, ht⟩
      · rw [List.getElem?_set_ne z] at ha; exact ⟨da, ha⟩
    obtain ⟨da', ha'⟩ := back a da ha
    obtain ⟨db', hb'⟩ := back b db hb
    exact r.sep a b da' db' q ha' hb' h1 h2
/-- an own list is frozen -/
theorem Rel.frz (r : Rel K G0 H0 G H σ τ) {i : Nat} {ds : List PyData} (ht : τ[i]? = some (.own ds)) : ∃ G1, Ex G G1 ∧ Rel K G0 H0 G1 H σ (τ.set i (.dat (.list ds))) := by
  obtain ⟨p, vs, e1, e2, e3, e4, e5⟩ := r.ownAt ht
  have hl : i < τ.length := by
    by_cases q : i < τ.length
    · exact q
    · rw [List.getElem?_eq_none (by omega)] at ht; cases ht
  have hx : Ex G (upd G p (.lst vs)) := Ex.upd e3
  refine ⟨upd G p (.lst vs), hx, r.base, r.ext.frz e4 e2 e3, by rw [List.length_set]; exact r.len, fun j s hj => ?_, fun a b da db q ha hb h1 h2 => ?_⟩
  · by_cases z : i = j
    · subst z
      rw [List.getElem?_set_self hl] at hj
      cases hj
      exact ⟨_, e1, _, rfl, .lst upd_same (DtAll.ex hx e5)⟩
    · rw [List.getElem?_set_ne z] at hj
      obtain ⟨ov, h1, h2⟩ := r.at_ j s hj
      refine ⟨ov, h1, ?_⟩
      cases s with
      | unk => trivial
      | dat d => obtain ⟨v, f1, f2⟩ := h2; exact ⟨v, f1, Dt.ex hx f2⟩
      | scr ns => obtain ⟨a, f1, f2⟩ := h2; exact ⟨a, f1, hx.sqL f2⟩
      | own dj =>
        obtain ⟨q, ws, f1, f2, f3, f4, f5⟩ := h2
        refine ⟨q, ws, f1, f2, ?_, f4, DtAll.ex hx f5⟩
        rw [upd_ne]
        · exact f3
        · intro zz
          subst zz
          rw [f1] at h1
          exact z (r.sep i j ds dj q ht hj e1 h1)
  · have back : ∀ (a : Nat) (da : List PyData), (τ.set i (.dat (.list ds)))[a]? = some (.own da) → i ≠ a ∧ τ[a]? = some (.own da) := fun a da ha => by
      by_cases z : i = a
      · subst z; rw [List.getElem?_set_self hl] at ha; cases ha
      · rw [List.getElem?_set_ne z] at ha; exact ⟨z, ha⟩
    exact r.sep a b da db q (back a da ha).2 (back b db hb).2 h1 h2
end
end Ab

namespace Ab
open PySem L2 PySem.Spec PyProof.Rows

/-! ### further operators of the layer -/
def CMulB (i j : Int) : Prop := i.natAbs.log2 + j.natAbs.log2 < 100000000
theorem CMulB.ok {i j : Int} (h : CMulB i j) : IntMulOk i j := by
  have b : ∀ x : Int, Builtin.Int.intBits x ≤ x.natAbs.log2 + 1 := fun x => by
    unfold Builtin.Int.intBits
    split <;> omega
  have b1 := b i
  have b2 := b j
  unfold CMulB at h
  have ln : bitsLine = 134217728 := by decide
  intro z
  rw [Bool.and_eq_true] at z
  have z2 := of_decide_eq_true (show decide _ = true from z.2)
  rw [ln] at z2
  omega
section
variable {X : Cx}
theorem op_mulB : OpR X (binaryOp .Mult) (rI CMulB fun i j => .int (i * j)) := opI fun _ _ _ _ _ _ _ hc q => mul_int q hc.ok
def rAddA : R2 := fun x y H Q => (rI0 fun i j => .int (i + j)) x y H Q ∨ rCat x y H Q
theorem op_addA : OpR X (binaryOp .Add) rAddA := op_add.or op_cat
def rMulA : R2 := fun x y H Q => (rI CMulB fun i j => .int (i * j)) x y H Q ∨ rRep x y H Q
theorem op_mulA : OpR X (binaryOp .Mult) rMulA := op_mulB.or op_rep
def rIxA (K : PySem.W.Frag) : R2 := fun x y H Q => rIxL K x y H Q ∨ rIxT K x y H Q
theorem ix_A : IxR X (rIxA X.K) := ix_list.or ix_tup
/-- a op1 b op2 c op3 d -/
def tChain3 (r r' r'' : R2) (ta tb tc td : TE) : TE := fun σ H Q => ta σ H fun x H1 => tb σ H1 fun y H2 => r x y H2 fun z H3 => ∃ k, z = .bl k ∧
  (if k = true then tc σ H3 fun u H4 => r' y u H4 fun z' H5 => ∃ k', z' = .bl k' ∧ (if k' = true then td σ H5 fun w' H6 => r'' u w' H6 Q else Q (.bl false) H5) else Q (.bl false) H3)
variable {a b c d : Expr} {ta tb tc td : TE} {pos : Pos}
theorem pe_chain3 {op op' op'' : CmpOp} {r r' r'' : R2} (h1 : OpR X (compareOp op) r) (h2 : OpR X (compareOp op') r') (h3 : OpR X (compareOp op'') r'') (ha : PE X a ta) (hb : PE X b tb) (hc : PE X c tc) (hd : PE X d td)
    (hm : lastMarks [op, op', op''] [b, c, d] = false := by with_unfolding_all rfl) : PE X (.Compare a [op, op', op''] [b, c, d] pos) (tChain3 r r' r'' ta tb tc td) := by
  refine ⟨fun pins s σ H Q I h => ?_⟩
  refine Compare_chain (thn (ha.run pins s σ H _ I h) fun v s1 ⟨x, H1, I1, r1, q1⟩ => chain_link (thn (hb.run pins s1 σ H1 _ I1 q1) fun u s2 ⟨y, H2, I2, r2, q2⟩ =>
    thn (h1 pins s2 σ H2 x y v u _ I2 r1 r2 q2) fun d s3 ⟨z, H3, I3, r3, k, e, q3⟩ => ?_)) hm
  subst e
  cases r3
  refine wpAny_truthy_bool ?_
  cases k with
  | false => exact ite_ff ⟨.bl false, H3, I3, rfl, q3⟩
  | true =>
    refine ite_tt (chain_link (thn (hc.run pins s3 σ H3 _ I3 q3) fun u' s4 ⟨y', H4, I4, r4, q4⟩ => thn (h2 pins s4 σ H4 y y' u u' _ I4 r2 r4 q4) fun d' s5 ⟨z', H5, I5, r5, k', e', q5⟩ => ?_))
    subst e'
    cases r5
    refine wpAny_truthy_bool ?_
    cases k' with
    | false => exact ite_ff ⟨.bl false, H5, I5, rfl, q5⟩
    | true => exact ite_tt (chain_last (thn (hd.run pins s5 σ H5 _ I5 q5) fun w' s6 ⟨z'', H6, I6, r6, q6⟩ => h3 pins s6 σ H6 y' z'' u' w' Q I6 r4 r6 q6))
theorem pt_chain3 {op op' op'' : CmpOp} {r r' r'' : R2} (h1 : OpR X (compareOp op) r) (h2 : OpR X (compareOp op') r') (h3 : OpR X (compareOp op'') r'') (ha : PE X a ta) (hb : PE X b tb) (hc : PE X c tc) (hd : PE X d td)
    (hm : lastMarks [op, op', op''] [b, c, d] = false := by with_unfolding_all rfl) : PT X (.Compare a [op, op', op''] [b, c, d] pos) (tTest (tChain3 r r' r'' ta tb tc td)) := by
  refine ⟨fun pins s σ H Q I h => ?_⟩
  refine isTrue_chain (thn (ha.run pins s σ H _ I h) fun v s1 ⟨x, H1, I1, r1, q1⟩ => test_link (thn (hb.run pins s1 σ H1 _ I1 q1) fun u s2 ⟨y, H2, I2, r2, q2⟩ =>
    thn (h1 pins s2 σ H2 x y v u _ I2 r1 r2 q2) fun d s3 ⟨z, H3, I3, r3, k, e, q3⟩ => ?_)) hm
  subst e
  cases r3
  refine wpAny_truthy_bool ?_
  cases k with
  | false =>
    obtain ⟨k', e', q'⟩ := q3
    cases e'
    exact ite_ff ⟨H3, I3, q'⟩
  | true =>
    refine ite_tt (test_link (thn (hc.run pins s3 σ H3 _ I3 q3) fun u' s4 ⟨y', H4, I4, r4, q4⟩ => thn (h2 pins s4 σ H4 y y' u u' _ I4 r2 r4 q4) fun d' s5 ⟨z', H5, I5, r5, k', e', q5⟩ => ?_))
    subst e'
    cases r5
    refine wpAny_truthy_bool ?_
    cases k' with
    | false =>
      obtain ⟨k2, e2, q'⟩ := q5
      cases e2
      exact ite_ff ⟨H5, I5, q'⟩
    | true =>
      refine ite_tt (test_last (thn (hd.run pins s5 σ H5 _ I5 q5) fun w' s6 ⟨z'', H6, I6, r6, q6⟩ => thn (h3 pins s6 σ H6 y' z'' u' w' _ I6 r4 r6 q6) fun d'' s7 ⟨z3, H7, I7, r7, k3, e3, q7⟩ => ?_))
      subst e3
      cases r7
      exact wpAny_truthy_bool ⟨H7, I7, q7⟩
end

/-! ### what evaluates to what -/
section
variable (K : PySem.W.Frag)
def ED (te : TE) (τ : Sls) (d : PyData) : Prop := ∀ G0 H0 G H σ, Rel K G0 H0 G H σ τ → ∀ Q : VK, (∀ v G' H', Ext G H G' H' → Dt G' v d → Q v H') → te σ H Q
/-- a new list -/
def EL (te : TE) (τ : Sls) (ds : List PyData) : Prop := ∀ G0 H0 G H σ, Rel K G0 H0 G H σ τ → ∀ Q : VK, (∀ p vs G' H', Ext G H G' H' → H p = none → G' p = none → H' p = some (.lst vs) → DtAll G' vs ds → Q (.ref p) H') → te σ H Q
def ET (tt : TT) (τ : Sls) (b : Bool) : Prop := ∀ G0 H0 G H σ, Rel K G0 H0 G H σ τ → ∀ Q : Bool → Hp → Prop, (∀ G' H', Ext G H G' H' → Q b H') → tt σ H Q
def ArgOk (G : Hp) (v : V) : Sl → Prop
  | .dat d => Dt G v d
  | .scr ns => ∃ a, v = .ref a ∧ SqL K G a (ns.map V.int)
  | _ => False
inductive ArgsOk (G : Hp) : List V → List Sl → Prop
  | nil : ArgsOk G [] []
  | cons {v : V} {s : Sl} {vs : List V} {ss : List Sl} : ArgOk K G v s → ArgsOk G vs ss → ArgsOk G (v :: vs) (s :: ss)
def EA (ta : TA) (τ : Sls) (as : List Sl) : Prop := ∀ G0 H0 G H σ, Rel K G0 H0 G H σ τ → ∀ Q : List V → Hp → Prop, (∀ vs G' H', Ext G H G' H' → ArgsOk K G' vs as → Q vs H') → ta σ H Q
def EO (to : TO) (τ : Sls) (o : Option Int) : Prop := ∀ G0 H0 G H σ, Rel K G0 H0 G H σ τ → ∀ Q : Option Int → Hp → Prop, (∀ G' H', Ext G H G' H' → Q o H') → to σ H Q
/-- by values -/
def RD (r : R2) (d e f : PyData) : Prop := ∀ G H v u, Ex G H → Dt G v d → Dt G u e → ∀ Q : VK, (∀ w G' H', Ext G H G' H' → Dt G' w f → Q w H') → r v u H Q
def RL (r : R2) (d e : PyData) (fs : List PyData) : Prop := ∀ G H v u, Ex G H → Dt G v d → Dt G u e → ∀ Q : VK, (∀ p vs G' H', Ext G H G' H' → H p = none → G' p = none → H' p = some (.lst vs) → DtAll G' vs fs → Q (.ref p) H') → r v u H Q
def RC (r : List V → Hp → VK → Prop) (as : List Sl) (f : PyData) : Prop := ∀ G H vs, Ex G H → ArgsOk K G vs as → ∀ Q : VK, (∀ w G' H', Ext G H G' H' → Dt G' w f → Q w H') → r vs H Q
def RCL (r : List V → Hp → VK → Prop) (as : List Sl) (fs : List PyData) : Prop := ∀ G H vs, Ex G H → ArgsOk K G vs as → ∀ Q : VK, (∀ p ws G' H', Ext G H G' H' → H p = none → G' p = none → H' p = some (.lst ws) → DtAll G' ws fs → Q (.ref p) H') → r vs H Q
end
section
variable {K : PySem.W.Frag} {τ : Sls} {ta tb tc td te : TE} {d e f : PyData} {r r' r'' : R2} {t u : TT} {tr : TA}
theorem ArgOk.ex {G G' : Hp} {v : V} {s : Sl} (x : Ex G G') (h : ArgOk K G v s) : ArgOk K G' v s := by
  cases s with
  | unk => exact h
  | own ds => exact h
  | dat d => exact Dt.ex x h
  | scr ns => obtain ⟨a, h1, h2⟩ := h; exact ⟨a, h1, x.sqL h2⟩
theorem ArgsOk.ex {G G' : Hp} (x : Ex G G') : ∀ {vs : List V} {ss : List Sl}, ArgsOk K G vs ss → ArgsOk K G' vs ss
  | _, _, .nil => .nil
  | _, _, .cons h t => .cons (h.ex x) (t.ex x)
theorem ArgsOk.len {G : Hp} : ∀ {vs : List V} {ss : List Sl}, ArgsOk K G vs ss → vs.length = ss.length
  | _, _, .nil => rfl
  | _, _, .cons _ t => by simp [t.len]
theorem ed_var {i : Nat} (h : τ[i]? = some (.dat d)) : ED K (tVar i) τ d := fun G0 H0 G H σ r Q q => by
  obtain ⟨v, h1, h2⟩ := r.var h
  exact ⟨v, h1, q v G H (Ext.rfl r.gh) h2⟩
theorem ed_c {v : V} (h : ∀ G, Dt G v d) : ED K (tC v) τ d := fun G0 H0 G H σ r Q q => q v G H (Ext.rfl r.gh) (h G)
theorem ed_int {i : Int} : ED K (tC (.int i)) τ (.int i) := ed_c fun _ => .int i
theorem ed_bl {b : Bool} : ED K (tC (.bl b)) τ (.bool b) := ed_c fun _ => .bl b
theorem ed_non : ED K (tC .non) τ .none := ed_c fun _ => .non
theorem ed_str {x : Str} : ED K (tC (.str x)) τ (.str x) := ed_c fun _ => .str x
theorem ed_is (h : ED K te τ d) (x : d = e) : ED K te τ e := x ▸ h
theorem EL.ed {ds : List PyData} (h : EL K te τ ds) : ED K te τ (.list ds) := fun G0 H0 G H σ r Q q =>
  h G0 H0 G H σ r Q fun p vs G' H' x hp gp hh da => q _ _ _ (x.frz hp hh gp) (.lst upd_same (DtAll.ex (Ex.upd gp) da))
theorem el_is {ds es : List PyData} (h : EL K te τ ds) (x : ds = es) : EL K te τ es := x ▸ h
theorem et_is {a b : Bool} (h : ET K t τ a) (x : a = b) : ET K t τ b := x ▸ h
theorem ed_op (ha : ED K ta τ d) (hb : ED K tb τ e) (hr : RD r d e f) : ED K (tOp r ta tb) τ f := fun G0 H0 G H σ R Q q =>
  ha G0 H0 G H σ R _ fun v G1 H1 x1 d1 => hb G0 H0 G1 H1 σ (R.step x1) _ fun w G2 H2 x2 d2 => hr G2 H2 v w x2.gh (Dt.ex x2.gg d1) d2 Q fun z G3 H3 x3 d3 => q z G3 H3 ((x1.tr x2).tr x3) d3
theorem el_op {fs : List PyData} (ha : ED K ta τ d) (hb : ED K tb τ e) (hr : RL r d e fs) : EL K (tOp r ta tb) τ fs := fun G0 H0 G H σ R Q q =>
  ha G0 H0 G H σ R _ fun v G1 H1 x1 d1 => hb G0 H0 G1 H1 σ (R.step x1) _ fun w G2 H2 x2 d2 => hr G2 H2 v w x2.gh (Dt.ex x2.gg d1) d2 Q fun p vs G3 H3 x3 hp gp hh d3 =>
    q p vs G3 H3 ((x1.tr x2).tr x3) ((x1.tr x2).hh.none hp) gp hh d3
theorem ed_un {g : Int → V} {i : Int} (ha : ED K ta τ (.int i)) (h : ∀ G, Dt G (g i) f) : ED K (tUn (rU g) ta) τ f := fun G0 H0 G H σ R Q q =>
  ha G0 H0 G H σ R _ fun v G1 H1 x1 d1 => ⟨i, Dt.int_of d1, q _ G1 H1 x1 (h G1)⟩
/-! ints -/
theorem rd_I0 {g : Int → Int → V} {i j : Int} (h : ∀ G, Dt G (g i j) f) : RD (rI0 g) (.int i) (.int j) f := fun G H v u x h1 h2 Q q => ⟨i, j, Dt.int_of h1, Dt.int_of h2, q _ G H (Ext.rfl x) (h G)⟩
theorem rd_I {C : Int → Int → Prop} {g : Int → Int → V} {i j : Int} (hc : C i j) (h : ∀ G, Dt G (g i j) f) : RD (rI C g) (.int i) (.int j) f := fun G H v u x h1 h2 Q q => ⟨i, j, Dt.int_of h1, Dt.int_of h2, hc, q _ G H (Ext.rfl x) (h G)⟩
theorem ed_add {i j : Int} (ha : ED K ta τ (.int i)) (hb : ED K tb τ (.int j)) : ED K (tOp rAddA ta tb) τ (.int (i + j)) := ed_op ha hb fun G H v u x h1 h2 Q q => .inl (rd_I0 (fun _ => .int _) G H v u x h1 h2 Q q)
theorem ed_sub {i j : Int} (ha : ED K ta τ (.int i)) (hb : ED K tb τ (.int j)) : ED K (tOp (rI0 fun i j => .int (i - j)) ta tb) τ (.int (i - j)) := ed_op ha hb (rd_I0 fun _ => .int _)
theorem ed_mul {i j : Int} (ha : ED K ta τ (.int i)) (hb : ED K tb τ (.int j)) (hc : CMulB i j) : ED K (tOp rMulA ta tb) τ (.int (i * j)) := ed_op ha hb fun G H v u x h1 h2 Q q => .inl (rd_I hc (fun _ => .int _) G H v u x h1 h2 Q q)
theorem ed_fdiv {i j : Int} (ha : ED K ta τ (.int i)) (hb : ED K tb τ (.int j)) (h0 : 0 < j) (h1 : j < 1073741824) : ED K (tOp (rI CDiv fun i j => .int (i / j)) ta tb) τ (.int (i / j)) := ed_op ha hb (rd_I ⟨h0, h1⟩ fun _ => .int _)
theorem ed_mod {i j : Int} (ha : ED K ta τ (.int i)) (hb : ED K tb τ (.int j)) (h0 : 0 < j) : ED K (tOp (rI (fun _ j => 0 < j) fun i j => .int (i % j)) ta tb) τ (.int (i % j)) := ed_op ha hb (rd_I h0 fun _ => .int _)
theorem ed_lt {i j : Int} (ha : ED K ta τ (.int i)) (hb : ED K tb τ (.int j)) : ED K (tOp (rI0 fun i j => .bl (decide (i < j))) ta tb) τ (.bool (decide (i < j))) := ed_op ha hb (rd_I0 fun _ => .bl _)
theorem ed_le {i j : Int} (ha : ED K ta τ (.int i)) (hb : ED K tb τ (.int j)) : ED K (tOp (rI0 fun i j => .bl (decide (i ≤ j))) ta tb) τ (.bool (decide (i ≤ j))) := ed_op ha hb (rd_I0 fun _ => .bl _)
theorem ed_neg {i : Int} (ha : ED K ta τ (.int i)) : ED K (tUn (rU fun i => .int (-i)) ta) τ (.int (-i)) := ed_un ha fun _ => .int _
/-! lists -/
theorem sz {n : Nat} (h : n ≤ 100000) : n ≤ sizeLine := Nat.le_trans h (by decide)
theorem szl {n : Nat} (h : n < 100000) : n < sizeLine := Nat.lt_of_lt_of_le h (by decide)
theorem el_cat {ds es : List PyData} (ha : ED K ta τ (.list ds)) (hb : ED K tb τ (.list es)) (hl : ds.length + es.length ≤ 100000) : EL K (tOp rAddA ta tb) τ (ds ++ es) := el_op ha hb fun G H v u x h1 h2 Q q => by
  obtain ⟨a, vs, rfl, e1, a1⟩ := Dt.lst_of h1
  obtain ⟨b, us, rfl, e2, a2⟩ := Dt.lst_of h2
  refine .inr ⟨a, b, vs, us, rfl, rfl, x _ _ e1, x _ _ e2, sz (by rw [a1.len, a2.len]; exact hl), fun p hp => ?_⟩
  exact q p _ G _ (Ext.newO x hp) hp (x.none hp) upd_same (a1.app a2)
theorem el_rep {ds : List PyData} {k : Int} (ha : ED K ta τ (.list ds)) (hb : ED K tb τ (.int k)) (h0 : 0 ≤ k) (hk : k ≤ 100000) (hl : ds.length * k.toNat ≤ 100000) : EL K (tOp rMulA ta tb) τ (List.replicate k.toNat ds).flatten := el_op ha hb fun G H v u x h1 h2 Q q => by
  obtain ⟨a, vs, rfl, e1, a1⟩ := Dt.lst_of h1
  cases Dt.int_of h2
  refine .inr ⟨a, k, vs, rfl, rfl, x _ _ e1, by omega, by omega, sz (by rw [a1.len]; exact hl), fun p hp => ?_⟩
  exact q p _ G _ (Ext.newO x hp) hp (x.none hp) upd_same (a1.rep _)
theorem flat_one {α : Type} (x : α) : ∀ k : Nat, (List.replicate k [x]).flatten = List.replicate k x
  | 0 => rfl
  | k + 1 => by rw [List.replicate_succ, List.flatten_cons, flat_one x k, List.replicate_succ]; rfl
theorem at_get {α : Type} {xs : List α} {i : Nat} {v : α} (h : xs[i]? = some v) : atI xs (i : Int) = some v := atI_nat h
theorem DtAll.atI {G : Hp} {vs : List V} {ds : List PyData} {i : Int} (h : DtAll G vs ds) (e : L2.atI ds i = some d) : ∃ v, L2.atI vs i = some v ∧ Dt G v d := by
  unfold L2.atI at e ⊢
  rw [h.len]
  cases q : ixN ds.length i with
  | none => rw [q] at e; cases e
  | some j =>
    rw [q] at e
    exact h.at e
theorem ed_ixL {ds : List PyData} {i : Int} (ha : ED K ta τ (.list ds)) (hb : ED K tb τ (.int i)) (h : atI ds i = some d) : ED K (tOp (rIxA K) ta tb) τ d := ed_op ha hb fun G H v u x h1 h2 Q q => by
  obtain ⟨a, vs, rfl, e1, a1⟩ := Dt.lst_of h1
  obtain ⟨w, f1, f2⟩ := a1.atI h
  cases Dt.int_of h2
  exact .inl ⟨a, vs, i, w, rfl, rfl, .inl (.inl (x _ _ e1)), f1, q _ G H (Ext.rfl x) f2⟩
theorem ed_ixT {ds : List PyData} {i : Int} (ha : ED K ta τ (.tuple ds)) (hb : ED K tb τ (.int i)) (h : atI ds i = some d) : ED K (tOp (rIxA K) ta tb) τ d := ed_op ha hb fun G H v u x h1 h2 Q q => by
  obtain ⟨a, vs, rfl, e1, a1⟩ := Dt.tup_of h1
  obtain ⟨w, f1, f2⟩ := a1.atI h
  cases Dt.int_of h2
  exact .inr ⟨a, vs, i, w, rfl, rfl, .inl (.inl (x _ _ e1)), f1, q _ G H (Ext.rfl x) f2⟩
theorem eo_none : EO K tNoPart τ none := fun G0 H0 G H σ R Q q => q G H (Ext.rfl R.gh)
theorem eo_some {i : Int} (h : ED K te τ (.int i)) : EO K (tPart te) τ (some i) := fun G0 H0 G H σ R Q q => h G0 H0 G H σ R _ fun v G1 H1 x d1 => ⟨i, Dt.int_of d1, q G1 H1 x⟩
def cutD (ds : List PyData) (lo hi : Option Int) : List PyData := (ds.drop (HT.sIx ds.length 0 lo)).take (HT.sIx ds.length ds.length hi - HT.sIx ds.length 0 lo)
theorem DtAll.cut {G : Hp} {vs : List V} {ds : List PyData} (h : DtAll G vs ds) (lo hi : Option Int) : DtAll G (cutV vs lo hi) (cutD ds lo hi) := by
  unfold cutV cutD
  rw [h.len]
  exact (h.drop _).take _
theorem el_sl {tl th : TO} {ds : List PyData} {lo hi : Option Int} (h : ED K te τ (.list ds)) (h1 : EO K tl τ lo) (h2 : EO K th τ hi) : EL K (tSl (rSlL K) te tl th) τ (cutD ds lo hi) := fun G0 H0 G H σ R Q q =>
  h G0 H0 G H σ R _ fun v G1 H1 x1 d1 => h1 G0 H0 G1 H1 σ (R.step x1) _ fun G2 H2 x2 => h2 G0 H0 G2 H2 σ ((R.step x1).step x2) _ fun G3 H3 x3 => by
    obtain ⟨a, vs, rfl, e1, a1⟩ := Dt.lst_of d1
    have xx := (x1.tr x2).tr x3
    have e2 := (x2.tr x3).gg _ _ e1
    refine ⟨a, vs, rfl, .inl (.inl (x3.gh _ _ e2)), fun p hp => ?_⟩
    exact q p _ G3 _ (xx.tr (Ext.newO x3.gh hp)) (xx.hh.none hp) (x3.gh.none hp) upd_same ((DtAll.ex (x2.tr x3).gg a1).cut lo hi)
/-- a slice of the script -/
theorem el_slS {tl th : TO} {i : Nat} {ns : List Int} {lo hi : Option Int} (h : τ[i]? = some (.scr ns)) (h1 : EO K tl τ lo) (h2 : EO K th τ hi) : EL K (tSl (rSlL K) (tVar i) tl th) τ (cutD (ns.map PyData.int) lo hi) := fun G0 H0 G H σ R Q q => by
  obtain ⟨ov, f1, a, f2, f3⟩ := R.at_ i _ h
  refine ⟨.ref a, by rw [f1, f2], ?_⟩
  refine h1 G0 H0 G H σ R _ fun G2 H2 x2 => h2 G0 H0 G2 H2 σ (R.step x2) _ fun G3 H3 x3 => ?_
  have xx := x2.tr x3
  refine ⟨a, ns.map V.int, rfl, xx.gh.sqL (xx.gg.sqL f3), fun p hp => ?_⟩
  exact q p _ G3 _ (xx.tr (Ext.newO x3.gh hp)) (xx.hh.none hp) (x3.gh.none hp) upd_same ((dtAll_ints ns).cut lo hi)
/-! displays, arguments -/
theorem ea_nil : EA K tNil τ [] := fun G0 H0 G H σ R Q q => q [] G H (Ext.rfl R.gh) .nil
theorem ea_cons {as : List Sl} (h : ED K te τ d) (hr : EA K tr τ as) : EA K (tCons te tr) τ (.dat d :: as) := fun G0 H0 G H σ R Q q =>
  h G0 H0 G H σ R _ fun v G1 H1 x1 d1 => hr G0 H0 G1 H1 σ (R.step x1) _ fun vs G2 H2 x2 d2 => q _ G2 H2 (x1.tr x2) (.cons (Dt.ex x2.gg d1) d2)
theorem ea_scr {as : List Sl} {i : Nat} {ns : List Int} (h : τ[i]? = some (.scr ns)) (hr : EA K tr τ as) : EA K (tCons (tVar i) tr) τ (.scr ns :: as) := fun G0 H0 G H σ R Q q => by
  obtain ⟨ov, f1, a, f2, f3⟩ := R.at_ i _ h
  exact ⟨.ref a, by rw [f1, f2], hr G0 H0 G H σ R _ fun vs G2 H2 x2 d2 => q _ G2 H2 x2 (.cons ⟨a, rfl, x2.gg.sqL f3⟩ d2)⟩
def datL (ds : List PyData) : List Sl := ds.map .dat
theorem ArgsOk.dat {G : Hp} : ∀ {ds : List PyData} {vs : List V}, ArgsOk K G vs (datL ds) → DtAll G vs ds
  | [], _, .nil => .nil
  | _ :: _, _, .cons h t => .cons h (ArgsOk.dat t)
theorem ArgsOk.of {G : Hp} : ∀ {ds : List PyData} {vs : List V}, DtAll G vs ds → ArgsOk K G vs (datL ds)
  | _, _, .nil => .nil
  | _, _, .cons h t => .cons h (ArgsOk.of t)
theorem ed_tup {ta : TA} {ds : List PyData} (h : EA K ta τ (datL ds)) (hl : ds.length ≤ 100000) : ED K (tTup ta) τ (.tuple ds) := fun G0 H0 G H σ R Q q =>
  h G0 H0 G H σ R _ fun vs G1 H1 x1 d1 => ⟨sz (by rw [d1.dat.len]; exact hl), fun p hp => q _ _ _ (x1.tr (Ext.new x1.gh hp)) (.tup upd_same (DtAll.ex (Ex.upd (x1.gh.none hp)) d1.dat))⟩
theorem el_lst {ta : TA} {ds : List PyData} (h : EA K ta τ (datL ds)) (hl : ds.length ≤ 100000) : EL K (tLst ta) τ ds := fun G0 H0 G H σ R Q q =>
  h G0 H0 G H σ R _ fun vs G1 H1 x1 d1 => ⟨sz (by rw [d1.dat.len]; exact hl), fun p hp => q _ _ G1 _ (x1.tr (Ext.newO x1.gh hp)) (x1.hh.none hp) (x1.gh.none hp) upd_same d1.dat⟩
/-! tests -/
theorem et_test {b : Bool} (h : ED K te τ (.bool b)) : ET K (tTest te) τ b := fun G0 H0 G H σ R Q q => h G0 H0 G H σ R _ fun v G1 H1 x1 d1 => ⟨b, Dt.bl_of d1, q G1 H1 x1⟩
theorem et_B {b : Bool} (h : ED K te τ (.bool b)) : ET K (tB te) τ b := fun G0 H0 G H σ R Q q => h G0 H0 G H σ R _ fun v G1 H1 x1 d1 => ⟨b, Dt.bl_of d1, q G1 H1 x1⟩
theorem et_and {a b : Bool} (h1 : ET K t τ a) (h2 : a = true → ET K u τ b) : ET K (tAnd t u) τ (a && b) := fun G0 H0 G H σ R Q q => h1 G0 H0 G H σ R _ fun G1 H1 x1 => by
  cases a with
  | true => rw [if_pos rfl]; exact h2 rfl G0 H0 G1 H1 σ (R.step x1) Q fun G2 H2 x2 => q G2 H2 (x1.tr x2)
  | false => rw [if_neg Bool.false_ne_true]; exact q G1 H1 x1
theorem et_or {a b : Bool} (h1 : ET K t τ a) (h2 : a = false → ET K u τ b) : ET K (tOr t u) τ (a || b) := fun G0 H0 G H σ R Q q => h1 G0 H0 G H σ R _ fun G1 H1 x1 => by
  cases a with
  | true => rw [if_pos rfl]; exact q G1 H1 x1
  | false => rw [if_neg Bool.false_ne_true]; exact h2 rfl G0 H0 G1 H1 σ (R.step x1) Q fun G2 H2 x2 => q G2 H2 (x1.tr x2)
theorem et_not {a : Bool} (h1 : ET K t τ a) : ET K (tNot t) τ (!a) := fun G0 H0 G H σ R Q q => h1 G0 H0 G H σ R _ fun G1 H1 x1 => q G1 H1 x1
theorem ed_andV {a b : Bool} (h1 : ED K ta τ (.bool a)) (h2 : a = true → ED K tb τ (.bool b)) : ED K (tAndV ta tb) τ (.bool (a && b)) := fun G0 H0 G H σ R Q q => h1 G0 H0 G H σ R _ fun v G1 H1 x1 d1 => ⟨a, Dt.bl_of d1, by
  cases a with
  | true => rw [if_pos rfl]; exact h2 rfl G0 H0 G1 H1 σ (R.step x1) Q fun w G2 H2 x2 => q w G2 H2 (x1.tr x2)
  | false => rw [if_neg Bool.false_ne_true]; exact q _ G1 H1 x1 (.bl _)⟩
theorem ed_orV {a b : Bool} (h1 : ED K ta τ (.bool a)) (h2 : a = false → ED K tb τ (.bool b)) : ED K (tOrV ta tb) τ (.bool (a || b)) := fun G0 H0 G H σ R Q q => h1 G0 H0 G H σ R _ fun v G1 H1 x1 d1 => ⟨a, Dt.bl_of d1, by
  cases a with
  | true => rw [if_pos rfl]; exact q _ G1 H1 x1 (.bl _)
  | false => rw [if_neg Bool.false_ne_true]; exact h2 rfl G0 H0 G1 H1 σ (R.step x1) Q fun w G2 H2 x2 => q w G2 H2 (x1.tr x2)⟩
theorem ed_notV {a : Bool} (h1 : ED K ta τ (.bool a)) : ED K (tNotV ta) τ (.bool (!a)) := fun G0 H0 G H σ R Q q => h1 G0 H0 G H σ R _ fun v G1 H1 x1 d1 => ⟨a, Dt.bl_of d1, q _ G1 H1 x1 (.bl _)⟩
theorem ed_if {b : Bool} (h : ET K t τ b) (h1 : b = true → ED K ta τ d) (h2 : b = false → ED K tb τ d) : ED K (tIf t ta tb) τ d := fun G0 H0 G H σ R Q q => h G0 H0 G H σ R _ fun G1 H1 x1 => by
  cases b with
  | true => rw [if_pos rfl]; exact h1 rfl G0 H0 G1 H1 σ (R.step x1) Q fun w G2 H2 x2 => q w G2 H2 (x1.tr x2)
  | false => rw [if_neg Bool.false_ne_true]; exact h2 rfl G0 H0 G1 H1 σ (R.step x1) Q fun w G2 H2 x2 => q w G2 H2 (x1.tr x2)
theorem el_if {b : Bool} {ds : List PyData} (h : ET K t τ b) (h1 : b = true → EL K ta τ ds) (h2 : b = false → EL K tb τ ds) : EL K (tIf t ta tb) τ ds := fun G0 H0 G H σ R Q q => h G0 H0 G H σ R _ fun G1 H1 x1 => by
  cases b with
  | true => rw [if_pos rfl]; exact h1 rfl G0 H0 G1 H1 σ (R.step x1) Q fun p vs G2 H2 x2 hp => q p vs G2 H2 (x1.tr x2) (x1.hh.none hp)
  | false => rw [if_neg Bool.false_ne_true]; exact h2 rfl G0 H0 G1 H1 σ (R.step x1) Q fun p vs G2 H2 x2 hp => q p vs G2 H2 (x1.tr x2) (x1.hh.none hp)
theorem ed_chain {b c : Bool} {g : PyData} (ha : ED K ta τ d) (hb : ED K tb τ e) (h1 : RD r d e (.bool b)) (hc : b = true → ED K tc τ f) (h2 : b = true → RD r' e f (.bool c)) : ED K (tChain r r' ta tb tc) τ (.bool (b && c)) := fun G0 H0 G H σ R Q q =>
  ha G0 H0 G H σ R _ fun v G1 H1 x1 d1 => hb G0 H0 G1 H1 σ (R.step x1) _ fun w G2 H2 x2 d2 => h1 G2 H2 v w x2.gh (Dt.ex x2.gg d1) d2 _ fun z G3 H3 x3 d3 => ⟨b, Dt.bl_of d3, by
    have xx := (x1.tr x2).tr x3
    cases b with
    | false => rw [if_neg Bool.false_ne_true]; exact q _ G3 H3 xx (.bl _)
    | true =>
      rw [if_pos rfl]
      exact hc rfl G0 H0 G3 H3 σ (R.step xx) _ fun y G4 H4 x4 d4 => h2 rfl G4 H4 w y x4.gh (Dt.ex (x3.tr x4).gg d2) d4 Q fun z' G5 H5 x5 d5 => q z' G5 H5 ((xx.tr x4).tr x5) d5⟩
theorem ed_chain3 {b c b' : Bool} {g : PyData} (ha : ED K ta τ d) (hb : ED K tb τ e) (h1 : RD r d e (.bool b)) (hc : b = true → ED K tc τ f) (h2 : b = true → RD r' e f (.bool c)) (hd : b = true → c = true → ED K td τ g) (h3 : b = true → c = true → RD r'' f g (.bool b')) :
    ED K (tChain3 r r' r'' ta tb tc td) τ (.bool (b && (c && b'))) := fun G0 H0 G H σ R Q q =>
  ha G0 H0 G H σ R _ fun v G1 H1 x1 d1 => hb G0 H0 G1 H1 σ (R.step x1) _ fun w G2 H2 x2 d2 => h1 G2 H2 v w x2.gh (Dt.ex x2.gg d1) d2 _ fun z G3 H3 x3 d3 => ⟨b, Dt.bl_of d3, by
    have xx := (x1.tr x2).tr x3
    cases b with
    | false => rw [if_neg Bool.false_ne_true]; exact q _ G3 H3 xx (.bl _)
    | true =>
      rw [if_pos rfl]
      refine hc rfl G0 H0 G3 H3 σ (R.step xx) _ fun y G4 H4 x4 d4 => h2 rfl G4 H4 w y x4.gh (Dt.ex (x3.tr x4).gg d2) d4 _ fun z' G5 H5 x5 d5 => ⟨c, Dt.bl_of d5, ?_⟩
      have x6 := (xx.tr x4).tr x5
      cases c with
      | false => rw [if_neg Bool.false_ne_true]; exact q _ G5 H5 x6 (.bl _)
      | true =>
        rw [if_pos rfl]
        exact hd rfl rfl G0 H0 G5 H5 σ (R.step x6) _ fun y' G7 H7 x7 d7 => h3 rfl rfl G7 H7 y y' x7.gh (Dt.ex (x5.tr x7).gg d4) d7 Q fun z'' G8 H8 x8 d8 => q z'' G8 H8 ((x6.tr x7).tr x8) d8⟩
/-! == of data -/
theorem ed_eq (ha : ED K ta τ d) (hb : ED K tb τ e) (h1 : SeqAt.shaped d = true) (h2 : SeqAt.shaped e = true) : ED K (tOp (rEqD K) ta tb) τ (.bool (PyData.eqv d e)) := ed_op ha hb fun G H v u x f1 f2 Q q => ⟨d, e, Dt.dp (Dt.ex x f1), Dt.dp (Dt.ex x f2), h1, h2, q _ G H (Ext.rfl x) (.bl _)⟩
theorem ed_ne (ha : ED K ta τ d) (hb : ED K tb τ e) (h1 : SeqAt.shaped d = true) (h2 : SeqAt.shaped e = true) : ED K (tOp (rNeD K) ta tb) τ (.bool (!PyData.eqv d e)) := ed_op ha hb fun G H v u x f1 f2 Q q => ⟨d, e, Dt.dp (Dt.ex x f1), Dt.dp (Dt.ex x f2), h1, h2, q _ G H (Ext.rfl x) (.bl _)⟩
/-! calls of built-ins -/
theorem ed_cb {r : List V → Hp → VK → Prop} {ta : TA} {as : List Sl} (h : EA K ta τ as) (hr : RC K r as f) : ED K (tCB r ta) τ f := fun G0 H0 G H σ R Q q =>
  h G0 H0 G H σ R _ fun vs G1 H1 x1 d1 => hr G1 H1 vs x1.gh d1 Q fun w G2 H2 x2 d2 => q w G2 H2 (x1.tr x2) d2
theorem el_cb {r : List V → Hp → VK → Prop} {ta : TA} {as : List Sl} {fs : List PyData} (h : EA K ta τ as) (hr : RCL K r as fs) : EL K (tCB r ta) τ fs := fun G0 H0 G H σ R Q q =>
  h G0 H0 G H σ R _ fun vs G1 H1 x1 d1 => hr G1 H1 vs x1.gh d1 Q fun p ws G2 H2 x2 hp gp hh d2 => q p ws G2 H2 (x1.tr x2) (x1.hh.none hp) gp hh d2
end
end Ab

namespace Ab
open PySem L2 PySem.Spec PyProof.Rows

/-! ### built-ins -/
def rLenA (K : PySem.W.Frag) : List V → Hp → VK → Prop := fun xs H Q => ∃ p ys, xs = [.ref p] ∧ (SqL K H p ys ∨ SqT K H p ys) ∧ Q (.int ys.length) H
def rAbs : List V → Hp → VK → Prop := fun xs H Q => ∃ i, xs = [.int i] ∧ Q (.int (if i < 0 then -i else i)) H
def rMx2 : List V → Hp → VK → Prop := fun xs H Q => ∃ i j, xs = [.int i, .int j] ∧ Q (.int (if j > i then j else i)) H
def rMn2 : List V → Hp → VK → Prop := fun xs H Q => ∃ i j, xs = [.int i, .int j] ∧ Q (.int (if j < i then j else i)) H
def rLst (K : PySem.W.Frag) : List V → Hp → VK → Prop := fun xs H Q => ∃ p ys, xs = [.ref p] ∧ (SqL K H p ys ∨ SqT K H p ys) ∧ ∀ l, H l = none → Q (.ref l) (upd H l (.lst ys))
section
variable {X : Cx}
theorem cr_lenA : CallR X (.builtin "len") (rLenA X.K) := call_len_seq
theorem cr_abs : CallR X (.builtin "abs") rAbs := call_abs
theorem cr_mx2 (hc : X.calm = true) : CallR X (.builtin "max") rMx2 := call_max2 hc
theorem cr_mn2 (hc : X.calm = true) : CallR X (.builtin "min") rMn2 := call_min2 hc
theorem cr_lst : CallR X (.type "list") (rLst X.K) := call_list_of
end
section
variable {K : PySem.W.Frag} {τ : Sls} {ta tb tc td te : TE} {d e f : PyData} {r r' r'' : R2} {t u : TT} {tr : TA}
theorem args1 {G : Hp} {vs : List V} {s : Sl} (h : ArgsOk K G vs [s]) : ∃ v, vs = [v] ∧ ArgOk K G v s := by
  cases h with
  | cons h t => cases t; exact ⟨_, rfl, h⟩
theorem args2 {G : Hp} {vs : List V} {s s' : Sl} (h : ArgsOk K G vs [s, s']) : ∃ v v', vs = [v, v'] ∧ ArgOk K G v s ∧ ArgOk K G v' s' := by
  cases h with
  | cons h t => obtain ⟨v', rfl, h'⟩ := args1 t; exact ⟨_, _, rfl, h, h'⟩
theorem rc_lenL {ds : List PyData} : RC K (rLenA K) [.dat (.list ds)] (.int ds.length) := fun G H vs x a Q q => by
  obtain ⟨v, rfl, h⟩ := args1 a
  obtain ⟨p, us, rfl, e1, a1⟩ := Dt.lst_of h
  exact ⟨p, us, rfl, .inl (.inl (.inl (x _ _ e1))), by rw [a1.len]; exact q _ G H (Ext.rfl x) (.int _)⟩
theorem rc_lenT {ds : List PyData} : RC K (rLenA K) [.dat (.tuple ds)] (.int ds.length) := fun G H vs x a Q q => by
  obtain ⟨v, rfl, h⟩ := args1 a
  obtain ⟨p, us, rfl, e1, a1⟩ := Dt.tup_of h
  exact ⟨p, us, rfl, .inr (.inl (.inl (x _ _ e1))), by rw [a1.len]; exact q _ G H (Ext.rfl x) (.int _)⟩
theorem rc_lenS {ns : List Int} : RC K (rLenA K) [.scr ns] (.int ns.length) := fun G H vs x a Q q => by
  obtain ⟨v, rfl, p, rfl, h⟩ := args1 a
  exact ⟨p, _, rfl, .inl (x.sqL h), by rw [List.length_map]; exact q _ G H (Ext.rfl x) (.int _)⟩
theorem rc_abs {i : Int} : RC K rAbs [.dat (.int i)] (.int i.natAbs) := fun G H vs x a Q q => by
  obtain ⟨v, rfl, h⟩ := args1 a
  refine ⟨i, by rw [Dt.int_of h], ?_⟩
  have e : (if i < 0 then -i else i) = (i.natAbs : Int) := by split <;> omega
  rw [e]
  exact q _ G H (Ext.rfl x) (.int _)
theorem rc_max {i j : Int} : RC K rMx2 [.dat (.int i), .dat (.int j)] (.int (max i j)) := fun G H vs x a Q q => by
  obtain ⟨v, w, rfl, h1, h2⟩ := args2 a
  refine ⟨i, j, by rw [Dt.int_of h1, Dt.int_of h2], ?_⟩
  have e : (if j > i then j else i) = max i j := by split <;> omega
  rw [e]
  exact q _ G H (Ext.rfl x) (.int _)
theorem rc_min {i j : Int} : RC K rMn2 [.dat (.int i), .dat (.int j)] (.int (min i j)) := fun G H vs x a Q q => by
  obtain ⟨v, w, rfl, h1, h2⟩ := args2 a
  refine ⟨i, j, by rw [Dt.int_of h1, Dt.int_of h2], ?_⟩
  have e : (if j < i then j else i) = min i j := by split <;> omega
  rw [e]
  exact q _ G H (Ext.rfl x) (.int _)
theorem rc_sum {ns : List Int} : RC K (rSum K) [.dat (.list (ns.map PyData.int))] (.int ns.sum) := fun G H vs x a Q q => by
  obtain ⟨v, rfl, h⟩ := args1 a
  obtain ⟨p, us, rfl, e1, a1⟩ := Dt.lst_of h
  rw [DtAll.ints a1] at e1
  exact ⟨p, ns, rfl, .inl (.inl (x _ _ e1)), q _ G H (Ext.rfl x) (.int _)⟩
theorem rc_all {bs : List Bool} : RC K (rAll K) [.dat (.list (bs.map PyData.bool))] (.bool (bs.all id)) := fun G H vs x a Q q => by
  obtain ⟨v, rfl, h⟩ := args1 a
  obtain ⟨p, us, rfl, e1, a1⟩ := Dt.lst_of h
  rw [DtAll.bools a1] at e1
  exact ⟨p, bs, rfl, .inl (.inl (x _ _ e1)), q _ G H (Ext.rfl x) (.bl _)⟩
theorem rc_any {bs : List Bool} : RC K (rAny K) [.dat (.list (bs.map PyData.bool))] (.bool (bs.any id)) := fun G H vs x a Q q => by
  obtain ⟨v, rfl, h⟩ := args1 a
  obtain ⟨p, us, rfl, e1, a1⟩ := Dt.lst_of h
  rw [DtAll.bools a1] at e1
  exact ⟨p, bs, rfl, .inl (.inl (x _ _ e1)), q _ G H (Ext.rfl x) (.bl _)⟩
theorem rcl_list {ds : List PyData} : RCL K (rLst K) [.dat (.list ds)] ds := fun G H vs x a Q q => by
  obtain ⟨v, rfl, h⟩ := args1 a
  obtain ⟨p, us, rfl, e1, a1⟩ := Dt.lst_of h
  exact ⟨p, us, rfl, .inl (.inl (.inl (x _ _ e1))), fun l hl => q l us G _ (Ext.newO x hl) hl (x.none hl) upd_same a1⟩
/-! own lists read for a scalar -/
def scalar : PyData → Bool
  | .none => true
  | .bool _ => true
  | .int _ => true
  | .str _ => true
  | _ => false
theorem Dt.scal {G G' : Hp} {v : V} (hs : scalar d = true) (h : Dt G v d) : Dt G' v d := by
  cases h with
  | non => exact .non
  | bl b => exact .bl b
  | int i => exact .int i
  | str x => exact .str x
  | lst _ _ => cases hs
  | tup _ _ => cases hs
theorem ed_frz (i : Nat) {ds : List PyData} (ht : τ[i]? = some (.own ds)) (h : ED K te (τ.set i (.dat (.list ds))) d) (hs : scalar d = true := by rfl) : ED K te τ d := fun G0 H0 G H σ R Q q => by
  obtain ⟨G1, x, R1⟩ := R.frz ht
  exact h G0 H0 G1 H σ R1 Q fun v G' H' xx dd => q v G H' (Ext.grow R.gh xx.hh) (Dt.scal hs dd)
theorem et_frz (i : Nat) {ds : List PyData} {b : Bool} (ht : τ[i]? = some (.own ds)) (h : ET K t (τ.set i (.dat (.list ds))) b) : ET K t τ b := fun G0 H0 G H σ R Q q => by
  obtain ⟨G1, x, R1⟩ := R.frz ht
  exact h G0 H0 G1 H σ R1 Q fun G' H' xx => q G H' (Ext.grow R.gh xx.hh)
end

/-! ### what is walked -/
section
variable (K : PySem.W.Frag)
def JD (G : Hp) (J : It) (its : List PyData) : Prop := ∀ G1 H1, Ex G G1 → Ex G1 H1 → ∀ i : Nat, (∀ d, its[i]? = some d → J.go i H1 ∧ ∀ x H2, J.yld i H1 x H2 → ∃ G2, Ext G1 H1 G2 H2 ∧ Dt G2 x d) ∧ (its.length ≤ i → J.stop i H1)
def EI (wi : TI) (τ : Sls) (its : List PyData) : Prop := ∀ G0 H0 G H σ, Rel K G0 H0 G H σ τ → ∀ R : It → Hp → Prop, (∀ J G' H', Ext G H G' H' → JD G' J its → R J H') → wi σ H R
def TGD (g : TG) (js : List Nat) (d : PyData) (τ τ2 : Sls) : Prop := ∀ G0 H0 G H σ v, Rel K G0 H0 G H σ τ → Dt G v d → ∀ Q : L2.St → Hp → Prop, (∀ σ2, Rel K G0 H0 G H σ2 τ2 → (∀ k, k ∉ js → σ2[k]? = σ[k]?) → σ2.length = σ.length → Q σ2 H) → g v σ H Q
def TGsD (g : TGs) (js : List Nat) (ds : List PyData) (τ τ2 : Sls) : Prop := ∀ G0 H0 G H σ vs, Rel K G0 H0 G H σ τ → DtAll G vs ds → ∀ Q : L2.St → Hp → Prop, (∀ σ2, Rel K G0 H0 G H σ2 τ2 → (∀ k, k ∉ js → σ2[k]? = σ[k]?) → σ2.length = σ.length → Q σ2 H) → g vs σ H Q
end
section
variable {K : PySem.W.Frag} {τ : Sls} {ta tb tc td te : TE} {d e f : PyData} {t u : TT} {tr : TA}
theorem SqL.one {G H : Hp} {a : Addr} {xs ys : List V} (e : H a = some (.lst xs)) (h : ∀ zs, SqL K H a zs → zs = ys) : xs = ys := h xs (.inl (.inl e))
theorem ei_list {ds : List PyData} (h : ED K te τ (.list ds)) : EI K (iList K te) τ ds := fun G0 H0 G H σ R Q q => h G0 H0 G H σ R _ fun v G1 H1 x1 d1 => by
  obtain ⟨a, vs, rfl, e1, a1⟩ := Dt.lst_of d1
  refine ⟨a, rfl, ⟨vs, .inl (.inl (x1.gh _ _ e1))⟩, q _ G1 H1 x1 fun G2 H2 y1 y2 i => ⟨fun d hd => ?_, fun hi => ?_⟩⟩
  · obtain ⟨w, f1, f2⟩ := a1.at hd
    have e2 := y2 _ _ (y1 _ _ e1)
    refine ⟨⟨vs, w, .inl (.inl e2), f1⟩, fun x H3 y => ?_⟩
    obtain ⟨rfl, y⟩ := y
    have z := y vs (.inl (.inl e2))
    rw [f1] at z
    cases z
    exact ⟨G2, Ext.rfl y2, Dt.ex y1 f2⟩
  · exact ⟨vs, .inl (.inl (y2 _ _ (y1 _ _ e1))), by rw [a1.len]; exact hi⟩
theorem ei_tup {ds : List PyData} (h : ED K te τ (.tuple ds)) : EI K (iTup K te) τ ds := fun G0 H0 G H σ R Q q => h G0 H0 G H σ R _ fun v G1 H1 x1 d1 => by
  obtain ⟨a, vs, rfl, e1, a1⟩ := Dt.tup_of d1
  refine ⟨a, rfl, ⟨vs, .inl (.inl (x1.gh _ _ e1))⟩, q _ G1 H1 x1 fun G2 H2 y1 y2 i => ⟨fun d hd => ?_, fun hi => ?_⟩⟩
  · obtain ⟨w, f1, f2⟩ := a1.at hd
    have e2 := y2 _ _ (y1 _ _ e1)
    refine ⟨⟨vs, w, .inl (.inl e2), f1⟩, fun x H3 y => ?_⟩
    obtain ⟨rfl, y⟩ := y
    have z := y vs (.inl (.inl e2))
    rw [f1] at z
    cases z
    exact ⟨G2, Ext.rfl y2, Dt.ex y1 f2⟩
  · exact ⟨vs, .inl (.inl (y2 _ _ (y1 _ _ e1))), by rw [a1.len]; exact hi⟩
/-- range's ints -/
def rngD (lo : Int) (n : Nat) : List PyData := (List.range n).map fun i => .int (lo + (i : Nat))
theorem rngD_at {lo : Int} {n i : Nat} : (rngD lo n)[i]? = if i < n then some (.int (lo + (i : Nat))) else none := by
  unfold rngD
  rw [List.getElem?_map]
  by_cases h : i < n
  · rw [List.getElem?_range h, if_pos h]; rfl
  · rw [List.getElem?_eq_none (by rw [List.length_range]; omega), if_neg h]; rfl
theorem rngD_len {lo : Int} {n : Nat} : (rngD lo n).length = n := by simp [rngD]
theorem jd_rng {G : Hp} {lo : Int} {n : Nat} : JD G (Itr lo n) (rngD lo n) := fun G2 H2 y1 y2 i => by
  refine ⟨fun d hd => ?_, fun hi => ?_⟩
  · rw [rngD_at] at hd
    by_cases h : i < n
    · rw [if_pos h] at hd
      cases hd
      refine ⟨h, fun x H3 y => ?_⟩
      obtain ⟨rfl, rfl⟩ := y
      exact ⟨G2, Ext.rfl y2, .int _⟩
    · rw [if_neg h] at hd
      cases hd
  · rw [rngD_len] at hi
    exact hi
theorem ei_rng1 {ta : TA} {j : Int} (h : EA K ta τ [.dat (.int j)]) (h0 : -1000000 ≤ j) (h1 : j ≤ 1000000) : EI K (iRng1 ta) τ (rngD 0 j.toNat) := fun G0 H0 G H σ R Q q => h G0 H0 G H σ R _ fun vs G1 H1 x1 a1 => by
  obtain ⟨v, rfl, h⟩ := args1 a1
  exact ⟨j, by rw [Dt.int_of h], by omega, by omega, q _ G1 H1 x1 jd_rng⟩
theorem ei_rng2 {ta : TA} {i j : Int} (h : EA K ta τ [.dat (.int i), .dat (.int j)]) (h0 : -1000000 ≤ i) (h1 : i ≤ 1000000) (h2 : -1000000 ≤ j) (h3 : j ≤ 1000000) : EI K (iRng2 ta) τ (rngD i (j - i).toNat) := fun G0 H0 G H σ R Q q => h G0 H0 G H σ R _ fun vs G1 H1 x1 a1 => by
  obtain ⟨v, w, rfl, h, h'⟩ := args2 a1
  exact ⟨i, j, by rw [Dt.int_of h, Dt.int_of h'], ⟨by omega, by omega, by omega, by omega⟩, q _ G1 H1 x1 jd_rng⟩
def enumD (ds : List PyData) : List PyData := ds.mapIdx fun i d => .tuple [.int (i : Nat), d]
theorem ei_enum {ta : TA} {ds : List PyData} (h : EA K ta τ [.dat (.list ds)]) : EI K (iEnum K ta) τ (enumD ds) := fun G0 H0 G H σ R Q q => h G0 H0 G H σ R _ fun vs G1 H1 x1 a1 => by
  obtain ⟨v, rfl, h⟩ := args1 a1
  obtain ⟨a, vs, rfl, e1, a1⟩ := Dt.lst_of h
  refine ⟨a, vs, rfl, .inl (.inl (x1.gh _ _ e1)), q _ G1 H1 x1 fun G2 H2 y1 y2 i => ⟨fun d hd => ?_, fun hi => ?_⟩⟩
  · unfold enumD at hd
    rw [List.getElem?_mapIdx] at hd
    cases hq : ds[i]? with
    | none => rw [hq] at hd; cases hd
    | some d' =>
      rw [hq] at hd
      cases hd
      obtain ⟨w, f1, f2⟩ := a1.at hq
      have e2 := y2 _ _ (y1 _ _ e1)
      refine ⟨⟨vs, w, .inl (.inl e2), f1⟩, fun x H3 y => ?_⟩
      obtain ⟨T, w', rfl, hT, rfl, y⟩ := y
      have z := y vs (.inl (.inl e2))
      rw [f1] at z
      cases z
      exact ⟨_, Ext.new y2 hT, .tup upd_same (.cons (.int _) (.cons (Dt.ex (y1.tr (Ex.upd (y2.none hT))) f2) .nil))⟩
  · refine ⟨vs, .inl (.inl (y2 _ _ (y1 _ _ e1))), ?_⟩
    unfold enumD at hi
    rw [List.length_mapIdx] at hi
    rw [a1.len]; exact hi
theorem ei_zip {ta : TA} {ds es : List PyData} (h : EA K ta τ [.dat (.list ds), .dat (.list es)]) : EI K (iZip K ta) τ (List.zipWith (fun d e => PyData.tuple [d, e]) ds es) := fun G0 H0 G H σ R Q q => h G0 H0 G H σ R _ fun vs G1 H1 x1 a0 => by
  obtain ⟨v, w, ev, h, h'⟩ := args2 a0
  obtain ⟨a, vs, ea, e1, a1⟩ := Dt.lst_of h
  obtain ⟨b, us, eb, e2, a2⟩ := Dt.lst_of h'
  subst ea eb ev
  refine ⟨a, b, vs, us, rfl, .inl (.inl (x1.gh _ _ e1)), .inl (.inl (x1.gh _ _ e2)), q _ G1 H1 x1 fun G2 H2 y1 y2 i => ⟨fun d hd => ?_, fun hi => ?_⟩⟩
  · rw [List.getElem?_zipWith] at hd
    cases hq : ds[i]? with
    | none => rw [hq] at hd; cases hd
    | some d' =>
      cases hq' : es[i]? with
      | none => rw [hq, hq'] at hd; cases hd
      | some e' =>
        rw [hq, hq'] at hd
        cases hd
        obtain ⟨w, f1, f2⟩ := a1.at hq
        obtain ⟨w', g1, g2⟩ := a2.at hq'
        have k1 := y2 _ _ (y1 _ _ e1)
        have k2 := y2 _ _ (y1 _ _ e2)
        refine ⟨⟨vs, us, w, w', .inl (.inl k1), .inl (.inl k2), f1, g1⟩, fun x H3 y => ?_⟩
        obtain ⟨T, z, z', rfl, hT, rfl, y, y'⟩ := y
        have z1 := y vs (.inl (.inl k1))
        have z2 := y' us (.inl (.inl k2))
        rw [f1] at z1
        rw [g1] at z2
        cases z1
        cases z2
        have xx := y1.tr (Ex.upd (o := HO.tup [w, w']) (y2.none hT))
        exact ⟨_, Ext.new y2 hT, .tup upd_same (.cons (Dt.ex xx f2) (.cons (Dt.ex xx g2) .nil))⟩
  · refine ⟨vs, us, .inl (.inl (y2 _ _ (y1 _ _ e1))), .inl (.inl (y2 _ _ (y1 _ _ e2))), ?_⟩
    rw [List.length_zipWith] at hi
    rw [a1.len, a2.len]; omega
/-! targets -/
theorem tg_name (j : Nat) : TGD K (gName j) [j] d τ (τ.set j (.dat d)) := fun G0 H0 G H σ v R h Q q => q _ (R.set j h) (fun k hk => List.getElem?_set_ne (fun z => hk (by simp [z]))) List.length_set
theorem tgs_nil : TGsD K gNil [] [] τ τ := fun G0 H0 G H σ vs R h Q q => by
  cases h
  exact ⟨rfl, q σ R (fun k _ => rfl) rfl⟩
theorem tgs_cons {g : TG} {gs : TGs} {js ks : List Nat} {ds : List PyData} {τ1 τ2 : Sls} (h1 : TGD K g js d τ τ1) (h2 : TGsD K gs ks ds τ1 τ2) : TGsD K (gCons g gs) (js ++ ks) (d :: ds) τ τ2 := fun G0 H0 G H σ vs R h Q q => by
  cases h with
  | cons h t =>
    refine ⟨_, _, rfl, h1 G0 H0 G H σ _ R h _ fun σ1 R1 k1 l1 => h2 G0 H0 G H σ1 _ R1 t Q fun σ2 R2 k2 l2 => q σ2 R2 (fun k hk => ?_) (l2.trans l1)⟩
    rw [List.mem_append, not_or] at hk
    rw [k2 k hk.2, k1 k hk.1]
theorem tg_tup {gs : TGs} {n : Nat} {js : List Nat} {ds : List PyData} {τ2 : Sls} (h : TGsD K gs js ds τ τ2) (hn : ds.length = n) : TGD K (gTup K n gs) js (.tuple ds) τ τ2 := fun G0 H0 G H σ v R hv Q q => by
  obtain ⟨a, vs, rfl, e1, a1⟩ := Dt.tup_of hv
  exact ⟨a, vs, rfl, .inl (.inl (R.gh _ _ e1)), by rw [a1.len]; exact hn, h G0 H0 G H σ vs R a1 Q q⟩
/-! wiped slots -/
def wipeS (τ : Sls) : List Nat → Sls
  | [] => τ
  | v :: vs => (wipeS τ vs).set v .unk
theorem Rel.unk {G0 H0 G H : Hp} {σ : L2.St} (r : Rel K G0 H0 G H σ τ) (i : Nat) : Rel K G0 H0 G H (σ.set i none) (τ.set i .unk) where
  base := r.base
  ext := r.ext
  len := by rw [List.length_set, List.length_set]; exact r.len
  at_ := fun j s hj => by
    by_cases z : i = j
    · subst z
      by_cases hl : i < τ.length
      · rw [List.getElem?_set_self hl] at hj
        cases hj
        exact ⟨none, List.getElem?_set_self (by rw [r.len]; exact hl), trivial⟩
      · rw [List.getElem?_eq_none (by rw [List.length_set]; omega)] at hj; cases hj
    · rw [List.getElem?_set_ne z] at hj ⊢
      exact r.at_ j s hj
  sep := fun a b da db p ha hb h1 h2 => by
    have back : ∀ (a : Nat) (da : List PyData), (τ.set i .unk)[a]? = some (.own da) → i ≠ a ∧ τ[a]? = some (.own da) := fun a da ha => by
      by_cases z : i = a
      · subst z
        by_cases hl : i < τ.length
        · rw [List.getElem?_set_self hl] at ha; cases ha
        · rw [List.getElem?_eq_none (by rw [List.length_set]; omega)] at ha; cases ha
      · rw [List.getElem?_set_ne z] at ha; exact ⟨z, ha⟩
    obtain ⟨z1, ha⟩ := back a da ha
    obtain ⟨z2, hb⟩ := back b db hb
    rw [List.getElem?_set_ne z1] at h1
    rw [List.getElem?_set_ne z2] at h2
    exact r.sep a b da db p ha hb h1 h2
theorem Rel.wipe {G0 H0 G H : Hp} {σ : L2.St} (r : Rel K G0 H0 G H σ τ) : ∀ vs : List Nat, Rel K G0 H0 G H (L2.wipe σ vs) (wipeS τ vs)
  | [] => r
  | v :: vs => (r.wipe vs).unk v
theorem wipe_at {σ : L2.St} {i : Nat} : ∀ {vs : List Nat}, (L2.wipe σ vs)[i]? = if i ∈ vs ∧ i < σ.length then some none else σ[i]?
  | [] => by simp [L2.wipe]
  | v :: vs => by
    unfold L2.wipe
    by_cases h : v = i
    · subst h
      by_cases hl : v < σ.length
      · rw [List.getElem?_set_self (by rw [wipe_length]; exact hl), if_pos ⟨by simp, hl⟩]
      · rw [List.getElem?_eq_none (by rw [List.length_set, wipe_length]; omega), if_neg (fun z => hl z.2), List.getElem?_eq_none (by omega)]
    · rw [List.getElem?_set_ne h, wipe_at]
      have e : i ∈ v :: vs ↔ i ∈ vs := by rw [List.mem_cons]; exact ⟨fun z => z.resolve_left fun q => h q.symm, .inr⟩
      simp only [e]
theorem wipe_agree {σ σ2 : L2.St} {vs js : List Nat} (hl : σ2.length = σ.length) (hj : ∀ j ∈ js, j ∈ vs) (h : ∀ k : Nat, k ∉ js → σ2[k]? = (L2.wipe σ vs)[k]?) : L2.wipe σ2 vs = L2.wipe σ vs := by
  apply List.ext_getElem?
  intro i
  rw [wipe_at, wipe_at, hl]
  by_cases c : i ∈ vs ∧ i < σ.length
  · rw [if_pos c, if_pos c]
  · rw [if_neg c, if_neg c]
    by_cases m : i ∈ vs
    · have : ¬ i < σ.length := fun z => c ⟨m, z⟩
      rw [List.getElem?_eq_none (by omega), List.getElem?_eq_none (by omega)]
    · rw [h i fun z => m (hj i z), wipe_at, if_neg fun z => m z.1]
/-! comprehensions -/
theorem et_yes : ET K tYes τ true := fun G0 H0 G H σ R Q q => q G H (Ext.rfl R.gh)
theorem el_lc {α : Type} (xs : List α) (q : α → PyData) (F : α → Option PyData) {wi : TI} {g : TG} {tt : TT} {vs js : List Nat} (hi : EI K wi τ (xs.map q)) (hj : ∀ j ∈ js, j ∈ vs) (hn : xs.length ≤ 100000)
    (h : ∀ x ∈ xs, ∃ τ2, TGD K g js (q x) (wipeS τ vs) τ2 ∧ ((F x = none ∧ ET K tt τ2 false) ∨ ∃ y, F x = some y ∧ ET K tt τ2 true ∧ ED K te τ2 y)) : EL K (tLc wi g tt te vs) τ (xs.filterMap F) := by
  intro G0 H0 G H σ R Q k
  refine hi G0 H0 G H σ R _ fun J G1 H1 x1 jd D hD => ?_
  refine ⟨fun i m Hc => m = xs.length - i ∧ i ≤ xs.length ∧ ∃ G2 ws, Ext G1 H1 G2 Hc ∧ Hc D = some (.lst ws) ∧ G2 D = none ∧ DtAll G2 ws ((xs.take i).filterMap F) ∧ ((xs.take i).filterMap F).length ≤ i, ⟨xs.length, by simp, Nat.zero_le _, G1, [], Ext.newO x1.gh hD, upd_same, x1.gh.none hD, .nil, by simp⟩, ?_⟩
  rintro i m Hc ⟨rfl, hin, G2, ws, y1, y2, y3, y4, y5⟩
  obtain ⟨jgo, jst⟩ := jd G2 Hc y1.gg y1.gh i
  by_cases hlt : i < xs.length
  · obtain ⟨x, hx⟩ : ∃ x, xs[i]? = some x := ⟨xs[i], List.getElem?_eq_getElem hlt⟩
    obtain ⟨go, yl⟩ := jgo (q x) (by rw [List.getElem?_map, hx]; rfl)
    refine .inr ⟨go, fun H' => ∃ G3 ws', Ext G1 H1 G3 H' ∧ H' D = some (.lst ws') ∧ G3 D = none ∧ DtAll G3 ws' ((xs.take (i + 1)).filterMap F) ∧ ((xs.take (i + 1)).filterMap F).length ≤ i + 1, fun H' hN => ⟨xs.length - (i + 1), by omega, rfl, hlt, hN⟩, fun v H' yv => ?_⟩
    obtain ⟨G3, z1, z2⟩ := yl v H' yv
    obtain ⟨τ2, tg, alt⟩ := h x (List.mem_of_getElem? hx)
    have zz : Ext G H G3 H' := (x1.tr y1).tr z1
    have RW := (R.step zz).wipe vs
    have tk : (xs.take (i + 1)) = xs.take i ++ [x] := by rw [List.take_add_one, hx]; rfl
    have fmE : F x = none → (xs.take (i + 1)).filterMap F = (xs.take i).filterMap F := fun e => by
      rw [tk, List.filterMap_append, List.filterMap_cons_none e, List.filterMap_nil, List.append_nil]
    have fmY : ∀ y, F x = some y → (xs.take (i + 1)).filterMap F = (xs.take i).filterMap F ++ [y] := fun y e => by
      rw [tk, List.filterMap_append, List.filterMap_cons_some e, List.filterMap_nil]
    refine tg G0 H0 G3 H' _ v RW z2 _ fun σ2 R2 ag ln => ⟨wipe_agree (ln.trans (wipe_length σ vs)) hj ag, ?_⟩
    have hDne : Hc D ≠ none := by rw [y2]; exact fun z => nomatch z
    rcases alt with ⟨hF, ht⟩ | ⟨y, hF, ht, hy⟩
    · refine ht G0 H0 G3 H' σ2 R2 _ fun G4 H4 x4 => ?_
      rw [if_neg Bool.false_ne_true]
      have w := z1.tr x4
      exact ⟨G4, ws, y1.tr w, w.hh _ _ y2, w.ap D y3 hDne, by rw [fmE hF]; exact DtAll.ex w.gg y4, by rw [fmE hF]; omega⟩
    · refine ht G0 H0 G3 H' σ2 R2 _ fun G4 H4 x4 => ?_
      rw [if_pos rfl]
      refine hy G0 H0 G4 H4 σ2 (R2.step x4) _ fun v5 G5 H5 x5 d5 => ?_
      have w := (z1.tr x4).tr x5
      have g5 := w.ap D y3 hDne
      have l5 : ws.length = ((xs.take i).filterMap F).length := y4.len
      refine ⟨ws, w.hh _ _ y2, szl (by omega), G5, ws ++ [v5], (y1.tr w).mut hD g5, upd_same, g5, ?_, ?_⟩
      · rw [fmY y hF]
        exact (DtAll.ex w.gg y4).app (.cons d5 .nil)
      · rw [fmY y hF, List.length_append]
        simp only [List.length_cons, List.length_nil]
        omega
  · have e : i = xs.length := by omega
    subst e
    refine .inl ⟨jst (by rw [List.length_map]; exact Nat.le_refl _), ?_⟩
    rw [List.take_length] at y4
    exact k D ws G2 Hc (x1.tr y1) (x1.hh.none hD) y3 y2 y4
end
end Ab

namespace Ab
open PySem L2 PySem.Spec PyProof.Rows

/-- what is handed back -/
def RtOk (H0 G H : Hp) (v : V) : Sl → Prop
  | .dat d => Dt G v d
  | .own ds => ∃ p vs, v = .ref p ∧ H p = some (.lst vs) ∧ G p = none ∧ H0 p = none ∧ DtAll G vs ds
  | _ => False
section
variable (K : PySem.W.Frag)
def SD (t : TS) (τ : Sls) (N : Sls → Prop) (R : Sl → Prop) : Prop := ∀ G0 H0 G H σ, Rel K G0 H0 G H σ τ → ∀ D : Ends, (∀ τ' G' H' σ', N τ' → Rel K G0 H0 G' H' σ' τ' → Ex G G' → D.nx σ' H') →
  (∀ s v G' H', R s → Ext G0 H0 G' H' → RtOk H0 G' H' v s → D.rt v H') → t D σ H
/-- a def's promise, by data -/
def spF (P : List Sl → (Sl → Prop) → Prop) : Sp := fun vs H Q _ => ∃ G as R, Ex G H ∧ ArgsOk K G vs as ∧ P as R ∧ ∀ s v G' H', R s → Ext G H G' H' → RtOk H G' H' v s → Q v H'
def startS (N : List Str) (as : List Sl) : Sls := as ++ List.replicate (N.length - as.length) .unk
end
section
variable {K : PySem.W.Frag} {τ : Sls} {ta tb tc td te : TE} {d e f : PyData} {t u : TS} {N N' : Sls → Prop} {R R' : Sl → Prop}
theorem sd_mono (h : SD K t τ N R) (hn : ∀ τ', N τ' → N' τ') (hr : ∀ s, R s → R' s) : SD K t τ N' R' := fun G0 H0 G H σ r D kn kr => h G0 H0 G H σ r D (fun τ' G' H' σ' n => kn τ' G' H' σ' (hn τ' n)) fun s v G' H' z => kr s v G' H' (hr s z)
theorem sd_next (h : N τ) : SD K tNext τ N R := fun G0 H0 G H σ r D kn kr => kn τ G H σ h r (Ex.rfl G)
theorem sd_seq {M : Sls → Prop} (h1 : SD K t τ M R) (h2 : ∀ τ1, M τ1 → SD K u τ1 N R) : SD K (tSeq t u) τ N R := fun G0 H0 G H σ r D kn kr =>
  h1 G0 H0 G H σ r { D with nx := u D } (fun τ1 G1 H1 σ1 m r1 x1 => h2 τ1 m G0 H0 G1 H1 σ1 r1 D (fun τ2 G2 H2 σ2 n r2 x2 => kn τ2 G2 H2 σ2 n r2 (x1.tr x2)) kr) kr
theorem sd_seq1 {τ1 : Sls} (h1 : SD K t τ (· = τ1) R) (h2 : SD K u τ1 N R) : SD K (tSeq t u) τ N R := sd_seq h1 fun _ e => e ▸ h2
theorem sd_asg {i : Nat} (h : ED K te τ d) (hn : N (τ.set i (.dat d))) : SD K (tAsg te (gName i)) τ N R := fun G0 H0 G H σ r D kn kr => h G0 H0 G H σ r _ fun v G1 H1 x1 d1 => kn _ G1 H1 _ hn ((r.step x1).set i d1) x1.gg
theorem sd_asgL {i : Nat} {ds : List PyData} (h : EL K te τ ds) (hn : N (τ.set i (.own ds))) : SD K (tAsg te (gName i)) τ N R := fun G0 H0 G H σ r D kn kr => h G0 H0 G H σ r _ fun p vs G1 H1 x1 hp gp hh d1 => kn _ G1 H1 _ hn (r.setOwn x1 i hp gp hh d1) x1.gg
theorem sd_asgT {g : TG} {js : List Nat} {τ2 : Sls} (h : ED K te τ d) (hg : TGD K g js d τ τ2) (hn : N τ2) : SD K (tAsg te g) τ N R := fun G0 H0 G H σ r D kn kr => h G0 H0 G H σ r _ fun v G1 H1 x1 d1 => hg G0 H0 G1 H1 σ v (r.step x1) d1 _ fun σ2 r2 _ _ => kn _ G1 H1 σ2 hn r2 x1.gg
theorem sd_ret (h : ED K te τ d) (hr : R (.dat d)) : SD K (tRet te) τ N R := fun G0 H0 G H σ r D kn kr => h G0 H0 G H σ r _ fun v G1 H1 x1 d1 => kr _ v G1 H1 hr (r.ext.tr x1) d1
theorem sd_retL {ds : List PyData} (h : EL K te τ ds) (hr : R (.own ds)) : SD K (tRet te) τ N R := fun G0 H0 G H σ r D kn kr => h G0 H0 G H σ r _ fun p vs G1 H1 x1 hp gp hh d1 => kr _ _ G1 H1 hr (r.ext.tr x1) ⟨p, vs, rfl, hh, gp, r.ext.hh.none hp, d1⟩
theorem sd_retO {i : Nat} {ds : List PyData} (ht : τ[i]? = some (.own ds)) (hr : R (.own ds)) : SD K (tRet (tVar i)) τ N R := fun G0 H0 G H σ r D kn kr => by
  obtain ⟨p, vs, h1, h2, h3, h4, h5⟩ := r.ownAt ht
  exact ⟨_, h1, kr _ _ G H hr r.ext ⟨p, vs, rfl, h2, h3, h4, h5⟩⟩
theorem sd_if {c : TT} {b : Bool} (hc : ET K c τ b) (h1 : b = true → SD K t τ N R) (h2 : b = false → SD K u τ N R) : SD K (tIfS c t u) τ N R := fun G0 H0 G H σ r D kn kr => hc G0 H0 G H σ r _ fun G1 H1 x1 => by
  cases b with
  | true => rw [if_pos rfl]; exact h1 rfl G0 H0 G1 H1 σ (r.step x1) D (fun τ2 G2 H2 σ2 n r2 x2 => kn τ2 G2 H2 σ2 n r2 (x1.gg.tr x2)) kr
  | false => rw [if_neg Bool.false_ne_true]; exact h2 rfl G0 H0 G1 H1 σ (r.step x1) D (fun τ2 G2 H2 σ2 n r2 x2 => kn τ2 G2 H2 σ2 n r2 (x1.gg.tr x2)) kr
theorem sd_drop (h : ED K te τ d) (hn : N τ) : SD K (tDrop te) τ N R := fun G0 H0 G H σ r D kn kr => h G0 H0 G H σ r _ fun v G1 H1 x1 d1 => kn _ G1 H1 σ hn (r.step x1) x1.gg
theorem sd_frz {i : Nat} {ds : List PyData} (ht : τ[i]? = some (.own ds)) (h : SD K t (τ.set i (.dat (.list ds))) N R) : SD K t τ N R := fun G0 H0 G H σ r D kn kr => by
  obtain ⟨G1, x, r1⟩ := r.frz ht
  exact h G0 H0 G1 H σ r1 D (fun τ2 G2 H2 σ2 n r2 x2 => kn τ2 G2 H2 σ2 n r2 (x.tr x2)) kr
theorem sd_append {i : Nat} {ds : List PyData} (ht : τ[i]? = some (.own ds)) (h : ED K te τ d) (hl : ds.length < 100000) (hn : N (τ.set i (.own (ds ++ [d])))) : SD K (tDrop (tBM K "list" rAppend (tVar i) (tCons te tNil))) τ N R := fun G0 H0 G H σ r D kn kr => by
  obtain ⟨p, vs, h1, h2, h3, h4, h5⟩ := r.ownAt ht
  refine ⟨_, h1, .inl ⟨rfl, vs, .inl (.inl h2)⟩, h G0 H0 G H σ r _ fun v G1 H1 x1 d1 => ?_⟩
  have r1 := r.step x1
  obtain ⟨p', vs', k1, k2, k3, k4, k5⟩ := r1.ownAt ht
  rw [h1] at k1
  cases k1
  refine ⟨p, vs', v, rfl, rfl, k2, szl (by rw [k5.len]; exact hl), ?_⟩
  exact kn _ G1 _ σ hn (r1.mut ht h1 (k5.app (.cons d1 .nil))) x1.gg
theorem sd_extend {i : Nat} {ds es : List PyData} (ht : τ[i]? = some (.own ds)) (h : ED K te τ (.list es)) (hl : ds.length + es.length ≤ 100000) (hn : N (τ.set i (.own (ds ++ es)))) : SD K (tDrop (tBM K "list" rExtend (tVar i) (tCons te tNil))) τ N R := fun G0 H0 G H σ r D kn kr => by
  obtain ⟨p, vs, h1, h2, h3, h4, h5⟩ := r.ownAt ht
  refine ⟨_, h1, .inl ⟨rfl, vs, .inl (.inl h2)⟩, h G0 H0 G H σ r _ fun v G1 H1 x1 d1 => ?_⟩
  have r1 := r.step x1
  obtain ⟨p', vs', k1, k2, k3, k4, k5⟩ := r1.ownAt ht
  rw [h1] at k1
  cases k1
  obtain ⟨b, us, rfl, e1, a1⟩ := Dt.lst_of d1
  refine ⟨p, b, vs', us, rfl, rfl, k2, x1.gh _ _ e1, sz (by rw [k5.len, a1.len]; exact hl), ?_⟩
  exact kn _ G1 _ σ hn (r1.mut ht h1 (k5.app a1)) x1.gg
theorem ixN_len {n : Nat} {k : Int} {j : Nat} (h : ixN n k = some j) : j < n := (ixN_seq h).2.1
/-- xs[k] = e, xs an own list -/
theorem sd_put {i j : Nat} {k : Int} {ds : List PyData} (ht : τ[i]? = some (.own ds)) (h : ED K te τ d) (hk : ED K tb τ (.int k)) (hj : ixN ds.length k = some j) (hn : N (τ.set i (.own (ds.set j d)))) : SD K (tAsg te (gSub (tVar i) tb rSetL)) τ N R := fun G0 H0 G H σ r D kn kr =>
  h G0 H0 G H σ r _ fun v G1 H1 x1 d1 => by
    have r1 := r.step x1
    obtain ⟨p, vs, h1, h2, h3, h4, h5⟩ := r1.ownAt ht
    refine ⟨_, h1, hk G0 H0 G1 H1 σ r1 _ fun w G2 H2 x2 d2 => ?_⟩
    have r2 := r1.step x2
    obtain ⟨p', vs', k1, k2, k3, k4, k5⟩ := r2.ownAt ht
    rw [h1] at k1
    cases k1
    refine ⟨p, vs', k, j, rfl, Dt.int_of d2, k2, by rw [k5.len]; exact hj, ?_⟩
    exact kn _ G2 _ σ hn (r2.mut ht h1 (DtAll.set (Dt.ex x2.gg d1) j k5)) (x1.gg.tr x2.gg)
theorem sd_for {wi : TI} {g : TG} {its : List PyData} (I : Nat → Sls → Prop) (hi : EI K wi τ its) (h0 : I 0 τ) (hb : ∀ i d τ1, its[i]? = some d → I i τ1 → ∃ js τ2, TGD K g js d τ1 τ2 ∧ SD K t τ2 (I (i + 1)) R) (hn : ∀ τ1, I its.length τ1 → N τ1) : SD K (tFor wi g t) τ N R := by
  intro G0 H0 G H σ r D kn kr
  refine hi G0 H0 G H σ r _ fun J G1 H1 x1 jd => ?_
  refine ⟨fun i m σc Hc => m = its.length - i ∧ i ≤ its.length ∧ ∃ τ1 G2, I i τ1 ∧ Rel K G0 H0 G2 Hc σc τ1 ∧ Ex G1 G2, ⟨its.length, by simp, Nat.zero_le _, τ, G1, h0, r.step x1, Ex.rfl G1⟩, ?_⟩
  rintro i m σc Hc ⟨rfl, hin, τ1, G2, hI, rc, y1⟩
  obtain ⟨jgo, jst⟩ := jd G2 Hc y1 rc.gh i
  by_cases hlt : i < its.length
  · obtain ⟨x, hx⟩ : ∃ x, its[i]? = some x := ⟨its[i], List.getElem?_eq_getElem hlt⟩
    obtain ⟨go, yl⟩ := jgo x hx
    refine .inr ⟨go, fun σ' H' => ∃ τ1 G2, I (i + 1) τ1 ∧ Rel K G0 H0 G2 H' σ' τ1 ∧ Ex G1 G2, fun σ' H' hN => ⟨its.length - (i + 1), by omega, rfl, hlt, hN⟩, fun v H' yv => ?_⟩
    obtain ⟨G3, z1, z2⟩ := yl v H' yv
    obtain ⟨js, τ2, tg, sd⟩ := hb i x τ1 hx hI
    refine tg G0 H0 G3 H' σc v (rc.step z1) z2 _ fun σ2 R2 _ _ => ?_
    exact sd G0 H0 G3 H' σ2 R2 _ (fun τ' G' H' σ' n r' x' => ⟨τ', G', n, r', (y1.tr z1.gg).tr x'⟩) kr
  · have e : i = its.length := by omega
    subst e
    exact .inl ⟨jst (Nat.le_refl _), kn τ1 G2 Hc σc (hn τ1 hI) rc (x1.gg.tr y1)⟩
theorem sd_while {c : TT} (I : Nat → Sls → Prop) (h0 : ∃ m, I m τ) (hc : ∀ m τ1, I m τ1 → ∃ b, ET K c τ1 b ∧ (b = true → SD K t τ1 (fun τ2 => ∃ m', m' < m ∧ I m' τ2) R) ∧ (b = false → N τ1)) : SD K (tWhile c t) τ N R := by
  intro G0 H0 G H σ r D kn kr
  obtain ⟨m0, h0⟩ := h0
  refine ⟨fun m σc Hc => ∃ τ1 G2, I m τ1 ∧ Rel K G0 H0 G2 Hc σc τ1 ∧ Ex G G2, ⟨m0, τ, G, h0, r, Ex.rfl G⟩, ?_⟩
  rintro m σc Hc ⟨τ1, G2, hI, rc, y1⟩
  obtain ⟨b, ht, hT, hF⟩ := hc m τ1 hI
  refine ht G0 H0 G2 Hc σc rc _ fun G3 H3 x3 => ?_
  cases b with
  | true =>
    rw [if_pos rfl]
    refine ⟨fun σ' H' => ∃ m', m' < m ∧ ∃ τ1 G2, I m' τ1 ∧ Rel K G0 H0 G2 H' σ' τ1 ∧ Ex G G2, fun σ' H' hN => hN, ?_⟩
    exact hT rfl G0 H0 G3 H3 σc (rc.step x3) _ (fun τ' G' H' σ' ⟨m', hm, n⟩ r' x' => ⟨m', hm, τ', G', n, r', (y1.tr x3.gg).tr x'⟩) kr
  | false =>
    rw [if_neg Bool.false_ne_true]
    exact kn τ1 G3 H3 σc (hF rfl) (rc.step x3) (y1.tr x3.gg)
/-- a, b = x, y: each data or a new list -/
inductive EX (K : PySem.W.Frag) (te : TE) (τ : Sls) : Sl → Prop
  | dat {d : PyData} : ED K te τ d → EX K te τ (.dat d)
  | own {ds : List PyData} : EL K te τ ds → EX K te τ (.own ds)
theorem EX.run {s : Sl} (h : EX K te τ s) {G0 H0 G H : Hp} {σ : L2.St} (r : Rel K G0 H0 G H σ τ) {Q : VK} (q : ∀ v G' H', Ext G H G' H' → RtOk H G' H' v s → Q v H') : te σ H Q := by
  cases h with
  | dat h => exact h G0 H0 G H σ r Q fun v G' H' x d => q v G' H' x d
  | own h => exact h G0 H0 G H σ r Q fun p vs G' H' x hp gp hh d => q _ G' H' x ⟨p, vs, rfl, hh, gp, hp, d⟩
theorem RtOk.step {H0 G H G' H' : Hp} {v : V} {s : Sl} (h : RtOk H0 G H v s) (x : Ext G H G' H') : RtOk H0 G' H' v s := by
  cases s with
  | unk => exact h
  | scr ns => exact h
  | dat d => exact Dt.ex x.gg h
  | own ds => obtain ⟨p, vs, h1, h2, h3, h4, h5⟩ := h; exact ⟨p, vs, h1, x.hh _ _ h2, x.ap p h3 (by rw [h2]; exact fun z => nomatch z), h4, DtAll.ex x.gg h5⟩
theorem Rel.setR {G0 H0 G H Ga Ha : Hp} {σ : L2.St} (r : Rel K G0 H0 G H σ τ) (xa : Ext Ga Ha G H) (fr : ∀ (a : Nat) (da : List PyData) (p : Addr), τ[a]? = some (.own da) → σ[a]? = some (some (.ref p)) → Ha p ≠ none) (h0 : Ex H0 Ha) (i : Nat) {v : V} {s : Sl} (h : RtOk Ha G H v s) : Rel K G0 H0 G H (σ.set i (some v)) (τ.set i s) := by
  cases s with
  | unk => exact h.elim
  | scr ns => exact h.elim
  | dat d => exact r.set i h
  | own ds =>
    obtain ⟨p, vs, rfl, h2, h3, h4, h5⟩ := h
    refine ⟨r.base, r.ext, by rw [List.length_set, List.length_set]; exact r.len, fun j s hj => ?_, fun a b da db q ha hb h1 h2' => ?_⟩
    · by_cases z : i = j
      · subst z
        by_cases hl : i < τ.length
        · rw [List.getElem?_set_self hl] at hj
          cases hj
          exact ⟨_, List.getElem?_set_self (by rw [r.len]; exact hl), p, vs, rfl, h2, h3, h0.none h4, h5⟩
        · rw [List.getElem?_eq_none (by rw [List.length_set]; omega)] at hj; cases hj
      · rw [List.getElem?_set_ne z] at hj ⊢
        exact r.at_ j s hj
    · by_cases z : i = a
      · by_cases z2 : i = b
        · exact z.symm.trans z2
        · subst z
          rw [List.getElem?_set_ne z2] at hb h2'
          by_cases hl : i < τ.length
          · rw [List.getElem?_set_self (by rw [r.len]; exact hl)] at h1
            cases h1
            exact absurd h4 (fr b db _ hb h2')
          · rw [List.getElem?_eq_none (by rw [List.length_set]; omega)] at ha; cases ha
      · by_cases z2 : i = b
        · subst z2
          rw [List.getElem?_set_ne z] at ha h1
          by_cases hl : i < τ.length
          · rw [List.getElem?_set_self (by rw [r.len]; exact hl)] at h2'
            cases h2'
            exact absurd h4 (fr a da _ ha h1)
          · rw [List.getElem?_eq_none (by rw [List.length_set]; omega)] at hb; cases hb
        · rw [List.getElem?_set_ne z] at ha h1
          rw [List.getElem?_set_ne z2] at hb h2'
          exact r.sep a b da db q ha hb h1 h2'
end
end Ab

namespace Ab
open PySem L2 PySem.Spec PyProof.Rows
section
variable {K : PySem.W.Frag} {τ : Sls} {ta tb tc td te : TE} {d e f : PyData} {t u : TS} {N N' : Sls → Prop} {R R' : Sl → Prop}
def OwnIn (H : Hp) (σ : L2.St) (τ : Sls) : Prop := ∀ (a : Nat) (da : List PyData) (p : Addr), τ[a]? = some (.own da) → σ[a]? = some (some (.ref p)) → H p ≠ none
theorem Rel.ownIn {G0 H0 G H : Hp} {σ : L2.St} (r : Rel K G0 H0 G H σ τ) : OwnIn H σ τ := fun a da p h1 h2 z => by
  obtain ⟨q, vs, e1, e2, _⟩ := r.ownAt h1
  rw [h2] at e1
  cases e1
  rw [z] at e2
  cases e2
theorem OwnIn.ex {H H' : Hp} {σ : L2.St} (h : OwnIn H σ τ) (x : Ex H H') : OwnIn H' σ τ := fun a da p h1 h2 z => h a da p h1 h2 (x.none z)
theorem OwnIn.set {H0 G H : Hp} {σ : L2.St} (h : OwnIn H σ τ) (i : Nat) {v : V} {s : Sl} (hv : RtOk H0 G H v s) : OwnIn H (σ.set i (some v)) (τ.set i s) := fun a da p h1 h2 z => by
  by_cases c : i = a
  · subst c
    by_cases hl : i < τ.length
    · rw [List.getElem?_set_self hl] at h1
      have hl2 : i < σ.length := by
        by_cases q : i < σ.length
        · exact q
        · rw [List.getElem?_eq_none (by rw [List.length_set]; omega)] at h2; cases h2
      rw [List.getElem?_set_self hl2] at h2
      cases h1
      cases h2
      obtain ⟨q, vs, e1, e2, _⟩ := hv
      cases e1
      rw [z] at e2; cases e2
    · rw [List.getElem?_eq_none (by rw [List.length_set]; omega)] at h1; cases h1
  · rw [List.getElem?_set_ne c] at h1 h2
    exact h a da p h1 h2 z
theorem sd_par {i j : Nat} {s1 s2 : Sl} (h1 : EX K ta τ s1) (h2 : EX K tb τ s2) (hn : N ((τ.set i s1).set j s2)) : SD K (tPar i j (tCons ta (tCons tb tNil))) τ N R := fun G0 H0 G H σ r D kn kr => by
  refine h1.run r fun v G1 H1 x1 d1 => ?_
  refine h2.run (r.step x1) fun w G2 H2 x2 d2 => ?_
  refine ⟨v, w, rfl, kn _ G2 H2 _ hn ?_ (x1.gg.tr x2.gg)⟩
  have ra := ((r.step x1).step x2).setR (x1.tr x2) r.ownIn r.ext.hh i (d1.step x2)
  exact ra.setR x2 ((r.ownIn.ex x1.hh).set i d1) (r.ext.hh.tr x1.hh) j d2
theorem sd_par3 {i j l : Nat} {s1 s2 s3 : Sl} (h1 : EX K ta τ s1) (h2 : EX K tb τ s2) (h3 : EX K tc τ s3) (hn : N (((τ.set i s1).set j s2).set l s3)) : SD K (tPar3 i j l (tCons ta (tCons tb (tCons tc tNil)))) τ N R := fun G0 H0 G H σ r D kn kr => by
  refine h1.run r fun v G1 H1 x1 d1 => ?_
  refine h2.run (r.step x1) fun w G2 H2 x2 d2 => ?_
  refine h3.run ((r.step x1).step x2) fun z G3 H3 x3 d3 => ?_
  refine ⟨v, w, z, rfl, kn _ G3 H3 _ hn ?_ ((x1.gg.tr x2.gg).tr x3.gg)⟩
  have ra := (((r.step x1).step x2).step x3).setR ((x1.tr x2).tr x3) r.ownIn r.ext.hh i ((d1.step x2).step x3)
  have rb := ra.setR (x2.tr x3) ((r.ownIn.ex x1.hh).set i d1) (r.ext.hh.tr x1.hh) j (d2.step x3)
  exact rb.setR x3 (((r.ownIn.ex (x1.hh.tr x2.hh)).set i (d1.step x2)).set j d2) ((r.ext.hh.tr x1.hh).tr x2.hh) l d3
/-! promises -/
theorem args_at {G : Hp} : ∀ {vs : List V} {as : List Sl} {i : Nat} {s : Sl}, ArgsOk K G vs as → as[i]? = some s → ∃ v, vs[i]? = some v ∧ ArgOk K G v s
  | _, _, _, _, .nil, e => by simp at e
  | _, _, 0, _, .cons h _, e => by simp at e; subst e; exact ⟨_, rfl, h⟩
  | _, _, i + 1, d, .cons _ t, e => by
    obtain ⟨v, h1, h2⟩ := args_at (i := i) (s := d) t (by simpa using e)
    exact ⟨v, by simpa using h1, h2⟩
theorem rel_start {G H : Hp} {vs : List V} {as : List Sl} {M : List Str} (x : Ex G H) (h : ArgsOk K G vs as) : Rel K G H G H (start M vs) (startS M as) where
  base := x
  ext := Ext.rfl x
  len := by unfold L2.start startS; rw [List.length_append, List.length_append, List.length_map, List.length_replicate, List.length_replicate, h.len]
  at_ := fun i s hs => by
    unfold startS at hs
    unfold L2.start
    by_cases c : i < as.length
    · rw [List.getElem?_append_left c] at hs
      obtain ⟨v, h1, h2⟩ := args_at h hs
      refine ⟨some v, ?_, ?_⟩
      · rw [List.getElem?_append_left (by rw [List.length_map, h.len]; exact c), List.getElem?_map, h1]; rfl
      · cases s with
        | unk => trivial
        | dat d => exact ⟨v, rfl, h2⟩
        | own ds => exact h2.elim
        | scr ns => obtain ⟨a, e1, e2⟩ := h2; exact ⟨a, by rw [e1], e2⟩
    · rw [List.getElem?_append_right (by omega)] at hs
      rw [List.getElem?_append_right (by rw [List.length_map, h.len]; omega), List.length_map, h.len]
      have hm := List.mem_of_getElem? hs
      have e : s = .unk := List.eq_of_mem_replicate hm
      subst e
      have hlt : i - as.length < M.length - as.length := by
        by_cases q : i - as.length < M.length - as.length
        · exact q
        · rw [List.getElem?_eq_none (by rw [List.length_replicate]; omega)] at hs; cases hs
      exact ⟨none, by rw [List.getElem?_replicate, if_pos hlt], trivial⟩
  sep := fun i j di dj p hi hj _ _ => by
    unfold startS at hi
    have hm := List.mem_of_getElem? hi
    rw [List.mem_append] at hm
    rcases hm with hm | hm
    · obtain ⟨n, hn⟩ := List.getElem?_of_mem hm
      obtain ⟨v, _, h2⟩ := args_at h hn
      exact h2.elim
    · have := List.eq_of_mem_replicate hm
      cases this
theorem body_of {P : List Sl → (Sl → Prop) → Prop} {M : List Str} (h : ∀ as R, P as R → SD K t (startS M as) (fun _ => R (.dat .none)) R) (vs : List V) (H : Hp) (Q : VK) (E : XK) (hp : spF K P vs H Q E) : t { nx := fun _ H' => Q .non H', rt := Q } (start M vs) H := by
  obtain ⟨G, as, R, x, ha, hP, k⟩ := hp
  exact h as R hP G H G H (start M vs) (rel_start x ha) _ (fun τ' G' H' σ' n r' _ => k _ .non G' H' n r'.ext .non) fun s v G' H' => k s v G' H'
theorem ed_call {P : List Sl → (Sl → Prop) → Prop} {E : XK} {tr : TA} {as : List Sl} (h : EA K tr τ as) (hp : P as (· = .dat d)) : ED K (tCall (spF K P) [] E tr) τ d := fun G0 H0 G H σ r Q q => h G0 H0 G H σ r _ fun vs G1 H1 x1 a1 => by
  rw [List.append_nil]
  refine ⟨G1, as, _, x1.gh, a1, hp, fun s v G' H' hs x hv => ?_⟩
  subst hs
  exact q v G' H' (x1.tr x) hv
theorem el_call {P : List Sl → (Sl → Prop) → Prop} {E : XK} {tr : TA} {as : List Sl} {ds : List PyData} (h : EA K tr τ as) (hp : P as (· = .own ds)) : EL K (tCall (spF K P) [] E tr) τ ds := fun G0 H0 G H σ r Q q => h G0 H0 G H σ r _ fun vs G1 H1 x1 a1 => by
  rw [List.append_nil]
  refine ⟨G1, as, _, x1.gh, a1, hp, fun s v G' H' hs x hv => ?_⟩
  subst hs
  obtain ⟨p, us, rfl, h2, h3, h4, h5⟩ := hv
  exact q p us G' H' (x1.tr x) (x1.hh.none h4) h3 h2 h5
theorem spF_len {P : List Sl → (Sl → Prop) → Prop} {n : Nat} (h : ∀ as R, P as R → as.length = n) (vs : List V) (H : Hp) (Q : VK) (E : XK) (hp : spF K P vs H Q E) : vs.length = n := by
  obtain ⟨G, as, R, x, ha, hP, k⟩ := hp
  rw [ha.len]; exact h as R hP
/-- the law's own end -/
theorem spF_end {P : List Sl → (Sl → Prop) → Prop} {H : Hp} {a : Addr} {ns : List Int} {E : XK} (hs : SqL K H a (ns.map V.int)) (hp : P [.scr ns] (· = .dat (.bool true))) : spF K P [.ref a] H (fun v _ => v = .bl true) E :=
  ⟨H, [.scr ns], _, Ex.rfl H, .cons ⟨a, rfl, hs⟩ .nil, hp, fun s v G' H' e x hv => by subst e; exact Dt.bl_of hv⟩
end
end Ab

namespace Ab
open PySem L2 PySem.Spec PyProof.Rows

/-! ### further rules of the layer -/
def iAny (K : PySem.W.Frag) (te : TE) : TI := fun σ H R => iList K te σ H R ∨ iTup K te σ H R
def rIsNn : R2 := fun x y H Q => y = .non ∧ Q (.bl (decide (x = .non))) H
def rNoNn : R2 := fun x y H Q => y = .non ∧ Q (.bl (!decide (x = .non))) H
/-- sorted of a list of data -/
def rSortD (K : PySem.W.Frag) : List V → Hp → VK → Prop := fun vs H Q => ∃ (a : Addr) (xs : List V) (ds : List PyData), vs = [.ref a] ∧ SqL K H a xs ∧ DpAll K H xs ds ∧ PySem.W.AllAlike ds ∧ PySem.W.Sortable ds ∧ (∀ d ∈ ds, d.depth ≤ 8) ∧
  ∀ (p : Addr) (ys : List V), H p = none → (∀ R : V → PyData → Prop, PySem.W.EachIs R xs ds → PySem.W.EachIs R ys (ds.mergeSort (PySem.W.dataLe false id))) → Q (.ref p) (upd H p (.lst ys))
/-- set of a list of ints -/
def rSetL (K : PySem.W.Frag) (w : World) : List V → Hp → VK → Prop := fun vs H Q => ∃ (a : Addr) (ns : List Int), vs = [.ref a] ∧ SqL K H a (ns.map V.int) ∧ ns.length ≤ 1000 ∧
  ∀ p c, H p = none → c ≤ ns.length → Q (.ref p) (upd H p (SetO w p (fun j => decide (j ∈ ns)) c))
section
variable {X : Cx}
theorem pi_any {tg e : Expr} {te : TE} (h : PE X e te) (hs : PI X tg e (iList X.K te)) (ht : PI X tg e (iTup X.K te)) : PI X tg e (iAny X.K te) := ⟨fun pins s σ H R I hw => by
  rcases hw with hw | hw
  · exact hs.run pins s σ H R I hw
  · exact ht.run pins s σ H R I hw⟩
theorem pi_seq {tg e : Expr} {te : TE} (h : PE X e te) : PI X tg e (iAny X.K te) := pi_any h (pi_list h) (pi_tup h)
theorem op_isNn : OpR X (compareOp .Is) rIsNn := op_isN
theorem op_noNn : OpR X (compareOp .IsNot) rNoNn := op_notN
theorem each_vals {K : PySem.W.Frag} {H : Hp} : ∀ {xs : List V} {us : List Value} {ds : List PyData}, Vals xs us → DpAll K H xs ds → PySem.W.EachIs (fun (v : Value) (b : PyData × V) => RelV b.2 v) us (ds.zip xs) ∧ ds.length = us.length
  | _, _, _, .nil, .nil => ⟨.nil, rfl⟩
  | _, _, _, .cons r t, .cons h s => by
    obtain ⟨a, b⟩ := each_vals t s
    exact ⟨.cons r a, by simp [b]⟩
theorem each_reads {pins : List (Addr × Obj)} {σ : L2.St} {H : Hp} {s : Shared} (I : Inv X pins σ H s) : ∀ {xs : List V} {us : List Value} {ds : List PyData}, Vals xs us → DpAll X.K H xs ds → PySem.W.EachIs (fun (v : Value) (b : PyData × V) => ∃ as, Reads s.heap v b.1 as) us (ds.zip xs)
  | _, _, _, .nil, .nil => .nil
  | _, _, _, .cons r t, .cons h q => .cons (Dp.reads I _ _ _ h r) (each_reads I t q)
theorem map_fst_zip {α β : Type} : ∀ (l : List α) (m : List β), l.length = m.length → (l.zip m).map Prod.fst = l
  | [], [], _ => rfl
  | a :: l, b :: m, h => by rw [List.zip_cons_cons, List.map_cons, map_fst_zip l m (by simpa using h)]
theorem DpAll.len {K : PySem.W.Frag} {H : Hp} : ∀ {vs : List V} {ds : List PyData}, DpAll K H vs ds → vs.length = ds.length
  | _, _, .nil => rfl
  | _, _, .cons _ t => by simp [DpAll.len t]
theorem vals_snd : ∀ {out : List Value} {zs : List (PyData × V)}, PySem.W.EachIs (fun (v : Value) (b : PyData × V) => RelV b.2 v) out zs → Vals (zs.map Prod.snd) out
  | _, _, .nil => .nil
  | _, _, .cons r t => .cons r (vals_snd t)
theorem each_pair {R : V → PyData → Prop} : ∀ {zs : List (PyData × V)}, (∀ p ∈ zs, R p.2 p.1) → PySem.W.EachIs R (zs.map Prod.snd) (zs.map Prod.fst)
  | [], _ => .nil
  | p :: zs, h => .cons (h p (by simp)) (each_pair fun q hq => h q (List.mem_cons_of_mem _ hq))
theorem each_mem {R : V → PyData → Prop} : ∀ {xs : List V} {ds : List PyData}, PySem.W.EachIs R xs ds → ∀ p ∈ ds.zip xs, R p.2 p.1
  | _, _, .nil, p, h => by simp at h
  | _, _, .cons r t, p, h => by
    rw [List.zip_cons_cons, List.mem_cons] at h
    rcases h with rfl | h
    · exact r
    · exact each_mem t p h
theorem cr_sortD {k : Nat} (hc : X.calm = true) (hr : Room k X.A) : CallR X (.builtin "sorted") (rSortD X.K) := by
  intro pins s σ H vs us Q I r h
  obtain ⟨a, xs, ds, rfl, hl, hd, hal, hsr, hdp, q⟩ := h
  rw [Vals.ref1 r]
  obtain ⟨its, rv, pl, hz⟩ := I.list hl
  have hlen := DpAll.len hd
  obtain ⟨e1, e2⟩ := each_vals rv hd
  have zl : (ds.zip xs).map Prod.fst = ds := map_fst_zip ds xs hlen.symm
  refine PySem.W.sorted_data (enc := Prod.fst) (bs := ds.zip xs) (R := fun (v : Value) (b : PyData × V) => RelV b.2 v) pl.isList e1 (each_reads I rv hd) (by rw [zl]; exact hal) (by rw [zl]; exact hsr) ?_ ?_ fun out ol hout => ?_
  · rw [List.length_zip, hlen, Nat.min_self, ← hlen]; exact hz
  · intro b hb
    have m : b.1 ∈ ds := by rw [← zl]; exact List.mem_map.mpr ⟨b, hb, rfl⟩
    have := hdp b.1 m
    have := hr.units
    omega
  · have vo := vals_snd hout
    have hn : H (s.heap.objs.size + 1) = none := I.hok.fresh (Nat.le_succ _)
    obtain ⟨e, he⟩ := PyProof.Rows.sortedAll_at s.heap its out.toArray
    have lo : ((List.mergeSort (ds.zip xs) (PySem.W.dataLe false Prod.fst)).map Prod.snd).length ≤ sizeLine := by
      rw [List.length_map, List.length_mergeSort, List.length_zip, hlen, Nat.min_self, ← hlen]; exact hz
    refine ⟨.ref (s.heap.objs.size + 1), _, I.laid (t' := s.toks) (o := .lst ((List.mergeSort (ds.zip xs) (PySem.W.dataLe false Prod.fst)).map Prod.snd)) (fun b u k => PyProof.Rows.sortedAll_old k) (Nat.le_succ _) ⟨lo, out, e, vo, he⟩, rfl, q _ _ hn fun R hR => ?_⟩
    have key : (List.mergeSort (ds.zip xs) (PySem.W.dataLe false Prod.fst)).map Prod.fst = ds.mergeSort (PySem.W.dataLe false id) := by
      rw [PySem.W.sort_maps (r := PySem.W.dataLe false (Prod.fst (α := PyData) (β := V))) (s := PySem.W.dataLe false id) Prod.fst (fun a _ b _ => rfl), zl]
    rw [← key]
    refine each_pair fun p hp => ?_
    have hp' : p ∈ ds.zip xs := (List.mergeSort_perm _ _).mem_iff.mp hp
    exact each_mem hR p hp'

/-! set(xs) of a list of ints, its table told -/
def nS (w : World) : Obj := { cls := .type "set", dict := none, data := .set #[] 0 (.fresh 0 0 (!w.params.followText "set-order")) }
end
section
variable {P : Program} {w : World} {A : Around} {E : Value → Shared → Prop} {s : Shared}
theorem call_setL {l : Addr} {its : Array Value} (ns : List Int) {Q : Value → Shared → Prop} (hh : A.handled = none) (hl : s.heap.IsList l its) (hit : IntsAre its.toList ns) (hb : ns.length + 1 < scanBound)
    (h : ∀ (h' : Heap) (tk c : Nat), SetR w h' s.heap.objs.size (fun j => decide (j ∈ ns)) c → c ≤ ns.length → (∀ b o, s.heap.get? b = some o → h'.get? b = some o) → Q (.ref s.heap.objs.size) { s with heap := h', toks := tk }) :
    wpAny (model P w) A (call (.type "set") [.ref l]) Q E s := by
  have hsz : its.size = ns.length := by
    have q := IntsAre.length hit
    rw [Array.length_toList] at q
    exact q
  obtain ⟨c0, tl, hmro⟩ := F.called_set.mro
  have f1 := F.called_set.made
  have f2 := F.called_set.sub
  refine wpAny_call (codeAny_of_tree ?_)
  show wpAny _ _ (callAny (.type "set") _) _ _ _
  refine wpAny_pure ⟨Code.quiet_builtin _ (by decide +kernel), codeAny_builtin F.entry_type_call ?_⟩
  rw [Around.under_plain (weight_type_call_type "set" [.ref l] []) rfl]
  have f3 := F.called_set.notType
  have f4 := F.called_set.canCreate
  have f5 := F.typeCall_set_1 (.ref l)
  repeat (any_goals (first | assumption | (wp_step)))
  refine codeAny_mono (code_set_led1 (.ref l) (E := E) (Q₁ := fun obj s₁ => obj = .ref s.heap.objs.size ∧ s₁ = { s with heap := s.heap.push (nS w) }) ⟨rfl, rfl⟩) fun r s₁ hr => ?_
  cases r with
  | error e => exact hr
  | ok fl =>
    cases fl with
    | ret obj =>
      obtain ⟨rfl, rfl⟩ := hr
      have hS : (s.heap.push (nS w)).get? s.heap.objs.size = some (nS w) := Heap.get?_push_size _ rfl
      have hT : Shared.TypeIs { s with heap := s.heap.push (nS w) } (.ref s.heap.objs.size) "set" := ⟨_, hS, rfl⟩
      have f6 := F.called_set.init.lookup
      have f7 := F.called_set.init.bind (.ref s.heap.objs.size)
      repeat (any_goals (first | assumption | (wp_step)))
      refine codeAny_mono (codeAny_call_builtin (R := wants (fun r s₂ => r = .none ∧ ∃ h' tk c, s₂ = { s with heap := h', toks := tk } ∧ SetR w h' s.heap.objs.size (fun j => decide (j ∈ ns)) c ∧ c ≤ ns.length ∧ (∀ b o, s.heap.get? b = some o → h'.get? b = some o)) E)
        F.called_set.init.plain F.entry_set_init (check_set_init_1 hT ?_)) fun r₂ s₂ hr₂ => ?_
      · obtain ⟨ol, hol, hcl, nl, hdl⟩ := hl
        obtain ⟨ocls, odict, odata, oslots⟩ := ol
        simp only at hcl hdl
        subst hcl hdl
        have hol1 : (s.heap.push (nS w)).get? l = some { cls := .type "list", dict := odict, data := .seq its nl, slots := oslots } := Heap.get?_push_of_some _ hol
        have g1 := F.sub_list_set
        have g2 := F.sub_list_frozenset
        have g3 : (Value.type "list" == Value.type "dict") = false := by decide
        have hl1 : (s.heap.push (nS w)).IsList l its := ⟨_, hol1, rfl, nl, rfl⟩
        unfold Builtin.«set.__init__» noKeywords Builtin.Frozenset.updateFrom
        generalize hPI : pyIter = PI
        wp_walk
        subst hPI
        refine wpAny_pyIter_list hl1 ?_
        refine wpAny_bind (wpAny_runValue ?_)
        have hlS : l < s.heap.objs.size := Heap.lt_size hol
        have hh3 : A.in1.in1.in1.handled = none := by simp [hh]
        have n1 : l ≠ (s.heap.push (nS w)).objs.size := by rw [Heap.size_push]; exact Nat.ne_of_lt (Nat.lt_succ_of_lt hlS)
        have n2 : s.heap.objs.size ∉ [(s.heap.push (nS w)).objs.size, l] := by
          rw [Heap.size_push]
          simp only [List.mem_cons, List.mem_singleton, List.not_mem_nil, or_false, not_or]
          exact ⟨Nat.ne_of_lt (Nat.lt_succ_self _), Nat.ne_of_gt hlS⟩
        have hval : ∀ (i : Nat) (v : Value), its[i]? = some v → ∃ k t, ns[i]? = some k ∧ v = .int k t := fun i v hv => by
          have hi : i < ns.length := by rw [← hsz]; exact (Array.getElem?_eq_some_iff.mp hv).1
          obtain ⟨t, e⟩ := PyProof.Rows.IntsAre.int_at hit i v (by rw [Array.getElem?_toList]; exact hv)
          refine ⟨ns[i], t, List.getElem?_eq_getElem hi, ?_⟩
          rw [e, List.getD_eq_getElem?_getD, List.getElem?_eq_getElem hi]
          rfl
        refine set_update_ints ((Walks.list hh3 _ l n1 its).toS) s.heap.objs.size n2 ns hsz hb hval (its.size - 0) 0 _ (by omega) (Nat.zero_le _) ⟨⟨_, Heap.get?_push_size _ rfl, rfl, rfl⟩, (hl1.push _)⟩ ?a1 ?a2
        case a1 =>
          have hg : ((s.heap.push (nS w)).push { cls := .type "list_iterator", data := .fields #[.ref l, .int 0 0] }).get? s.heap.objs.size = some (nS w) := Heap.get?_push_of_some _ hS
          exact ⟨0, Nat.le_refl 0, setR_new_at hg⟩
        case a2 =>
          intro s' c' hm hc' hS'
          obtain ⟨h', g2, d', tk', os'⟩ := s'
          obtain rfl : g2 = s.gens := hm.gens
          obtain rfl : d' = s.drawn := hm.drawn
          obtain rfl : os' = s.os := hm.os
          show wpAny _ _ _ _ _ _
          refine wpAny_pure ?_
          show wpAny _ _ (ret Value.none) _ _ _
          rw [hsz] at hc'
          refine wpAny_pure ⟨rfl, h', tk', c', rfl, hS', hc', fun b o e => ?_⟩
          have b0 : b < s.heap.objs.size := Heap.lt_size e
          have b2 : b ≠ (s.heap.push (nS w)).objs.size := by rw [Heap.size_push]; exact Nat.ne_of_lt (Nat.lt_succ_of_lt b0)
          refine hm.heap b o ?_ (Heap.get?_push_of_some _ (Heap.get?_push_of_some _ e))
          simp only [List.mem_cons, List.mem_singleton, List.not_mem_nil, or_false, not_or]
          exact ⟨Nat.ne_of_lt b0, b2⟩
      · cases r₂ with
        | error e => exact hr₂
        | ok fl₂ =>
          cases fl₂ with
          | ret r =>
            obtain ⟨rfl, h', tk, c', rfl, hS', hc', hk'⟩ := hr₂
            repeat (any_goals (first | assumption | (wp_step)))
            exact h _ _ _ hS' hc' hk'
          | _ => exact hr₂.elim
    | _ => exact hr.elim
end
section
variable {X : Cx}
theorem cr_setL (hc : X.calm = true) : CallR X (.type "set") (rSetL X.K X.w) := by
  intro pins s σ H vs us Q I r h
  obtain ⟨l, ns, rfl, hl, hn, q⟩ := h
  rw [Vals.ref1 r]
  obtain ⟨its, rv, pl, hz⟩ := I.list hl
  have hn0 : H s.heap.objs.size = none := I.hok.fresh (Nat.le_refl _)
  refine call_setL (P := X.prog) ns (I.ok.hd hc) pl.isList (by simpa using Vals.ints rv) (by unfold scanBound; omega) fun h' tk c R hc' k => ?_
  exact ⟨.ref s.heap.objs.size, _, I.laid (t' := tk) k (Nat.le_refl _) (setO_new R), rfl, q _ c hn0 hc'⟩
end
end Ab

namespace Ab
open PySem L2 PySem.Spec PyProof.Rows
section
variable {K : PySem.W.Frag} {τ : Sls} {ta tb tc td te : TE} {d e f : PyData} {t u : TS} {N N' : Sls → Prop} {R R' : Sl → Prop} {tr : TA}
theorem ei_any {ds : List PyData} (h : ED K te τ (.list ds)) : EI K (iAny K te) τ ds := fun G0 H0 G H σ R Q q => .inl (ei_list h G0 H0 G H σ R Q q)
theorem ei_anyT {ds : List PyData} (h : ED K te τ (.tuple ds)) : EI K (iAny K te) τ ds := fun G0 H0 G H σ R Q q => .inr (ei_tup h G0 H0 G H σ R Q q)
theorem ei_is {wi : TI} {a b : List PyData} (h : EI K wi τ a) (x : a = b) : EI K wi τ b := x ▸ h
/-- a, b = x, y where the pair is made: each data or a new list -/
theorem sd_mk2 {i j : Nat} {s1 s2 : Sl} (h1 : EX K ta τ s1) (h2 : EX K tb τ s2) (hn : N ((τ.set i s1).set j s2)) : SD K (tAsg (tTup (tCons ta (tCons tb tNil))) (gTup K 2 (gCons (gName i) (gCons (gName j) gNil)))) τ N R := fun G0 H0 G H σ r D kn kr => by
  refine h1.run r fun v G1 H1 x1 d1 => ?_
  refine h2.run (r.step x1) fun w G2 H2 x2 d2 => ?_
  refine ⟨sz (by simp), fun p hp => ⟨p, [v, w], rfl, .inl (.inl upd_same), rfl, v, [w], rfl, w, [], rfl, rfl, ?_⟩⟩
  have x3 : Ext G2 H2 G2 (upd H2 p (.tup [v, w])) := Ext.newO x2.gh hp
  refine kn _ G2 _ _ hn ?_ (x1.gg.tr x2.gg)
  have ra := (((r.step x1).step x2).step x3).setR ((x1.tr x2).tr x3) r.ownIn r.ext.hh i ((d1.step x2).step x3)
  exact ra.setR (x2.tr x3) ((r.ownIn.ex x1.hh).set i d1) (r.ext.hh.tr x1.hh) j (d2.step x3)
theorem sd_mk3 {i j l : Nat} {s1 s2 s3 : Sl} (h1 : EX K ta τ s1) (h2 : EX K tb τ s2) (h3 : EX K tc τ s3) (hn : N (((τ.set i s1).set j s2).set l s3)) : SD K (tAsg (tTup (tCons ta (tCons tb (tCons tc tNil)))) (gTup K 3 (gCons (gName i) (gCons (gName j) (gCons (gName l) gNil))))) τ N R := fun G0 H0 G H σ r D kn kr => by
  refine h1.run r fun v G1 H1 x1 d1 => ?_
  refine h2.run (r.step x1) fun w G2 H2 x2 d2 => ?_
  refine h3.run ((r.step x1).step x2) fun z G3 H3 x3 d3 => ?_
  refine ⟨sz (by simp), fun p hp => ⟨p, [v, w, z], rfl, .inl (.inl upd_same), rfl, v, [w, z], rfl, w, [z], rfl, z, [], rfl, rfl, ?_⟩⟩
  have x4 : Ext G3 H3 G3 (upd H3 p (.tup [v, w, z])) := Ext.newO x3.gh hp
  refine kn _ G3 _ _ hn ?_ ((x1.gg.tr x2.gg).tr x3.gg)
  have ra := ((((r.step x1).step x2).step x3).step x4).setR (((x1.tr x2).tr x3).tr x4) r.ownIn r.ext.hh i (((d1.step x2).step x3).step x4)
  have rb := ra.setR ((x2.tr x3).tr x4) ((r.ownIn.ex x1.hh).set i d1) (r.ext.hh.tr x1.hh) j ((d2.step x3).step x4)
  exact rb.setR (x3.tr x4) (((r.ownIn.ex (x1.hh.tr x2.hh)).set i (d1.step x2)).set j d2) ((r.ext.hh.tr x1.hh).tr x2.hh) l (d3.step x4)
/-! is None -/
def isNone : PyData → Bool
  | .none => true
  | _ => false
theorem Dt.isN {G : Hp} {v : V} (h : Dt G v d) : decide (v = .non) = isNone d := by cases h <;> rfl
theorem ed_isN (ha : ED K ta τ d) : ED K (tOp rIsNn ta (tC .non)) τ (.bool (isNone d)) := fun G0 H0 G H σ R Q q => ha G0 H0 G H σ R _ fun v G1 H1 x1 d1 => ⟨rfl, by rw [Dt.isN d1]; exact q _ G1 H1 x1 (.bl _)⟩
theorem ed_noN (ha : ED K ta τ d) : ED K (tOp rNoNn ta (tC .non)) τ (.bool (!isNone d)) := fun G0 H0 G H σ R Q q => ha G0 H0 G H σ R _ fun v G1 H1 x1 d1 => ⟨rfl, by rw [Dt.isN d1]; exact q _ G1 H1 x1 (.bl _)⟩
theorem ed_isB {a b : Bool} (ha : ED K ta τ (.bool a)) (hb : ED K tb τ (.bool b)) : ED K (tOp rIsB ta tb) τ (.bool (decide (a = b))) := ed_op ha hb fun G H v u x h1 h2 Q q => ⟨a, b, Dt.bl_of h1, Dt.bl_of h2, q _ G H (Ext.rfl x) (.bl _)⟩
theorem ed_noB {a b : Bool} (ha : ED K ta τ (.bool a)) (hb : ED K tb τ (.bool b)) : ED K (tOp rNotB ta tb) τ (.bool (!decide (a = b))) := ed_op ha hb fun G H v u x h1 h2 Q q => ⟨a, b, Dt.bl_of h1, Dt.bl_of h2, q _ G H (Ext.rfl x) (.bl _)⟩
/-! in, ints -/
theorem inV_ints (k : Int) : ∀ ns : List Int, inV (.int k) (ns.map V.int) = ns.contains k
  | [] => rfl
  | n :: ns => by
    have ih := inV_ints k ns
    unfold inV at ih ⊢
    rw [List.map_cons, List.any_cons, ih, List.contains_cons]
    have e : eqV (.int n) (.int k) = (k == n) := by
      show (n == k) = (k == n)
      rw [Bool.eq_iff_iff]
      simp only [beq_iff_eq]
      exact ⟨Eq.symm, Eq.symm⟩
    rw [e]
theorem flat_ints : ∀ ns : List Int, (ns.map V.int).all flatV = true
  | [] => rfl
  | n :: ns => by rw [List.map_cons, List.all_cons, flat_ints ns]; rfl
theorem ed_in {k : Int} {ns : List Int} (ha : ED K ta τ (.int k)) (hb : ED K tb τ (.list (ns.map PyData.int))) : ED K (tOp (rIn K false) ta tb) τ (.bool (ns.contains k)) := ed_op ha hb fun G H v u x h1 h2 Q q => by
  obtain ⟨p, us, rfl, e1, a1⟩ := Dt.lst_of h2
  rw [DtAll.ints a1] at e1
  rw [Dt.int_of h1]
  refine ⟨p, ns.map V.int, rfl, .inl (.inl (.inl (x _ _ e1))), rfl, flat_ints ns, ?_⟩
  rw [if_neg Bool.false_ne_true, inV_ints]
  exact q _ G H (Ext.rfl x) (.bl _)
theorem ed_nin {k : Int} {ns : List Int} (ha : ED K ta τ (.int k)) (hb : ED K tb τ (.list (ns.map PyData.int))) : ED K (tOp (rIn K true) ta tb) τ (.bool (!ns.contains k)) := ed_op ha hb fun G H v u x h1 h2 Q q => by
  obtain ⟨p, us, rfl, e1, a1⟩ := Dt.lst_of h2
  rw [DtAll.ints a1] at e1
  rw [Dt.int_of h1]
  refine ⟨p, ns.map V.int, rfl, .inl (.inl (.inl (x _ _ e1))), rfl, flat_ints ns, ?_⟩
  rw [if_pos rfl, inV_ints]
  exact q _ G H (Ext.rfl x) (.bl _)
/-! further arithmetic -/
theorem ed_pow {i j : Int} (ha : ED K ta τ (.int i)) (hb : ED K tb τ (.int j)) (hc : CPow i j) : ED K (tOp (rI CPow fun i j => .int (i ^ j.toNat)) ta tb) τ (.int (i ^ j.toNat)) := ed_op ha hb (rd_I hc fun _ => .int _)
theorem ed_shl {i j : Int} (ha : ED K ta τ (.int i)) (hb : ED K tb τ (.int j)) (hc : CPow i j) : ED K (tOp (rI CPow fun i j => .int (i * 2 ^ j.toNat)) ta tb) τ (.int (i * 2 ^ j.toNat)) := ed_op ha hb (rd_I hc fun _ => .int _)
theorem ed_shr {i j : Int} (ha : ED K ta τ (.int i)) (hb : ED K tb τ (.int j)) (hc : 0 ≤ j) : ED K (tOp (rI (fun _ j => 0 ≤ j) fun i j => .int (i / 2 ^ j.toNat)) ta tb) τ (.int (i / 2 ^ j.toNat)) := ed_op ha hb (rd_I hc fun _ => .int _)
theorem ed_band {i j : Int} (ha : ED K ta τ (.int i)) (hb : ED K tb τ (.int j)) : ED K (tOp (rI0 fun i j => .int (Builtin.bitAnd i j)) ta tb) τ (.int (Builtin.bitAnd i j)) := ed_op ha hb (rd_I0 fun _ => .int _)
theorem ed_gt {i j : Int} (ha : ED K ta τ (.int i)) (hb : ED K tb τ (.int j)) : ED K (tOp (rI0 fun i j => .bl (decide (j < i))) ta tb) τ (.bool (decide (j < i))) := ed_op ha hb (rd_I0 fun _ => .bl _)
theorem ed_ge {i j : Int} (ha : ED K ta τ (.int i)) (hb : ED K tb τ (.int j)) : ED K (tOp (rI0 fun i j => .bl (decide (j ≤ i))) ta tb) τ (.bool (decide (j ≤ i))) := ed_op ha hb (rd_I0 fun _ => .bl _)
theorem rd_lt {i j : Int} : RD (rI0 fun i j => .bl (decide (i < j))) (.int i) (.int j) (.bool (decide (i < j))) := rd_I0 fun _ => .bl _
theorem rd_le {i j : Int} : RD (rI0 fun i j => .bl (decide (i ≤ j))) (.int i) (.int j) (.bool (decide (i ≤ j))) := rd_I0 fun _ => .bl _
/-- lo <= x < hi -/
theorem ed_leLt {i j k : Int} (ha : ED K ta τ (.int i)) (hb : ED K tb τ (.int j)) (hc : ED K tc τ (.int k)) : ED K (tChain (rI0 fun i j => .bl (decide (i ≤ j))) (rI0 fun i j => .bl (decide (i < j))) ta tb tc) τ (.bool (decide (i ≤ j ∧ j < k))) :=
  ed_is (ed_chain (g := .none) ha hb rd_le (fun _ => hc) fun _ => rd_lt) (by rw [Bool.decide_and])
theorem ed_leLe {i j k : Int} (ha : ED K ta τ (.int i)) (hb : ED K tb τ (.int j)) (hc : ED K tc τ (.int k)) : ED K (tChain (rI0 fun i j => .bl (decide (i ≤ j))) (rI0 fun i j => .bl (decide (i ≤ j))) ta tb tc) τ (.bool (decide (i ≤ j ∧ j ≤ k))) :=
  ed_is (ed_chain (g := .none) ha hb rd_le (fun _ => hc) fun _ => rd_le) (by rw [Bool.decide_and])
theorem ed_leLtLe {i j k l : Int} (ha : ED K ta τ (.int i)) (hb : ED K tb τ (.int j)) (hc : ED K tc τ (.int k)) (hd : ED K td τ (.int l)) : ED K (tChain3 (rI0 fun i j => .bl (decide (i ≤ j))) (rI0 fun i j => .bl (decide (i < j))) (rI0 fun i j => .bl (decide (i ≤ j))) ta tb tc td) τ (.bool (decide (i ≤ j ∧ j < k ∧ k ≤ l))) :=
  ed_is (ed_chain3 ha hb rd_le (fun _ => hc) (fun _ => rd_lt) (fun _ _ => hd) fun _ _ => rd_le) (by rw [Bool.decide_and, Bool.decide_and])
/-! calls, short -/
theorem ea1 {d : PyData} (h : ED K ta τ d) : EA K (tCons ta tNil) τ [.dat d] := ea_cons h ea_nil
theorem ea2 {d e : PyData} (h : ED K ta τ d) (h' : ED K tb τ e) : EA K (tCons ta (tCons tb tNil)) τ [.dat d, .dat e] := ea_cons h (ea1 h')
theorem ed_max {i j : Int} (ha : ED K ta τ (.int i)) (hb : ED K tb τ (.int j)) : ED K (tCB rMx2 (tCons ta (tCons tb tNil))) τ (.int (max i j)) := ed_cb (ea2 ha hb) rc_max
theorem ed_min {i j : Int} (ha : ED K ta τ (.int i)) (hb : ED K tb τ (.int j)) : ED K (tCB rMn2 (tCons ta (tCons tb tNil))) τ (.int (min i j)) := ed_cb (ea2 ha hb) rc_min
theorem ed_len {ds : List PyData} (ha : ED K ta τ (.list ds)) : ED K (tCB (rLenA K) (tCons ta tNil)) τ (.int ds.length) := ed_cb (ea1 ha) rc_lenL
theorem ed_lenT {ds : List PyData} (ha : ED K ta τ (.tuple ds)) : ED K (tCB (rLenA K) (tCons ta tNil)) τ (.int ds.length) := ed_cb (ea1 ha) rc_lenT
theorem ed_lenS {i : Nat} {ns : List Int} (h : τ[i]? = some (.scr ns)) : ED K (tCB (rLenA K) (tCons (tVar i) tNil)) τ (.int ns.length) := ed_cb (ea_scr h ea_nil) rc_lenS
theorem ed_abs {i : Int} (ha : ED K ta τ (.int i)) : ED K (tCB rAbs (tCons ta tNil)) τ (.int i.natAbs) := ed_cb (ea1 ha) rc_abs
theorem ed_sum {ns : List Int} (ha : ED K ta τ (.list (ns.map PyData.int))) : ED K (tCB (rSum K) (tCons ta tNil)) τ (.int ns.sum) := ed_cb (ea1 ha) rc_sum
theorem ed_all {bs : List Bool} (ha : ED K ta τ (.list (bs.map PyData.bool))) : ED K (tCB (rAll K) (tCons ta tNil)) τ (.bool (bs.all id)) := ed_cb (ea1 ha) rc_all
theorem ed_any {bs : List Bool} (ha : ED K ta τ (.list (bs.map PyData.bool))) : ED K (tCB (rAny K) (tCons ta tNil)) τ (.bool (bs.any id)) := ed_cb (ea1 ha) rc_any
theorem el_list {ds : List PyData} (ha : ED K ta τ (.list ds)) : EL K (tCB (rLst K) (tCons ta tNil)) τ ds := el_cb (ea1 ha) rcl_list
/-- all([.. for ..]) as one -/
theorem ed_allF {α : Type} (xs : List α) (p : α → Bool) (ha : EL K ta τ (xs.map fun x => PyData.bool (p x))) : ED K (tCB (rAll K) (tCons ta tNil)) τ (.bool (xs.all p)) := by
  have e : (xs.map fun x => PyData.bool (p x)) = (xs.map p).map PyData.bool := by rw [List.map_map]; rfl
  rw [e] at ha
  exact ed_is (ed_all ha.ed) (by rw [List.all_map]; rfl)
theorem ed_anyF {α : Type} (xs : List α) (p : α → Bool) (ha : EL K ta τ (xs.map fun x => PyData.bool (p x))) : ED K (tCB (rAny K) (tCons ta tNil)) τ (.bool (xs.any p)) := by
  have e : (xs.map fun x => PyData.bool (p x)) = (xs.map p).map PyData.bool := by rw [List.map_map]; rfl
  rw [e] at ha
  exact ed_is (ed_any ha.ed) (by rw [List.any_map]; rfl)
/-- a comprehension without a test -/
theorem el_map {α : Type} (xs : List α) (q g' : α → PyData) {wi : TI} {g : TG} {vs js : List Nat} (hi : EI K wi τ (xs.map q)) (hj : ∀ j ∈ js, j ∈ vs) (hn : xs.length ≤ 100000)
    (h : ∀ x ∈ xs, ∃ τ2, TGD K g js (q x) (wipeS τ vs) τ2 ∧ ED K te τ2 (g' x)) : EL K (tLc wi g tYes te vs) τ (xs.map g') := by
  have z := el_lc (te := te) (tt := tYes) xs q (fun x => some (g' x)) hi hj hn fun x hx => by
    obtain ⟨τ2, h1, h2⟩ := h x hx
    exact ⟨τ2, h1, .inr ⟨_, rfl, et_yes, h2⟩⟩
  rw [List.filterMap_eq_map'] at z
  exact z
/-- with a test, the item itself -/
theorem el_filt {α : Type} (xs : List α) (q g' : α → PyData) (p : α → Bool) {wi : TI} {g : TG} {tt : TT} {vs js : List Nat} (hi : EI K wi τ (xs.map q)) (hj : ∀ j ∈ js, j ∈ vs) (hn : xs.length ≤ 100000)
    (h : ∀ x ∈ xs, ∃ τ2, TGD K g js (q x) (wipeS τ vs) τ2 ∧ ET K tt τ2 (p x) ∧ (p x = true → ED K te τ2 (g' x))) : EL K (tLc wi g tt te vs) τ ((xs.filter p).map g') := by
  have z := el_lc (te := te) (tt := tt) xs q (fun x => if p x = true then some (g' x) else none) hi hj hn fun x hx => by
    obtain ⟨τ2, h1, h2, h3⟩ := h x hx
    refine ⟨τ2, h1, ?_⟩
    by_cases c : p x = true
    · rw [c] at h2
      exact .inr ⟨g' x, if_pos c, h2, h3 c⟩
    · have c' : p x = false := by simpa using c
      rw [c'] at h2
      exact .inl ⟨if_neg c, h2⟩
  have e : ∀ l : List α, l.filterMap (fun x => if p x = true then some (g' x) else none) = (l.filter p).map g' := fun l => by
    induction l with
    | nil => rfl
    | cons a l ih =>
      by_cases c : p a = true
      · rw [List.filterMap_cons_some (f := fun x => if p x = true then some (g' x) else none) (b := g' a) (if_pos c), List.filter_cons_of_pos c, List.map_cons, ih]
      · rw [List.filterMap_cons_none (f := fun x => if p x = true then some (g' x) else none) (if_neg c), List.filter_cons_of_neg c, ih]
  rw [e] at z
  exact z
/-! isinstance of data -/
def tyN : PyData → String
  | .none => "NoneType"
  | .bool _ => "bool"
  | .int _ => "int"
  | .str _ => "str"
  | .list _ => "list"
  | .tuple _ => "tuple"
  | .dict _ => "dict"
theorem ed_isi {n : String} {b : Bool} (ha : ED K ta τ d) (hk : PySem.W.kitOne K (.type (tyN d)) (.type n) = some b) : ED K (tCB (rIsi K) (tCons ta (tCons (tC (.ty n)) tNil))) τ (.bool b) := fun G0 H0 G H σ R Q q => ha G0 H0 G H σ R _ fun v G1 H1 x1 d1 => by
  refine ⟨v, .ty n, .type (tyN d), .type n, b, rfl, .ty n, ?_, hk, q _ G1 H1 x1 (.bl b)⟩
  cases d1 with
  | non => exact .base .non
  | bl b => exact .base (.bl b)
  | int i => exact .base (.int i)
  | str x => exact .base (.str x)
  | lst h _ => exact .base (.lst (x1.gh _ _ h))
  | tup h _ => exact .base (.tup (x1.gh _ _ h))
/-! sorted, set, list(range), reversed slices -/
theorem EachIs.dt {G : Hp} : ∀ {vs : List V} {ds : List PyData}, PySem.W.EachIs (Dt G) vs ds → DtAll G vs ds
  | _, _, .nil => .nil
  | _, _, .cons h t => .cons h (EachIs.dt t)
theorem DtAll.each {G : Hp} : ∀ {vs : List V} {ds : List PyData}, DtAll G vs ds → PySem.W.EachIs (Dt G) vs ds
  | _, _, .nil => .nil
  | _, _, .cons h t => .cons h (DtAll.each t)
theorem el_sort {ds : List PyData} (ha : ED K ta τ (.list ds)) (hal : PySem.W.AllAlike ds) (hs : PySem.W.Sortable ds) (hd : ∀ d ∈ ds, d.depth ≤ 8) : EL K (tCB (rSortD K) (tCons ta tNil)) τ (ds.mergeSort (PySem.W.dataLe false id)) := el_cb (ea1 ha) fun G H vs x a Q q => by
  obtain ⟨v, rfl, h⟩ := args1 a
  obtain ⟨p, us, rfl, e1, a1⟩ := Dt.lst_of h
  refine ⟨p, us, ds, rfl, .inl (.inl (x _ _ e1)), DtAll.dp (DtAll.ex x a1), hal, hs, hd, fun p' ys hp hR => ?_⟩
  exact q p' ys G _ (Ext.newO x hp) hp (x.none hp) upd_same (EachIs.dt (hR _ a1.each))
theorem rising_one : ∀ {a b : List Int}, a.Pairwise (· < ·) → b.Pairwise (· < ·) → (∀ k, k ∈ a ↔ k ∈ b) → a = b
  | [], [], _, _, _ => rfl
  | [], y :: ys, _, _, h => absurd ((h y).mpr (by simp)) (by simp)
  | x :: xs, [], _, _, h => absurd ((h x).mp (by simp)) (by simp)
  | x :: xs, y :: ys, ha, hb, h => by
    have pa := List.pairwise_cons.mp ha
    have pb := List.pairwise_cons.mp hb
    have e : x = y := by
      have h1 := (h x).mp (by simp)
      have h2 := (h y).mpr (by simp)
      rw [List.mem_cons] at h1 h2
      rcases h1 with h1 | h1
      · exact h1
      · rcases h2 with h2 | h2
        · exact h2.symm
        · have := pa.1 y h2
          have := pb.1 x h1
          omega
    subst e
    rw [rising_one pa.2 pb.2 fun k => ?_]
    have hk := h k
    rw [List.mem_cons, List.mem_cons] at hk
    constructor
    · intro m
      rcases hk.mp (.inr m) with z | z
      · subst z; exact absurd (pa.1 k m) (Int.lt_irrefl _)
      · exact z
    · intro m
      rcases hk.mpr (.inr m) with z | z
      · subst z; exact absurd (pb.1 k m) (Int.lt_irrefl _)
      · exact z
/-- sorted(set(xs)) -/
theorem el_sortSet {w : World} {ns ms : List Int} (ha : ED K ta τ (.list (ns.map PyData.int))) (hn : ns.length ≤ 60) (hm : ms.Pairwise (· < ·)) (hk : ∀ k, k ∈ ms ↔ k ∈ ns) : EL K (tCB (rSortedSet w) (tCons (tCB (rSetL K w) (tCons ta tNil)) tNil)) τ (ms.map PyData.int) := fun G0 H0 G H σ R Q q => ha G0 H0 G H σ R _ fun v G1 H1 x1 d1 => by
  obtain ⟨p, us, rfl, e1, a1⟩ := Dt.lst_of d1
  rw [DtAll.ints a1] at e1
  refine ⟨p, ns, rfl, .inl (.inl (x1.gh _ _ e1)), by omega, fun s c hs hc => ?_⟩
  refine ⟨s, _, c, rfl, upd_same, by omega, fun out o hout hmem hlen ho => ?_⟩
  have e : out = ms := rising_one hout hm fun k => by rw [hmem k, hk k]; simp
  subst e
  have x2 : Ext G1 H1 G1 (upd H1 s (SetO w s (fun j => decide (j ∈ ns)) c)) := Ext.newO x1.gh hs
  have x3 := x2.tr (Ext.newO (p := o) (o := .lst (out.map V.int)) x2.gh ho)
  exact q o (out.map V.int) G1 _ (x1.tr x3) ((x1.tr x2).hh.none ho) (x2.gh.none ho) upd_same (dtAll_ints out)
theorem el_listRg {n : Int} (ha : ED K ta τ (.int n)) (h0 : 0 ≤ n) (h1 : n ≤ 100000) : EL K (tLstRg (tRg1 ta)) τ (rngD 0 n.toNat) := fun G0 H0 G H σ R Q q => ha G0 H0 G H σ R _ fun v G1 H1 x1 d1 => by
  refine ⟨n, Dt.int_of d1, ⟨by omega, by omega, by omega, by omega, by omega⟩, fun p hp => ?_⟩
  refine q p _ G1 _ (x1.tr (Ext.newO x1.gh hp)) (x1.hh.none hp) (x1.gh.none hp) upd_same ?_
  have e : rgV 0 n = ((List.range n.toNat).map fun i => (0 + (i : Nat) : Int)).map V.int := by
    unfold rgV
    rw [List.map_map, Int.sub_zero]
    rfl
  have e2 : rngD 0 n.toNat = ((List.range n.toNat).map fun i => (0 + (i : Nat) : Int)).map PyData.int := by
    unfold rngD
    rw [List.map_map]
    rfl
  rw [e, e2]
  exact dtAll_ints _
theorem el_listRg2 {m n : Int} (ha : ED K ta τ (.int m)) (hb : ED K tb τ (.int n)) (h0 : -100000 ≤ m) (h1 : m ≤ 100000) (h2 : -100000 ≤ n) (h3 : n ≤ 100000) : EL K (tLstRg (tRg2 ta tb)) τ (rngD m (n - m).toNat) := fun G0 H0 G H σ R Q q => ha G0 H0 G H σ R _ fun v G1 H1 x1 d1 => hb G0 H0 G1 H1 σ (R.step x1) _ fun w G2 H2 x2 d2 => by
  have xx := x1.tr x2
  refine ⟨m, n, Dt.int_of d1, Dt.int_of d2, ⟨by omega, by omega, by omega, by omega, by omega⟩, fun p hp => ?_⟩
  refine q p _ G2 _ (xx.tr (Ext.newO x2.gh hp)) (xx.hh.none hp) (x2.gh.none hp) upd_same ?_
  have e : rgV m n = ((List.range (n - m).toNat).map fun i => (m + (i : Nat) : Int)).map V.int := by
    unfold rgV
    rw [List.map_map]
    rfl
  have e2 : rngD m (n - m).toNat = ((List.range (n - m).toNat).map fun i => (m + (i : Nat) : Int)).map PyData.int := by
    unfold rngD
    rw [List.map_map]
    rfl
  rw [e, e2]
  exact dtAll_ints _
theorem el_rev {ds : List PyData} (ha : ED K ta τ (.list ds)) : EL K (tRevL K ta) τ ds.reverse := fun G0 H0 G H σ R Q q => ha G0 H0 G H σ R _ fun v G1 H1 x1 d1 => by
  obtain ⟨p, us, rfl, e1, a1⟩ := Dt.lst_of d1
  exact ⟨p, us, rfl, .inl (.inl (x1.gh _ _ e1)), fun p' hp => q p' _ G1 _ (x1.tr (Ext.newO x1.gh hp)) (x1.hh.none hp) (x1.gh.none hp) upd_same a1.rev⟩
end
end Ab

namespace Ab
open PySem L2 PySem.Spec PyProof.Rows
/-- it comes to one of S -/
def EN (K : PySem.W.Frag) (te : TE) (τ : Sls) (S : Sl → Prop) : Prop := ∀ G0 H0 G H σ, Rel K G0 H0 G H σ τ → ∀ Q : VK, (∀ v s G' H', S s → Ext G H G' H' → RtOk H G' H' v s → Q v H') → te σ H Q
section
variable {K : PySem.W.Frag} {τ : Sls} {ta tb tc td te : TE} {d e f : PyData} {t u : TS} {N N' : Sls → Prop} {R R' : Sl → Prop} {tr : TA} {S S1 S2 S3 : Sl → Prop}
theorem en_ed (h : ED K te τ d) (hs : S (.dat d)) : EN K te τ S := fun G0 H0 G H σ r Q q => h G0 H0 G H σ r Q fun v G' H' x dd => q v _ G' H' hs x dd
theorem en_el {ds : List PyData} (h : EL K te τ ds) (hs : S (.own ds)) : EN K te τ S := fun G0 H0 G H σ r Q q => h G0 H0 G H σ r Q fun p vs G' H' x hp gp hh dd => q _ _ G' H' hs x ⟨p, vs, rfl, hh, gp, hp, dd⟩
theorem RtOk.back {H0 H1 G H : Hp} {v : V} {s : Sl} (x : Ex H0 H1) (h : RtOk H1 G H v s) : RtOk H0 G H v s := by
  cases s with
  | unk => exact h
  | scr ns => exact h
  | dat d => exact h
  | own ds => obtain ⟨p, vs, h1, h2, h3, h4, h5⟩ := h; exact ⟨p, vs, h1, h2, h3, x.none h4, h5⟩
theorem en_call {P : List Sl → (Sl → Prop) → Prop} {E : XK} {as : List Sl} (h : EA K tr τ as) (hp : P as S) : EN K (tCall (spF K P) [] E tr) τ S := fun G0 H0 G H σ r Q q => h G0 H0 G H σ r _ fun vs G1 H1 x1 a1 => by
  rw [List.append_nil]
  exact ⟨G1, as, S, x1.gh, a1, hp, fun s v G' H' hs x hv => q v s G' H' hs (x1.tr x) (hv.back x1.hh)⟩
theorem sd_asgN {i : Nat} (h : EN K te τ fun s => N (τ.set i s)) : SD K (tAsg te (gName i)) τ N R := fun G0 H0 G H σ r D kn kr => h G0 H0 G H σ r _ fun v s G1 H1 hs x1 d1 => kn _ G1 H1 _ hs ((r.step x1).setR x1 r.ownIn r.ext.hh i d1) x1.gg
theorem sd_retN (h : EN K te τ R) : SD K (tRet te) τ N R := fun G0 H0 G H σ r D kn kr => h G0 H0 G H σ r _ fun v s G1 H1 hs x1 d1 => kr s v G1 H1 hs (r.ext.tr x1) (d1.back r.ext.hh)
theorem sd_parN {i j : Nat} (h1 : EN K ta τ S1) (h2 : EN K tb τ S2) (hn : ∀ s1 s2, S1 s1 → S2 s2 → N ((τ.set i s1).set j s2)) : SD K (tPar i j (tCons ta (tCons tb tNil))) τ N R := fun G0 H0 G H σ r D kn kr => by
  refine h1 G0 H0 G H σ r _ fun v s1 G1 H1 hs1 x1 d1 => ?_
  refine h2 G0 H0 G1 H1 σ (r.step x1) _ fun w s2 G2 H2 hs2 x2 d2 => ?_
  refine ⟨v, w, rfl, kn _ G2 H2 _ (hn s1 s2 hs1 hs2) ?_ (x1.gg.tr x2.gg)⟩
  have ra := ((r.step x1).step x2).setR (x1.tr x2) r.ownIn r.ext.hh i (d1.step x2)
  exact ra.setR x2 ((r.ownIn.ex x1.hh).set i d1) (r.ext.hh.tr x1.hh) j d2
theorem sd_par3N {i j l : Nat} (h1 : EN K ta τ S1) (h2 : EN K tb τ S2) (h3 : EN K tc τ S3) (hn : ∀ s1 s2 s3, S1 s1 → S2 s2 → S3 s3 → N (((τ.set i s1).set j s2).set l s3)) : SD K (tPar3 i j l (tCons ta (tCons tb (tCons tc tNil)))) τ N R := fun G0 H0 G H σ r D kn kr => by
  refine h1 G0 H0 G H σ r _ fun v s1 G1 H1 hs1 x1 d1 => ?_
  refine h2 G0 H0 G1 H1 σ (r.step x1) _ fun w s2 G2 H2 hs2 x2 d2 => ?_
  refine h3 G0 H0 G2 H2 σ ((r.step x1).step x2) _ fun z s3 G3 H3 hs3 x3 d3 => ?_
  refine ⟨v, w, z, rfl, kn _ G3 H3 _ (hn s1 s2 s3 hs1 hs2 hs3) ?_ ((x1.gg.tr x2.gg).tr x3.gg)⟩
  have ra := (((r.step x1).step x2).step x3).setR ((x1.tr x2).tr x3) r.ownIn r.ext.hh i ((d1.step x2).step x3)
  have rb := ra.setR (x2.tr x3) ((r.ownIn.ex x1.hh).set i d1) (r.ext.hh.tr x1.hh) j (d2.step x3)
  exact rb.setR x3 (((r.ownIn.ex (x1.hh.tr x2.hh)).set i (d1.step x2)).set j d2) ((r.ext.hh.tr x1.hh).tr x2.hh) l d3
theorem sd_mk2N {i j : Nat} (h1 : EN K ta τ S1) (h2 : EN K tb τ S2) (hn : ∀ s1 s2, S1 s1 → S2 s2 → N ((τ.set i s1).set j s2)) : SD K (tAsg (tTup (tCons ta (tCons tb tNil))) (gTup K 2 (gCons (gName i) (gCons (gName j) gNil)))) τ N R := fun G0 H0 G H σ r D kn kr => by
  refine h1 G0 H0 G H σ r _ fun v s1 G1 H1 hs1 x1 d1 => ?_
  refine h2 G0 H0 G1 H1 σ (r.step x1) _ fun w s2 G2 H2 hs2 x2 d2 => ?_
  refine ⟨sz (by simp), fun p hp => ⟨p, [v, w], rfl, .inl (.inl upd_same), rfl, v, [w], rfl, w, [], rfl, rfl, ?_⟩⟩
  have x3 : Ext G2 H2 G2 (upd H2 p (.tup [v, w])) := Ext.newO x2.gh hp
  refine kn _ G2 _ _ (hn s1 s2 hs1 hs2) ?_ (x1.gg.tr x2.gg)
  have ra := (((r.step x1).step x2).step x3).setR ((x1.tr x2).tr x3) r.ownIn r.ext.hh i ((d1.step x2).step x3)
  exact ra.setR (x2.tr x3) ((r.ownIn.ex x1.hh).set i d1) (r.ext.hh.tr x1.hh) j (d2.step x3)
theorem sd_mk3N {i j l : Nat} (h1 : EN K ta τ S1) (h2 : EN K tb τ S2) (h3 : EN K tc τ S3) (hn : ∀ s1 s2 s3, S1 s1 → S2 s2 → S3 s3 → N (((τ.set i s1).set j s2).set l s3)) : SD K (tAsg (tTup (tCons ta (tCons tb (tCons tc tNil)))) (gTup K 3 (gCons (gName i) (gCons (gName j) (gCons (gName l) gNil))))) τ N R := fun G0 H0 G H σ r D kn kr => by
  refine h1 G0 H0 G H σ r _ fun v s1 G1 H1 hs1 x1 d1 => ?_
  refine h2 G0 H0 G1 H1 σ (r.step x1) _ fun w s2 G2 H2 hs2 x2 d2 => ?_
  refine h3 G0 H0 G2 H2 σ ((r.step x1).step x2) _ fun z s3 G3 H3 hs3 x3 d3 => ?_
  refine ⟨sz (by simp), fun p hp => ⟨p, [v, w, z], rfl, .inl (.inl upd_same), rfl, v, [w, z], rfl, w, [z], rfl, z, [], rfl, rfl, ?_⟩⟩
  have x4 : Ext G3 H3 G3 (upd H3 p (.tup [v, w, z])) := Ext.newO x3.gh hp
  refine kn _ G3 _ _ (hn s1 s2 s3 hs1 hs2 hs3) ?_ ((x1.gg.tr x2.gg).tr x3.gg)
  have ra := ((((r.step x1).step x2).step x3).step x4).setR (((x1.tr x2).tr x3).tr x4) r.ownIn r.ext.hh i (((d1.step x2).step x3).step x4)
  have rb := ra.setR ((x2.tr x3).tr x4) ((r.ownIn.ex x1.hh).set i d1) (r.ext.hh.tr x1.hh) j ((d2.step x3).step x4)
  exact rb.setR (x3.tr x4) (((r.ownIn.ex (x1.hh.tr x2.hh)).set i (d1.step x2)).set j d2) ((r.ext.hh.tr x1.hh).tr x2.hh) l (d3.step x4)
/-- a comprehension whose elements come to one of a set -/
theorem en_lc {α : Type} (xs : List α) (q : α → PyData) (T : α → PyData → Prop) {wi : TI} {g : TG} {vs js : List Nat} (hi : EI K wi τ (xs.map q)) (hj : ∀ j ∈ js, j ∈ vs) (hn : xs.length ≤ 100000)
    (h : ∀ x ∈ xs, ∃ τ2, TGD K g js (q x) (wipeS τ vs) τ2 ∧ EN K te τ2 fun s => ∃ d, s = .dat d ∧ T x d) (hs : ∀ ds, PySem.W.EachIs T xs ds → S (.own ds)) : EN K (tLc wi g tYes te vs) τ S := by
  intro G0 H0 G H σ R Q k
  refine hi G0 H0 G H σ R _ fun J G1 H1 x1 jd D hD => ?_
  refine ⟨fun i m Hc => m = xs.length - i ∧ i ≤ xs.length ∧ ∃ G2 ws ds, Ext G1 H1 G2 Hc ∧ Hc D = some (.lst ws) ∧ G2 D = none ∧ DtAll G2 ws ds ∧ PySem.W.EachIs T (xs.take i) ds, ⟨xs.length, by simp, Nat.zero_le _, G1, [], [], Ext.newO x1.gh hD, upd_same, x1.gh.none hD, .nil, by simpa using .nil⟩, ?_⟩
  rintro i m Hc ⟨rfl, hin, G2, ws, ds, y1, y2, y3, y4, y5⟩
  obtain ⟨jgo, jst⟩ := jd G2 Hc y1.gg y1.gh i
  by_cases hlt : i < xs.length
  · obtain ⟨x, hx⟩ : ∃ x, xs[i]? = some x := ⟨xs[i], List.getElem?_eq_getElem hlt⟩
    obtain ⟨go, yl⟩ := jgo (q x) (by rw [List.getElem?_map, hx]; rfl)
    refine .inr ⟨go, fun H' => ∃ G3 ws' ds', Ext G1 H1 G3 H' ∧ H' D = some (.lst ws') ∧ G3 D = none ∧ DtAll G3 ws' ds' ∧ PySem.W.EachIs T (xs.take (i + 1)) ds', fun H' hN => ⟨xs.length - (i + 1), by omega, rfl, hlt, hN⟩, fun v H' yv => ?_⟩
    obtain ⟨G3, z1, z2⟩ := yl v H' yv
    obtain ⟨τ2, tg, hy⟩ := h x (List.mem_of_getElem? hx)
    have RW := (R.step ((x1.tr y1).tr z1)).wipe vs
    have tk : (xs.take (i + 1)) = xs.take i ++ [x] := by rw [List.take_add_one, hx]; rfl
    refine tg G0 H0 G3 H' _ v RW z2 _ fun σ2 R2 ag ln => ⟨wipe_agree (ln.trans (wipe_length σ vs)) hj ag, ?_⟩
    have hDne : Hc D ≠ none := by rw [y2]; exact fun z => nomatch z
    refine hy G0 H0 G3 H' σ2 R2 _ fun v5 s5 G5 H5 hs5 x5 d5 => ?_
    obtain ⟨d, rfl, hT⟩ := hs5
    have w := z1.tr x5
    have g5 := w.ap D y3 hDne
    have l5 : ws.length = ds.length := y4.len
    have l6 := y5.length
    rw [List.length_take] at l6
    refine ⟨ws, w.hh _ _ y2, szl (by omega), G5, ws ++ [v5], ds ++ [d], (y1.tr w).mut hD g5, upd_same, g5, (DtAll.ex w.gg y4).app (.cons d5 .nil), ?_⟩
    rw [tk]
    have app : ∀ {a : List α} {b : List PyData}, PySem.W.EachIs T a b → PySem.W.EachIs T (a ++ [x]) (b ++ [d]) := fun {a b} hh => by
      induction hh with
      | nil => exact .cons hT .nil
      | cons r t ih => exact .cons r ih
    exact app y5
  · have e : i = xs.length := by omega
    subst e
    refine .inl ⟨jst (by rw [List.length_map]; exact Nat.le_refl _), ?_⟩
    rw [List.take_length] at y5
    exact k _ _ G2 Hc (hs ds y5) (x1.tr y1) ⟨D, ws, rfl, y2, y3, x1.hh.none hD, y4⟩
end
end Ab

/-! ### the rules with the written part told -/
namespace Ab
open PySem L2 PySem.Spec PyProof.Rows
section
variable {X : Cx} {K : PySem.W.Frag} {w : World}
theorem ixK (h : X.K = K) : IxR X (rIxA K) := by subst h; exact ix_A
theorem lenK (h : X.K = K) : CallR X (.builtin "len") (rLenA K) := by subst h; exact cr_lenA
theorem lstK (h : X.K = K) : CallR X (.type "list") (rLst K) := by subst h; exact cr_lst
theorem eqK {k : Nat} (hr : Room k X.A) (h : X.K = K) : OpR X (compareOp .Eq) (rEqD K) := by subst h; exact op_eqD hr.units
theorem neK {k : Nat} (hr : Room k X.A) (h : X.K = K) : OpR X (compareOp .NotEq) (rNeD K) := by subst h; exact op_neD hr.units
theorem inK (h : X.K = K) : OpR X (compareOp .In) (rIn K false) := by subst h; exact op_in_seq
theorem ninK (h : X.K = K) : OpR X (compareOp .NotIn) (rIn K true) := by subst h; exact op_notIn_seq
theorem sumK (hc : X.calm = true) (h : X.K = K) : CallR X (.builtin "sum") (rSum K) := by subst h; exact cr_sum hc
theorem allK (hc : X.calm = true) (h : X.K = K) : CallR X (.builtin "all") (rAll K) := by subst h; exact cr_all hc
theorem anyK (hc : X.calm = true) (h : X.K = K) : CallR X (.builtin "any") (rAny K) := by subst h; exact cr_any hc
theorem maxK (hc : X.calm = true) (h : X.K = K) : CallR X (.builtin "max") (rMax K) := by subst h; exact cr_max hc
theorem minK (hc : X.calm = true) (h : X.K = K) : CallR X (.builtin "min") (rMin K) := by subst h; exact cr_min hc
theorem isiK (h : X.K = K) : CallR X (.builtin "isinstance") (rIsi K) := by subst h; exact call_isi
theorem sortK {k : Nat} (hc : X.calm = true) (hr : Room k X.A) (h : X.K = K) : CallR X (.builtin "sorted") (rSortD K) := by subst h; exact cr_sortD hc hr
theorem setLK (hc : X.calm = true) (h : X.K = K) (hw : X.w = w) : CallR X (.type "set") (rSetL K w) := by subst h hw; exact cr_setL hc
theorem sortSetK (hc : X.calm = true) (hw : X.w = w) : CallR X (.builtin "sorted") (rSortedSet w) := by subst hw; exact cr_sortedSet hc
theorem slK (h : X.K = K) : SlR X (rSlL K) := by subst h; exact sl_list
theorem revK {e : Expr} {te : TE} {k : Nat} {p1 p2 p3 pos : Pos} (h : X.K = K) (he : PE X e te) : PE X (.Subscript e (.Slice none none (some (.UnaryOp .USub (.Constant (.int 1) k p1) p2)) p3) pos) (tRevL K te) := by subst h; exact pe_revL he
theorem tupK {es : List Expr} {k : Nat} {t : TGs} {n : Nat} {pos : Pos} (h : X.K = K) (hc : X.calm = true) (hg : PGs X es t) (hn : (assignEach es X.env).length = n := by rfl) (hst : (assignEach es X.env).findIdx? (·.1) = none := by rfl) : PG X (.Tuple es k pos) (gTup K n t) := by subst h; exact pg_tup hc hg hn hst
theorem seqK {tg e : Expr} {te : TE} (h : X.K = K) (he : PE X e te) : PI X tg e (iAny K te) := by subst h; exact pi_seq he
theorem enumK {e : Expr} {ta : TA} {p pos tpos : Pos} {elts : List Expr} {kk : Nat} (h : X.K = K) (hg : Gl X "enumerate") (hm : X.mg "enumerate" = none) (ha : PA X [e] ta) (hs : starEach [e] X.env = [(false, eval e X.env)] := by rfl) :
    PI X (.Tuple elts kk tpos) (.Call (.Name "enumerate" p) [e] [] pos) (iEnum K ta) := by subst h; exact pi_enum hg hm ha hs
theorem zipK {e e2 : Expr} {ta : TA} {p pos tpos : Pos} {elts : List Expr} {kk : Nat} (h : X.K = K) (hg : Gl X "zip") (hm : X.mg "zip" = none) (ha : PA X [e, e2] ta)
    (hs : starEach [e, e2] X.env = (false, eval e X.env) :: starEach [e2] X.env := by rfl) (hpl : (backTo pos (starEach [e2] X.env)).any (·.1) = false := by rfl) :
    PI X (.Tuple elts kk tpos) (.Call (.Name "zip" p) [e, e2] [] pos) (iZip K ta) := by subst h; exact pi_zip hg hm ha hs hpl
theorem bmK {o e : Expr} {es : List Expr} {to : TE} {t : TA} {name : Str} {apos cpos : Pos} {T id : String} {r : V → List V → Hp → VK → Prop} (h : X.K = K) (pa : PlainAttrs T) (slot : Slot T name id) (hty : typeOf (.builtin id) = pure (.type "method_descriptor")) (hm : MtR X id r) (ho : PE X o to) (ha : PA X (e :: es) t)
    (h1 : attributeBase o name X.env (eval o X.env) = eval o X.env := by rfl)
    (h2 : ((backTo cpos (starEach (e :: es) X.env)).all (fun x => !x.1) && (backToKw cpos (keywordEach [] X.env)).all (fun x => x.1.isSome) && decide ((e :: es).length + ([] : List Keyword).length + (if ([] : List Keyword).isEmpty then 0 else 1) < 30)) = true := by rfl)
    (h3 : (apos.endLine == cpos.line) = true := by rfl) (h4 : starEach (e :: es) X.env = (false, eval e X.env) :: starEach es X.env := by rfl) (h5 : (backTo cpos (starEach es X.env)).any (·.1) = false := by rfl) :
    PE X (.Call (.Attribute o name apos) (e :: es) [] cpos) (tBM K T r to t) := by subst h; exact pe_bm pa slot hty hm ho ha h1 h2 h3 h4 h5
theorem bm0K {o : Expr} {to : TE} {name : Str} {apos cpos : Pos} {T id : String} {r : V → List V → Hp → VK → Prop} (h : X.K = K) (pa : PlainAttrs T) (slot : Slot T name id) (hty : typeOf (.builtin id) = pure (.type "method_descriptor")) (hm : MtR X id r) (ho : PE X o to)
    (h1 : attributeBase o name X.env (eval o X.env) = eval o X.env := by rfl) (h3 : (apos.endLine == cpos.line) = true := by rfl) : PE X (.Call (.Attribute o name apos) [] [] cpos) (tBM0 K T r to) := by subst h; exact pe_bm0 pa slot hty hm ho h1 h3
end
end Ab

namespace Ab
open PySem L2 PySem.Spec PyProof.Rows
section
variable {K : PySem.W.Frag} {τ : Sls} {ta tb tc td te : TE} {d e f : PyData} {t u : TS} {N N' : Sls → Prop} {R R' : Sl → Prop} {tr : TA} {S S1 S2 S3 : Sl → Prop}
theorem DtAll.scal {G G' : Hp} : ∀ {vs : List V} {ds : List PyData}, (∀ d ∈ ds, scalar d = true) → DtAll G vs ds → DtAll G' vs ds
  | _, _, _, .nil => .nil
  | _, _, hs, .cons h t => .cons (Dt.scal (hs _ (by simp)) h) (DtAll.scal (fun d hd => hs d (List.mem_cons_of_mem _ hd)) t)
/-- an own list read for a new list of scalars -/
theorem el_frz (i : Nat) {ds es : List PyData} (ht : τ[i]? = some (.own ds)) (h : EL K te (τ.set i (.dat (.list ds))) es) (hs : ∀ d ∈ es, scalar d = true) : EL K te τ es := fun G0 H0 G H σ r Q q => by
  obtain ⟨G1, x, r1⟩ := r.frz ht
  refine h G0 H0 G1 H σ r1 Q fun p vs G' H' xx hp gp hh dd => ?_
  exact q p vs G H' (Ext.grow r.gh xx.hh) hp (r.gh.none hp) hh (DtAll.scal hs dd)
/-- the turns of a for over what is walked -/
theorem for_run {J : It} {g : TG} {its : List PyData} {G0 H0 G G1 H1 : Hp} {σ : L2.St} {D : Ends} (I : Nat → Sls → Prop) (r : Rel K G0 H0 G1 H1 σ τ) (x1 : Ex G G1) (jd : JD G1 J its) (h0 : I 0 τ) (hb : ∀ i d τ1, its[i]? = some d → I i τ1 → ∃ js τ2, TGD K g js d τ1 τ2 ∧ SD K t τ2 (I (i + 1)) R) (hn : ∀ τ1, I its.length τ1 → N τ1)
    (kn : ∀ τ' G' H' σ', N τ' → Rel K G0 H0 G' H' σ' τ' → Ex G G' → D.nx σ' H') (kr : ∀ s v G' H', R s → Ext G0 H0 G' H' → RtOk H0 G' H' v s → D.rt v H') :
    ∃ W : Nat → Nat → L2.St → Hp → Prop, (∃ m, W 0 m σ H1) ∧ ∀ i m σ H, W i m σ H → (J.stop i H ∧ D.nx σ H) ∨ (J.go i H ∧ ∃ M : L2.St → Hp → Prop, (∀ σ' H', M σ' H' → ∃ m', m' < m ∧ W (i + 1) m' σ' H') ∧ ∀ x H', J.yld i H x H' → g x σ H' fun σ2 H2 => t { D with nx := M, ct := M, bk := D.nx } σ2 H2) := by
  refine ⟨fun i m σc Hc => m = its.length - i ∧ i ≤ its.length ∧ ∃ τ1 G2, I i τ1 ∧ Rel K G0 H0 G2 Hc σc τ1 ∧ Ex G1 G2, ⟨its.length, by simp, Nat.zero_le _, τ, G1, h0, r, Ex.rfl G1⟩, ?_⟩
  rintro i m σc Hc ⟨rfl, hin, τ1, G2, hI, rc, y1⟩
  obtain ⟨jgo, jst⟩ := jd G2 Hc y1 rc.gh i
  by_cases hlt : i < its.length
  · obtain ⟨x, hx⟩ : ∃ x, its[i]? = some x := ⟨its[i], List.getElem?_eq_getElem hlt⟩
    obtain ⟨go, yl⟩ := jgo x hx
    refine .inr ⟨go, fun σ' H' => ∃ τ1 G2, I (i + 1) τ1 ∧ Rel K G0 H0 G2 H' σ' τ1 ∧ Ex G1 G2, fun σ' H' hN => ⟨its.length - (i + 1), by omega, rfl, hlt, hN⟩, fun v H' yv => ?_⟩
    obtain ⟨G3, z1, z2⟩ := yl v H' yv
    obtain ⟨js, τ2, tg, sd⟩ := hb i x τ1 hx hI
    refine tg G0 H0 G3 H' σc v (rc.step z1) z2 _ fun σ2 R2 _ _ => ?_
    exact sd G0 H0 G3 H' σ2 R2 _ (fun τ' G' H' σ' n r' x' => ⟨τ', G', n, r', (y1.tr z1.gg).tr x'⟩) kr
  · have e : i = its.length := by omega
    subst e
    exact .inl ⟨jst (Nat.le_refl _), kn τ1 G2 Hc σc (hn τ1 hI) rc (x1.tr y1)⟩
/-- for x in f(..), the list one of a set -/
theorem sd_forN {g : TG} (h : EN K te τ S) (hs : ∀ s, S s → ∃ ds, s = .own ds ∧ ∃ I : Nat → Sls → Prop, I 0 τ ∧ (∀ i d τ1, ds[i]? = some d → I i τ1 → ∃ js τ2, TGD K g js d τ1 τ2 ∧ SD K t τ2 (I (i + 1)) R) ∧ ∀ τ1, I ds.length τ1 → N τ1) : SD K (tFor (iAny K te) g t) τ N R := by
  intro G0 H0 G H σ r D kn kr
  refine .inl (h G0 H0 G H σ r _ fun v s G1 H1 hS x1 d1 => ?_)
  obtain ⟨ds, rfl, I, h0, hb, hn⟩ := hs s hS
  obtain ⟨p, vs, rfl, e1, e2, e3, e4⟩ := d1
  have x2 : Ext G H (upd G1 p (.lst vs)) H1 := x1.frz e3 e1 e2
  have hp : (upd G1 p (HO.lst vs)) p = some (.lst vs) := upd_same
  have dt : Dt (upd G1 p (.lst vs)) (.ref p) (.list ds) := .lst hp (DtAll.ex (Ex.upd e2) e4)
  refine ⟨p, rfl, ⟨vs, .inl (.inl e1)⟩, ?_⟩
  refine for_run I (r.step x2) x2.gg ?_ h0 hb hn kn kr
  intro G2 H2 y1 y2 i
  have a1 : DtAll (upd G1 p (.lst vs)) vs ds := DtAll.ex (Ex.upd e2) e4
  have k2 := y2 _ _ (y1 _ _ hp)
  refine ⟨fun d hd => ?_, fun hi => ?_⟩
  · obtain ⟨w, f1, f2⟩ := a1.at hd
    refine ⟨⟨vs, w, .inl (.inl k2), f1⟩, fun x H3 y => ?_⟩
    obtain ⟨rfl, y⟩ := y
    have z := y vs (.inl (.inl k2))
    rw [f1] at z
    cases z
    exact ⟨G2, Ext.rfl y2, Dt.ex y1 f2⟩
  · exact ⟨vs, .inl (.inl k2), by rw [a1.len]; exact hi⟩
end
end Ab

/-! plain: the laying by rising begins, crowds -/
namespace Pl
abbrev Show := Int × Int × Int
def held (e : Int × Int) (s : Show) : Int × Int := (max 0 (s.1 - e.1), min 24 (s.2.1 + e.2))
def shAt (day : List Show) (p : Int) : Show := day.getD p.toNat (0, 0, 0)
/-- begins, ends, worths -/
def okS (s : Show) : Prop := 0 ≤ s.1 ∧ s.1 < s.2.1 ∧ s.2.1 ≤ 24 ∧ 0 ≤ s.2.2 ∧ s.2.2 ≤ 60
def okE (e : Int × Int) : Prop := 0 ≤ e.1 ∧ e.1 ≤ 2 ∧ 0 ≤ e.2 ∧ e.2 ≤ 2
def okDay (day : List Show) : Prop := day.length ≤ 10 ∧ ∀ s ∈ day, okS s
def okP (n : Nat) (ps : List Int) : Prop := ∀ p ∈ ps, 0 ≤ p ∧ p < n
/-- it holds a tuner at t -/
def inH (h : Int × Int) (t : Int) : Bool := decide (h.1 ≤ t ∧ t < h.2)
abbrev Ln := (Int × Int) × Int
def leL (a b : Ln) : Bool := if a.1.1 = b.1.1 then (if a.1.2 = b.1.2 then decide (a.2 ≤ b.2) else decide (a.1.2 ≤ b.1.2)) else decide (a.1.1 ≤ b.1.1)
def lineOf (e : Int × Int) (day : List Show) (ps : List Int) : List Ln := ps.mapIdx fun i p => (held e (shAt day p), (i : Int))
def getI (l : List Int) (i : Nat) : Int := l.getD i 0
/-- the tuners that are free at f -/
def opens (m : Nat) (free : List Int) (f : Int) : List Nat := (List.range m).filter fun o => decide (getI free o ≤ f)
def laidGo (m : Nat) : List Ln → List Int → List Int → List Int × Option Int
  | [], _, found => (found, none)
  | x :: r, free, found => match opens m free x.1.1 with
    | [] => (found, some x.1.1)
    | o :: _ => laidGo m r (free.set o x.1.2) (found.set x.2.toNat (o : Int))
def laidOf (m : Nat) (e : Int × Int) (day : List Show) (ps : List Int) : List Int × Option Int :=
  laidGo m ((lineOf e day ps).mergeSort leL) (List.replicate m 0) (List.replicate ps.length 0)
/-- how many of them hold t -/
def cntL (l : List Ln) (t : Int) : Nat := (l.filter fun x => inH x.1 t).length
def cnt (e : Int × Int) (day : List Show) (ps : List Int) (t : Int) : Nat := (ps.filter fun p => inH (held e (shAt day p)) t).length

/-! ### lists -/
theorem len_sub {α : Type} [DecidableEq α] : ∀ {a b : List α}, a.Nodup → (∀ x ∈ a, x ∈ b) → a.length ≤ b.length
  | [], _, _, _ => Nat.zero_le _
  | x :: a, b, hn, hs => by
    have hx := hs x (by simp)
    have hn' := List.nodup_cons.mp hn
    have h := len_sub (a := a) (b := b.erase x) hn'.2 fun y hy => by
      have hy' := hs y (List.mem_cons_of_mem _ hy)
      have ne : y ≠ x := fun e => hn'.1 (e ▸ hy)
      exact (List.mem_erase_of_ne ne).mpr hy'
    rw [List.length_erase_of_mem hx] at h
    have : 0 < b.length := List.length_pos_of_mem hx
    simp only [List.length_cons]
    omega

/-! ### what stands behind some turns -/
structure Dn where
  h : Int × Int
  o : Nat
def cntD (l : List Dn) (t : Int) : Nat := (l.filter fun x => inH x.h t).length
structure InvG (m : Nat) (dn : List Dn) (free : List Int) (f : Int) : Prop where
  fl : free.length = m
  lo : ∀ x ∈ dn, x.o < m ∧ x.h.2 ≤ getI free x.o ∧ x.h.1 ≤ f ∧ 0 ≤ x.h.1
  pw : dn.Pairwise fun x y => x.o = y.o → x.h.2 ≤ y.h.1
  src : ∀ o, o < m → getI free o ≤ 0 ∨ ∃ x ∈ dn, x.o = o ∧ x.h.2 = getI free o
theorem getI_set {l : List Int} {o p : Nat} {v : Int} (h : o < l.length) : getI (l.set o v) p = if p = o then v else getI l p := by
  unfold getI
  rw [List.getD_eq_getElem?_getD, List.getD_eq_getElem?_getD]
  by_cases c : p = o
  · subst c; rw [if_pos rfl, List.getElem?_set_self h]; rfl
  · rw [if_neg c, List.getElem?_set_ne (fun e => c e.symm)]
theorem mem_opens {m o : Nat} {free : List Int} {f : Int} : o ∈ opens m free f ↔ o < m ∧ getI free o ≤ f := by
  unfold opens
  rw [List.mem_filter, List.mem_range]
  simp
theorem invG_turn {m : Nat} {dn : List Dn} {free : List Int} {f : Int} {h : Int × Int} {o : Nat} (g : InvG m dn free f) (hf : f ≤ h.1) (h0 : 0 ≤ h.1) (hh : h.1 < h.2) (ho : o ∈ opens m free h.1) : InvG m (dn ++ [⟨h, o⟩]) (free.set o h.2) h.1 := by
  obtain ⟨o1, o2⟩ := mem_opens.mp ho
  have ol : o < free.length := by rw [g.fl]; exact o1
  refine ⟨by rw [List.length_set]; exact g.fl, fun x hx => ?_, ?_, fun p hp => ?_⟩
  · rw [getI_set ol]
    rcases List.mem_append.mp hx with hx | hx
    · obtain ⟨a, b, c, d⟩ := g.lo x hx
      refine ⟨a, ?_, by omega, d⟩
      by_cases e : x.o = o
      · rw [if_pos e]
        rw [e] at b
        omega
      · rw [if_neg e]; exact b
    · have e : x = ⟨h, o⟩ := by simpa using hx
      subst e
      exact ⟨o1, by rw [if_pos rfl]; exact Int.le_refl _, Int.le_refl _, h0⟩
  · rw [List.pairwise_append]
    refine ⟨g.pw, List.pairwise_singleton _ _, fun x hx y hy e => ?_⟩
    have ey : y = ⟨h, o⟩ := by simpa using hy
    subst ey
    obtain ⟨a, b, c, d⟩ := g.lo x hx
    have e' : x.o = o := e
    rw [e'] at b
    show x.h.2 ≤ h.1
    omega
  · rw [getI_set ol]
    by_cases e : p = o
    · rw [if_pos e]
      exact .inr ⟨⟨h, o⟩, by simp, e.symm, rfl⟩
    · rw [if_neg e]
      rcases g.src p hp with s | ⟨x, hx, h1, h2⟩
      · exact .inl s
      · exact .inr ⟨x, List.mem_append_left _ hx, h1, h2⟩
theorem nodup_tuners {l : List Dn} {t : Int} (pw : l.Pairwise fun x y => x.o = y.o → x.h.2 ≤ y.h.1) : ((l.filter fun x => inH x.h t).map Dn.o).Nodup := by
  have p2 := pw.filter (fun x => inH x.h t)
  rw [List.Nodup, List.pairwise_map]
  refine List.Pairwise.imp_of_mem (fun {x y} hx hy h e => ?_) p2
  have h1 := (List.mem_filter.mp hx).2
  have h2 := (List.mem_filter.mp hy).2
  unfold inH at h1 h2
  simp only [decide_eq_true_eq] at h1 h2
  have := h e
  omega
theorem cnt_le {m : Nat} {dn : List Dn} {free : List Int} {f t : Int} (g : InvG m dn free f) : cntD dn t ≤ m := by
  have nd := nodup_tuners (t := t) g.pw
  have h := len_sub nd (b := List.range m) fun o ho => by
    obtain ⟨x, hx, rfl⟩ := List.mem_map.mp ho
    exact List.mem_range.mpr (g.lo x (List.mem_filter.mp hx).1).1
  rw [List.length_map, List.length_range] at h
  exact h
theorem cnt_full {m : Nat} {dn : List Dn} {free : List Int} {f g' : Int} (g : InvG m dn free f) (hf : f ≤ g') (h0 : 0 ≤ g') (ho : opens m free g' = []) : m ≤ cntD dn g' := by
  have h := len_sub (a := List.range m) (b := (dn.filter fun x => inH x.h g').map Dn.o) List.nodup_range fun o ho' => by
    have om := List.mem_range.mp ho'
    have no : ¬ getI free o ≤ g' := fun z => by
      have : o ∈ opens m free g' := mem_opens.mpr ⟨om, z⟩
      rw [ho] at this
      cases this
    rcases g.src o om with s | ⟨x, hx, h1, h2⟩
    · omega
    · obtain ⟨a, b, c, d⟩ := g.lo x hx
      refine List.mem_map.mpr ⟨x, List.mem_filter.mpr ⟨hx, ?_⟩, h1⟩
      unfold inH
      simp only [decide_eq_true_eq]
      omega
  rw [List.length_range, List.length_map] at h
  exact h

/-! ### the whole go -/
def dnOf (x : Ln) (o : Nat) : Dn := ⟨x.1, o⟩
/-- the tuners are found, or a moment that is too full -/
theorem laidGo_none {m : Nat} : ∀ (l : List Ln) (dn : List Dn) (free found : List Int) (f : Int), InvG m dn free f → (∀ x ∈ l, f ≤ x.1.1 ∧ 0 ≤ x.1.1 ∧ x.1.1 < x.1.2) → (l.Pairwise fun a b => a.1.1 ≤ b.1.1) →
    match (laidGo m l free found).2 with
    | none => ∀ t, cntD dn t + cntL l t ≤ m
    | some g => m < cntD dn g + cntL l g ∧ ∃ x ∈ l, g = x.1.1
  | [], dn, free, found, f, g, _, _ => fun t => by
    have := cnt_le (t := t) g
    show cntD dn t + cntL [] t ≤ m
    unfold cntL
    simpa using this
  | x :: r, dn, free, found, f, g, hx, pw => by
    have px := List.pairwise_cons.mp pw
    obtain ⟨x1, x2, x3⟩ := hx x (by simp)
    unfold laidGo
    cases ho : opens m free x.1.1 with
    | nil =>
      have h := cnt_full g x1 x2 ho
      refine ⟨?_, x, by simp, rfl⟩
      have : inH x.1 x.1.1 = true := by unfold inH; simp only [decide_eq_true_eq]; omega
      unfold cntL
      rw [List.filter_cons_of_pos (p := fun y : Ln => inH y.1 x.1.1) this, List.length_cons]
      omega
    | cons o os =>
      have hm : o ∈ opens m free x.1.1 := by rw [ho]; simp
      have g' := invG_turn g x1 x2 x3 hm
      have ih := laidGo_none r (dn ++ [⟨x.1, o⟩]) (free.set o x.1.2) (found.set x.2.toNat (o : Int)) x.1.1 g' (fun y hy => ⟨px.1 y hy, (hx y (List.mem_cons_of_mem _ hy)).2⟩) px.2
      have ct : ∀ t, cntD (dn ++ [⟨x.1, o⟩]) t + cntL r t = cntD dn t + cntL (x :: r) t := fun t => by
        unfold cntD cntL
        rw [List.filter_append, List.length_append]
        by_cases c : inH x.1 t = true
        · rw [List.filter_cons_of_pos (p := fun x : Dn => inH x.h t) (a := ⟨x.1, o⟩) c, List.filter_cons_of_pos (p := fun x : Ln => inH x.1 t) c]
          simp only [List.filter_nil, List.length_cons, List.length_nil]
          omega
        · rw [List.filter_cons_of_neg (p := fun x : Dn => inH x.h t) (a := ⟨x.1, o⟩) c, List.filter_cons_of_neg (p := fun x : Ln => inH x.1 t) c]
          simp only [List.filter_nil, List.length_nil]
          omega
      dsimp only
      cases hq : (laidGo m r (free.set o x.1.2) (found.set x.2.toNat (o : Int))).2 with
      | none =>
        rw [hq] at ih
        intro t
        have := ih t
        rw [ct] at this
        exact this
      | some q =>
        rw [hq] at ih
        obtain ⟨a, y, hy, e⟩ := ih
        rw [ct] at a
        exact ⟨a, y, List.mem_cons_of_mem _ hy, e⟩

/-! ### sorted -/
theorem leL_trans (a b c : Ln) (h1 : leL a b = true) (h2 : leL b c = true) : leL a c = true := by
  obtain ⟨⟨a1, a2⟩, a3⟩ := a
  obtain ⟨⟨b1, b2⟩, b3⟩ := b
  obtain ⟨⟨c1, c2⟩, c3⟩ := c
  unfold leL at *
  dsimp only at *
  repeat' split at h1
  all_goals repeat' split at h2
  all_goals repeat' split
  all_goals simp only [decide_eq_true_eq] at *
  all_goals omega
theorem leL_total (a b : Ln) : (leL a b || leL b a) = true := by
  obtain ⟨⟨a1, a2⟩, a3⟩ := a
  obtain ⟨⟨b1, b2⟩, b3⟩ := b
  unfold leL
  dsimp only
  rw [Bool.or_eq_true]
  repeat' split
  all_goals simp only [decide_eq_true_eq]
  all_goals omega
theorem leL_fst {a b : Ln} (h : leL a b = true) : a.1.1 ≤ b.1.1 := by
  unfold leL at h
  repeat' split at h
  all_goals simp only [decide_eq_true_eq] at h
  all_goals omega
theorem sorted_line (l : List Ln) : (l.mergeSort leL).Pairwise fun a b => a.1.1 ≤ b.1.1 :=
  (List.pairwise_mergeSort leL_trans leL_total l).imp leL_fst
theorem inv0 (m : Nat) : InvG m [] (List.replicate m 0) 0 := by
  refine ⟨by simp, (fun x hx => by cases hx), List.Pairwise.nil, fun o ho => .inl ?_⟩
  unfold getI
  rw [List.getD_eq_getElem?_getD, List.getElem?_replicate, if_pos ho]
  exact Int.le_refl _
theorem line_mem {e : Int × Int} {day : List Show} {ps : List Int} {x : Ln} (h : x ∈ lineOf e day ps) : ∃ p ∈ ps, x.1 = held e (shAt day p) := by
  unfold lineOf at h
  obtain ⟨i, hi, e⟩ := List.mem_mapIdx.mp h
  exact ⟨ps[i], List.getElem_mem hi, by rw [← e]⟩
theorem cnt_line (e : Int × Int) (day : List Show) (t : Int) (ps : List Int) : cntL (lineOf e day ps) t = cnt e day ps t := by
  unfold cntL cnt lineOf
  suffices h : ∀ (f : Nat → Int → Ln), (∀ i p, (f i p).1 = held e (shAt day p)) → ((ps.mapIdx f).filter fun x => inH x.1 t).length = (ps.filter fun p => inH (held e (shAt day p)) t).length from h _ fun _ _ => rfl
  induction ps with
  | nil => intro f _; simp
  | cons p ps ih =>
    intro f hf
    rw [List.mapIdx_cons]
    have ih' := ih (fun i => f (i + 1)) fun i p => hf (i + 1) p
    by_cases c : inH (held e (shAt day p)) t = true
    · rw [List.filter_cons_of_pos (p := fun x : Ln => inH x.1 t) (by rw [hf]; exact c), List.filter_cons_of_pos (p := fun p => inH (held e (shAt day p)) t) c, List.length_cons, List.length_cons, ih']
    · rw [List.filter_cons_of_neg (p := fun x : Ln => inH x.1 t) (by rw [hf]; exact c), List.filter_cons_of_neg (p := fun p => inH (held e (shAt day p)) t) c, ih']
theorem cntL_perm {a b : List Ln} (h : a.Perm b) (t : Int) : cntL a t = cntL b t := (h.filter _).length_eq
theorem shAt_mem {day : List Show} {p : Int} (h0 : 0 ≤ p) (h1 : p < day.length) : shAt day p ∈ day := by
  unfold shAt
  have hl : p.toNat < day.length := by omega
  rw [List.getD_eq_getElem?_getD, List.getElem?_eq_getElem hl]
  exact List.getElem_mem hl
theorem held_ok {e : Int × Int} {s : Show} (he : okE e) (hs : okS s) : 0 ≤ (held e s).1 ∧ (held e s).1 < (held e s).2 ∧ (held e s).1 < 24 ∧ (held e s).2 ≤ 24 := by
  obtain ⟨a, b, c, d⟩ := he
  obtain ⟨f, g, h, i, j⟩ := hs
  unfold held
  dsimp only
  omega
theorem laid_spec {m : Nat} {e : Int × Int} {day : List Show} {ps : List Int} (he : okE e) (hd : ∀ s ∈ day, okS s) (hp : okP day.length ps) :
    match (laidOf m e day ps).2 with
    | none => ∀ t, cnt e day ps t ≤ m
    | some g => m < cnt e day ps g ∧ 0 ≤ g ∧ g < 24 := by
  have pm : ((lineOf e day ps).mergeSort leL).Perm (lineOf e day ps) := List.mergeSort_perm _ _
  have ok : ∀ x ∈ (lineOf e day ps).mergeSort leL, 0 ≤ x.1.1 ∧ x.1.1 < x.1.2 ∧ x.1.1 < 24 := fun x hx => by
    obtain ⟨p, hp', ex⟩ := line_mem (pm.mem_iff.mp hx)
    obtain ⟨p0, p1⟩ := hp p hp'
    obtain ⟨a, b, c, d⟩ := held_ok he (hd _ (shAt_mem p0 p1))
    rw [ex]
    exact ⟨a, b, c⟩
  have h := laidGo_none (m := m) ((lineOf e day ps).mergeSort leL) [] (List.replicate m 0) (List.replicate ps.length 0) 0 (inv0 m) (fun x hx => ⟨(ok x hx).1, (ok x hx).1, (ok x hx).2.1⟩) (sorted_line _)
  unfold laidOf
  have c0 : ∀ t, cntD [] t = 0 := fun t => rfl
  cases hq : (laidGo m ((lineOf e day ps).mergeSort leL) (List.replicate m 0) (List.replicate ps.length 0)).2 with
  | none =>
    rw [hq] at h
    intro t
    have := h t
    rw [cntL_perm pm, cnt_line, c0] at this
    omega
  | some g =>
    rw [hq] at h
    obtain ⟨a, x, hx, rfl⟩ := h
    rw [cntL_perm pm, cnt_line, c0] at a
    exact ⟨by omega, (ok x hx).1, (ok x hx).2.2⟩
theorem laid_none {m : Nat} {e : Int × Int} {day : List Show} {ps : List Int} (he : okE e) (hd : ∀ s ∈ day, okS s) (hp : okP day.length ps) : (laidOf m e day ps).2 = none ↔ ∀ t, 0 ≤ t → t < 24 → cnt e day ps t ≤ m := by
  have h := laid_spec (m := m) he hd hp
  constructor
  · intro z
    rw [z] at h
    exact fun t _ _ => h t
  · intro z
    cases hq : (laidOf m e day ps).2 with
    | none => rfl
    | some g =>
      rw [hq] at h
      obtain ⟨a, b, c⟩ := h
      have := z g b c
      omega
end Pl

/-! plain: wishes by rank, moves -/
namespace Pl
def insU (x : Int) : List Int → List Int
  | [] => [x]
  | y :: ys => if x < y then x :: y :: ys else if x = y then y :: ys else y :: insU x ys
def sset (ns : List Int) : List Int := ns.foldr insU []
theorem mem_insU {x k : Int} : ∀ {l : List Int}, k ∈ insU x l ↔ k = x ∨ k ∈ l
  | [] => by simp [insU]
  | y :: ys => by
    unfold insU
    by_cases c : x < y
    · rw [if_pos c]; simp
    · rw [if_neg c]
      by_cases c2 : x = y
      · rw [if_pos c2]
        subst c2
        simp
      · rw [if_neg c2, List.mem_cons, mem_insU, List.mem_cons]
        constructor
        · rintro (h | h | h)
          · exact .inr (.inl h)
          · exact .inl h
          · exact .inr (.inr h)
        · rintro (h | h | h)
          · exact .inr (.inl h)
          · exact .inl h
          · exact .inr (.inr h)
theorem pw_insU {x : Int} : ∀ {l : List Int}, l.Pairwise (· < ·) → (insU x l).Pairwise (· < ·)
  | [], _ => by simp [insU]
  | y :: ys, h => by
    have hp := List.pairwise_cons.mp h
    unfold insU
    by_cases c : x < y
    · rw [if_pos c, List.pairwise_cons]
      refine ⟨fun z hz => ?_, h⟩
      rcases List.mem_cons.mp hz with rfl | hz
      · exact c
      · have := hp.1 z hz
        omega
    · rw [if_neg c]
      by_cases c2 : x = y
      · rw [if_pos c2]; exact h
      · rw [if_neg c2, List.pairwise_cons]
        refine ⟨fun z hz => ?_, pw_insU hp.2⟩
        rcases mem_insU.mp hz with rfl | hz
        · omega
        · exact hp.1 z hz
theorem sset_mem {ns : List Int} {k : Int} : k ∈ sset ns ↔ k ∈ ns := by
  unfold sset
  induction ns with
  | nil => simp
  | cons a l ih => rw [List.foldr_cons, mem_insU, ih, List.mem_cons]
theorem sset_pw (ns : List Int) : (sset ns).Pairwise (· < ·) := by
  unfold sset
  induction ns with
  | nil => exact List.Pairwise.nil
  | cons a l ih => rw [List.foldr_cons]; exact pw_insU ih
/-- rising places -/
def okR (n : Nat) (ps : List Int) : Prop := okP n ps ∧ ps.Pairwise (· < ·)
theorem okR_len {n : Nat} {ps : List Int} (h : okR n ps) : ps.length ≤ n := by
  have nd : ps.Nodup := h.2.imp fun hlt e => by rw [e] at hlt; exact Int.lt_irrefl _ hlt
  have := len_sub (b := (List.range n).map fun (i : Nat) => (i : Int)) nd fun p hp => by
    obtain ⟨a, b⟩ := h.1 p hp
    exact List.mem_map.mpr ⟨p.toNat, List.mem_range.mpr (by omega), by omega⟩
  rwa [List.length_map, List.length_range] at this
theorem okR_sset {n : Nat} {a b : List Int} (ha : okP n a) (hb : okP n b) : okR n (sset (a ++ b)) := ⟨fun p hp => by
  rcases List.mem_append.mp (sset_mem.mp hp) with h | h
  · exact ha p h
  · exact hb p h, sset_pw _⟩
def fits (m : Nat) (e : Int × Int) (day : List Show) (ps : List Int) : Bool := (laidOf m e day ps).2.isNone
def keptGo (m : Nat) (e : Int × Int) (day : List Show) : List (List Int) → List Int → List Bool
  | [], _ => []
  | r :: rs, sm => fits m e day (sset (sm ++ r)) :: keptGo m e day rs (if fits m e day (sset (sm ++ r)) = true then sset (sm ++ r) else sm)
def keptOf (m : Nat) (e : Int × Int) (day : List Show) (rows : List (List Int)) : List Bool := keptGo m e day rows []
def mvS (s : Show) (by_ : Int) : Show := (s.1 + by_, s.2.1 + by_, s.2.2)
def movedOf (day : List Show) (p by_ : Int) : List Show := day.set p.toNat (mvS (shAt day p) by_)
/-- the wishes that change: place, and what is so then -/
def changeOf (before after : List Bool) : List (Int × Bool) := (after.zipIdx.filter fun x => !decide (x.1 = before.getD x.2 false)).map fun x => ((x.2 : Int), x.1)
/-! the law's own -/
def moms (e : Int × Int) (s : Show) : List Int := ((List.range 24).map fun (i : Nat) => (i : Int)).filter fun t => decide (s.1 - e.1 ≤ t ∧ t < s.2.1 + e.2)
def cntI (e : Int × Int) (day : List Show) (ps : List Int) (t : Int) : Int := ((ps.filter fun p => decide ((shAt day p).1 - e.1 ≤ t ∧ t < (shAt day p).2.1 + e.2)).length : Int)
def full (m : Int) (e : Int × Int) (day : List Show) (ps : List Int) : List Int := ((List.range 24).map fun (i : Nat) => (i : Int)).filter fun t => decide (m < cntI e day ps t)
def lkGo (m : Int) (e : Int × Int) (day : List Show) : List (List Int) → List Int → List Bool
  | [], _ => []
  | r :: rs, sm => decide (full m e day (sm ++ r.filter fun p => !sm.contains p) = []) :: lkGo m e day rs (if full m e day (sm ++ r.filter fun p => !sm.contains p) = [] then sm ++ r.filter fun p => !sm.contains p else sm)
def lkept (m : Int) (e : Int × Int) (day : List Show) (rows : List (List Int)) : List Bool := lkGo m e day rows []
theorem cntI_eq {e : Int × Int} {day : List Show} {ps : List Int} {t : Int} (h0 : 0 ≤ t) (h1 : t < 24) : cntI e day ps t = (cnt e day ps t : Int) := by
  unfold cntI cnt
  congr 1
  congr 1
  refine List.filter_congr fun p _ => ?_
  unfold inH held
  rw [Bool.eq_iff_iff]
  simp only [decide_eq_true_eq]
  omega
theorem full_nil {m : Nat} {e : Int × Int} {day : List Show} {ps : List Int} : full (m : Int) e day ps = [] ↔ ∀ t, 0 ≤ t → t < 24 → cnt e day ps t ≤ m := by
  unfold full
  rw [List.filter_eq_nil_iff]
  constructor
  · intro h t h0 h1
    have := h t (List.mem_map.mpr ⟨t.toNat, List.mem_range.mpr (by omega), by omega⟩)
    simp only [decide_eq_true_eq, cntI_eq h0 h1] at this
    omega
  · intro h t ht
    obtain ⟨i, hi, rfl⟩ := List.mem_map.mp ht
    have hi := List.mem_range.mp hi
    have := h (i : Int) (by omega) (by omega)
    simp only [decide_eq_true_eq, cntI_eq (show (0 : Int) ≤ i by omega) (show (i : Int) < 24 by omega)]
    omega
theorem fits_iff {m : Nat} {e : Int × Int} {day : List Show} {ps : List Int} (he : okE e) (hd : ∀ s ∈ day, okS s) (hp : okP day.length ps) : fits m e day ps = true ↔ full (m : Int) e day ps = [] := by
  rw [full_nil, ← laid_none he hd hp]
  unfold fits
  rw [Option.isNone_iff_eq_none]
theorem cnt_perm {e : Int × Int} {day : List Show} {a b : List Int} (h : a.Perm b) (t : Int) : cnt e day a t = cnt e day b t := (h.filter _).length_eq
theorem full_perm {m : Nat} {e : Int × Int} {day : List Show} {a b : List Int} (h : a.Perm b) : full (m : Int) e day a = [] ↔ full (m : Int) e day b = [] := by
  rw [full_nil, full_nil]
  constructor
  · intro z t h0 h1; rw [← cnt_perm h]; exact z t h0 h1
  · intro z t h0 h1; rw [cnt_perm h]; exact z t h0 h1
theorem nodup_rising {l : List Int} (h : l.Pairwise (· < ·)) : l.Nodup := h.imp fun hlt e => by rw [e] at hlt; exact Int.lt_irrefl _ hlt
theorem perm_of_mem {a b : List Int} (ha : a.Nodup) (hb : b.Nodup) (h : ∀ k, k ∈ a ↔ k ∈ b) : a.Perm b := (List.perm_ext_iff_of_nodup ha hb).mpr h
theorem more_nodup {sm r : List Int} (h1 : sm.Nodup) (h2 : r.Nodup) : (sm ++ r.filter fun p => !sm.contains p).Nodup := by
  rw [List.nodup_append]
  refine ⟨h1, h2.filter _, fun a ha b hb e => ?_⟩
  subst e
  have := (List.mem_filter.mp hb).2
  simp at this
  exact this ha
theorem more_mem {sm r : List Int} {k : Int} : k ∈ (sm ++ r.filter fun p => !sm.contains p) ↔ k ∈ sm ++ r := by
  rw [List.mem_append, List.mem_append, List.mem_filter]
  simp
  constructor
  · rintro (h | ⟨h, _⟩)
    · exact .inl h
    · exact .inr h
  · rintro (h | h)
    · exact .inl h
    · by_cases c : k ∈ sm
      · exact .inl c
      · exact .inr ⟨h, c⟩
theorem kept_go {m : Nat} {e : Int × Int} {day : List Show} (he : okE e) (hd : ∀ s ∈ day, okS s) : ∀ (rows : List (List Int)) (sm sm' : List Int), (∀ r ∈ rows, okR day.length r) → okR day.length sm → sm'.Nodup → (∀ k, k ∈ sm ↔ k ∈ sm') →
    keptGo m e day rows sm = lkGo (m : Int) e day rows sm'
  | [], _, _, _, _, _, _ => rfl
  | r :: rs, sm, sm', hr, hs, hn, hm => by
    have hr0 := hr r (by simp)
    have ok := okR_sset hs.1 hr0.1
    have nd : (sm' ++ r.filter fun p => !sm'.contains p).Nodup := more_nodup hn (nodup_rising hr0.2)
    have mem : ∀ k, k ∈ sset (sm ++ r) ↔ k ∈ (sm' ++ r.filter fun p => !sm'.contains p) := fun k => by
      rw [sset_mem, more_mem, List.mem_append, List.mem_append, hm k]
    have pm := perm_of_mem (nodup_rising ok.2) nd mem
    have ft : fits m e day (sset (sm ++ r)) = true ↔ full (m : Int) e day (sm' ++ r.filter fun p => !sm'.contains p) = [] := (fits_iff he hd ok.1).trans (full_perm pm)
    unfold keptGo lkGo
    by_cases c : full (m : Int) e day (sm' ++ r.filter fun p => !sm'.contains p) = []
    · rw [ft.mpr c, decide_eq_true c, if_pos rfl, if_pos c]
      rw [kept_go he hd rs _ _ (fun q hq => hr q (List.mem_cons_of_mem _ hq)) ok nd mem]
    · have : fits m e day (sset (sm ++ r)) = false := by
        cases q : fits m e day (sset (sm ++ r)) with
        | true => exact absurd (ft.mp q) c
        | false => rfl
      rw [this, decide_eq_false c, if_neg Bool.false_ne_true, if_neg c]
      rw [kept_go he hd rs _ _ (fun q hq => hr q (List.mem_cons_of_mem _ hq)) hs hn hm]
theorem kept_eq {m : Nat} {e : Int × Int} {day : List Show} {rows : List (List Int)} (he : okE e) (hd : ∀ s ∈ day, okS s) (hr : ∀ r ∈ rows, okR day.length r) : keptOf m e day rows = lkept (m : Int) e day rows :=
  kept_go he hd rows [] [] hr ⟨fun p hp => (by cases hp), List.Pairwise.nil⟩ List.nodup_nil fun _ => Iff.rfl
theorem keptGo_len {m : Nat} {e : Int × Int} {day : List Show} : ∀ (rows : List (List Int)) (sm : List Int), (keptGo m e day rows sm).length = rows.length
  | [], _ => rfl
  | r :: rs, sm => by unfold keptGo; rw [List.length_cons, keptGo_len rs, List.length_cons]
theorem keptGo_take {m : Nat} {e : Int × Int} {day : List Show} : ∀ (n : Nat) (rows : List (List Int)) (sm : List Int), keptGo m e day (rows.take n) sm = (keptGo m e day rows sm).take n
  | 0, _, _ => by simp [keptGo]
  | n + 1, [], _ => by simp [keptGo]
  | n + 1, r :: rs, sm => by
    rw [List.take_succ_cons]
    unfold keptGo
    rw [keptGo_take n rs, List.take_succ_cons]
theorem okS_mv {s : Show} {b : Int} (h : okS s) (h0 : 0 ≤ s.1 + b) (h1 : s.2.1 + b ≤ 24) : okS (mvS s b) := by
  obtain ⟨a, c, d, f, g⟩ := h
  unfold okS mvS
  dsimp only
  omega
theorem ok_moved {day : List Show} {p b : Int} (h : ∀ s ∈ day, okS s) (h0 : 0 ≤ (shAt day p).1 + b) (h1 : (shAt day p).2.1 + b ≤ 24) (hp0 : 0 ≤ p) (hp1 : p < day.length) : ∀ s ∈ movedOf day p b, okS s := fun s hs => by
  unfold movedOf at hs
  rcases List.mem_or_eq_of_mem_set hs with hs | rfl
  · exact h s hs
  · exact okS_mv (h _ (shAt_mem hp0 hp1)) h0 h1
theorem len_moved (day : List Show) (p b : Int) : (movedOf day p b).length = day.length := List.length_set
end Pl

/-! plain: the law's counting -/
namespace Pl
def bump (c : List Int) (l : List Int) : List Int := l.foldl (fun c t => c.set t.toNat (getI c t.toNat + 1)) c
def cts (e : Int × Int) (day : List Show) (ps : List Int) : List Int := (List.range 24).map fun (t : Nat) => cntI e day ps (t : Int)
theorem bump_cons (c : List Int) (t : Int) (l : List Int) : bump c (t :: l) = bump (c.set t.toNat (getI c t.toNat + 1)) l := rfl
theorem bump_len : ∀ (l c : List Int), (bump c l).length = c.length
  | [], _ => rfl
  | t :: l, c => by rw [bump_cons, bump_len l, List.length_set]
theorem bump_get : ∀ (l c : List Int) (k : Nat), (∀ t ∈ l, 0 ≤ t ∧ t < c.length) → getI (bump c l) k = getI c k + (l.filter fun t => decide (t = (k : Int))).length
  | [], c, k, _ => by simp [bump]
  | t :: l, c, k, h => by
    obtain ⟨t0, t1⟩ := h t (by simp)
    rw [bump_cons, bump_get l _ k fun s hs => by rw [List.length_set]; exact h s (List.mem_cons_of_mem _ hs), getI_set (by omega)]
    by_cases c1 : t = (k : Int)
    · have : k = t.toNat := by omega
      rw [if_pos this, List.filter_cons_of_pos (by simpa using c1), List.length_cons, this]
      omega
    · have : ¬ k = t.toNat := by omega
      rw [if_neg this, List.filter_cons_of_neg (by simpa using c1)]
theorem moms_mem {e : Int × Int} {s : Show} {t : Int} : t ∈ moms e s ↔ (0 ≤ t ∧ t < 24) ∧ s.1 - e.1 ≤ t ∧ t < s.2.1 + e.2 := by
  unfold moms
  rw [List.mem_filter, List.mem_map, decide_eq_true_eq]
  constructor
  · rintro ⟨⟨i, hi, rfl⟩, h⟩
    have := List.mem_range.mp hi
    exact ⟨by omega, h⟩
  · rintro ⟨⟨h0, h1⟩, h⟩
    exact ⟨⟨t.toNat, List.mem_range.mpr (by omega), by omega⟩, h⟩
theorem rng24_nodup : ((List.range 24).map fun (i : Nat) => (i : Int)).Nodup := by decide
theorem moms_nodup (e : Int × Int) (s : Show) : (moms e s).Nodup := rng24_nodup.filter _
theorem count_one {l : List Int} (h : l.Nodup) (k : Int) : (l.filter fun t => decide (t = k)).length = if k ∈ l then 1 else 0 := by
  induction l with
  | nil => simp
  | cons a l ih =>
    have hn := List.nodup_cons.mp h
    have ih := ih hn.2
    by_cases c : a = k
    · subst c
      rw [List.filter_cons_of_pos (by simp), List.length_cons, ih, if_neg hn.1, if_pos (by simp)]
    · rw [List.filter_cons_of_neg (by simpa using c), ih]
      have : k ∈ a :: l ↔ k ∈ l := by rw [List.mem_cons]; exact ⟨fun z => z.resolve_left fun q => c q.symm, .inr⟩
      simp only [this]
theorem cts_len (e : Int × Int) (day : List Show) (ps : List Int) : (cts e day ps).length = 24 := by simp [cts]
theorem cts_get {e : Int × Int} {day : List Show} {ps : List Int} {k : Nat} (h : k < 24) : getI (cts e day ps) k = cntI e day ps (k : Int) := by
  unfold getI cts
  rw [List.getD_eq_getElem?_getD, List.getElem?_map, List.getElem?_range h]
  rfl
theorem cntI_snoc (e : Int × Int) (day : List Show) (ps : List Int) (p t : Int) : cntI e day (ps ++ [p]) t = cntI e day ps t + if (shAt day p).1 - e.1 ≤ t ∧ t < (shAt day p).2.1 + e.2 then 1 else 0 := by
  unfold cntI
  rw [List.filter_append, List.length_append]
  by_cases c : (shAt day p).1 - e.1 ≤ t ∧ t < (shAt day p).2.1 + e.2
  · rw [List.filter_cons_of_pos (by simpa using c), if_pos c]
    simp
  · rw [List.filter_cons_of_neg (by simpa using c), if_neg c]
    simp
theorem ext_getI {a b : List Int} (hl : a.length = b.length) (h : ∀ k, k < a.length → getI a k = getI b k) : a = b := by
  apply List.ext_getElem hl
  intro k h1 h2
  have := h k h1
  unfold getI at this
  rw [List.getD_eq_getElem?_getD, List.getD_eq_getElem?_getD, List.getElem?_eq_getElem h1, List.getElem?_eq_getElem h2] at this
  exact this
theorem bump_cts (e : Int × Int) (day : List Show) (ps : List Int) (p : Int) : bump (cts e day ps) (moms e (shAt day p)) = cts e day (ps ++ [p]) := by
  apply ext_getI
  · rw [bump_len, cts_len, cts_len]
  · intro k hk
    rw [bump_len, cts_len] at hk
    rw [bump_get _ _ _ fun t ht => by rw [cts_len]; exact (moms_mem.mp ht).1, cts_get hk, cts_get hk, cntI_snoc, count_one (moms_nodup e _)]
    have : (k : Int) ∈ moms e (shAt day p) ↔ (shAt day p).1 - e.1 ≤ k ∧ (k : Int) < (shAt day p).2.1 + e.2 := by
      rw [moms_mem]
      constructor
      · exact fun h => h.2
      · exact fun h => ⟨by omega, h⟩
    by_cases c : (shAt day p).1 - e.1 ≤ k ∧ (k : Int) < (shAt day p).2.1 + e.2
    · rw [if_pos (this.mpr c), if_pos c]; rfl
    · rw [if_neg (fun z => c (this.mp z)), if_neg c]; rfl
theorem cts_nil (e : Int × Int) (day : List Show) : cts e day [] = List.replicate 24 0 := rfl
theorem full_eq (m : Int) (e : Int × Int) (day : List Show) (ps : List Int) : full m e day ps = ((List.range 24).filter fun (t : Nat) => decide (m < getI (cts e day ps) t)).map fun (t : Nat) => (t : Int) := by
  unfold full
  rw [List.filter_map]
  refine congrArg _ ?_
  refine List.filter_congr fun t ht => ?_
  have := List.mem_range.mp ht
  show decide (m < cntI e day ps (t : Int)) = _
  rw [cts_get this]
theorem set_eq_map {day : List Show} {p : Int} {v : Show} (h0 : 0 ≤ p) (h1 : p < day.length) : (day.zipIdx.map fun x => if ((x.2 : Nat) : Int) = p then v else x.1) = day.set p.toNat v := by
  apply List.ext_getElem?
  intro i
  rw [List.getElem?_map, List.getElem?_zipIdx]
  by_cases c : p.toNat = i
  · subst c
    have hl : p.toNat < day.length := by omega
    rw [List.getElem?_set_self hl, List.getElem?_eq_getElem hl]
    simp
    omega
  · rw [List.getElem?_set_ne c]
    cases q : day[i]? with
    | none => rfl
    | some x =>
      have : ¬ ((i : Nat) : Int) = p := by omega
      simp [this]
end Pl

/-! data and the mirror -/
namespace Mir
open PySem L2 Ab Pl
def dP (e : Int × Int) : PyData := .tuple [.int e.1, .int e.2]
def dS (s : Show) : PyData := .tuple [.int s.1, .int s.2.1, .int s.2.2]
def dI (ns : List Int) : PyData := .list (ns.map .int)
def dB (bs : List Bool) : PyData := .list (bs.map .bool)
def dDay (day : List Show) : PyData := .list (day.map dS)
def dII (rows : List (List Int)) : PyData := .list (rows.map dI)
def iAt (ns : List Int) (p : Int) : Int := ns.getD p.toNat 0
theorem atI_getD {α : Type} {xs : List α} {p : Int} {z : α} (h0 : 0 ≤ p) (h1 : p < xs.length) : atI xs p = some (xs.getD p.toNat z) := by
  have e : p = ((p.toNat : Nat) : Int) := by omega
  have hl : p.toNat < xs.length := by omega
  rw [e]
  refine atI_nat ?_
  rw [Int.toNat_natCast, List.getD_eq_getElem?_getD, List.getElem?_eq_getElem hl]
  rfl
theorem getD_map {α β : Type} (f : α → β) (xs : List α) (n : Nat) (z : α) : (xs.map f).getD n (f z) = f (xs.getD n z) := by
  rw [List.getD_eq_getElem?_getD, List.getD_eq_getElem?_getD, List.getElem?_map]
  cases xs[n]? <;> rfl
theorem atI_map {α β : Type} {f : α → β} {xs : List α} {p : Int} (z : α) (h0 : 0 ≤ p) (h1 : p < xs.length) : atI (xs.map f) p = some (f (xs.getD p.toNat z)) := by
  rw [atI_getD (z := f z) h0 (by rw [List.length_map]; exact h1), getD_map]
section
variable {K : PySem.W.Frag} {τ : Sls} {ta tb tc td te : TE}
theorem ed_p0 {e : Int × Int} (h : ED K ta τ (dP e)) : ED K (tOp (rIxA K) ta (tC (.int 0))) τ (.int e.1) := ed_ixT h ed_int rfl
theorem ed_p1 {e : Int × Int} (h : ED K ta τ (dP e)) : ED K (tOp (rIxA K) ta (tC (.int 1))) τ (.int e.2) := ed_ixT h ed_int rfl
theorem ed_s0 {s : Show} (h : ED K ta τ (dS s)) : ED K (tOp (rIxA K) ta (tC (.int 0))) τ (.int s.1) := ed_ixT h ed_int rfl
theorem ed_s1 {s : Show} (h : ED K ta τ (dS s)) : ED K (tOp (rIxA K) ta (tC (.int 1))) τ (.int s.2.1) := ed_ixT h ed_int rfl
theorem ed_s2 {s : Show} (h : ED K ta τ (dS s)) : ED K (tOp (rIxA K) ta (tC (.int 2))) τ (.int s.2.2) := ed_ixT h ed_int rfl
theorem ed_day {day : List Show} {p : Int} (h : ED K ta τ (dDay day)) (hp : ED K tb τ (.int p)) (h0 : 0 ≤ p) (h1 : p < day.length) : ED K (tOp (rIxA K) ta tb) τ (dS (shAt day p)) := ed_ixL h hp (atI_map (f := dS) (0, 0, 0) h0 h1)
theorem ed_iat {ns : List Int} {p : Int} (h : ED K ta τ (dI ns)) (hp : ED K tb τ (.int p)) (h0 : 0 ≤ p) (h1 : p < ns.length) : ED K (tOp (rIxA K) ta tb) τ (.int (iAt ns p)) := ed_ixL h hp (atI_map (f := PyData.int) 0 h0 h1)
theorem ed_lenI {ns : List Int} (h : ED K ta τ (dI ns)) : ED K (tCB (rLenA K) (tCons ta tNil)) τ (.int ns.length) := ed_is (ed_len h) (by rw [List.length_map])
theorem ed_lenDay {day : List Show} (h : ED K ta τ (dDay day)) : ED K (tCB (rLenA K) (tCons ta tNil)) τ (.int day.length) := ed_is (ed_len h) (by rw [List.length_map])
theorem ed_lenII {rows : List (List Int)} (h : ED K ta τ (dII rows)) : ED K (tCB (rLenA K) (tCons ta tNil)) τ (.int rows.length) := ed_is (ed_len h) (by rw [List.length_map])
theorem ed_lenB {bs : List Bool} (h : ED K ta τ (dB bs)) : ED K (tCB (rLenA K) (tCons ta tNil)) τ (.int bs.length) := ed_is (ed_len h) (by rw [List.length_map])
theorem ed_pair {i j : Int} (h : ED K ta τ (.int i)) (h' : ED K tb τ (.int j)) : ED K (tTup (tCons ta (tCons tb tNil))) τ (dP (i, j)) := ed_tup (ds := [.int i, .int j]) (ea2 h h') (by simp)
theorem ed_trip {i j k : Int} (h : ED K ta τ (.int i)) (h' : ED K tb τ (.int j)) (h'' : ED K tc τ (.int k)) : ED K (tTup (tCons ta (tCons tb (tCons tc tNil)))) τ (dS (i, j, k)) := ed_tup (ds := [.int i, .int j, .int k]) (ea_cons h (ea2 h' h'')) (by simp)
/-! targets of two and three names -/
theorem tg2 {i j : Nat} {d e : PyData} : TGD K (gTup K 2 (gCons (gName i) (gCons (gName j) gNil))) [i, j] (.tuple [d, e]) τ ((τ.set i (.dat d)).set j (.dat e)) := tg_tup (tgs_cons (tg_name i) (tgs_cons (tg_name j) tgs_nil)) rfl
theorem tg3 {i j l : Nat} {d e f : PyData} : TGD K (gTup K 3 (gCons (gName i) (gCons (gName j) (gCons (gName l) gNil)))) [i, j, l] (.tuple [d, e, f]) τ (((τ.set i (.dat d)).set j (.dat e)).set l (.dat f)) := tg_tup (tgs_cons (tg_name i) (tgs_cons (tg_name j) (tgs_cons (tg_name l) tgs_nil))) rfl
end
/-! whole numbers, shows, places of data -/
def isWh : PyData → Bool
  | .int _ => true
  | _ => false
def isShow : PyData → Bool
  | .tuple [.int a, .int b, .int c] => decide (0 ≤ a ∧ a < b ∧ b ≤ 24) && decide (0 ≤ c ∧ c ≤ 60)
  | _ => false
theorem kt {K : PySem.W.Frag} {a b : String} {r : Bool} (h : L2.kitB a b = some r) : PySem.W.kitOne K (.type a) (.type b) = some r := h
/-- isinstance of data, by its kind -/
def isN (a n : String) : Bool := a == n || (a == "bool" && n == "int")
def isA (d : PyData) (n : String) : Bool := isN (tyN d) n
theorem kit_names : ∀ a ∈ ["NoneType", "bool", "int", "str", "list", "tuple", "dict"], ∀ n ∈ ["int", "bool", "tuple", "list", "str"], L2.kitB a n = some (isN a n) := by decide +kernel
theorem tyN_mem (d : PyData) : tyN d ∈ ["NoneType", "bool", "int", "str", "list", "tuple", "dict"] := by cases d <;> simp [tyN]
theorem kit_all {K : PySem.W.Frag} (d : PyData) {n : String} (h : n ∈ ["int", "bool", "tuple", "list", "str"]) : PySem.W.kitOne K (.type (tyN d)) (.type n) = some (isA d n) := kt (kit_names _ (tyN_mem d) n h)
section
variable {K : PySem.W.Frag} {τ : Sls} {ta tb tc td te : TE} {d : PyData}
theorem ed_isInt (h : ED K ta τ d) : ED K (tCB (rIsi K) (tCons ta (tCons (tC (.ty "int")) tNil))) τ (.bool (isA d "int")) := ed_isi h (kit_all d (by decide))
theorem ed_isBool (h : ED K ta τ d) : ED K (tCB (rIsi K) (tCons ta (tCons (tC (.ty "bool")) tNil))) τ (.bool (isA d "bool")) := ed_isi h (kit_all d (by decide))
theorem ed_isTup (h : ED K ta τ d) : ED K (tCB (rIsi K) (tCons ta (tCons (tC (.ty "tuple")) tNil))) τ (.bool (isA d "tuple")) := ed_isi h (kit_all d (by decide))
theorem ed_isLst (h : ED K ta τ d) : ED K (tCB (rIsi K) (tCons ta (tCons (tC (.ty "list")) tNil))) τ (.bool (isA d "list")) := ed_isi h (kit_all d (by decide))
end
theorem isWh_eq (d : PyData) : (isA d "int" && !isA d "bool") = isWh d := by cases d <;> rfl

/-! == of data by their Lean values -/
structure Nice {α : Type} [DecidableEq α] (k : Nat) (f : α → PyData) : Prop where
  lay : ∀ a, PyData.canLay0 (f a) = true
  dp : ∀ a, PyData.depth (f a) ≤ k
  eq : ∀ a b, PyData.eqv (f a) (f b) = decide (a = b)
theorem nice_int : Nice 1 PyData.int := ⟨fun _ => rfl, fun _ => by simp [PyData.depth], fun a b => by
  show (a == b) = decide (a = b)
  rw [Bool.eq_iff_iff]; simp⟩
theorem nice_bool : Nice 1 PyData.bool := ⟨fun _ => rfl, fun _ => by simp [PyData.depth], fun a b => by cases a <;> cases b <;> rfl⟩
theorem canLayAll_map {α : Type} {f : α → PyData} (h : ∀ a, PyData.canLay0 (f a) = true) : ∀ xs : List α, PyData.canLayAll0 (xs.map f) = true
  | [] => rfl
  | x :: xs => by rw [List.map_cons, PyData.canLayAll0, h x, canLayAll_map h xs]; rfl
theorem depthAll_map {α : Type} {f : α → PyData} {k : Nat} (h : ∀ a, PyData.depth (f a) ≤ k) : ∀ xs : List α, PyData.depthAll (xs.map f) ≤ k
  | [] => by simp [PyData.depthAll]
  | x :: xs => by
    rw [List.map_cons, PyData.depthAll]
    exact Nat.max_le.mpr ⟨h x, depthAll_map h xs⟩
theorem eqvAll_map {α : Type} [DecidableEq α] {f : α → PyData} (h : ∀ a b, PyData.eqv (f a) (f b) = decide (a = b)) : ∀ xs ys : List α, PyData.eqvAll (xs.map f) (ys.map f) = decide (xs = ys)
  | [], [] => rfl
  | [], y :: ys => rfl
  | x :: xs, [] => rfl
  | x :: xs, y :: ys => by
    rw [List.map_cons, List.map_cons, PyData.eqvAll, h x y, eqvAll_map h xs ys, Bool.eq_iff_iff]
    simp
theorem nice_list {α : Type} [DecidableEq α] {f : α → PyData} {k : Nat} (h : Nice k f) : Nice (k + 1) fun xs : List α => .list (xs.map f) where
  lay := fun xs => by show PyData.canLayAll0 _ = true; exact canLayAll_map h.lay xs
  dp := fun xs => by
    rw [PyData.depth]
    have := depthAll_map h.dp xs
    omega
  eq := fun xs ys => by show PyData.eqvAll _ _ = _; exact eqvAll_map h.eq xs ys
theorem nice_dP : Nice 2 dP where
  lay := fun _ => rfl
  dp := fun a => by simp [dP, PyData.depth, PyData.depthAll]
  eq := fun a b => by
    show ((a.1 == b.1) && ((a.2 == b.2) && true)) = _
    rw [Bool.eq_iff_iff]
    simp [Prod.ext_iff]
theorem nice_dS : Nice 2 dS where
  lay := fun _ => rfl
  dp := fun a => by simp [dS, PyData.depth, PyData.depthAll]
  eq := fun a b => by
    show ((a.1 == b.1) && ((a.2.1 == b.2.1) && ((a.2.2 == b.2.2) && true))) = _
    rw [Bool.eq_iff_iff]
    simp [Prod.ext_iff]
theorem nice_dI : Nice 2 dI := nice_list nice_int
theorem nice_dB : Nice 2 dB := nice_list nice_bool
theorem nice_dDay : Nice 3 dDay := nice_list nice_dS
theorem nice_dII : Nice 3 dII := nice_list nice_dI
theorem Nice.sh {α : Type} [DecidableEq α] {f : α → PyData} {k : Nat} (h : Nice k f) (hk : k ≤ 60) (a : α) : SeqAt.shaped (f a) = true := by
  unfold SeqAt.shaped
  rw [h.lay a]
  have := h.dp a
  simp
  omega
section
variable {K : PySem.W.Frag} {τ : Sls} {ta tb tc td te : TE} {d : PyData} {α : Type} [DecidableEq α] {f : α → PyData} {k : Nat} {a b : α}
theorem ed_eqT (n : Nice k f) (h1 : ED K ta τ (f a)) (h2 : ED K tb τ (f b)) (hk : k ≤ 60 := by decide) : ED K (tOp (rEqD K) ta tb) τ (.bool (decide (a = b))) := ed_is (ed_eq h1 h2 (n.sh hk a) (n.sh hk b)) (by rw [n.eq])
theorem ed_neT (n : Nice k f) (h1 : ED K ta τ (f a)) (h2 : ED K tb τ (f b)) (hk : k ≤ 60 := by decide) : ED K (tOp (rNeD K) ta tb) τ (.bool (!decide (a = b))) := ed_is (ed_ne h1 h2 (n.sh hk a) (n.sh hk b)) (by rw [n.eq])
end

/-! looked at: shows, places -/
theorem all3 : ∀ {ds : List PyData}, ds.length = 3 → ds.all isWh = true → ∃ a b c, ds = [.int a, .int b, .int c]
  | [x, y, z], _, h => by
    simp only [List.all_cons, List.all_nil, Bool.and_true, Bool.and_eq_true] at h
    obtain ⟨h1, h2, h3⟩ := h
    cases x <;> simp only [isWh] at h1 <;> try cases h1
    cases y <;> simp only [isWh] at h2 <;> try cases h2
    cases z <;> simp only [isWh] at h3 <;> try cases h3
    exact ⟨_, _, _, rfl⟩
theorem isShow_no {ds : List PyData} (h : ¬ (ds.length = 3 ∧ ds.all isWh = true)) : isShow (.tuple ds) = false := by
  unfold isShow
  split
  · rename_i a b c e
    cases e
    exact absurd ⟨rfl, rfl⟩ h
  · rfl
theorem isShow_dS {s : Show} (h : okS s) : isShow (dS s) = true := by
  obtain ⟨a, b, c, d, e⟩ := h
  show (decide _ && decide _) = true
  rw [Bool.and_eq_true]
  simp only [decide_eq_true_eq]
  omega
def rising (ns : List Int) : Bool := (List.range (ns.length - 1)).all fun i => decide (iAt ns (1 + (i : Nat) - 1) < iAt ns (1 + (i : Nat)))
def toI : PyData → Int
  | .int k => k
  | _ => 0
def inPl (n : Nat) : PyData → Bool
  | .int k => decide (0 ≤ k ∧ k < n)
  | _ => false
def arePl (n : Nat) : PyData → Bool
  | .list ds => ds.all (inPl n) && rising (ds.map toI)
  | _ => false
theorem inPl_int {n : Nat} : ∀ {ds : List PyData}, ds.all (inPl n) = true → ds = (ds.map toI).map PyData.int
  | [], _ => rfl
  | x :: ds, h => by
    rw [List.all_cons, Bool.and_eq_true] at h
    rw [List.map_cons, List.map_cons, ← inPl_int h.2]
    cases x <;> simp only [inPl] at h <;> try exact absurd h.1 Bool.false_ne_true
    rfl
theorem iAt_cons {n : Int} {ns : List Int} {p : Int} (h : 1 ≤ p) : iAt (n :: ns) p = iAt ns (p - 1) := by
  unfold iAt
  have e : p.toNat = (p - 1).toNat + 1 := by omega
  rw [e]
  rfl
theorem rising_iff : ∀ ns : List Int, rising ns = true ↔ ns.Pairwise (· < ·)
  | [] => by simp [rising]
  | [a] => by simp [rising]
  | a :: b :: ns => by
    have ih := rising_iff (b :: ns)
    have e : rising (a :: b :: ns) = true ↔ a < b ∧ rising (b :: ns) = true := by
      unfold rising
      simp only [List.all_eq_true, List.mem_range, decide_eq_true_eq, List.length_cons]
      constructor
      · intro h
        refine ⟨?_, fun i hi => ?_⟩
        · have := h 0 (by omega)
          exact this
        · have := h (i + 1) (by omega)
          rw [iAt_cons (n := a) (p := 1 + ((i + 1 : Nat) : Int) - 1) (by omega), iAt_cons (n := a) (p := 1 + ((i + 1 : Nat) : Int)) (by omega)] at this
          have e1 : (1 + ((i + 1 : Nat) : Int) - 1 - 1) = 1 + (i : Nat) - 1 := by omega
          have e2 : (1 + ((i + 1 : Nat) : Int) - 1) = 1 + (i : Nat) := by omega
          rw [e1, e2] at this
          exact this
      · rintro ⟨h1, h2⟩ i hi
        cases i with
        | zero => exact h1
        | succ i =>
          have := h2 i (by omega)
          rw [iAt_cons (n := a) (p := 1 + ((i + 1 : Nat) : Int) - 1) (by omega), iAt_cons (n := a) (p := 1 + ((i + 1 : Nat) : Int)) (by omega)]
          have e1 : (1 + ((i + 1 : Nat) : Int) - 1 - 1) = 1 + (i : Nat) - 1 := by omega
          have e2 : (1 + ((i + 1 : Nat) : Int) - 1) = 1 + (i : Nat) := by omega
          rw [e1, e2]
          exact this
    rw [e, ih, List.pairwise_cons (a := a)]
    constructor
    · rintro ⟨h1, h2⟩
      refine ⟨fun x hx => ?_, h2⟩
      rcases List.mem_cons.mp hx with rfl | hx
      · exact h1
      · have := (List.pairwise_cons.mp h2).1 x hx
        omega
    · rintro ⟨h1, h2⟩
      exact ⟨h1 b (by simp), h2⟩
theorem all_inPl {n : Nat} : ∀ {ps : List Int}, okP n ps → (ps.map PyData.int).all (inPl n) = true
  | [], _ => rfl
  | p :: ps, h => by
    rw [List.map_cons, List.all_cons, all_inPl fun q hq => h q (List.mem_cons_of_mem _ hq), Bool.and_true]
    exact decide_eq_true (h p (by simp))
theorem toI_map (ps : List Int) : (ps.map PyData.int).map toI = ps := by
  rw [List.map_map]
  conv => rhs; rw [← List.map_id ps]
  rfl
theorem arePl_ok {n : Nat} {ps : List Int} (h : okR n ps) : arePl n (dI ps) = true := by
  show ((ps.map PyData.int).all (inPl n) && rising ((ps.map PyData.int).map toI)) = true
  rw [all_inPl h.1, toI_map, (rising_iff ps).mpr h.2]
  rfl
/-! enumerate by places -/
theorem enumD_map {α : Type} (f : α → PyData) (xs : List α) : enumD (xs.map f) = xs.zipIdx.map fun x => .tuple [.int (x.2 : Nat), f x.1] := by
  unfold enumD
  apply List.ext_getElem?
  intro i
  rw [List.getElem?_mapIdx, List.getElem?_map, List.getElem?_map, List.getElem?_zipIdx]
  cases xs[i]? <;> simp
theorem zipIdx_mem {α : Type} {xs : List α} {x : α × Nat} (h : x ∈ xs.zipIdx) : x.1 ∈ xs ∧ x.2 < xs.length ∧ xs[x.2]? = some x.1 := by
  obtain ⟨i, hi⟩ := List.getElem?_of_mem h
  rw [List.getElem?_zipIdx] at hi
  cases q : xs[i]? with
  | none => rw [q] at hi; simp at hi
  | some y =>
    rw [q] at hi
    simp at hi
    subst hi
    exact ⟨List.mem_of_getElem? q, (List.getElem?_eq_some_iff.mp q).1, q⟩
/-! a line of held and place -/
def dLn (x : Ln) : PyData := .tuple [dP x.1, .int x.2]
theorem lex_int {x y : Int} (h : x ≠ y) (l m : List (Int ⊕ List Nat)) : PyProof.Rows.lexLt PyProof.Rows.itemOrd (.inl x :: l) (.inl y :: m) = decide (x < y) := by
  rw [PySem.W.lex_atom (fun e => h (Sum.inl.inj e))]
  exact PySem.W.dataLt_int x y
theorem lex_same (p : Int ⊕ List Nat) (l m : List (Int ⊕ List Nat)) : PyProof.Rows.lexLt PyProof.Rows.itemOrd (p :: l) (p :: m) = PyProof.Rows.lexLt PyProof.Rows.itemOrd l m := PySem.W.lex_pre [p] l m
theorem toks_dLn (x : Ln) : PySem.W.keyToks (dLn x) = [.inl 1, .inl 1, .inl x.1.1, .inl 1, .inl x.1.2, .inl 0, .inl 1, .inl x.2, .inl 0] := by
  simp [dLn, dP, PySem.W.keyToks, PySem.W.keyToksAll]
theorem dataLe_dLn (a b : Ln) : PySem.W.dataLe false id (dLn a) (dLn b) = leL a b := by
  show (!PySem.W.dataLt (dLn b) (dLn a)) = leL a b
  unfold PySem.W.dataLt
  rw [toks_dLn, toks_dLn]
  obtain ⟨⟨a1, a2⟩, a3⟩ := a
  obtain ⟨⟨b1, b2⟩, b3⟩ := b
  unfold leL
  dsimp only
  rw [lex_same, lex_same]
  by_cases h1 : a1 = b1
  · subst h1
    rw [lex_same, lex_same, if_pos rfl]
    by_cases h2 : a2 = b2
    · subst h2
      rw [lex_same, lex_same, lex_same, if_pos rfl]
      by_cases h3 : a3 = b3
      · subst h3
        rw [lex_same, lex_same]
        simp [PyProof.Rows.lexLt]
      · rw [lex_int (fun e => h3 e.symm)]
        by_cases c : b3 < a3
        · rw [decide_eq_true c, decide_eq_false (by omega)]; rfl
        · rw [decide_eq_false c, decide_eq_true (by omega)]; rfl
    · rw [lex_int (fun e => h2 e.symm), if_neg h2]
      by_cases c : b2 < a2
      · rw [decide_eq_true c, decide_eq_false (by omega)]; rfl
      · rw [decide_eq_false c, decide_eq_true (by omega)]; rfl
  · rw [lex_int (fun e => h1 e.symm), if_neg h1]
    by_cases c : b1 < a1
    · rw [decide_eq_true c, decide_eq_false (by omega)]; rfl
    · rw [decide_eq_false c, decide_eq_true (by omega)]; rfl
theorem sort_dLn (l : List Ln) : (l.map dLn).mergeSort (PySem.W.dataLe false id) = (l.mergeSort leL).map dLn := (PySem.W.sort_maps dLn fun a _ b _ => (dataLe_dLn a b).symm).symm
theorem dLn_alike (l : List Ln) : PySem.W.AllAlike (l.map dLn) := fun d hd d' hd' => by
  obtain ⟨x, _, rfl⟩ := List.mem_map.mp hd
  obtain ⟨y, _, rfl⟩ := List.mem_map.mp hd'
  rfl
theorem dLn_sortable (l : List Ln) : PySem.W.Sortable (l.map dLn) := .inl fun d hd => by
  obtain ⟨x, _, rfl⟩ := List.mem_map.mp hd
  exact ⟨_, _, rfl⟩
theorem dLn_depth (l : List Ln) : ∀ d ∈ l.map dLn, d.depth ≤ 8 := fun d hd => by
  obtain ⟨x, _, rfl⟩ := List.mem_map.mp hd
  simp [dLn, dP, PyData.depth, PyData.depthAll]
theorem lineOf_eq (e : Int × Int) (day : List Show) (ps : List Int) : lineOf e day ps = ps.zipIdx.map fun x => (held e (shAt day x.1), (x.2 : Int)) := by
  unfold lineOf
  apply List.ext_getElem?
  intro i
  rw [List.getElem?_mapIdx, List.getElem?_map, List.getElem?_zipIdx]
  cases ps[i]? <;> simp
theorem line_at {e : Int × Int} {day : List Show} {ps : List Int} {x : Ln} (h : x ∈ (lineOf e day ps).mergeSort leL) : 0 ≤ x.2 ∧ x.2 < ps.length := by
  have h := (List.mergeSort_perm _ _).mem_iff.mp h
  rw [lineOf_eq] at h
  obtain ⟨y, hy, rfl⟩ := List.mem_map.mp h
  have := (zipIdx_mem hy).2.1
  show 0 ≤ (y.2 : Int) ∧ (y.2 : Int) < ps.length
  omega
/-- laid_of's answer -/
def dO : Option Int → PyData
  | none => .none
  | some z => .int z
theorem isNone_dO (o : Option Int) : isNone (dO o) = o.isNone := by cases o <;> rfl
def dRes (r : List Int × Option Int) : PyData := .tuple [dI r.1, dO r.2]
theorem rep_int (n : Nat) (z : Int) : (List.replicate n z).map PyData.int = List.replicate n (PyData.int z) := List.map_replicate
section
variable {K : PySem.W.Frag} {τ : Sls} {ta tb tc td te : TE}
/-- [z] * k -/
theorem el_repI {z k : Int} (ha : ED K ta τ (.int z)) (hk : ED K tb τ (.int k)) (h0 : 0 ≤ k) (h1 : k ≤ 1000) : EL K (tOp rMulA (tLst (tCons ta tNil)) tb) τ ((List.replicate k.toNat z).map PyData.int) := by
  rw [rep_int]
  exact el_is (el_rep (el_lst (ds := [.int z]) (ea1 ha) (by simp)).ed hk h0 (by omega) (by simp; omega)) (flat_one _ _)
end
theorem ei_rngN {K : PySem.W.Frag} {τ : Sls} {ta : TA} {m : Nat} (h : EA K ta τ [.dat (.int (m : Int))]) (hm : m ≤ 100000) : EI K (iRng1 ta) τ ((List.range m).map fun (i : Nat) => .int (0 + (i : Int))) :=
  ei_is (ei_rng1 h (by omega) (by omega)) (by unfold rngD; rw [Int.toNat_natCast])
theorem ixN_in {n : Nat} {k : Int} (h0 : 0 ≤ k) (h1 : k < n) : ixN n k = some k.toNat := by
  unfold ixN
  rw [if_pos h0, if_pos h1]

/-! slices -/
theorem sIx_some {n d : Nat} {p : Int} (h0 : 0 ≤ p) : HT.sIx n d (some p) = min p.toNat n := by
  have e : p = ((p.toNat : Nat) : Int) := by omega
  rw [e]
  exact HT.sIx_nat n d p.toNat
theorem cutD_take {ds : List PyData} {p : Int} (h0 : 0 ≤ p) : cutD ds none (some p) = ds.take p.toNat := by
  unfold cutD
  rw [sIx_some h0, HT.sIx_none, List.drop_zero, Nat.sub_zero]
  by_cases c : p.toNat ≤ ds.length
  · rw [Nat.min_eq_left c]
  · rw [Nat.min_eq_right (by omega), List.take_of_length_le (Nat.le_refl _), List.take_of_length_le (by omega)]
theorem cutD_drop {ds : List PyData} {p : Int} (h0 : 0 ≤ p) : cutD ds (some p) none = ds.drop p.toNat := by
  unfold cutD
  rw [sIx_some h0, HT.sIx_none]
  by_cases c : p.toNat ≤ ds.length
  · rw [Nat.min_eq_left c]
    exact List.take_of_length_le (by rw [List.length_drop]; omega)
  · rw [Nat.min_eq_right (by omega), List.drop_of_length_le (Nat.le_refl _), List.drop_of_length_le (by omega)]
    simp
theorem set_cut {α : Type} {xs : List α} {n : Nat} {v : α} (h : n < xs.length) : xs.take n ++ [v] ++ xs.drop (n + 1) = xs.set n v := by
  rw [List.set_eq_take_append_cons_drop, if_pos h, List.append_assoc]
  rfl
def dC (x : Int × Bool) : PyData := .tuple [.int x.1, .bool x.2]
theorem nice_dC : Nice 2 dC where
  lay := fun _ => rfl
  dp := fun a => by simp [dC, PyData.depth, PyData.depthAll]
  eq := fun a b => by
    show ((a.1 == b.1) && ((a.2 == b.2) && true)) = _
    rw [Bool.eq_iff_iff]
    simp [Prod.ext_iff]
theorem drop_at {α : Type} {xs : List α} {i : Nat} {x : α} (h : xs[i]? = some x) : xs.drop i = x :: xs.drop (i + 1) := by
  obtain ⟨hi, he⟩ := List.getElem?_eq_some_iff.mp h
  rw [← he]
  exact List.drop_eq_getElem_cons hi
theorem map_at {α β : Type} {f : α → β} {xs : List α} {i : Nat} {d : β} (h : (xs.map f)[i]? = some d) : ∃ x, xs[i]? = some x ∧ d = f x := by
  rw [List.getElem?_map] at h
  cases q : xs[i]? with
  | none => rw [q] at h; cases h
  | some x => rw [q] at h; cases h; exact ⟨x, rfl, rfl⟩
section
variable {K : PySem.W.Frag} {τ : Sls} {ta tb tc td te : TE}
theorem ed_batN {bs : List Bool} {i : Nat} (h : ED K ta τ (dB bs)) (hp : ED K tb τ (.int (i : Int))) (h1 : i < bs.length) : ED K (tOp (rIxA K) ta tb) τ (.bool (bs.getD i false)) := by
  have := ed_ixL (d := .bool (bs.getD i false)) h hp (by rw [atI_map (f := PyData.bool) false (by omega) (by omega), Int.toNat_natCast])
  exact this
theorem ed_nil : ED K (tLst tNil) τ (dI []) := (el_lst (ds := []) ea_nil (by simp)).ed
end
end Mir

namespace Mir
open PySem L2 Ab Pl
/-! ### sizes of ints -/
def Bd (n : Nat) (i : Int) : Prop := i.natAbs < 2 ^ n
theorem Bd.mono {n m : Nat} {i : Int} (h : Bd n i) (le : n ≤ m) : Bd m i := Nat.lt_of_lt_of_le h (Nat.pow_le_pow_right (by decide) le)
theorem Bd.add {n : Nat} {i j : Int} (h : Bd n i) (h' : Bd n j) : Bd (n + 1) (i + j) := by
  unfold Bd at *
  rw [Nat.pow_succ]
  have := Int.natAbs_add_le i j
  omega
theorem Bd.mul {n m : Nat} {i j : Int} (h : Bd n i) (h' : Bd m j) : Bd (n + m) (i * j) := by
  unfold Bd at *
  rw [Int.natAbs_mul, Nat.pow_add]
  exact Nat.mul_lt_mul'' h h'
theorem bd_of {i : Int} {n : Nat} (h : i.natAbs < 2 ^ n) : Bd n i := h
theorem log2_bd {n : Nat} {i : Int} (h : Bd n i) : i.natAbs.log2 ≤ n := by
  by_cases c : i.natAbs = 0
  · rw [c]; exact Nat.zero_le _
  · exact Nat.le_of_lt ((Nat.log2_lt c).mpr h)
theorem cmB {i j : Int} {n m : Nat} (h : Bd n i) (h' : Bd m j) (le : n + m ≤ 90000000) : CMulB i j := by
  have a := log2_bd h
  have b := log2_bd h'
  unfold CMulB
  omega
theorem bd_bits {z : Int} {k : Nat} (h : Builtin.Int.intBits z ≤ k) : Bd k z := by
  unfold Builtin.Int.intBits at h
  unfold Bd
  split at h
  · rename_i c
    have : z.natAbs = 0 := by simpa using c
    rw [this]
    exact Nat.two_pow_pos k
  · rename_i c
    have c' : z.natAbs ≠ 0 := by simpa using c
    exact Nat.lt_of_lt_of_le (Nat.lt_log2_self) (Nat.pow_le_pow_right (by decide) h)
theorem bd_sum {k : Nat} : ∀ (ns : List Int), (∀ z ∈ ns, Bd k z) → Bd (k + ns.length) ns.sum
  | [], _ => by
    unfold Bd
    exact Nat.two_pow_pos _
  | z :: ns, h => by
    rw [List.sum_cons, List.length_cons]
    have h1 := (h z (by simp)).mono (Nat.le_add_right k ns.length)
    have h2 := bd_sum ns fun y hy => h y (List.mem_cons_of_mem _ hy)
    exact (h1.add h2)
section
variable {K : PySem.W.Frag} {τ : Sls} {ta tb tc td te : TE} {S : Sl → Prop}
theorem en_mono {S' : Sl → Prop} (h : EN K te τ S) (hs : ∀ s, S s → S' s) : EN K te τ S' := fun G0 H0 G H σ r Q q => h G0 H0 G H σ r Q fun v s G' H' z => q v s G' H' (hs s z)
/-- some int -/
def AnyI (s : Sl) : Prop := ∃ z : Int, s = .dat (.int z)
theorem en_div {k : Int} (h : EN K ta τ AnyI) (h0 : 0 < k) (h1 : k < 1073741824) : EN K (tOp (rI CDiv fun i j => .int (i / j)) ta (tC (.int k))) τ AnyI := fun G0 H0 G H σ r Q q => h G0 H0 G H σ r _ fun v s G1 H1 hs x1 d1 => by
  obtain ⟨z, rfl⟩ := hs
  exact ⟨z, k, Dt.int_of d1, rfl, ⟨h0, h1⟩, q _ _ G1 H1 ⟨_, rfl⟩ x1 (.int _)⟩
/-- the script against [] -/
theorem ed_scrNe {i : Nat} {ns : List Int} (h : τ[i]? = some (.scr ns)) : ED K (tOp (rNeD K) (tVar i) (tLst tNil)) τ (.bool (!decide (ns = []))) := fun G0 H0 G H σ R Q q => by
  obtain ⟨ov, f1, a, f2, f3⟩ := R.at_ i _ h
  refine ⟨.ref a, by rw [f1, f2], sz (by simp), fun p hp => ?_⟩
  have x : Ext G H (upd G p (.lst [])) (upd H p (.lst [])) := Ext.new R.gh hp
  have da : ∀ ms : List Int, DpAll K (upd H p (.lst [])) (ms.map V.int) (ms.map PyData.int) := fun ms => by
    induction ms with
    | nil => exact .nil
    | cons n ns ih => exact .cons (.int n) ih
  refine ⟨.list (ns.map PyData.int), .list [], .lst (x.gh.sqL (x.gg.sqL f3)) (da ns), .lst (.inl (.inl upd_same)) .nil, nice_dI.sh (by decide) ns, nice_dI.sh (by decide) [], ?_⟩
  have := nice_dI.eq ns []
  unfold dI at this
  rw [List.map_nil] at this
  rw [this]
  exact q _ _ _ x (.bl _)
/-- abs(sum(script[:63])) -/
theorem ed_whole {ns : List Int} {i : Nat} (h : τ[i]? = some (.scr ns)) : ED K (tCB rAbs (tCons (tCB (rSum K) (tCons (tSl (rSlL K) (tVar i) tNoPart (tPart (tC (.int 63)))) tNil)) tNil)) τ (.int ((ns.take 63).sum.natAbs : Int)) :=
  ed_abs (ed_sum (ed_is (el_slS h eo_none (eo_some ed_int)).ed (by rw [cutD_take (by omega)]; show _ = PyData.list ((ns.take 63).map PyData.int); rw [List.map_take]; rfl)))
end
theorem iAt4 {a b c d k : Int} {P : Int → Prop} (h0 : 0 ≤ k) (h1 : k < 4) (ha : P a) (hb : P b) (hc : P c) (hd : P d) : P (iAt [a, b, c, d] k) := by
  have : k = 0 ∨ k = 1 ∨ k = 2 ∨ k = 3 := by omega
  rcases this with rfl | rfl | rfl | rfl
  · exact ha
  · exact hb
  · exact hc
  · exact hd
theorem iAt3 {a b c k : Int} {P : Int → Prop} (h0 : 0 ≤ k) (h1 : k < 3) (ha : P a) (hb : P b) (hc : P c) : P (iAt [a, b, c] k) := by
  have : k = 0 ∨ k = 1 ∨ k = 2 := by omega
  rcases this with rfl | rfl | rfl
  · exact ha
  · exact hb
  · exact hc
/-- the cells of a script -/
def cells (z : Int) (ns : List Int) : List Int := if ns = [] then [z] else ns.take 63
theorem cells_ne {z : Int} {ns : List Int} : cells z ns ≠ [] := by
  unfold cells
  by_cases c : ns = []
  · rw [if_pos c]; simp
  · rw [if_neg c]
    cases ns with
    | nil => exact absurd rfl c
    | cons a l => simp
theorem cells_len {z : Int} {ns : List Int} : 0 < (cells z ns).length ∧ (cells z ns).length ≤ 63 := by
  refine ⟨List.length_pos_iff.mpr cells_ne, ?_⟩
  unfold cells
  split
  · simp
  · rw [List.length_take]; omega
theorem cells_bd {z : Int} {ns : List Int} {k : Nat} (hz : Bd k z) (h : ∀ y ∈ ns, Bd k y) : ∀ y ∈ cells z ns, Bd k y := fun y hy => by
  unfold cells at hy
  split at hy
  · have : y = z := by simpa using hy
    rw [this]; exact hz
  · exact h y (List.mem_of_mem_take hy)
theorem iAt_mem {ns : List Int} {p : Int} (h0 : 0 ≤ p) (h1 : p < ns.length) : iAt ns p ∈ ns := by
  unfold iAt
  have hl : p.toNat < ns.length := by omega
  rw [List.getD_eq_getElem?_getD, List.getElem?_eq_getElem hl]
  exact List.getElem_mem hl
/-- what is known of a script -/
def okN (ns : List Int) : Prop := ns.length ≤ 63 ∧ ∀ z ∈ ns, Builtin.Int.intBits z ≤ 1048576
theorem okN_bd {ns : List Int} (h : okN ns) : ∀ z ∈ ns, Bd 1048576 z := fun z hz => bd_bits (h.2 z hz)
end Mir

namespace Mir
open PySem L2 Ab Pl
theorem cutD_init {ds : List PyData} {d : PyData} : cutD (ds ++ [d]) none (some (-1)) = ds := by
  unfold cutD
  have e : HT.sIx (ds ++ [d]).length (ds ++ [d]).length (some (-1)) = ds.length := by
    unfold HT.sIx
    simp
    omega
  rw [e, HT.sIx_none, List.drop_zero, Nat.sub_zero, List.take_left]
theorem scal_bools (bs : List Bool) : ∀ d ∈ bs.map PyData.bool, scalar d = true := fun d hd => by
  obtain ⟨b, _, rfl⟩ := List.mem_map.mp hd
  rfl
theorem scal_ints (bs : List Int) : ∀ d ∈ bs.map PyData.int, scalar d = true := fun d hd => by
  obtain ⟨b, _, rfl⟩ := List.mem_map.mp hd
  rfl
theorem nice_dCs : Nice 3 fun xs : List (Int × Bool) => .list (xs.map dC) := nice_list nice_dC
/-- as a natural number -/
theorem nat_of {z : Int} (h : 0 ≤ z) : ∃ m : Nat, z = (m : Int) := ⟨z.toNat, by omega⟩
end Mir

namespace Law
open PySem L2 Ab Pl Mir PySem.Spec PyProof.Rows
def topS (i : Nat) : Stmt := PySem.Challenge.pw_setahead_k06_whole_kept.main.body.getD i (.Pass ⟨0, 0, 0, 0⟩)
abbrev s_is_whole : Stmt := topS 13
abbrev N_is_whole : List Str := ["thing"]
abbrev A_is_whole : List Str := ["thing"]
theorem sc_is_whole : FnScope N_is_whole A_is_whole (defScope s_is_whole) := ⟨rfl, rfl, rfl, by decide +kernel, rfl, by decide +kernel, by decide +kernel⟩
abbrev s_is_show : Stmt := topS 14
abbrev N_is_show : List Str := ["thing", "one"]
abbrev A_is_show : List Str := ["thing"]
theorem sc_is_show : FnScope N_is_show A_is_show (defScope s_is_show) := ⟨rfl, rfl, rfl, by decide +kernel, rfl, by decide +kernel, by decide +kernel⟩
abbrev s_asked_tuners : Stmt := topS 15
abbrev N_asked_tuners : List Str := ["tuners"]
abbrev A_asked_tuners : List Str := ["tuners"]
theorem sc_asked_tuners : FnScope N_asked_tuners A_asked_tuners (defScope s_asked_tuners) := ⟨rfl, rfl, rfl, by decide +kernel, rfl, by decide +kernel, by decide +kernel⟩
abbrev s_asked_edges : Stmt := topS 16
abbrev N_asked_edges : List Str := ["edges", "one"]
abbrev A_asked_edges : List Str := ["edges"]
theorem sc_asked_edges : FnScope N_asked_edges A_asked_edges (defScope s_asked_edges) := ⟨rfl, rfl, rfl, by decide +kernel, rfl, by decide +kernel, by decide +kernel⟩
abbrev s_asked_shows : Stmt := topS 17
abbrev N_asked_shows : List Str := ["shows", "one"]
abbrev A_asked_shows : List Str := ["shows"]
theorem sc_asked_shows : FnScope N_asked_shows A_asked_shows (defScope s_asked_shows) := ⟨rfl, rfl, rfl, by decide +kernel, rfl, by decide +kernel, by decide +kernel⟩
abbrev s_are_places : Stmt := topS 18
abbrev N_are_places : List Str := ["shows", "some", "one", "at"]
abbrev A_are_places : List Str := ["shows", "some"]
theorem sc_are_places : FnScope N_are_places A_are_places (defScope s_are_places) := ⟨rfl, rfl, rfl, by decide +kernel, rfl, by decide +kernel, by decide +kernel⟩
abbrev s_asked_places : Stmt := topS 19
abbrev N_asked_places : List Str := ["shows", "some"]
abbrev A_asked_places : List Str := ["shows", "some"]
theorem sc_asked_places : FnScope N_asked_places A_asked_places (defScope s_asked_places) := ⟨rfl, rfl, rfl, by decide +kernel, rfl, by decide +kernel, by decide +kernel⟩
abbrev s_asked_wishes : Stmt := topS 20
abbrev N_asked_wishes : List Str := ["shows", "wishes", "row"]
abbrev A_asked_wishes : List Str := ["shows", "wishes"]
theorem sc_asked_wishes : FnScope N_asked_wishes A_asked_wishes (defScope s_asked_wishes) := ⟨rfl, rfl, rfl, by decide +kernel, rfl, by decide +kernel, by decide +kernel⟩
abbrev s_asked_all : Stmt := topS 21
abbrev N_asked_all : List Str := ["tuners", "edges", "shows"]
abbrev A_asked_all : List Str := ["tuners", "edges", "shows"]
theorem sc_asked_all : FnScope N_asked_all A_asked_all (defScope s_asked_all) := ⟨rfl, rfl, rfl, by decide +kernel, rfl, by decide +kernel, by decide +kernel⟩
abbrev s_held_of : Stmt := topS 24
abbrev N_held_of : List Str := ["edges", "show"]
abbrev A_held_of : List Str := ["edges", "show"]
theorem sc_held_of : FnScope N_held_of A_held_of (defScope s_held_of) := ⟨rfl, rfl, rfl, by decide +kernel, rfl, by decide +kernel, by decide +kernel⟩
abbrev s_laid_of : Stmt := topS 26
abbrev N_laid_of : List Str := ["tuners", "edges", "day", "some", "free", "found", "line", "at", "place", "held", "open_ones", "tuner"]
abbrev A_laid_of : List Str := ["tuners", "edges", "day", "some"]
theorem sc_laid_of : FnScope N_laid_of A_laid_of (defScope s_laid_of) := ⟨rfl, rfl, rfl, by decide +kernel, rfl, by decide +kernel, by decide +kernel⟩
abbrev s_kept_of : Stmt := topS 28
abbrev N_kept_of : List Str := ["tuners", "edges", "day", "wishes", "found", "some", "row", "more", "good"]
abbrev A_kept_of : List Str := ["tuners", "edges", "day", "wishes"]
theorem sc_kept_of : FnScope N_kept_of A_kept_of (defScope s_kept_of) := ⟨rfl, rfl, rfl, by decide +kernel, rfl, by decide +kernel, by decide +kernel⟩
abbrev s_kept : Stmt := topS 29
abbrev N_kept : List Str := ["tuners", "edges", "day", "wishes"]
abbrev A_kept : List Str := ["tuners", "edges", "day", "wishes"]
theorem sc_kept : FnScope N_kept A_kept (defScope s_kept) := ⟨rfl, rfl, rfl, by decide +kernel, rfl, by decide +kernel, by decide +kernel⟩
abbrev s_moved_of : Stmt := topS 30
abbrev N_moved_of : List Str := ["day", "place", "by", "begin", "end", "worth"]
abbrev A_moved_of : List Str := ["day", "place", "by"]
theorem sc_moved_of : FnScope N_moved_of A_moved_of (defScope s_moved_of) := ⟨rfl, rfl, rfl, by decide +kernel, rfl, by decide +kernel, by decide +kernel⟩
abbrev s_asked_move : Stmt := topS 31
abbrev N_asked_move : List Str := ["day", "place", "by"]
abbrev A_asked_move : List Str := ["day", "place", "by"]
theorem sc_asked_move : FnScope N_asked_move A_asked_move (defScope s_asked_move) := ⟨rfl, rfl, rfl, by decide +kernel, rfl, by decide +kernel, by decide +kernel⟩
abbrev s_moved : Stmt := topS 32
abbrev N_moved : List Str := ["day", "place", "by"]
abbrev A_moved : List Str := ["day", "place", "by"]
theorem sc_moved : FnScope N_moved A_moved (defScope s_moved) := ⟨rfl, rfl, rfl, by decide +kernel, rfl, by decide +kernel, by decide +kernel⟩
abbrev s_changes : Stmt := topS 33
abbrev N_changes : List Str := ["tuners", "edges", "day", "wishes", "place", "by", "before", "after", "at", "good"]
abbrev A_changes : List Str := ["tuners", "edges", "day", "wishes", "place", "by"]
theorem sc_changes : FnScope N_changes A_changes (defScope s_changes) := ⟨rfl, rfl, rfl, by decide +kernel, rfl, by decide +kernel, by decide +kernel⟩
abbrev s__law_number : Stmt := topS 35
abbrev N__law_number : List Str := ["_law_cell", "_law_at", "_law_whole", "_law_blend", "_law_more"]
abbrev A__law_number : List Str := ["_law_cell", "_law_at", "_law_whole"]
theorem sc__law_number : FnScope N__law_number A__law_number (defScope s__law_number) := ⟨rfl, rfl, rfl, by decide +kernel, rfl, by decide +kernel, by decide +kernel⟩
abbrev s__law_day : Stmt := topS 36
abbrev N__law_day : List Str := ["_law_script", "_law_by", "_law_size", "_law_cells", "_law_whole", "_law_found", "_law_at", "_law_number_here", "_law_begin", "_law_end"]
abbrev A__law_day : List Str := ["_law_script", "_law_by", "_law_size"]
theorem sc__law_day : FnScope N__law_day A__law_day (defScope s__law_day) := ⟨rfl, rfl, rfl, by decide +kernel, rfl, by decide +kernel, by decide +kernel⟩
abbrev s__law_edges : Stmt := topS 37
abbrev N__law_edges : List Str := ["_law_script", "_law_by", "_law_whole"]
abbrev A__law_edges : List Str := ["_law_script", "_law_by"]
theorem sc__law_edges : FnScope N__law_edges A__law_edges (defScope s__law_edges) := ⟨rfl, rfl, rfl, by decide +kernel, rfl, by decide +kernel, by decide +kernel⟩
abbrev s__law_moments : Stmt := topS 38
abbrev N__law_moments : List Str := ["_law_edges_here", "_law_show", "_law_moment"]
abbrev A__law_moments : List Str := ["_law_edges_here", "_law_show"]
theorem sc__law_moments : FnScope N__law_moments A__law_moments (defScope s__law_moments) := ⟨rfl, rfl, rfl, by decide +kernel, rfl, by decide +kernel, by decide +kernel⟩
abbrev s__law_full : Stmt := topS 39
abbrev N__law_full : List Str := ["_law_many", "_law_edges_here", "_law_day_here", "_law_some", "_law_counts", "_law_place", "_law_moment"]
abbrev A__law_full : List Str := ["_law_many", "_law_edges_here", "_law_day_here", "_law_some"]
theorem sc__law_full : FnScope N__law_full A__law_full (defScope s__law_full) := ⟨rfl, rfl, rfl, by decide +kernel, rfl, by decide +kernel, by decide +kernel⟩
abbrev s__law_wishes : Stmt := topS 40
abbrev N__law_wishes : List Str := ["_law_script", "_law_by", "_law_day_here", "_law_cells", "_law_whole", "_law_found", "_law_at", "_law_number_here", "_law_many", "_law_row", "_law_turn"]
abbrev A__law_wishes : List Str := ["_law_script", "_law_by", "_law_day_here"]
theorem sc__law_wishes : FnScope N__law_wishes A__law_wishes (defScope s__law_wishes) := ⟨rfl, rfl, rfl, by decide +kernel, rfl, by decide +kernel, by decide +kernel⟩
abbrev s__law_kept : Stmt := topS 41
abbrev N__law_kept : List Str := ["_law_many", "_law_edges_here", "_law_day_here", "_law_wishes_here", "_law_found", "_law_some", "_law_row", "_law_more", "_law_place"]
abbrev A__law_kept : List Str := ["_law_many", "_law_edges_here", "_law_day_here", "_law_wishes_here"]
theorem sc__law_kept : FnScope N__law_kept A__law_kept (defScope s__law_kept) := ⟨rfl, rfl, rfl, by decide +kernel, rfl, by decide +kernel, by decide +kernel⟩
abbrev s__law_moves : Stmt := topS 42
abbrev N__law_moves : List Str := ["_law_day_here", "_law_whole", "_law_found", "_law_place", "_law_show", "_law_many"]
abbrev A__law_moves : List Str := ["_law_day_here", "_law_whole"]
theorem sc__law_moves : FnScope N__law_moves A__law_moves (defScope s__law_moves) := ⟨rfl, rfl, rfl, by decide +kernel, rfl, by decide +kernel, by decide +kernel⟩
abbrev s__law_moved : Stmt := topS 43
abbrev N__law_moved : List Str := ["_law_day_here", "_law_place", "_law_by", "_law_begin", "_law_end", "_law_worth", "_law_at", "_law_show"]
abbrev A__law_moved : List Str := ["_law_day_here", "_law_place", "_law_by"]
theorem sc__law_moved : FnScope N__law_moved A__law_moved (defScope s__law_moved) := ⟨rfl, rfl, rfl, by decide +kernel, rfl, by decide +kernel, by decide +kernel⟩
abbrev s__law_move_right : Stmt := topS 44
abbrev N__law_move_right : List Str := ["_law_many", "_law_edges_here", "_law_day_here", "_law_wishes_here", "_law_place", "_law_far", "_law_handed", "_law_mine", "_law_due", "_law_row", "_law_there", "_law_after", "_law_pairs", "_law_at", "_law_one", "_law_again", "_law_told", "_law_pair"]
abbrev A__law_move_right : List Str := ["_law_many", "_law_edges_here", "_law_day_here", "_law_wishes_here", "_law_place", "_law_far"]
theorem sc__law_move_right : FnScope N__law_move_right A__law_move_right (defScope s__law_move_right) := ⟨rfl, rfl, rfl, by decide +kernel, rfl, by decide +kernel, by decide +kernel⟩
abbrev s_law : Stmt := topS 45
abbrev N_law : List Str := ["_law_script", "_law_whole", "_law_by", "_law_day_here", "_law_edges_here", "_law_many", "_law_wishes_here", "_law_handed", "_law_mine", "_law_row", "_law_due", "_law_again", "_law_found", "_law_one", "_law_place", "_law_far"]
abbrev A_law : List Str := ["_law_script"]
theorem sc_law : FnScope N_law A_law (defScope s_law) := ⟨rfl, rfl, rfl, by decide +kernel, rfl, by decide +kernel, by decide +kernel⟩
structure Txt (K : PySem.W.Frag) (mg : Str → Option Value) where
  fa_is_whole : Addr
  fd_is_whole : FuncData
  F_is_whole : Fun K "is_whole" "is_whole" s_is_whole fa_is_whole fd_is_whole
  g_is_whole : mg "is_whole" = some (.ref fa_is_whole)
  fa_is_show : Addr
  fd_is_show : FuncData
  F_is_show : Fun K "is_show" "is_show" s_is_show fa_is_show fd_is_show
  g_is_show : mg "is_show" = some (.ref fa_is_show)
  fa_asked_tuners : Addr
  fd_asked_tuners : FuncData
  F_asked_tuners : Fun K "asked_tuners" "asked_tuners" s_asked_tuners fa_asked_tuners fd_asked_tuners
  g_asked_tuners : mg "asked_tuners" = some (.ref fa_asked_tuners)
  fa_asked_edges : Addr
  fd_asked_edges : FuncData
  F_asked_edges : Fun K "asked_edges" "asked_edges" s_asked_edges fa_asked_edges fd_asked_edges
  g_asked_edges : mg "asked_edges" = some (.ref fa_asked_edges)
  fa_asked_shows : Addr
  fd_asked_shows : FuncData
  F_asked_shows : Fun K "asked_shows" "asked_shows" s_asked_shows fa_asked_shows fd_asked_shows
  g_asked_shows : mg "asked_shows" = some (.ref fa_asked_shows)
  fa_are_places : Addr
  fd_are_places : FuncData
  F_are_places : Fun K "are_places" "are_places" s_are_places fa_are_places fd_are_places
  g_are_places : mg "are_places" = some (.ref fa_are_places)
  fa_asked_places : Addr
  fd_asked_places : FuncData
  F_asked_places : Fun K "asked_places" "asked_places" s_asked_places fa_asked_places fd_asked_places
  g_asked_places : mg "asked_places" = some (.ref fa_asked_places)
  fa_asked_wishes : Addr
  fd_asked_wishes : FuncData
  F_asked_wishes : Fun K "asked_wishes" "asked_wishes" s_asked_wishes fa_asked_wishes fd_asked_wishes
  g_asked_wishes : mg "asked_wishes" = some (.ref fa_asked_wishes)
  fa_asked_all : Addr
  fd_asked_all : FuncData
  F_asked_all : Fun K "asked_all" "asked_all" s_asked_all fa_asked_all fd_asked_all
  g_asked_all : mg "asked_all" = some (.ref fa_asked_all)
  fa_held_of : Addr
  fd_held_of : FuncData
  F_held_of : Fun K "held_of" "held_of" s_held_of fa_held_of fd_held_of
  g_held_of : mg "held_of" = some (.ref fa_held_of)
  fa_laid_of : Addr
  fd_laid_of : FuncData
  F_laid_of : Fun K "laid_of" "laid_of" s_laid_of fa_laid_of fd_laid_of
  g_laid_of : mg "laid_of" = some (.ref fa_laid_of)
  fa_kept_of : Addr
  fd_kept_of : FuncData
  F_kept_of : Fun K "kept_of" "kept_of" s_kept_of fa_kept_of fd_kept_of
  g_kept_of : mg "kept_of" = some (.ref fa_kept_of)
  fa_kept : Addr
  fd_kept : FuncData
  F_kept : Fun K "kept" "kept" s_kept fa_kept fd_kept
  g_kept : mg "kept" = some (.ref fa_kept)
  fa_moved_of : Addr
  fd_moved_of : FuncData
  F_moved_of : Fun K "moved_of" "moved_of" s_moved_of fa_moved_of fd_moved_of
  g_moved_of : mg "moved_of" = some (.ref fa_moved_of)
  fa_asked_move : Addr
  fd_asked_move : FuncData
  F_asked_move : Fun K "asked_move" "asked_move" s_asked_move fa_asked_move fd_asked_move
  g_asked_move : mg "asked_move" = some (.ref fa_asked_move)
  fa_moved : Addr
  fd_moved : FuncData
  F_moved : Fun K "moved" "moved" s_moved fa_moved fd_moved
  g_moved : mg "moved" = some (.ref fa_moved)
  fa_changes : Addr
  fd_changes : FuncData
  F_changes : Fun K "changes" "changes" s_changes fa_changes fd_changes
  g_changes : mg "changes" = some (.ref fa_changes)
  fa__law_number : Addr
  fd__law_number : FuncData
  F__law_number : Fun K "_law_number" "_law_number" s__law_number fa__law_number fd__law_number
  g__law_number : mg "_law_number" = some (.ref fa__law_number)
  fa__law_day : Addr
  fd__law_day : FuncData
  F__law_day : Fun K "_law_day" "_law_day" s__law_day fa__law_day fd__law_day
  g__law_day : mg "_law_day" = some (.ref fa__law_day)
  fa__law_edges : Addr
  fd__law_edges : FuncData
  F__law_edges : Fun K "_law_edges" "_law_edges" s__law_edges fa__law_edges fd__law_edges
  g__law_edges : mg "_law_edges" = some (.ref fa__law_edges)
  fa__law_moments : Addr
  fd__law_moments : FuncData
  F__law_moments : Fun K "_law_moments" "_law_moments" s__law_moments fa__law_moments fd__law_moments
  g__law_moments : mg "_law_moments" = some (.ref fa__law_moments)
  fa__law_full : Addr
  fd__law_full : FuncData
  F__law_full : Fun K "_law_full" "_law_full" s__law_full fa__law_full fd__law_full
  g__law_full : mg "_law_full" = some (.ref fa__law_full)
  fa__law_wishes : Addr
  fd__law_wishes : FuncData
  F__law_wishes : Fun K "_law_wishes" "_law_wishes" s__law_wishes fa__law_wishes fd__law_wishes
  g__law_wishes : mg "_law_wishes" = some (.ref fa__law_wishes)
  fa__law_kept : Addr
  fd__law_kept : FuncData
  F__law_kept : Fun K "_law_kept" "_law_kept" s__law_kept fa__law_kept fd__law_kept
  g__law_kept : mg "_law_kept" = some (.ref fa__law_kept)
  fa__law_moves : Addr
  fd__law_moves : FuncData
  F__law_moves : Fun K "_law_moves" "_law_moves" s__law_moves fa__law_moves fd__law_moves
  g__law_moves : mg "_law_moves" = some (.ref fa__law_moves)
  fa__law_moved : Addr
  fd__law_moved : FuncData
  F__law_moved : Fun K "_law_moved" "_law_moved" s__law_moved fa__law_moved fd__law_moved
  g__law_moved : mg "_law_moved" = some (.ref fa__law_moved)
  fa__law_move_right : Addr
  fd__law_move_right : FuncData
  F__law_move_right : Fun K "_law_move_right" "_law_move_right" s__law_move_right fa__law_move_right fd__law_move_right
  g__law_move_right : mg "_law_move_right" = some (.ref fa__law_move_right)
  fa_law : Addr
  fd_law : FuncData
  F_law : Fun K "law" "law" s_law fa_law fd_law
  g_law : mg "law" = some (.ref fa_law)
  n_abs : mg "abs" = none
  n_all : mg "all" = none
  n_bool : mg "bool" = none
  n_enumerate : mg "enumerate" = none
  n_int : mg "int" = none
  n_isinstance : mg "isinstance" = none
  n_len : mg "len" = none
  n_list : mg "list" = none
  n_max : mg "max" = none
  n_min : mg "min" = none
  n_range : mg "range" = none
  n_set : mg "set" = none
  n_sorted : mg "sorted" = none
  n_sum : mg "sum" = none
  n_tuple : mg "tuple" = none
  t_DAY_answers : Tok
  c_DAY_answers : mg "DAY_answers" = some (.int 24 t_DAY_answers)
  t_DAY_days : Tok
  c_DAY_days : mg "DAY_days" = some (.int 24 t_DAY_days)
  t_MOST_SHOWS : Tok
  c_MOST_SHOWS : mg "MOST_SHOWS" = some (.int 10 t_MOST_SHOWS)
  t_MOST_WISHES : Tok
  c_MOST_WISHES : mg "MOST_WISHES" = some (.int 6 t_MOST_WISHES)
  t_MOST_WORTH : Tok
  c_MOST_WORTH : mg "MOST_WORTH" = some (.int 60 t_MOST_WORTH)
section
variable {K : PySem.W.Frag} {mg : Str → Option Value}
theorem b_is_whole (T : Txt K mg) : Binds K T.fd_is_whole A_is_whole [] := T.F_is_whole.binds fun _ _ _ _ _ _ us hl => match us, hl with | [_], _ => rfl
theorem b_is_show (T : Txt K mg) : Binds K T.fd_is_show A_is_show [] := T.F_is_show.binds fun _ _ _ _ _ _ us hl => match us, hl with | [_], _ => rfl
theorem b_asked_tuners (T : Txt K mg) : Binds K T.fd_asked_tuners A_asked_tuners [] := T.F_asked_tuners.binds fun _ _ _ _ _ _ us hl => match us, hl with | [_], _ => rfl
theorem b_asked_edges (T : Txt K mg) : Binds K T.fd_asked_edges A_asked_edges [] := T.F_asked_edges.binds fun _ _ _ _ _ _ us hl => match us, hl with | [_], _ => rfl
theorem b_asked_shows (T : Txt K mg) : Binds K T.fd_asked_shows A_asked_shows [] := T.F_asked_shows.binds fun _ _ _ _ _ _ us hl => match us, hl with | [_], _ => rfl
theorem b_are_places (T : Txt K mg) : Binds K T.fd_are_places A_are_places [] := T.F_are_places.binds fun _ _ _ _ _ _ us hl => match us, hl with | [_, _], _ => rfl
theorem b_asked_places (T : Txt K mg) : Binds K T.fd_asked_places A_asked_places [] := T.F_asked_places.binds fun _ _ _ _ _ _ us hl => match us, hl with | [_, _], _ => rfl
theorem b_asked_wishes (T : Txt K mg) : Binds K T.fd_asked_wishes A_asked_wishes [] := T.F_asked_wishes.binds fun _ _ _ _ _ _ us hl => match us, hl with | [_, _], _ => rfl
theorem b_asked_all (T : Txt K mg) : Binds K T.fd_asked_all A_asked_all [] := T.F_asked_all.binds fun _ _ _ _ _ _ us hl => match us, hl with | [_, _, _], _ => rfl
theorem b_held_of (T : Txt K mg) : Binds K T.fd_held_of A_held_of [] := T.F_held_of.binds fun _ _ _ _ _ _ us hl => match us, hl with | [_, _], _ => rfl
theorem b_laid_of (T : Txt K mg) : Binds K T.fd_laid_of A_laid_of [] := T.F_laid_of.binds fun _ _ _ _ _ _ us hl => match us, hl with | [_, _, _, _], _ => rfl
theorem b_kept_of (T : Txt K mg) : Binds K T.fd_kept_of A_kept_of [] := T.F_kept_of.binds fun _ _ _ _ _ _ us hl => match us, hl with | [_, _, _, _], _ => rfl
theorem b_kept (T : Txt K mg) : Binds K T.fd_kept A_kept [] := T.F_kept.binds fun _ _ _ _ _ _ us hl => match us, hl with | [_, _, _, _], _ => rfl
theorem b_moved_of (T : Txt K mg) : Binds K T.fd_moved_of A_moved_of [] := T.F_moved_of.binds fun _ _ _ _ _ _ us hl => match us, hl with | [_, _, _], _ => rfl
theorem b_asked_move (T : Txt K mg) : Binds K T.fd_asked_move A_asked_move [] := T.F_asked_move.binds fun _ _ _ _ _ _ us hl => match us, hl with | [_, _, _], _ => rfl
theorem b_moved (T : Txt K mg) : Binds K T.fd_moved A_moved [] := T.F_moved.binds fun _ _ _ _ _ _ us hl => match us, hl with | [_, _, _], _ => rfl
theorem b_changes (T : Txt K mg) : Binds K T.fd_changes A_changes [] := T.F_changes.binds fun _ _ _ _ _ _ us hl => match us, hl with | [_, _, _, _, _, _], _ => rfl
theorem b__law_number (T : Txt K mg) : Binds K T.fd__law_number A__law_number [] := T.F__law_number.binds fun _ _ _ _ _ _ us hl => match us, hl with | [_, _, _], _ => rfl
theorem b__law_day (T : Txt K mg) : Binds K T.fd__law_day A__law_day [] := T.F__law_day.binds fun _ _ _ _ _ _ us hl => match us, hl with | [_, _, _], _ => rfl
theorem b__law_edges (T : Txt K mg) : Binds K T.fd__law_edges A__law_edges [] := T.F__law_edges.binds fun _ _ _ _ _ _ us hl => match us, hl with | [_, _], _ => rfl
theorem b__law_moments (T : Txt K mg) : Binds K T.fd__law_moments A__law_moments [] := T.F__law_moments.binds fun _ _ _ _ _ _ us hl => match us, hl with | [_, _], _ => rfl
theorem b__law_full (T : Txt K mg) : Binds K T.fd__law_full A__law_full [] := T.F__law_full.binds fun _ _ _ _ _ _ us hl => match us, hl with | [_, _, _, _], _ => rfl
theorem b__law_wishes (T : Txt K mg) : Binds K T.fd__law_wishes A__law_wishes [] := T.F__law_wishes.binds fun _ _ _ _ _ _ us hl => match us, hl with | [_, _, _], _ => rfl
theorem b__law_kept (T : Txt K mg) : Binds K T.fd__law_kept A__law_kept [] := T.F__law_kept.binds fun _ _ _ _ _ _ us hl => match us, hl with | [_, _, _, _], _ => rfl
theorem b__law_moves (T : Txt K mg) : Binds K T.fd__law_moves A__law_moves [] := T.F__law_moves.binds fun _ _ _ _ _ _ us hl => match us, hl with | [_, _], _ => rfl
theorem b__law_moved (T : Txt K mg) : Binds K T.fd__law_moved A__law_moved [] := T.F__law_moved.binds fun _ _ _ _ _ _ us hl => match us, hl with | [_, _, _], _ => rfl
theorem b__law_move_right (T : Txt K mg) : Binds K T.fd__law_move_right A__law_move_right [] := T.F__law_move_right.binds fun _ _ _ _ _ _ us hl => match us, hl with | [_, _, _, _, _, _], _ => rfl
theorem b_law (T : Txt K mg) : Binds K T.fd_law A_law [] := T.F_law.binds fun _ _ _ _ _ _ us hl => match us, hl with | [_], _ => rfl
end
section
variable {P : Program} {w : World} {K : PySem.W.Frag} {mg : Str → Option Value} {base : Heap}
def P_is_whole (as : List Sl) (R : Sl → Prop) : Prop := ∃ d : PyData, as = [.dat d] ∧ R (.dat (.bool (isWh d)))
theorem ok_is_whole (T : Txt K mg) : FnOk P w K mg base CX0 1 T.fa_is_whole T.fd_is_whole A_is_whole (spF K P_is_whole) := by
  refine T.F_is_whole.ok sc_is_whole (spF_len (n := 1) fun as R h => ?_) fun cdv A outer s H vs Q E hr h => ⟨_, (pss_one (ps_ret (pe_and (pe_callB (isiK (K := K) rfl) (by rfl) T.n_isinstance (by decide +kernel) (pa_cons (pv 0) (pa_cons (pe_bltn (v := .ty "int") (by rfl) T.n_int (by decide +kernel) rfl) pa_nil))) (pe_one (pe_not (pe_callB (isiK (K := K) rfl) (by rfl) T.n_isinstance (by decide +kernel) (pa_cons (pv 0) (pa_cons (pe_bltn (v := .ty "bool") (by rfl) T.n_bool (by decide +kernel) rfl) pa_nil)))))))), body_of (M := N_is_whole) (fun as R h => ?_) vs H Q E h⟩
  · obtain ⟨_, rfl, _⟩ := h; rfl
  · obtain ⟨d, rfl, hR⟩ := h
    exact sd_ret (ed_is (ed_andV (ed_isInt (ed_var rfl)) fun _ => ed_notV (ed_isBool (ed_var rfl))) (by rw [isWh_eq])) hR
def P_is_show (as : List Sl) (R : Sl → Prop) : Prop := ∃ d : PyData, as = [.dat d] ∧ R (.dat (.bool (isShow d)))
theorem ok_is_show (T : Txt K mg) : FnOk P w K mg base CX0 2 T.fa_is_show T.fd_is_show A_is_show (spF K P_is_show) := by
  refine T.F_is_show.ok sc_is_show (spF_len (n := 1) fun as R h => ?_) fun cdv A outer s H vs Q E hr h => ⟨_, (pss_cons (ps_if (PW.pt (pw_or (pt_not (pt_val (pe_callB (isiK (K := K) rfl) (by rfl) T.n_isinstance (by decide +kernel) (pa_cons (pv 0) (pa_cons (pe_bltn (v := .ty "tuple") (by rfl) T.n_tuple (by decide +kernel) rfl) pa_nil))))) (pw_or (pt_cmpR (neK (K := K) hr rfl) (pe_callB (lenK (K := K) rfl) (by rfl) T.n_len (by decide +kernel) (pa_cons (pv 0) pa_nil)) pe_int (nomark _)) (pw_or1 (pt_not (pt_val (pe_callB (allK (K := K) rfl rfl) (by rfl) T.n_all (by decide +kernel) (pa_cons (pe_lc (own := [("one", 1)]) (by rfl) sc_is_show.nd (seqK (K := K) rfl (pv 0)) (blkOk_by (own := [("one", 1)]) (N := N_is_show) (sc := defScope s_is_show) (by decide +kernel)) (fun _ _ _ _ _ => (pg_name (i := 1) sc_is_show.nd rfl (Or.inl rfl))) (fun _ _ _ _ _ => pts_nil) (fun _ _ _ _ _ => (pe_call (ok_is_whole T) (hr.mono (by decide)) (by rfl) T.g_is_whole T.F_is_whole.kp (b_is_whole T) .nil pass0 (pa_cons (pv 1) pa_nil)))) pa_nil)))))))) (pss_one (ps_ret pe_bl)) pss_nil)
  (pss_one (ps_ret (pe_and (pe_chain3 op_le op_lt op_le pe_int (pe_ix (ixK (K := K) rfl) (pv 0) pe_int (fun _ _ => rfl)) (pe_ix (ixK (K := K) rfl) (pv 0) pe_int (fun _ _ => rfl)) (pe_glob (v := .int 24) (by rfl) T.c_DAY_days ⟨_, rfl⟩)) (pe_one (pe_chain op_le op_le pe_int (pe_ix (ixK (K := K) rfl) (pv 0) pe_int (fun _ _ => rfl)) (pe_glob (v := .int 60) (by rfl) T.c_MOST_WORTH ⟨_, rfl⟩))))))), body_of (M := N_is_show) (fun as R h => ?_) vs H Q E h⟩
  · obtain ⟨_, rfl, _⟩ := h; rfl
  · obtain ⟨d, rfl, hR⟩ := h
    by_cases ht : isA d "tuple" = true
    · obtain ⟨ds, rfl⟩ : ∃ ds, d = .tuple ds := by
        cases d with
        | tuple ds => exact ⟨ds, rfl⟩
        | _ => exact absurd ht (by simp [isA, isN, tyN])
      refine sd_seq (M := fun τ' => τ' = startS N_is_show [.dat (.tuple ds)] ∧ ds.length = 3 ∧ ds.all isWh = true) (sd_if (et_or (et_not (et_B (ed_isTup (ed_var rfl)))) fun _ => et_or (et_test (ed_neT nice_int (ed_lenT (ed_var rfl)) ed_int)) fun e =>
          et_not (et_B (ed_allF ds isWh (el_map ds id (fun x => .bool (isWh x)) (js := [1]) (ei_is (ei_anyT (ed_var (d := .tuple ds) rfl)) (by simp)) (by simp) (by simp at e; omega) fun x _ => ⟨_, tg_name 1, ed_call (ea1 (ed_var rfl)) ⟨x, rfl, rfl⟩⟩)))) (fun e => ?_) fun e => sd_next ?_) ?_
      · refine sd_ret ed_bl ?_
        rw [isShow_no] at hR
        · exact hR
        · rintro ⟨h1, h2⟩
          rw [h1, h2] at e
          simp [isA, isN, tyN] at e
      · simp [isA, isN, tyN] at e
        refine ⟨rfl, by omega, ?_⟩
        rw [List.all_eq_true]
        exact e.2
      · rintro _ ⟨rfl, h1, h2⟩
        obtain ⟨a, b, c, rfl⟩ := all3 h1 h2
        exact sd_ret (ed_andV (ed_leLtLe ed_int (ed_ixT (ed_var rfl) ed_int rfl) (ed_ixT (ed_var rfl) ed_int rfl) ed_int) fun _ => ed_leLe ed_int (ed_ixT (ed_var rfl) ed_int rfl) ed_int) hR
    · have hf : isA d "tuple" = false := by simpa using ht
      have : isShow d = false := by
        cases d with
        | tuple ds => exact absurd rfl ht
        | _ => rfl
      rw [this] at hR
      exact sd_seq (M := fun _ => False) (sd_if (b := true) (et_is (et_or (b := false) (et_not (et_B (ed_isTup (ed_var rfl)))) fun e => by rw [hf] at e; cases e) (by rw [hf]; rfl)) (fun _ => sd_ret ed_bl hR) fun e => by cases e) fun _ z => z.elim
def P_asked_tuners (as : List Sl) (R : Sl → Prop) : Prop := ∃ m : Int, as = [.dat (.int m)] ∧ (1 ≤ m ∧ m ≤ 3) ∧ R (.dat .none)
theorem ok_asked_tuners (T : Txt K mg) : FnOk P w K mg base CX0 2 T.fa_asked_tuners T.fd_asked_tuners A_asked_tuners (spF K P_asked_tuners) := by
  refine T.F_asked_tuners.ok sc_asked_tuners (spF_len (n := 1) fun as R h => ?_) fun cdv A outer s H vs Q E hr h => ⟨_, (pss_one (ps_if (PW.pt (pw_or (pt_not (pt_val (pe_call (ok_is_whole T) (hr.mono (by decide)) (by rfl) T.g_is_whole T.F_is_whole.kp (b_is_whole T) .nil pass0 (pa_cons (pv 0) pa_nil)))) (pw_or1 (pt_not (pt_chain op_le op_le pe_int (pv 0) pe_int))))) (pss_one ps_never) pss_nil)), body_of (M := N_asked_tuners) (fun as R h => ?_) vs H Q E h⟩
  · obtain ⟨_, rfl, _⟩ := h; rfl
  · obtain ⟨m, rfl, hm, hR⟩ := h
    exact sd_if (b := false) (et_is (et_or (et_not (et_B (ed_call (ea1 (ed_var rfl)) ⟨_, rfl, rfl⟩))) fun _ => et_not (et_test (ed_leLe ed_int (ed_var rfl) ed_int))) (by simp [isWh]; omega)) (fun e => by cases e) fun _ => sd_next hR
def P_asked_edges (as : List Sl) (R : Sl → Prop) : Prop := ∃ e : Int × Int, as = [.dat (dP e)] ∧ okE e ∧ R (.dat .none)
theorem ok_asked_edges (T : Txt K mg) : FnOk P w K mg base CX0 2 T.fa_asked_edges T.fd_asked_edges A_asked_edges (spF K P_asked_edges) := by
  refine T.F_asked_edges.ok sc_asked_edges (spF_len (n := 1) fun as R h => ?_) fun cdv A outer s H vs Q E hr h => ⟨_, (pss_one (ps_if (PW.pt (pw_or (pt_not (pt_val (pe_callB (isiK (K := K) rfl) (by rfl) T.n_isinstance (by decide +kernel) (pa_cons (pv 0) (pa_cons (pe_bltn (v := .ty "tuple") (by rfl) T.n_tuple (by decide +kernel) rfl) pa_nil))))) (pw_or (pt_cmpR (neK (K := K) hr rfl) (pe_callB (lenK (K := K) rfl) (by rfl) T.n_len (by decide +kernel) (pa_cons (pv 0) pa_nil)) pe_int (nomark _)) (pw_or1 (pt_not (pt_val (pe_callB (allK (K := K) rfl rfl) (by rfl) T.n_all (by decide +kernel) (pa_cons (pe_lc (own := [("one", 1)]) (by rfl) sc_asked_edges.nd (seqK (K := K) rfl (pv 0)) (blkOk_by (own := [("one", 1)]) (N := N_asked_edges) (sc := defScope s_asked_edges) (by decide +kernel)) (fun _ _ _ _ _ => (pg_name (i := 1) sc_asked_edges.nd rfl (Or.inl rfl))) (fun _ _ _ _ _ => pts_nil) (fun _ _ _ _ _ => (pe_and (pe_call (ok_is_whole T) (hr.mono (by decide)) (by rfl) T.g_is_whole T.F_is_whole.kp (b_is_whole T) .nil pass0 (pa_cons (pv 1) pa_nil)) (pe_one (pe_chain op_le op_le pe_int (pv 1) pe_int))))) pa_nil)))))))) (pss_one ps_never) pss_nil)), body_of (M := N_asked_edges) (fun as R h => ?_) vs H Q E h⟩
  · obtain ⟨_, rfl, _⟩ := h; rfl
  · obtain ⟨e, rfl, he, hR⟩ := h
    refine sd_if (b := false) (et_is (et_or (et_not (et_B (ed_isTup (ed_var rfl)))) fun _ => et_or (et_test (ed_neT nice_int (ed_lenT (ds := [.int e.1, .int e.2]) (ed_var rfl)) ed_int)) fun _ =>
      et_not (et_B (ed_allF [e.1, e.2] (fun x => decide (0 ≤ x ∧ x ≤ 2)) (el_map [e.1, e.2] PyData.int _ (js := [1]) (ei_anyT (ed_var rfl)) (by simp) (by simp) fun x _ => ⟨_, tg_name 1, ed_andV (a := true) (ed_call (ea1 (ed_var rfl)) ⟨_, rfl, rfl⟩) fun _ => ed_leLe ed_int (ed_var rfl) ed_int⟩)))) ?_) (fun e => by cases e) fun _ => sd_next hR
    obtain ⟨a, b, c, d⟩ := he
    simp [isA, isN, tyN, dP, a, b, c, d]
def P_asked_shows (as : List Sl) (R : Sl → Prop) : Prop := ∃ day : List Show, as = [.dat (dDay day)] ∧ okDay day ∧ R (.dat .none)
theorem ok_asked_shows (T : Txt K mg) : FnOk P w K mg base CX0 3 T.fa_asked_shows T.fd_asked_shows A_asked_shows (spF K P_asked_shows) := by
  refine T.F_asked_shows.ok sc_asked_shows (spF_len (n := 1) fun as R h => ?_) fun cdv A outer s H vs Q E hr h => ⟨_, (pss_one (ps_if (PW.pt (pw_or (pt_not (pt_val (pe_callB (isiK (K := K) rfl) (by rfl) T.n_isinstance (by decide +kernel) (pa_cons (pv 0) (pa_cons (pe_bltn (v := .ty "list") (by rfl) T.n_list (by decide +kernel) rfl) pa_nil))))) (pw_or (pt_cmpR op_gt (pe_callB (lenK (K := K) rfl) (by rfl) T.n_len (by decide +kernel) (pa_cons (pv 0) pa_nil)) (pe_glob (v := .int 10) (by rfl) T.c_MOST_SHOWS ⟨_, rfl⟩) (nomark _)) (pw_or1 (pt_not (pt_val (pe_callB (allK (K := K) rfl rfl) (by rfl) T.n_all (by decide +kernel) (pa_cons (pe_lc (own := [("one", 1)]) (by rfl) sc_asked_shows.nd (seqK (K := K) rfl (pv 0)) (blkOk_by (own := [("one", 1)]) (N := N_asked_shows) (sc := defScope s_asked_shows) (by decide +kernel)) (fun _ _ _ _ _ => (pg_name (i := 1) sc_asked_shows.nd rfl (Or.inl rfl))) (fun _ _ _ _ _ => pts_nil) (fun _ _ _ _ _ => (pe_call (ok_is_show T) (hr.mono (by decide)) (by rfl) T.g_is_show T.F_is_show.kp (b_is_show T) .nil pass0 (pa_cons (pv 1) pa_nil)))) pa_nil)))))))) (pss_one ps_never) pss_nil)), body_of (M := N_asked_shows) (fun as R h => ?_) vs H Q E h⟩
  · obtain ⟨_, rfl, _⟩ := h; rfl
  · obtain ⟨day, rfl, hd, hR⟩ := h
    refine sd_if (b := false) (et_is (et_or (et_not (et_B (ed_isLst (ed_var rfl)))) fun _ => et_or (et_test (ed_gt (ed_lenDay (ed_var rfl)) ed_int)) fun _ =>
      et_not (et_B (ed_allF day (fun s => isShow (dS s)) (el_map day dS _ (js := [1]) (ei_any (ed_var rfl)) (by simp) (by have := hd.1; omega) fun x _ => ⟨_, tg_name 1, ed_call (ea1 (ed_var rfl)) ⟨_, rfl, rfl⟩⟩)))) ?_) (fun e => by cases e) fun _ => sd_next hR
    have h1 : ¬ (10 : Int) < day.length := by have := hd.1; omega
    have h2 : (day.all fun s => isShow (dS s)) = true := List.all_eq_true.mpr fun s hs => isShow_dS (hd.2 s hs)
    rw [h2]
    simp [isA, isN, tyN, dDay, h1]
def P_are_places (as : List Sl) (R : Sl → Prop) : Prop := ∃ (xs : List PyData) (d : PyData), as = [.dat (.list xs), .dat d] ∧ (∀ ds, d = .list ds → ds.length ≤ 1000) ∧ R (.dat (.bool (arePl xs.length d)))
theorem ok_are_places (T : Txt K mg) : FnOk P w K mg base CX0 2 T.fa_are_places T.fd_are_places A_are_places (spF K P_are_places) := by
  refine T.F_are_places.ok sc_are_places (spF_len (n := 2) fun as R h => ?_) fun cdv A outer s H vs Q E hr h => ⟨_, (pss_cons (ps_if (PW.pt (pw_or (pt_not (pt_val (pe_callB (isiK (K := K) rfl) (by rfl) T.n_isinstance (by decide +kernel) (pa_cons (pv 1) (pa_cons (pe_bltn (v := .ty "list") (by rfl) T.n_list (by decide +kernel) rfl) pa_nil))))) (pw_or1 (pt_not (pt_val (pe_callB (allK (K := K) rfl rfl) (by rfl) T.n_all (by decide +kernel) (pa_cons (pe_lc (own := [("one", 2)]) (by rfl) sc_are_places.nd (seqK (K := K) rfl (pv 1)) (blkOk_by (own := [("one", 2)]) (N := N_are_places) (sc := defScope s_are_places) (by decide +kernel)) (fun _ _ _ _ _ => (pg_name (i := 2) sc_are_places.nd rfl (Or.inl rfl))) (fun _ _ _ _ _ => pts_nil) (fun _ _ _ _ _ => (pe_and (pe_call (ok_is_whole T) (hr.mono (by decide)) (by rfl) T.g_is_whole T.F_is_whole.kp (b_is_whole T) .nil pass0 (pa_cons (pv 2) pa_nil)) (pe_one (pe_chain op_le op_lt pe_int (pv 2) (pe_callB (lenK (K := K) rfl) (by rfl) T.n_len (by decide +kernel) (pa_cons (pv 0) pa_nil))))))) pa_nil))))))) (pss_one (ps_ret pe_bl)) pss_nil)
  (pss_one (ps_ret (pe_callB (allK (K := K) rfl rfl) (by rfl) T.n_all (by decide +kernel) (pa_cons (pe_lc (own := [("at", 3)]) (by rfl) sc_are_places.nd (pi_range2 (by rfl) T.n_range (pa_cons pe_int (pa_cons (pe_callB (lenK (K := K) rfl) (by rfl) T.n_len (by decide +kernel) (pa_cons (pv 1) pa_nil)) pa_nil))) (blkOk_by (own := [("at", 3)]) (N := N_are_places) (sc := defScope s_are_places) (by decide +kernel)) (fun _ _ _ _ _ => (pg_name (i := 3) sc_are_places.nd rfl (Or.inl rfl))) (fun _ _ _ _ _ => pts_nil) (fun _ _ _ _ _ => (pe_cmpR op_lt (pe_ix (ixK (K := K) rfl) (pv 1) (pe_op op_sub (pv 3) pe_int) (fun _ _ => rfl)) (pe_ix (ixK (K := K) rfl) (pv 1) (pv 3) (fun _ _ => rfl)) (nomark _)))) pa_nil))))), body_of (M := N_are_places) (fun as R h => ?_) vs H Q E h⟩
  · obtain ⟨_, _, rfl, _⟩ := h; rfl
  · obtain ⟨xs, d, rfl, hl, hR⟩ := h
    by_cases ht : isA d "list" = true
    · obtain ⟨ds, rfl⟩ : ∃ ds, d = .list ds := by
        cases d with
        | list ds => exact ⟨ds, rfl⟩
        | _ => exact absurd ht (by simp [isA, isN, tyN])
      have hl := hl ds rfl
      refine sd_seq (M := fun τ' => τ' = startS N_are_places [.dat (.list xs), .dat (.list ds)] ∧ ds.all (inPl xs.length) = true) (sd_if (et_or (et_not (et_B (ed_isLst (ed_var rfl)))) fun _ => et_not (et_B (ed_allF ds (inPl xs.length) (el_map ds id (fun x => .bool (inPl xs.length x)) (js := [2]) (ei_is (ei_any (ed_var (d := .list ds) rfl)) (by simp)) (by simp) (by omega) fun x _ => ⟨_, tg_name 2, ?_⟩)))) (fun e => ?_) fun e => sd_next ?_) ?_
      · refine ed_is (ed_andV (b := inPl xs.length x) (ed_call (ea1 (ed_var rfl)) ⟨x, rfl, rfl⟩) fun hx => ?_) ?_
        · cases x with
          | int k => exact ed_leLt ed_int (ed_var rfl) (ed_len (ed_var rfl))
          | _ => exact absurd hx (by simp [isWh])
        · cases x <;> rfl
      · have hb : ds.all (inPl xs.length) = false := by
          cases q : ds.all (inPl xs.length) with
          | true => rw [q] at e; simp [isA, isN, tyN] at e
          | false => rfl
        have hp : arePl xs.length (.list ds) = false := by
          show (ds.all (inPl xs.length) && _) = false
          rw [hb]; rfl
        rw [hp] at hR
        exact sd_ret ed_bl hR
      · refine ⟨rfl, ?_⟩
        cases q : ds.all (inPl xs.length) with
        | true => rfl
        | false => rw [q] at e; simp at e
      · rintro _ ⟨rfl, hb⟩
        have e := inPl_int hb
        generalize hns : ds.map toI = ns at e
        subst e
        have hp : arePl xs.length (.list (ns.map PyData.int)) = rising ns := by
          show ((ns.map PyData.int).all (inPl xs.length) && rising ((ns.map PyData.int).map toI)) = _
          rw [hb, toI_map]; rfl
        rw [hp] at hR
        have hln : ns.length ≤ 1000 := by simpa using hl
        refine sd_ret (ed_allF (List.range (ns.length - 1)) (fun (i : Nat) => decide (iAt ns (1 + (i : Int) - 1) < iAt ns (1 + (i : Int)))) (el_map (List.range (ns.length - 1)) (fun i => .int (1 + (i : Nat))) _ (js := [3]) (ei_is (ei_rng2 (ea2 ed_int (ed_lenI (ns := ns) (ed_var rfl))) (by omega) (by omega) (by omega) (by omega)) ?_) (by simp) (by simp; omega) fun i hi => ⟨_, tg_name 3, ?_⟩)) hR
        · unfold rngD
          have : ((ns.length : Int) - 1).toNat = ns.length - 1 := by omega
          rw [this]
        · have hi' := List.mem_range.mp hi
          exact ed_lt (ed_iat (ns := ns) (ed_var rfl) (ed_sub (ed_var rfl) ed_int) (by omega) (by omega)) (ed_iat (ns := ns) (ed_var rfl) (ed_var rfl) (by omega) (by omega))
    · have hf : isA d "list" = false := by simpa using ht
      have : arePl xs.length d = false := by
        cases d with
        | list ds => exact absurd rfl ht
        | _ => rfl
      rw [this] at hR
      exact sd_seq (M := fun _ => False) (sd_if (b := true) (et_is (et_or (b := false) (et_not (et_B (ed_isLst (ed_var rfl)))) fun e => by rw [hf] at e; cases e) (by rw [hf]; rfl)) (fun _ => sd_ret ed_bl hR) fun e => by cases e) fun _ z => z.elim
def P_asked_places (as : List Sl) (R : Sl → Prop) : Prop := ∃ (xs : List PyData) (d : PyData), as = [.dat (.list xs), .dat d] ∧ (∀ ds, d = .list ds → ds.length ≤ 1000) ∧ arePl xs.length d = true ∧ R (.dat .none)
theorem ok_asked_places (T : Txt K mg) : FnOk P w K mg base CX0 3 T.fa_asked_places T.fd_asked_places A_asked_places (spF K P_asked_places) := by
  refine T.F_asked_places.ok sc_asked_places (spF_len (n := 2) fun as R h => ?_) fun cdv A outer s H vs Q E hr h => ⟨_, (pss_one (ps_if (pt_not (pt_val (pe_call (ok_are_places T) (hr.mono (by decide)) (by rfl) T.g_are_places T.F_are_places.kp (b_are_places T) .nil pass0 (pa_cons (pv 0) (pa_cons (pv 1) pa_nil))))) (pss_one ps_never) pss_nil)), body_of (M := N_asked_places) (fun as R h => ?_) vs H Q E h⟩
  · obtain ⟨_, _, rfl, _⟩ := h; rfl
  · obtain ⟨xs, d, rfl, hl, hp, hR⟩ := h
    exact sd_if (b := false) (et_is (et_not (et_B (ed_call (ea2 (ed_var rfl) (ed_var rfl)) ⟨xs, d, rfl, hl, rfl⟩))) (by rw [hp]; rfl)) (fun e => by cases e) fun _ => sd_next hR
def P_asked_wishes (as : List Sl) (R : Sl → Prop) : Prop := ∃ (xs : List PyData) (rows : List (List Int)), as = [.dat (.list xs), .dat (dII rows)] ∧ rows.length ≤ 6 ∧ (∀ r ∈ rows, r.length ≤ 1000 ∧ arePl xs.length (dI r) = true ∧ r ≠ []) ∧ R (.dat .none)
theorem ok_asked_wishes (T : Txt K mg) : FnOk P w K mg base CX0 3 T.fa_asked_wishes T.fd_asked_wishes A_asked_wishes (spF K P_asked_wishes) := by
  refine T.F_asked_wishes.ok sc_asked_wishes (spF_len (n := 2) fun as R h => ?_) fun cdv A outer s H vs Q E hr h => ⟨_, (pss_cons (ps_if (PW.pt (pw_or (pt_not (pt_val (pe_callB (isiK (K := K) rfl) (by rfl) T.n_isinstance (by decide +kernel) (pa_cons (pv 1) (pa_cons (pe_bltn (v := .ty "list") (by rfl) T.n_list (by decide +kernel) rfl) pa_nil))))) (pw_or1 (pt_cmpR op_gt (pe_callB (lenK (K := K) rfl) (by rfl) T.n_len (by decide +kernel) (pa_cons (pv 1) pa_nil)) (pe_glob (v := .int 6) (by rfl) T.c_MOST_WISHES ⟨_, rfl⟩) (nomark _))))) (pss_one ps_never) pss_nil)
  (pss_one (ps_if (pt_not (pt_val (pe_callB (allK (K := K) rfl rfl) (by rfl) T.n_all (by decide +kernel) (pa_cons (pe_lc (own := [("row", 2)]) (by rfl) sc_asked_wishes.nd (seqK (K := K) rfl (pv 1)) (blkOk_by (own := [("row", 2)]) (N := N_asked_wishes) (sc := defScope s_asked_wishes) (by decide +kernel)) (fun _ _ _ _ _ => (pg_name (i := 2) sc_asked_wishes.nd rfl (Or.inl rfl))) (fun _ _ _ _ _ => pts_nil) (fun _ _ _ _ _ => (pe_and (pe_call (ok_are_places T) (hr.mono (by decide)) (by rfl) T.g_are_places T.F_are_places.kp (b_are_places T) .nil pass0 (pa_cons (pv 0) (pa_cons (pv 2) pa_nil))) (pe_one (pe_cmpR (neK (K := K) hr rfl) (pv 2) (pe_lst pa_nil) (nomark _)))))) pa_nil)))) (pss_one ps_never) pss_nil))), body_of (M := N_asked_wishes) (fun as R h => ?_) vs H Q E h⟩
  · obtain ⟨_, _, rfl, _⟩ := h; rfl
  · obtain ⟨xs, rows, rfl, hl, hr', hR⟩ := h
    refine sd_seq1 (sd_if (b := false) (et_is (et_or (et_not (et_B (ed_isLst (ed_var rfl)))) fun _ => et_test (ed_gt (ed_lenII (ed_var rfl)) ed_int)) ?_) (fun e => by cases e) fun _ => sd_next rfl) (sd_if (b := false) (et_is (et_not (et_B (ed_allF rows (fun r => arePl xs.length (dI r) && !decide (r = [])) (el_map rows dI _ (js := [2]) (ei_any (ed_var rfl)) (by simp) (by omega) fun r hr0 => ⟨_, tg_name 2, ed_andV (ed_call (ea2 (ed_var rfl) (ed_var rfl)) ⟨xs, dI r, rfl, ?_, rfl⟩) fun _ => ed_neT nice_dI (ed_var rfl) (el_lst (ds := []) ea_nil (by simp)).ed⟩)))) ?_) (fun e => by cases e) fun _ => sd_next hR)
    · have h1 : ¬ (6 : Int) < rows.length := by omega
      simp [isA, isN, tyN, dII, h1]
    · intro ds e
      cases e
      rw [List.length_map]
      exact (hr' r hr0).1
    · have : (rows.all fun r => arePl xs.length (dI r) && !decide (r = [])) = true := List.all_eq_true.mpr fun r hr0 => by
        obtain ⟨_, a, b⟩ := hr' r hr0
        rw [a]
        simp [b]
      rw [this]
      rfl
def P_asked_all (as : List Sl) (R : Sl → Prop) : Prop := ∃ (m : Int) (e : Int × Int) (day : List Show), as = [.dat (.int m), .dat (dP e), .dat (dDay day)] ∧ (1 ≤ m ∧ m ≤ 3) ∧ okE e ∧ okDay day ∧ R (.dat .none)
theorem ok_asked_all (T : Txt K mg) : FnOk P w K mg base CX0 4 T.fa_asked_all T.fd_asked_all A_asked_all (spF K P_asked_all) := by
  refine T.F_asked_all.ok sc_asked_all (spF_len (n := 3) fun as R h => ?_) fun cdv A outer s H vs Q E hr h => ⟨_, (pss_cons (ps_expr (pe_call (ok_asked_tuners T) (hr.mono (by decide)) (by rfl) T.g_asked_tuners T.F_asked_tuners.kp (b_asked_tuners T) .nil pass0 (pa_cons (pv 0) pa_nil)))
  (pss_cons (ps_expr (pe_call (ok_asked_edges T) (hr.mono (by decide)) (by rfl) T.g_asked_edges T.F_asked_edges.kp (b_asked_edges T) .nil pass0 (pa_cons (pv 1) pa_nil)))
  (pss_one (ps_expr (pe_call (ok_asked_shows T) (hr.mono (by decide)) (by rfl) T.g_asked_shows T.F_asked_shows.kp (b_asked_shows T) .nil pass0 (pa_cons (pv 2) pa_nil)))))), body_of (M := N_asked_all) (fun as R h => ?_) vs H Q E h⟩
  · obtain ⟨_, _, _, rfl, _⟩ := h; rfl
  · obtain ⟨m, e, day, rfl, hm, he, hd, hR⟩ := h
    exact sd_seq1 (sd_drop (ed_call (ea1 (ed_var rfl)) ⟨m, rfl, hm, rfl⟩) rfl) (sd_seq1 (sd_drop (ed_call (ea1 (ed_var rfl)) ⟨e, rfl, he, rfl⟩) rfl) (sd_drop (ed_call (ea1 (ed_var rfl)) ⟨day, rfl, hd, rfl⟩) hR))
def P_held_of (as : List Sl) (R : Sl → Prop) : Prop := ∃ (e : Int × Int) (s : Show), as = [.dat (dP e), .dat (dS s)] ∧ R (.dat (dP (held e s)))
theorem ok_held_of (T : Txt K mg) : FnOk P w K mg base CX0 1 T.fa_held_of T.fd_held_of A_held_of (spF K P_held_of) := by
  refine T.F_held_of.ok sc_held_of (spF_len (n := 2) fun as R h => ?_) fun cdv A outer s H vs Q E hr h => ⟨_, (pss_one (ps_ret (pe_tup (pa_cons (pe_callB (cr_mx2 rfl) (by rfl) T.n_max (by decide +kernel) (pa_cons pe_int (pa_cons (pe_op op_sub (pe_ix (ixK (K := K) rfl) (pv 1) pe_int (fun _ _ => rfl)) (pe_ix (ixK (K := K) rfl) (pv 0) pe_int (fun _ _ => rfl))) pa_nil))) (pa_cons (pe_callB (cr_mn2 rfl) (by rfl) T.n_min (by decide +kernel) (pa_cons (pe_glob (v := .int 24) (by rfl) T.c_DAY_answers ⟨_, rfl⟩) (pa_cons (pe_op op_addA (pe_ix (ixK (K := K) rfl) (pv 1) pe_int (fun _ _ => rfl)) (pe_ix (ixK (K := K) rfl) (pv 0) pe_int (fun _ _ => rfl))) pa_nil))) pa_nil))))), body_of (M := N_held_of) (fun as R h => ?_) vs H Q E h⟩
  · obtain ⟨_, _, rfl, _⟩ := h; rfl
  · obtain ⟨e, s, rfl, hR⟩ := h
    exact sd_ret (ed_pair (ed_max ed_int (ed_sub (ed_s0 (ed_var rfl)) (ed_p0 (ed_var rfl)))) (ed_min ed_int (ed_add (ed_s1 (ed_var rfl)) (ed_p1 (ed_var rfl))))) hR
def P_laid_of (as : List Sl) (R : Sl → Prop) : Prop := ∃ (m : Nat) (e : Int × Int) (day : List Show) (ps : List Int), as = [.dat (.int m), .dat (dP e), .dat (dDay day), .dat (dI ps)] ∧ m ≤ 100 ∧ okP day.length ps ∧ ps.length ≤ 1000 ∧ R (.dat (dRes (laidOf m e day ps)))
theorem ok_laid_of (T : Txt K mg) : FnOk P w K mg base CX0 2 T.fa_laid_of T.fd_laid_of A_laid_of (spF K P_laid_of) := by
  refine T.F_laid_of.ok sc_laid_of (spF_len (n := 4) fun as R h => ?_) fun cdv A outer s H vs Q E hr h => ⟨_, (pss_cons (ps_asg (pe_tup (pa_cons (pe_op op_mulA (pe_lst (pa_cons pe_int pa_nil)) (pv 0)) (pa_cons (pe_op op_mulA (pe_lst (pa_cons pe_int pa_nil)) (pe_callB (lenK (K := K) rfl) (by rfl) T.n_len (by decide +kernel) (pa_cons (pv 3) pa_nil))) pa_nil))) (tupK (K := K) (n := 2) rfl rfl (pgs_cons (pg_name (i := 4) sc_laid_of.nd rfl (Or.inr rfl)) (pgs_cons (pg_name (i := 5) sc_laid_of.nd rfl (Or.inl rfl)) pgs_nil))))
  (pss_cons (ps_set (i := 6) sc_laid_of.nd rfl (Or.inl rfl) (pe_callB (sortK (K := K) rfl hr rfl) (by rfl) T.n_sorted (by decide +kernel) (pa_cons (pe_lc (own := [("at", 7), ("place", 8)]) (by rfl) sc_laid_of.nd (enumK (K := K) rfl (by rfl) T.n_enumerate (pa_cons (pv 3) pa_nil)) (blkOk_by (own := [("at", 7), ("place", 8)]) (N := N_laid_of) (sc := defScope s_laid_of) (by decide +kernel)) (fun _ _ _ _ _ => (tupK (K := K) (n := 2) rfl rfl (pgs_cons (pg_name (i := 7) sc_laid_of.nd rfl (Or.inl rfl)) (pgs_cons (pg_name (i := 8) sc_laid_of.nd rfl (Or.inl rfl)) pgs_nil)))) (fun _ _ _ _ _ => pts_nil) (fun _ _ _ _ _ => (pe_tup (pa_cons (pe_call (ok_held_of T) (hr.mono (by decide)) (by rfl) T.g_held_of T.F_held_of.kp (b_held_of T) .nil pass0 (pa_cons (pv 1) (pa_cons (pe_ix (ixK (K := K) rfl) (pv 2) (pv 8) (fun _ _ => rfl)) pa_nil))) (pa_cons (pv 7) pa_nil))))) pa_nil)))
  (pss_cons (ps_for PassesOwn.never rfl (seqK (K := K) rfl (pv 6)) (tupK (K := K) (n := 2) rfl rfl (pgs_cons (pg_name (i := 9) sc_laid_of.nd rfl (Or.inr rfl)) (pgs_cons (pg_name (i := 7) sc_laid_of.nd rfl (Or.inl rfl)) pgs_nil))) (pss_cons (ps_setLc (i := 10) (own := [("tuner", 11)]) (by rfl) sc_laid_of.nd rfl rfl (sw_true rfl rfl rfl (by decide +kernel)) (pi_range1 (by rfl) T.n_range (pa_cons (pv 0) pa_nil)) (blkOk_by (own := [("tuner", 11)]) (N := N_laid_of) (sc := defScope s_laid_of) (by decide +kernel)) (fun _ _ _ _ _ => (pg_name (i := 11) sc_laid_of.nd rfl (Or.inl rfl))) (fun _ _ _ _ _ => (pts_one (pt_cmpR op_le (pe_ix (ixK (K := K) rfl) (pv 4) (pv 11) (fun _ _ => rfl)) (pe_ix (ixK (K := K) rfl) (pv 9) pe_int (fun _ _ => rfl)) (nomark _)))) (fun _ _ _ _ _ => (pv 11)))
  (pss_cons (ps_if (pt_cmpR (eqK (K := K) hr rfl) (pv 10) (pe_lst pa_nil) (nomark _)) (pss_one (ps_ret (pe_tup (pa_cons (pv 5) (pa_cons (pe_ix (ixK (K := K) rfl) (pv 9) pe_int (fun _ _ => rfl)) pa_nil))))) pss_nil)
  (pss_cons (ps_asg (pe_ix (ixK (K := K) rfl) (pv 10) pe_int (fun _ _ => rfl)) (pg_sub (pv 5) (pv 7) set_list))
  (pss_one (ps_asg (pe_ix (ixK (K := K) rfl) (pv 9) pe_int (fun _ _ => rfl)) (pg_sub (pv 4) (pe_ix (ixK (K := K) rfl) (pv 10) pe_int (fun _ _ => rfl)) set_list)))))))
  (pss_one (ps_ret (pe_tup (pa_cons (pv 5) (pa_cons pe_non pa_nil)))))))), body_of (M := N_laid_of) (fun as R h => ?_) vs H Q E h⟩
  · obtain ⟨_, _, _, _, rfl, _⟩ := h; rfl
  · obtain ⟨m, e, day, ps, rfl, hm, hp, hl, hR⟩ := h
    refine sd_seq1 (sd_mk2 (.own (el_repI ed_int (ed_var rfl) (by omega) (by omega))) (.own (el_repI ed_int (ed_lenI (ed_var rfl)) (by omega) (by omega))) rfl) ?_
    refine sd_seq1 (sd_asg (EL.ed (el_is (el_sort (EL.ed (el_is (el_map ps.zipIdx (fun x => .tuple [.int (x.2 : Nat), .int x.1]) (fun x => dLn (held e (shAt day x.1), (x.2 : Int))) (js := [7, 8]) (ei_is (ei_enum (ea1 (ed_var rfl))) (enumD_map PyData.int ps)) (by decide) (by rw [List.length_zipIdx]; omega) fun x hx => ⟨_, tg2, ed_tup (ds := [_, _]) (ea2 (ed_call (ea2 (ed_var rfl) (ed_day (ed_var rfl) (ed_var rfl) (hp x.1 (zipIdx_mem hx).1).1 (hp x.1 (zipIdx_mem hx).1).2)) ⟨_, _, rfl, rfl⟩) (ed_var rfl)) (by simp)⟩)
      (show _ = (lineOf e day ps).map dLn by rw [lineOf_eq, List.map_map]; rfl))) (dLn_alike _) (dLn_sortable _) (dLn_depth _)) (sort_dLn _))) rfl) ?_
    generalize hline : (lineOf e day ps).mergeSort leL = line
    have hat : ∀ x ∈ line, 0 ≤ x.2 ∧ x.2 < ps.length := fun x hx => line_at (by rw [hline]; exact hx)
    have hres : laidGo m line (List.replicate m 0) (List.replicate ps.length 0) = laidOf m e day ps := by unfold laidOf; rw [hline]
    refine sd_seq (M := fun τ' => ∃ (free found : List Int) (s7 s8 s9 s10 s11 : Sl), τ' = [.dat (.int m), .dat (dP e), .dat (dDay day), .dat (dI ps), .own (free.map PyData.int), .own (found.map PyData.int), .dat (.list (line.map dLn)), s7, s8, s9, s10, s11] ∧ laidOf m e day ps = (found, none))
      (sd_for (fun i τ' => ∃ (free found : List Int) (s7 s8 s9 s10 s11 : Sl), τ' = [.dat (.int m), .dat (dP e), .dat (dDay day), .dat (dI ps), .own (free.map PyData.int), .own (found.map PyData.int), .dat (.list (line.map dLn)), s7, s8, s9, s10, s11] ∧ free.length = m ∧ found.length = ps.length ∧ laidGo m (line.drop i) free found = laidOf m e day ps)
        (ei_any (ed_var rfl)) ⟨List.replicate m 0, List.replicate ps.length 0, .unk, .unk, .unk, .unk, .unk, by simp [startS, List.replicate, List.set, dRes], by simp, by simp, hres⟩ ?turn ?done) ?rest
    case turn =>
      rintro i d τ1 hd ⟨free, found, s7, s8, s9, s10, s11, rfl, hf, hfo, hgo⟩
      obtain ⟨x, hx, rfl⟩ : ∃ x, line[i]? = some x ∧ d = dLn x := by
        rw [List.getElem?_map] at hd
        cases q : line[i]? with
        | none => rw [q] at hd; cases hd
        | some x => rw [q] at hd; cases hd; exact ⟨x, rfl, rfl⟩
      obtain ⟨a0, a1⟩ := hat x (List.mem_of_getElem? hx)
      have hdrop : line.drop i = x :: line.drop (i + 1) := by
        obtain ⟨hi, he⟩ := List.getElem?_eq_some_iff.mp hx
        rw [← he]
        exact List.drop_eq_getElem_cons hi
      rw [hdrop] at hgo
      refine ⟨[9, 7], _, tg2, ?_⟩
      refine sd_seq1 (sd_asgL (el_is (el_filt (List.range m) (fun i => .int (0 + (i : Nat))) (fun i => .int (0 + (i : Nat))) (fun o => decide (getI free o ≤ x.1.1)) (js := [11]) (ei_rngN (ea1 (ed_var rfl)) (by omega)) (by decide) (by simp; omega) fun o ho => ⟨_, tg_name 11, et_frz 4 rfl (et_test (ed_is (ed_le (ed_iat (ns := free) (ed_var rfl) (ed_var rfl) (by omega) (by have := List.mem_range.mp ho; omega)) (ed_p0 (e := x.1) (ed_var rfl))) ?_)), fun _ => ed_var rfl⟩) (show _ = ((opens m free x.1.1).map fun (o : Nat) => (o : Int)).map PyData.int from ?_)) rfl) ?_
      · show PyData.bool (decide (iAt free (0 + (o : Int)) ≤ x.1.1)) = _
        have : iAt free (0 + (o : Int)) = getI free o := by unfold iAt getI; rw [Int.zero_add, Int.toNat_natCast]
        rw [this]
      · rw [List.map_map]
        refine List.map_congr_left fun o _ => ?_
        show PyData.int (0 + (o : Int)) = .int (o : Int)
        rw [Int.zero_add]
      · unfold laidGo at hgo
        refine sd_seq (M := fun τ' => ∃ o os, opens m free x.1.1 = o :: os ∧ τ' = [.dat (.int m), .dat (dP e), .dat (dDay day), .dat (dI ps), .own (free.map PyData.int), .own (found.map PyData.int), .dat (.list (line.map dLn)), .dat (.int x.2), s8, .dat (dP x.1), .own (((opens m free x.1.1).map fun (o : Nat) => (o : Int)).map PyData.int), s11]) (sd_if (et_frz 10 rfl (et_test (ed_eqT nice_dI (a := (opens m free x.1.1).map fun (o : Nat) => (o : Int)) (b := []) (ed_var rfl) (el_lst (ds := []) ea_nil (by simp)).ed))) (fun hb => ?_) fun hb => sd_next ?_) ?_
        · have hnil : opens m free x.1.1 = [] := by simpa using hb
          rw [hnil] at hgo
          refine sd_frz (i := 5) rfl (sd_ret (ed_tup (ds := [_, _]) (ea2 (ed_var rfl) (ed_p0 (e := x.1) (ed_var rfl))) (by simp)) ?_)
          rw [← hgo] at hR
          exact hR
        · have hne : opens m free x.1.1 ≠ [] := by
            intro z
            rw [z] at hb
            simp at hb
          cases q : opens m free x.1.1 with
          | nil => exact absurd q hne
          | cons o os => exact ⟨o, os, rfl, by rw [← q]; rfl⟩
        · rintro _ ⟨o, os, ho, rfl⟩
          rw [ho] at hgo
          have om : o < m := (mem_opens.mp (show o ∈ opens m free x.1.1 by rw [ho]; simp)).1
          have o0 : ∀ {τ : Sls}, τ[10]? = some (.own (((opens m free x.1.1).map fun (o : Nat) => (o : Int)).map PyData.int)) → ED K (tOp (rIxA K) (tVar 10) (tC (.int 0))) τ (.int (o : Int)) := fun {τ} ht => ed_frz 10 ht (ed_is (ed_ixL (ds := ((opens m free x.1.1).map fun (o : Nat) => (o : Int)).map PyData.int) (ed_var (by
            have : 10 < τ.length := by
              by_cases c : 10 < τ.length
              · exact c
              · rw [List.getElem?_eq_none (by omega)] at ht; cases ht
            rw [List.getElem?_set_self this])) ed_int (by rw [ho]; exact atI_nat (j := 0) rfl)) rfl)
          refine sd_seq1 (sd_put (i := 5) (ds := found.map PyData.int) (k := x.2) (j := x.2.toNat) rfl (o0 rfl) (ed_var rfl) (ixN_in a0 (by rw [List.length_map, hfo]; exact a1)) rfl) ?_
          refine sd_put (i := 4) (ds := free.map PyData.int) (k := (o : Int)) (j := o) rfl (ed_p1 (e := x.1) (ed_var rfl)) (o0 rfl) (by rw [ixN_in (by omega) (by rw [List.length_map, hf]; omega), Int.toNat_natCast]) ?_
          refine ⟨free.set o x.1.2, found.set x.2.toNat (o : Int), ?a, ?b, ?c, ?d, ?f, ?eq, by rw [List.length_set]; exact hf, by rw [List.length_set]; exact hfo, hgo⟩
          case eq =>
            rw [List.map_set, List.map_set]
            rfl
    case done =>
      rintro τ1 ⟨free, found, s7, s8, s9, s10, s11, rfl, hf, hfo, hgo⟩
      refine ⟨free, found, s7, s8, s9, s10, s11, rfl, ?_⟩
      rw [List.length_map, List.drop_length] at hgo
      rw [← hgo]
      rfl
    case rest =>
      rintro _ ⟨free, found, s7, s8, s9, s10, s11, rfl, hq⟩
      rw [hq] at hR
      exact sd_frz (i := 5) rfl (sd_ret (ed_tup (ds := [_, _]) (ea2 (ed_var rfl) ed_non) (by simp)) hR)
def P_kept_of (as : List Sl) (R : Sl → Prop) : Prop := ∃ (m : Nat) (e : Int × Int) (day : List Show) (rows : List (List Int)), as = [.dat (.int m), .dat (dP e), .dat (dDay day), .dat (dII rows)] ∧ m ≤ 100 ∧ day.length ≤ 20 ∧ rows.length ≤ 1000 ∧ (∀ r ∈ rows, okR day.length r) ∧ R (.own ((keptOf m e day rows).map PyData.bool))
theorem ok_kept_of (T : Txt K mg) : FnOk P w K mg base CX0 3 T.fa_kept_of T.fd_kept_of A_kept_of (spF K P_kept_of) := by
  refine T.F_kept_of.ok sc_kept_of (spF_len (n := 4) fun as R h => ?_) fun cdv A outer s H vs Q E hr h => ⟨_, (pss_cons (ps_par (i := 4) (j := 5) rfl sc_kept_of.nd rfl rfl (by decide) rfl rfl (pa_cons (pe_lst pa_nil) (pa_cons (pe_lst pa_nil) pa_nil)) rfl)
  (pss_cons (ps_for PassesOwn.never rfl (seqK (K := K) rfl (pv 3)) (pg_name (i := 6) sc_kept_of.nd rfl (Or.inl rfl)) (pss_cons (ps_set (i := 7) sc_kept_of.nd rfl (Or.inl rfl) (pe_callB (sortSetK (w := w) rfl rfl) (by rfl) T.n_sorted (by decide +kernel) (pa_cons (pe_callTy (setLK (K := K) (w := w) rfl rfl rfl) (by rfl) T.n_set (by decide +kernel) (pa_cons (pe_op op_addA (pv 5) (pv 6)) pa_nil)) pa_nil)))
  (pss_cons (ps_set (i := 8) sc_kept_of.nd rfl (Or.inl rfl) (pe_cmpR op_isNn (pe_ix (ixK (K := K) rfl) (pe_call (ok_laid_of T) (hr.mono (by decide)) (by rfl) T.g_laid_of T.F_laid_of.kp (b_laid_of T) .nil pass0 (pa_cons (pv 0) (pa_cons (pv 1) (pa_cons (pv 2) (pa_cons (pv 7) pa_nil))))) pe_int (fun _ _ => rfl)) pe_non (nomark _)))
  (pss_cons (ps_set (i := 5) sc_kept_of.nd rfl (Or.inl rfl) (pe_ifExp (pt_val (pv 8)) (pv 7) (pv 5)))
  (pss_one (ps_expr (bmK (K := K) rfl PySem.F.plainAttrs_list PySem.F.slot_list_append PySem.F.type_list_append mt_append (pv 4) (pa_cons (pv 8) pa_nil))))))))
  (pss_one (ps_ret (pv 4))))), body_of (M := N_kept_of) (fun as R h => ?_) vs H Q E h⟩
  · obtain ⟨_, _, _, _, rfl, _⟩ := h; rfl
  · obtain ⟨m, e, day, rows, rfl, hm, hd, hl, hrow, hR⟩ := h
    refine sd_seq1 (sd_par (.own (el_lst (ds := []) ea_nil (by simp))) (.dat ed_nil) rfl) ?_
    refine sd_seq (M := fun τ' => ∃ (s5 s6 s7 s8 : Sl), τ' = [.dat (.int m), .dat (dP e), .dat (dDay day), .dat (dII rows), .own ((keptOf m e day rows).map PyData.bool), s5, s6, s7, s8])
      (sd_for (fun i τ' => ∃ (found : List Bool) (sm : List Int) (s6 s7 s8 : Sl), τ' = [.dat (.int m), .dat (dP e), .dat (dDay day), .dat (dII rows), .own (found.map PyData.bool), .dat (dI sm), s6, s7, s8] ∧ okR day.length sm ∧ found.length = i ∧ found ++ keptGo m e day (rows.drop i) sm = keptOf m e day rows)
        (ei_any (ed_var rfl)) ⟨[], [], .unk, .unk, .unk, rfl, ⟨fun p hp => (by cases hp), List.Pairwise.nil⟩, rfl, rfl⟩ ?turn ?done) ?rest
    case turn =>
      rintro i d τ1 hd' ⟨found, sm, s6, s7, s8, rfl, hsm, hfl, hgo⟩
      obtain ⟨row, hx, rfl⟩ := map_at hd'
      have hr0 := hrow row (List.mem_of_getElem? hx)
      have hil : i < rows.length := (List.getElem?_eq_some_iff.mp hx).1
      rw [drop_at hx] at hgo
      unfold keptGo at hgo
      have ok := okR_sset hsm.1 hr0.1
      have l1 := okR_len hsm
      have l2 := okR_len hr0
      have l3 := okR_len ok
      refine ⟨[6], _, tg_name 6, ?_⟩
      refine sd_seq1 (sd_asg (el_sortSet (ns := sm ++ row) (ms := sset (sm ++ row)) (ed_is (el_cat (ed_var rfl) (ed_var rfl) (by simp; omega)).ed (by rw [List.map_append])) (by simp; omega) (sset_pw _) fun k => sset_mem).ed rfl) ?_
      refine sd_seq1 (sd_asg (d := .bool (fits m e day (sset (sm ++ row)))) (ed_is (ed_isN (ed_ixT (ed_call (ea_cons (ed_var rfl) (ea_cons (ed_var rfl) (ea2 (ed_var rfl) (ed_var rfl)))) ⟨m, e, day, sset (sm ++ row), rfl, hm, ok.1, by omega, rfl⟩) ed_int rfl)) (congrArg PyData.bool (isNone_dO _))) rfl) ?_
      refine sd_seq1 (τ1 := [.dat (.int m), .dat (dP e), .dat (dDay day), .dat (dII rows), .own (found.map PyData.bool), .dat (dI (if fits m e day (sset (sm ++ row)) = true then sset (sm ++ row) else sm)), .dat (dI row), .dat (dI (sset (sm ++ row))), .dat (.bool (fits m e day (sset (sm ++ row))))]) (sd_asg (d := dI (if fits m e day (sset (sm ++ row)) = true then sset (sm ++ row) else sm)) (ed_if (et_B (ed_var rfl)) (fun c => ed_is (ed_var rfl) (by rw [if_pos c]; rfl)) fun c => ed_is (ed_var rfl) (by rw [c, if_neg Bool.false_ne_true])) rfl) ?_
      refine sd_append (i := 4) rfl (ed_var rfl) (by simp; omega) ⟨found ++ [fits m e day (sset (sm ++ row))], if fits m e day (sset (sm ++ row)) = true then sset (sm ++ row) else sm, .dat (dI row), .dat (dI (sset (sm ++ row))), .dat (.bool (fits m e day (sset (sm ++ row)))), ?_, ?_, by simp [hfl], ?_⟩
      · rw [List.map_append]; rfl
      · by_cases c : fits m e day (sset (sm ++ row)) = true
        · rw [if_pos c]; exact ok
        · rw [if_neg c]; exact hsm
      · rw [List.append_assoc]
        exact hgo
    case done =>
      rintro τ1 ⟨found, sm, s6, s7, s8, rfl, hsm, hfl, hgo⟩
      have e1 : rows.drop (rows.map dI).length = [] := by rw [List.length_map]; exact List.drop_length
      rw [e1] at hgo
      unfold keptGo at hgo
      rw [List.append_nil] at hgo
      exact ⟨.dat (dI sm), s6, s7, s8, by rw [← hgo]⟩
    case rest =>
      rintro _ ⟨s5, s6, s7, s8, rfl⟩
      exact sd_retO rfl hR
def P_kept (as : List Sl) (R : Sl → Prop) : Prop := ∃ (m : Nat) (e : Int × Int) (day : List Show) (rows : List (List Int)), as = [.dat (.int m), .dat (dP e), .dat (dDay day), .dat (dII rows)] ∧ (1 ≤ m ∧ m ≤ 3) ∧ okE e ∧ okDay day ∧ rows.length ≤ 6 ∧ (∀ r ∈ rows, okR day.length r ∧ r ≠ []) ∧ R (.own ((keptOf m e day rows).map PyData.bool))
theorem ok_kept (T : Txt K mg) : FnOk P w K mg base CX0 5 T.fa_kept T.fd_kept A_kept (spF K P_kept) := by
  refine T.F_kept.ok sc_kept (spF_len (n := 4) fun as R h => ?_) fun cdv A outer s H vs Q E hr h => ⟨_, (pss_cons (ps_expr (pe_call (ok_asked_all T) (hr.mono (by decide)) (by rfl) T.g_asked_all T.F_asked_all.kp (b_asked_all T) .nil pass0 (pa_cons (pv 0) (pa_cons (pv 1) (pa_cons (pv 2) pa_nil)))))
  (pss_cons (ps_expr (pe_call (ok_asked_wishes T) (hr.mono (by decide)) (by rfl) T.g_asked_wishes T.F_asked_wishes.kp (b_asked_wishes T) .nil pass0 (pa_cons (pv 2) (pa_cons (pv 3) pa_nil))))
  (pss_one (ps_ret (pe_call (ok_kept_of T) (hr.mono (by decide)) (by rfl) T.g_kept_of T.F_kept_of.kp (b_kept_of T) .nil pass0 (pa_cons (pv 0) (pa_cons (pv 1) (pa_cons (pv 2) (pa_cons (pv 3) pa_nil))))))))), body_of (M := N_kept) (fun as R h => ?_) vs H Q E h⟩
  · obtain ⟨_, _, _, _, rfl, _⟩ := h; rfl
  · obtain ⟨m, e, day, rows, rfl, hm, he, hd, hl, hrow, hR⟩ := h
    refine sd_seq1 (sd_drop (ed_call (ea_cons (ed_var rfl) (ea2 (ed_var rfl) (ed_var rfl))) ⟨m, e, day, rfl, by omega, he, hd, rfl⟩) rfl) ?_
    refine sd_seq1 (sd_drop (ed_call (ea2 (ed_var rfl) (ed_var rfl)) ⟨day.map dS, rows, rfl, hl, fun r hr0 => ?_, rfl⟩) rfl) ?_
    · have := okR_len (hrow r hr0).1
      have := hd.1
      exact ⟨by omega, by rw [List.length_map]; exact arePl_ok (hrow r hr0).1, (hrow r hr0).2⟩
    · exact sd_retL (el_call (ea_cons (ed_var rfl) (ea_cons (ed_var rfl) (ea2 (ed_var rfl) (ed_var rfl)))) ⟨m, e, day, rows, rfl, by omega, by have := hd.1; omega, by omega, fun r hr0 => (hrow r hr0).1, rfl⟩) hR
def P_moved_of (as : List Sl) (R : Sl → Prop) : Prop := ∃ (day : List Show) (p b : Int), as = [.dat (dDay day), .dat (.int p), .dat (.int b)] ∧ day.length ≤ 1000 ∧ 0 ≤ p ∧ p < day.length ∧ R (.own ((movedOf day p b).map dS))
theorem ok_moved_of (T : Txt K mg) : FnOk P w K mg base CX0 1 T.fa_moved_of T.fd_moved_of A_moved_of (spF K P_moved_of) := by
  refine T.F_moved_of.ok sc_moved_of (spF_len (n := 3) fun as R h => ?_) fun cdv A outer s H vs Q E hr h => ⟨_, (pss_cons (ps_asg (pe_ix (ixK (K := K) rfl) (pv 0) (pv 1) (fun _ _ => rfl)) (tupK (K := K) (n := 3) rfl rfl (pgs_cons (pg_name (i := 3) sc_moved_of.nd rfl (Or.inl rfl)) (pgs_cons (pg_name (i := 4) sc_moved_of.nd rfl (Or.inl rfl)) (pgs_cons (pg_name (i := 5) sc_moved_of.nd rfl (Or.inl rfl)) pgs_nil)))))
  (pss_one (ps_ret (pe_op op_addA (pe_op op_addA (pe_slice (slK (K := K) rfl) (pv 0) po_none (po_some (pv 1))) (pe_lst (pa_cons (pe_tup (pa_cons (pe_op op_addA (pv 3) (pv 2)) (pa_cons (pe_op op_addA (pv 4) (pv 2)) (pa_cons (pv 5) pa_nil)))) pa_nil))) (pe_slice (slK (K := K) rfl) (pv 0) (po_some (pe_op op_addA (pv 1) pe_int)) po_none))))), body_of (M := N_moved_of) (fun as R h => ?_) vs H Q E h⟩
  · obtain ⟨_, _, _, rfl, _⟩ := h; rfl
  · obtain ⟨day, p, b, rfl, hl, h0, h1, hR⟩ := h
    refine sd_seq1 (sd_asgT (ed_day (ed_var rfl) (ed_var rfl) h0 h1) tg3 rfl) ?_
    refine sd_retL (el_is (el_cat (el_cat (el_sl (ed_var rfl) eo_none (eo_some (ed_var rfl))).ed (el_lst (ds := [dS (mvS (shAt day p) b)]) (ea1 (ed_trip (ed_add (ed_var rfl) (ed_var rfl)) (ed_add (ed_var rfl) (ed_var rfl)) (ed_var rfl))) (by simp)).ed ?_).ed (el_sl (ed_var rfl) (eo_some (ed_add (ed_var rfl) ed_int)) eo_none).ed ?_) ?_) hR
    · rw [cutD_take h0]; simp; omega
    · rw [cutD_take h0, cutD_drop (by omega)]; simp; omega
    · rw [cutD_take h0, cutD_drop (by omega)]
      have e : (p + 1).toNat = p.toNat + 1 := by omega
      rw [e, set_cut (by rw [List.length_map]; omega)]
      unfold movedOf
      rw [List.map_set]
def P_asked_move (as : List Sl) (R : Sl → Prop) : Prop := ∃ (day : List Show) (p b : Int), as = [.dat (dDay day), .dat (.int p), .dat (.int b)] ∧ 0 ≤ p ∧ p < day.length ∧ 0 ≤ (shAt day p).1 + b ∧ (shAt day p).2.1 + b ≤ 24 ∧ R (.dat .none)
theorem ok_asked_move (T : Txt K mg) : FnOk P w K mg base CX0 4 T.fa_asked_move T.fd_asked_move A_asked_move (spF K P_asked_move) := by
  refine T.F_asked_move.ok sc_asked_move (spF_len (n := 3) fun as R h => ?_) fun cdv A outer s H vs Q E hr h => ⟨_, (pss_cons (ps_expr (pe_call (ok_asked_places T) (hr.mono (by decide)) (by rfl) T.g_asked_places T.F_asked_places.kp (b_asked_places T) .nil pass0 (pa_cons (pv 0) (pa_cons (pe_lst (pa_cons (pv 1) pa_nil)) pa_nil))))
  (pss_one (ps_if (PW.pt (pw_or (pt_not (pt_val (pe_call (ok_is_whole T) (hr.mono (by decide)) (by rfl) T.g_is_whole T.F_is_whole.kp (b_is_whole T) .nil pass0 (pa_cons (pv 2) pa_nil)))) (pw_or (pt_cmpR op_lt (pe_op op_addA (pe_ix (ixK (K := K) rfl) (pe_ix (ixK (K := K) rfl) (pv 0) (pv 1) (fun _ _ => rfl)) pe_int (fun _ _ => rfl)) (pv 2)) pe_int (nomark _)) (pw_or1 (pt_cmpR op_gt (pe_op op_addA (pe_ix (ixK (K := K) rfl) (pe_ix (ixK (K := K) rfl) (pv 0) (pv 1) (fun _ _ => rfl)) pe_int (fun _ _ => rfl)) (pv 2)) pe_int (nomark _)))))) (pss_one ps_never) pss_nil))), body_of (M := N_asked_move) (fun as R h => ?_) vs H Q E h⟩
  · obtain ⟨_, _, _, rfl, _⟩ := h; rfl
  · obtain ⟨day, p, b, rfl, h0, h1, b0, b1, hR⟩ := h
    refine sd_seq1 (sd_drop (ed_call (ea2 (ed_var rfl) (el_lst (ds := [.int p]) (ea1 (ed_var rfl)) (by simp)).ed) ⟨day.map dS, dI [p], rfl, fun ds e => by cases e; simp, ?_, rfl⟩) rfl) ?_
    · rw [List.length_map]
      refine arePl_ok ⟨fun q hq => ?_, List.pairwise_singleton _ _⟩
      have : q = p := by simpa using hq
      subst this
      exact ⟨h0, h1⟩
    · refine sd_if (b := false) (et_is (et_or (et_not (et_B (ed_call (ea1 (ed_var rfl)) ⟨_, rfl, rfl⟩))) fun _ => et_or (et_test (ed_lt (ed_add (ed_s0 (ed_day (ed_var rfl) (ed_var rfl) h0 h1)) (ed_var rfl)) ed_int)) fun _ => et_test (ed_gt (ed_add (ed_s1 (ed_day (ed_var rfl) (ed_var rfl) h0 h1)) (ed_var rfl)) ed_int)) ?_) (fun e => by cases e) fun _ => sd_next hR
      simp [isWh]
      omega
def P_moved (as : List Sl) (R : Sl → Prop) : Prop := ∃ (day : List Show) (p b : Int), as = [.dat (dDay day), .dat (.int p), .dat (.int b)] ∧ okDay day ∧ 0 ≤ p ∧ p < day.length ∧ 0 ≤ (shAt day p).1 + b ∧ (shAt day p).2.1 + b ≤ 24 ∧ R (.own ((movedOf day p b).map dS))
theorem ok_moved (T : Txt K mg) : FnOk P w K mg base CX0 5 T.fa_moved T.fd_moved A_moved (spF K P_moved) := by
  refine T.F_moved.ok sc_moved (spF_len (n := 3) fun as R h => ?_) fun cdv A outer s H vs Q E hr h => ⟨_, (pss_cons (ps_expr (pe_call (ok_asked_shows T) (hr.mono (by decide)) (by rfl) T.g_asked_shows T.F_asked_shows.kp (b_asked_shows T) .nil pass0 (pa_cons (pv 0) pa_nil)))
  (pss_cons (ps_expr (pe_call (ok_asked_move T) (hr.mono (by decide)) (by rfl) T.g_asked_move T.F_asked_move.kp (b_asked_move T) .nil pass0 (pa_cons (pv 0) (pa_cons (pv 1) (pa_cons (pv 2) pa_nil)))))
  (pss_one (ps_ret (pe_call (ok_moved_of T) (hr.mono (by decide)) (by rfl) T.g_moved_of T.F_moved_of.kp (b_moved_of T) .nil pass0 (pa_cons (pv 0) (pa_cons (pv 1) (pa_cons (pv 2) pa_nil)))))))), body_of (M := N_moved) (fun as R h => ?_) vs H Q E h⟩
  · obtain ⟨_, _, _, rfl, _⟩ := h; rfl
  · obtain ⟨day, p, b, rfl, hd, h0, h1, b0, b1, hR⟩ := h
    refine sd_seq1 (sd_drop (ed_call (ea1 (ed_var rfl)) ⟨day, rfl, hd, rfl⟩) rfl) ?_
    refine sd_seq1 (sd_drop (ed_call (ea_cons (ed_var rfl) (ea2 (ed_var rfl) (ed_var rfl))) ⟨day, p, b, rfl, h0, h1, b0, b1, rfl⟩) rfl) ?_
    exact sd_retL (el_call (ea_cons (ed_var rfl) (ea2 (ed_var rfl) (ed_var rfl))) ⟨day, p, b, rfl, by have := hd.1; omega, h0, h1, rfl⟩) hR
def P_changes (as : List Sl) (R : Sl → Prop) : Prop := ∃ (m : Nat) (e : Int × Int) (day : List Show) (rows : List (List Int)) (p b : Int), as = [.dat (.int m), .dat (dP e), .dat (dDay day), .dat (dII rows), .dat (.int p), .dat (.int b)] ∧ (1 ≤ m ∧ m ≤ 3) ∧ okE e ∧ okDay day ∧ rows.length ≤ 6 ∧ (∀ r ∈ rows, okR day.length r ∧ r ≠ []) ∧ 0 ≤ p ∧ p < day.length ∧ 0 ≤ (shAt day p).1 + b ∧ (shAt day p).2.1 + b ≤ 24 ∧ R (.own ((changeOf (keptOf m e day rows) (keptOf m e (movedOf day p b) rows)).map dC))
theorem ok_changes (T : Txt K mg) : FnOk P w K mg base CX0 5 T.fa_changes T.fd_changes A_changes (spF K P_changes) := by
  refine T.F_changes.ok sc_changes (spF_len (n := 6) fun as R h => ?_) fun cdv A outer s H vs Q E hr h => ⟨_, (pss_cons (ps_expr (pe_call (ok_asked_all T) (hr.mono (by decide)) (by rfl) T.g_asked_all T.F_asked_all.kp (b_asked_all T) .nil pass0 (pa_cons (pv 0) (pa_cons (pv 1) (pa_cons (pv 2) pa_nil)))))
  (pss_cons (ps_expr (pe_call (ok_asked_wishes T) (hr.mono (by decide)) (by rfl) T.g_asked_wishes T.F_asked_wishes.kp (b_asked_wishes T) .nil pass0 (pa_cons (pv 2) (pa_cons (pv 3) pa_nil))))
  (pss_cons (ps_expr (pe_call (ok_asked_move T) (hr.mono (by decide)) (by rfl) T.g_asked_move T.F_asked_move.kp (b_asked_move T) .nil pass0 (pa_cons (pv 2) (pa_cons (pv 4) (pa_cons (pv 5) pa_nil)))))
  (pss_cons (ps_set (i := 6) sc_changes.nd rfl (Or.inr rfl) (pe_call (ok_kept_of T) (hr.mono (by decide)) (by rfl) T.g_kept_of T.F_kept_of.kp (b_kept_of T) .nil pass0 (pa_cons (pv 0) (pa_cons (pv 1) (pa_cons (pv 2) (pa_cons (pv 3) pa_nil))))))
  (pss_cons (ps_set (i := 7) sc_changes.nd rfl (Or.inl rfl) (pe_call (ok_kept_of T) (hr.mono (by decide)) (by rfl) T.g_kept_of T.F_kept_of.kp (b_kept_of T) .nil pass0 (pa_cons (pv 0) (pa_cons (pv 1) (pa_cons (pe_call (ok_moved_of T) (hr.mono (by decide)) (by rfl) T.g_moved_of T.F_moved_of.kp (b_moved_of T) .nil pass0 (pa_cons (pv 2) (pa_cons (pv 4) (pa_cons (pv 5) pa_nil)))) (pa_cons (pv 3) pa_nil))))))
  (pss_one (ps_ret (pe_lc (own := [("at", 8), ("good", 9)]) (by rfl) sc_changes.nd (enumK (K := K) rfl (by rfl) T.n_enumerate (pa_cons (pv 7) pa_nil)) (blkOk_by (own := [("at", 8), ("good", 9)]) (N := N_changes) (sc := defScope s_changes) (by decide +kernel)) (fun _ _ _ _ _ => (tupK (K := K) (n := 2) rfl rfl (pgs_cons (pg_name (i := 8) sc_changes.nd rfl (Or.inl rfl)) (pgs_cons (pg_name (i := 9) sc_changes.nd rfl (Or.inl rfl)) pgs_nil)))) (fun _ _ _ _ _ => (pts_one (pt_cmpR (neK (K := K) hr rfl) (pv 9) (pe_ix (ixK (K := K) rfl) (pv 6) (pv 8) (fun _ _ => rfl)) (nomark _)))) (fun _ _ _ _ _ => (pe_tup (pa_cons (pv 8) (pa_cons (pv 9) pa_nil)))))))))))), body_of (M := N_changes) (fun as R h => ?_) vs H Q E h⟩
  · obtain ⟨_, _, _, _, _, _, rfl, _⟩ := h; rfl
  · obtain ⟨m, e, day, rows, p, b, rfl, hm, he, hd, hl, hrow, h0, h1, b0, b1, hR⟩ := h
    refine sd_seq1 (sd_drop (ed_call (ea_cons (ed_var rfl) (ea2 (ed_var rfl) (ed_var rfl))) ⟨m, e, day, rfl, by omega, he, hd, rfl⟩) rfl) ?_
    refine sd_seq1 (sd_drop (ed_call (ea2 (ed_var rfl) (ed_var rfl)) ⟨day.map dS, rows, rfl, hl, fun r hr0 => ?_, rfl⟩) rfl) ?_
    · have := okR_len (hrow r hr0).1
      have := hd.1
      exact ⟨by omega, by rw [List.length_map]; exact arePl_ok (hrow r hr0).1, (hrow r hr0).2⟩
    refine sd_seq1 (sd_drop (ed_call (ea_cons (ed_var rfl) (ea2 (ed_var rfl) (ed_var rfl))) ⟨day, p, b, rfl, h0, h1, b0, b1, rfl⟩) rfl) ?_
    have hd1 := hd.1
    refine sd_seq1 (sd_asg (el_call (ea_cons (ed_var rfl) (ea_cons (ed_var rfl) (ea2 (ed_var rfl) (ed_var rfl)))) ⟨m, e, day, rows, rfl, by omega, by omega, by omega, fun r hr0 => (hrow r hr0).1, rfl⟩).ed rfl) ?_
    refine sd_seq1 (sd_asg (el_call (ea_cons (ed_var rfl) (ea_cons (ed_var rfl) (ea2 (el_call (ea_cons (ed_var rfl) (ea2 (ed_var rfl) (ed_var rfl))) ⟨day, p, b, rfl, by omega, h0, h1, rfl⟩).ed (ed_var rfl)))) ⟨m, e, movedOf day p b, rows, rfl, by omega, by rw [len_moved]; omega, by omega, fun r hr0 => by rw [len_moved]; exact (hrow r hr0).1, rfl⟩).ed rfl) ?_
    have lb : (keptOf m e day rows).length = rows.length := keptGo_len _ _
    have la : (keptOf m e (movedOf day p b) rows).length = rows.length := keptGo_len _ _
    generalize keptOf m e day rows = before at *
    generalize keptOf m e (movedOf day p b) rows = after at *
    refine sd_retL (el_is (el_filt after.zipIdx (fun x => .tuple [.int (x.2 : Nat), .bool x.1]) (fun x => dC ((x.2 : Int), x.1)) (fun x => !decide (x.1 = before.getD x.2 false)) (js := [8, 9]) (ei_is (ei_enum (ea1 (ed_var rfl))) (enumD_map PyData.bool after)) (by decide) (by rw [List.length_zipIdx]; omega) fun x hx => ⟨_, tg2, et_test (ed_neT nice_bool (ed_var rfl) (ed_batN (ed_var rfl) (ed_var rfl) (by have := (zipIdx_mem hx).2.1; omega))), fun _ => ed_tup (ds := [_, _]) (ea2 (ed_var rfl) (ed_var rfl)) (by simp)⟩) ?_) hR
    unfold changeOf
    rw [List.map_map]
    rfl
def P__law_number (as : List Sl) (R : Sl → Prop) : Prop := ∃ (c a w : Int) (n : Nat), as = [.dat (.int c), .dat (.int a), .dat (.int w)] ∧ 0 ≤ a ∧ a ≤ 1000 ∧ n ≤ 3000000 ∧ Bd n c ∧ Bd n w ∧ ∀ z : Int, R (.dat (.int z))
theorem ok__law_number (T : Txt K mg) : FnOk P w K mg base CX0 1 T.fa__law_number T.fd__law_number A__law_number (spF K P__law_number) := by
  refine T.F__law_number.ok sc__law_number (spF_len (n := 3) fun as R h => ?_) fun cdv A outer s H vs Q E hr h => ⟨_, (pss_cons (ps_if (pt_cmpR op_ge (pv 0) (pe_op op_pow pe_int pe_int) (nomark _)) (pss_one (ps_ret (pe_op op_fdiv (pv 0) (pe_op op_addA pe_int (pe_op op_mod (pv 1) pe_int))))) pss_nil)
  (pss_cons (ps_set (i := 3) sc__law_number.nd rfl (Or.inl rfl) (pe_op op_mod (pe_op op_addA (pe_op op_mulA (pe_op op_addA (pv 0) (pe_op op_mulA pe_int (pv 1))) pe_int) (pv 2)) pe_int))
  (pss_cons (ps_set (i := 4) sc__law_number.nd rfl (Or.inl rfl) (pe_op op_mulA (pv 3) (pe_op op_addA (pe_op op_addA (pv 0) (pe_op op_mulA pe_int (pv 1))) pe_int)))
  (pss_one (ps_ret (pe_op op_fdiv (pe_op op_mulA (pe_op op_mulA (pv 4) (pe_op op_addA (pe_op op_addA (pv 3) (pv 0)) pe_int)) (pe_op op_addA (pe_op op_mulA (pv 3) (pv 3)) pe_int)) (pe_op op_addA pe_int (pv 1)))))))), body_of (M := N__law_number) (fun as R h => ?_) vs H Q E h⟩
  · obtain ⟨_, _, _, _, rfl, _⟩ := h; rfl
  · obtain ⟨c, a, w', n, rfl, a0, a1, hn, hc, hw, hR⟩ := h
    have sm : ∀ {i : Int} {k : Nat}, Bd 40 i → Bd (n + 40) i := fun h => h.mono (by omega)
    have ba : Bd 40 a := by unfold Bd; omega
    have c0 : Bd (n + 40) c := hc.mono (by omega)
    have lit : ∀ {i : Int}, 0 ≤ i → i < 1000000000000 → Bd 40 i := fun {i} h0 h1 => by unfold Bd; omega
    refine sd_seq (M := fun τ' => τ' = startS N__law_number [.dat (.int c), .dat (.int a), .dat (.int w')]) (sd_if (et_test (ed_ge (ed_var rfl) (ed_pow ed_int ed_int ⟨by decide, by decide, by decide⟩))) (fun _ => sd_ret (ed_fdiv (ed_var rfl) (ed_add ed_int (ed_mod (ed_var rfl) ed_int (by decide))) ?_ ?_) (hR _)) fun _ => sd_next rfl) ?_
    · have := Int.emod_nonneg a (show (7 : Int) ≠ 0 by decide)
      omega
    · have := Int.emod_lt_of_pos a (show (0 : Int) < 7 by decide)
      omega
    rintro _ rfl
    have m1 : Bd 40 (977 * a) := lit (by omega) (by omega)
    have s1 : Bd (n + 41) (c + 977 * a) := c0.add (m1.mono (by omega))
    refine sd_seq1 (sd_asg (ed_mod (ed_add (ed_mul (ed_add (ed_var rfl) (ed_mul ed_int (ed_var rfl) (cmB (n := 40) (lit (by decide) (by decide)) ba (by decide)))) ed_int (cmB s1 (lit (i := 48271) (by decide) (by decide)) (by omega))) (ed_var rfl)) ed_int (by decide)) rfl) ?_
    generalize hb : (((c + 977 * a) * 48271 + w') % 2147483647 : Int) = b
    have b0 : 0 ≤ b := by rw [← hb]; exact Int.emod_nonneg _ (by decide)
    have b1 : b < 2147483647 := by rw [← hb]; exact Int.emod_lt_of_pos _ (by decide)
    have bb : Bd 40 b := lit b0 (by omega)
    have m2 : Bd 40 (31 * a) := lit (by omega) (by omega)
    have s2 : Bd (n + 42) (c + 31 * a + 7) := (c0.add (m2.mono (by omega))).add ((lit (i := 7) (by decide) (by decide)).mono (by omega))
    refine sd_seq1 (sd_asg (ed_mul (ed_var rfl) (ed_add (ed_add (ed_var rfl) (ed_mul ed_int (ed_var rfl) (cmB (n := 40) (lit (by decide) (by decide)) ba (by decide)))) ed_int) (cmB bb s2 (by omega))) rfl) ?_
    have s3 : Bd (n + 82) (b * (c + 31 * a + 7)) := (bb.mul s2).mono (by omega)
    have s4 : Bd (n + 42) (b + c + 5) := ((bb.mono (by omega)).add c0).add ((lit (i := 5) (by decide) (by decide)).mono (by omega))
    have s5 : Bd 81 (b * b + 11) := (bb.mul bb).add ((lit (i := 11) (by decide) (by decide)).mono (by omega))
    refine sd_ret (ed_fdiv (ed_mul (ed_mul (ed_var rfl) (ed_add (ed_add (ed_var rfl) (ed_var rfl)) ed_int) (cmB s3 s4 (by omega))) (ed_add (ed_mul (ed_var rfl) (ed_var rfl) (cmB bb bb (by decide))) ed_int) (cmB (s3.mul s4) s5 (by omega))) (ed_add ed_int (ed_var rfl)) (by omega) (by omega)) (hR _)
def P__law_day (as : List Sl) (R : Sl → Prop) : Prop := ∃ (ns : List Int) (by_ size : Int), as = [.scr ns, .dat (.int by_), .dat (.int size)] ∧ okN ns ∧ 0 ≤ by_ ∧ by_ ≤ 100 ∧ 0 ≤ size ∧ size ≤ 100 ∧ ∀ day : List Show, (∀ s ∈ day, okS s) → day.length ≤ size → R (.own (day.map dS))
theorem ok__law_day (T : Txt K mg) : FnOk P w K mg base CX0 2 T.fa__law_day T.fd__law_day A__law_day (spF K P__law_day) := by
  refine T.F__law_day.ok sc__law_day (spF_len (n := 3) fun as R h => ?_) fun cdv A outer s H vs Q E hr h => ⟨_, (pss_cons (ps_set (i := 3) sc__law_day.nd rfl (Or.inl rfl) (pe_ifExp (pt_cmpR (neK (K := K) hr rfl) (pv 0) (pe_lst pa_nil) (nomark _)) (pe_slice (slK (K := K) rfl) (pv 0) po_none (po_some pe_int)) (pe_lst (pa_cons pe_int pa_nil))))
  (pss_cons (ps_par (i := 4) (j := 5) rfl sc__law_day.nd rfl rfl (by decide) rfl rfl (pa_cons (pe_op op_addA (pe_callB cr_abs (by rfl) T.n_abs (by decide +kernel) (pa_cons (pe_callB (sumK (K := K) rfl rfl) (by rfl) T.n_sum (by decide +kernel) (pa_cons (pv 3) pa_nil)) pa_nil)) (pe_op op_mulA pe_int (pv 1))) (pa_cons (pe_lst pa_nil) pa_nil)) rfl)
  (pss_cons (ps_for PassesOwn.never rfl (pi_range1 (by rfl) T.n_range (pa_cons (pe_op op_mod (pv 4) (pe_op op_addA (pv 2) pe_int)) pa_nil)) (pg_name (i := 6) sc__law_day.nd rfl (Or.inl rfl)) (pss_cons (ps_set (i := 7) sc__law_day.nd rfl (Or.inl rfl) (pe_op op_fdiv (pe_call (ok__law_number T) (hr.mono (by decide)) (by rfl) T.g__law_number T.F__law_number.kp (b__law_number T) .nil pass0 (pa_cons (pe_ix (ixK (K := K) rfl) (pv 3) (pe_op op_mod (pe_op op_addA (pv 6) (pv 1)) (pe_callB (lenK (K := K) rfl) (by rfl) T.n_len (by decide +kernel) (pa_cons (pv 3) pa_nil))) (fun _ _ => rfl)) (pa_cons (pe_op op_addA (pv 6) (pv 1)) (pa_cons (pv 4) pa_nil)))) pe_int))
  (pss_cons (ps_set (i := 8) sc__law_day.nd rfl (Or.inl rfl) (pe_ix (ixK (K := K) rfl) (pe_tup (pa_cons (pe_op op_mod (pv 7) pe_int) (pa_cons (pe_op op_mulA (pe_op op_mod (pv 7) pe_int) pe_int) (pa_cons (pe_op op_addA pe_int (pe_op op_mod (pv 7) pe_int)) (pa_cons (pe_op op_mod (pv 7) pe_int) pa_nil))))) (pe_op op_mod (pe_op op_fdiv (pv 4) pe_int) pe_int) (fun _ _ => rfl)))
  (pss_cons (ps_set (i := 9) sc__law_day.nd rfl (Or.inl rfl) (pe_op op_addA (pe_op op_addA (pv 8) pe_int) (pe_op op_mod (pe_op op_fdiv (pv 7) pe_int) (pe_ifExp (pt_cmpR (eqK (K := K) hr rfl) (pe_op op_mod (pe_op op_fdiv (pv 4) pe_int) pe_int) pe_int (nomark _)) (pe_op op_sub pe_int (pv 8)) (pe_callB (cr_mn2 rfl) (by rfl) T.n_min (by decide +kernel) (pa_cons pe_int (pa_cons (pe_op op_sub pe_int (pv 8)) pa_nil)))))))
  (pss_one (ps_expr (bmK (K := K) rfl PySem.F.plainAttrs_list PySem.F.slot_list_append PySem.F.type_list_append mt_append (pv 5) (pa_cons (pe_tup (pa_cons (pv 8) (pa_cons (pv 9) (pa_cons (pe_ix (ixK (K := K) rfl) (pe_tup (pa_cons (pe_op op_mod (pe_op op_fdiv (pv 7) pe_int) pe_int) (pa_cons (pe_op op_mod (pe_op op_fdiv (pv 7) pe_int) pe_int) (pa_cons pe_int pa_nil)))) (pe_op op_mod (pe_op op_fdiv (pv 4) pe_int) pe_int) (fun _ _ => rfl)) pa_nil)))) pa_nil))))))))
  (pss_one (ps_ret (pv 5)))))), body_of (M := N__law_day) (fun as R h => ?_) vs H Q E h⟩
  · obtain ⟨_, _, _, rfl, _⟩ := h; rfl
  · obtain ⟨ns, by_, size, rfl, hns, y0, y1, z0, z1, hR⟩ := h
    refine sd_seq1 (τ1 := (startS N__law_day [.scr ns, .dat (.int by_), .dat (.int size)]).set 3 (.dat (dI (cells 5 ns)))) (sd_asg (d := dI (cells 5 ns)) (ed_if (et_test (ed_scrNe rfl)) (fun c => ed_is (el_slS rfl eo_none (eo_some ed_int)).ed ?_) fun c => ed_is (el_lst (ds := [.int 5]) (ea1 ed_int) (by simp)).ed ?_) rfl) ?_
    · have c' : ns ≠ [] := by simpa using c
      unfold cells
      rw [if_neg c', cutD_take (by omega)]
      show _ = PyData.list ((ns.take 63).map PyData.int)
      rw [List.map_take]
      rfl
    · have c' : ns = [] := by simpa using c
      unfold cells
      rw [if_pos c']
      rfl
    obtain ⟨cl0, cl1⟩ := cells_len (z := 5) (ns := ns)
    have cbd : ∀ y ∈ cells 5 ns, Bd 1048576 y := cells_bd ((show Bd 3 5 by unfold Bd; decide).mono (by decide)) (okN_bd hns)
    generalize hcs : cells 5 ns = cs at *
    refine sd_seq1 (sd_par (.dat (ed_add (ed_abs (ed_sum (ns := cs) (ed_var rfl))) (ed_mul ed_int (ed_var rfl) (cmB (n := 40) (m := 40) (by unfold Bd; decide) (by unfold Bd; omega) (by decide))))) (.own (el_lst (ds := []) ea_nil (by simp))) rfl) ?_
    have wbd : Bd 1048700 ((cs.sum.natAbs : Int) + 7 * by_) := by
      have h1 := bd_sum cs cbd
      have h2 : Bd (1048576 + 63) (cs.sum.natAbs : Int) := by
        have := h1.mono (show 1048576 + cs.length ≤ 1048576 + 63 by omega)
        unfold Bd at this ⊢
        rw [Int.natAbs_natCast]; exact this
      have h3 : Bd (1048576 + 63) (7 * by_) := (show Bd 40 (7 * by_) by unfold Bd; omega).mono (by omega)
      exact (h2.add h3).mono (by omega)
    have w0 : 0 ≤ (cs.sum.natAbs : Int) + 7 * by_ := by omega
    generalize (cs.sum.natAbs : Int) + 7 * by_ = whole at *
    have r0 := Int.emod_nonneg whole (show size + 1 ≠ 0 by omega)
    have r1 := Int.emod_lt_of_pos whole (show 0 < size + 1 by omega)
    refine sd_seq (M := fun τ' => ∃ (day : List Show) (s6 s7 s8 s9 : Sl), τ' = [.scr ns, .dat (.int by_), .dat (.int size), .dat (dI cs), .dat (.int whole), .own (day.map dS), s6, s7, s8, s9] ∧ (∀ s ∈ day, okS s) ∧ (day.length : Int) ≤ size)
      (sd_for (fun i τ' => ∃ (day : List Show) (s6 s7 s8 s9 : Sl), τ' = [.scr ns, .dat (.int by_), .dat (.int size), .dat (dI cs), .dat (.int whole), .own (day.map dS), s6, s7, s8, s9] ∧ (∀ s ∈ day, okS s) ∧ day.length = i)
        (ei_rng1 (ea1 (ed_mod (ed_var rfl) (ed_add (ed_var rfl) ed_int) (by omega))) (by omega) (by omega)) ⟨[], .unk, .unk, .unk, .unk, rfl, (by intro s hs; cases hs), rfl⟩ ?turn ?done) ?rest
    case turn =>
      rintro i d τ1 hd' ⟨day, s6, s7, s8, s9, rfl, hok, hlen⟩
      rw [rngD_at] at hd'
      by_cases hi : i < (whole % (size + 1)).toNat
      case neg => rw [if_neg hi] at hd'; cases hd'
      rw [if_pos hi] at hd'
      cases hd'
      refine ⟨[6], _, tg_name 6, ?_⟩
      have i1 : (i : Int) < 101 := by omega
      have j0 := Int.emod_nonneg (0 + (i : Int) + by_) (show (cs.length : Int) ≠ 0 by omega)
      have j1 := Int.emod_lt_of_pos (0 + (i : Int) + by_) (show (0 : Int) < (cs.length : Int) by omega)
      refine sd_seq (M := fun τ' => ∃ z : Int, τ' = [.scr ns, .dat (.int by_), .dat (.int size), .dat (dI cs), .dat (.int whole), .own (day.map dS), .dat (.int (0 + (i : Nat))), .dat (.int z), s8, s9]) (sd_asgN (en_mono (en_div (en_call (ea_cons (ed_iat (ns := cs) (ed_var rfl) (ed_mod (ed_add (ed_var rfl) (ed_var rfl)) (ed_lenI (ns := cs) (ed_var rfl)) (by omega)) j0 j1) (ea2 (ed_add (ed_var rfl) (ed_var rfl)) (ed_var rfl))) (show P__law_number _ AnyI from ⟨_, _, _, 1048700, rfl, by omega, by omega, by decide, (cbd _ (iAt_mem j0 j1)).mono (by decide), wbd, fun z => ⟨z, rfl⟩⟩)) (by decide) (by decide)) fun s ⟨z, e⟩ => ⟨z, by rw [e]; rfl⟩)) ?_
      rintro _ ⟨z, rfl⟩
      have k0 := Int.emod_nonneg (whole / 11) (show (4 : Int) ≠ 0 by decide)
      have k1 := Int.emod_lt_of_pos (whole / 11) (show (0 : Int) < 4 by decide)
      have l0 := Int.emod_nonneg (whole / 132) (show (3 : Int) ≠ 0 by decide)
      have l1 := Int.emod_lt_of_pos (whole / 132) (show (0 : Int) < 3 by decide)
      have mm : ∀ (x k : Int), 0 < k → 0 ≤ x % k ∧ x % k < k := fun x k hk => ⟨Int.emod_nonneg _ (by omega), Int.emod_lt_of_pos _ hk⟩
      have e24 := mm z 24 (by decide)
      have e4 := mm z 4 (by decide)
      have e6 := mm z 6 (by decide)
      have e12 := mm z 12 (by decide)
      have e61 := mm (z / 600) 61 (by decide)
      have e40 := mm (z / 600) 4 (by decide)
      have hbeg : 0 ≤ iAt [z % 24, z % 4 * 6, 18 + z % 6, z % 12] (whole / 11 % 4) ∧ iAt [z % 24, z % 4 * 6, 18 + z % 6, z % 12] (whole / 11 % 4) ≤ 23 := iAt4 (P := fun x => 0 ≤ x ∧ x ≤ 23) k0 k1 (by omega) (by omega) (by omega) (by omega)
      have hwor : 0 ≤ iAt [z / 600 % 61, z / 600 % 4, 7] (whole / 132 % 3) ∧ iAt [z / 600 % 61, z / 600 % 4, 7] (whole / 132 % 3) ≤ 60 := iAt3 (P := fun x => 0 ≤ x ∧ x ≤ 60) l0 l1 (by omega) (by omega) (by omega)
      refine sd_seq1 (sd_asg (d := .int (iAt [z % 24, z % 4 * 6, 18 + z % 6, z % 12] (whole / 11 % 4))) (ed_ixT (ds := [z % 24, z % 4 * 6, 18 + z % 6, z % 12].map PyData.int) (ed_tup (ds := [.int (z % 24), .int (z % 4 * 6), .int (18 + z % 6), .int (z % 12)]) (ea_cons (ed_mod (ed_var rfl) ed_int (by decide)) (ea_cons (ed_mul (ed_mod (ed_var rfl) ed_int (by decide)) ed_int (cmB (n := 40) (m := 40) (by unfold Bd; omega) (by unfold Bd; decide) (by decide))) (ea2 (ed_add ed_int (ed_mod (ed_var rfl) ed_int (by decide))) (ed_mod (ed_var rfl) ed_int (by decide))))) (by simp)) (ed_mod (ed_fdiv (ed_var rfl) ed_int (by decide) (by decide)) ed_int (by decide)) (atI_map (f := PyData.int) 0 k0 (by simpa using k1))) rfl) ?_
      generalize iAt [z % 24, z % 4 * 6, 18 + z % 6, z % 12] (whole / 11 % 4) = b at *
      have dpos : 0 < (if whole / 44 % 3 = 0 then 24 - b else min 6 (24 - b)) ∧ (if whole / 44 % 3 = 0 then 24 - b else min 6 (24 - b)) ≤ 24 - b := by split <;> omega
      refine sd_seq1 (sd_asg (ed_add (ed_add (ed_var rfl) ed_int) (ed_mod (ed_fdiv (ed_var rfl) ed_int (by decide) (by decide)) (ed_if (d := .int (if whole / 44 % 3 = 0 then 24 - b else min 6 (24 - b))) (et_test (ed_eqT nice_int (ed_mod (ed_fdiv (ed_var rfl) ed_int (by decide) (by decide)) ed_int (by decide)) ed_int)) (fun c => ed_is (ed_sub ed_int (ed_var rfl)) (by rw [if_pos (of_decide_eq_true c)])) fun c => ed_is (ed_min ed_int (ed_sub ed_int (ed_var rfl))) (by rw [if_neg (of_decide_eq_false c)])) dpos.1)) rfl) ?_
      have eend := mm (z / 24) (if whole / 44 % 3 = 0 then 24 - b else min 6 (24 - b)) dpos.1
      generalize z / 24 % (if whole / 44 % 3 = 0 then 24 - b else min 6 (24 - b)) = t at *
      refine sd_append (i := 5) (d := dS (b, b + 1 + t, iAt [z / 600 % 61, z / 600 % 4, 7] (whole / 132 % 3))) rfl (ed_trip (ed_var rfl) (ed_var rfl) (ed_ixT (ds := [z / 600 % 61, z / 600 % 4, 7].map PyData.int) (ed_tup (ds := [.int (z / 600 % 61), .int (z / 600 % 4), .int 7]) (ea_cons (ed_mod (ed_fdiv (ed_var rfl) ed_int (by decide) (by decide)) ed_int (by decide)) (ea2 (ed_mod (ed_fdiv (ed_var rfl) ed_int (by decide) (by decide)) ed_int (by decide)) ed_int)) (by simp)) (ed_mod (ed_fdiv (ed_var rfl) ed_int (by decide) (by decide)) ed_int (by decide)) (atI_map (f := PyData.int) 0 l0 (by simpa using l1)))) (by rw [List.length_map]; omega) ⟨day ++ [(b, b + 1 + t, iAt [z / 600 % 61, z / 600 % 4, 7] (whole / 132 % 3))], ?a, ?b, ?c, ?d, ?eq, ?ok, ?len⟩
      case eq => rw [List.map_append]; rfl
      case ok =>
        intro s hs
        rcases List.mem_append.mp hs with hs | hs
        · exact hok s hs
        · have : s = (b, b + 1 + t, iAt [z / 600 % 61, z / 600 % 4, 7] (whole / 132 % 3)) := by simpa using hs
          subst this
          unfold okS
          dsimp only
          omega
      case len => simp [hlen]
    case done =>
      rintro τ1 ⟨day, s6, s7, s8, s9, rfl, hok, hlen⟩
      rw [rngD_len] at hlen
      exact ⟨day, s6, s7, s8, s9, rfl, hok, by omega⟩
    case rest =>
      rintro _ ⟨day, s6, s7, s8, s9, rfl, hok, hlen⟩
      exact sd_retO rfl (hR day hok hlen)
def P__law_edges (as : List Sl) (R : Sl → Prop) : Prop := ∃ (ns : List Int) (by_ : Int), as = [.scr ns, .dat (.int by_)] ∧ ∀ e : Int × Int, okE e → R (.dat (dP e))
theorem ok__law_edges (T : Txt K mg) : FnOk P w K mg base CX0 1 T.fa__law_edges T.fd__law_edges A__law_edges (spF K P__law_edges) := by
  refine T.F__law_edges.ok sc__law_edges (spF_len (n := 2) fun as R h => ?_) fun cdv A outer s H vs Q E hr h => ⟨_, (pss_cons (ps_set (i := 2) sc__law_edges.nd rfl (Or.inl rfl) (pe_op op_addA (pe_callB cr_abs (by rfl) T.n_abs (by decide +kernel) (pa_cons (pe_callB (sumK (K := K) rfl rfl) (by rfl) T.n_sum (by decide +kernel) (pa_cons (pe_slice (slK (K := K) rfl) (pv 0) po_none (po_some pe_int)) pa_nil)) pa_nil)) (pv 1)))
  (pss_one (ps_ret (pe_tup (pa_cons (pe_op op_mod (pe_op op_fdiv (pv 2) pe_int) pe_int) (pa_cons (pe_op op_mod (pe_op op_fdiv (pv 2) pe_int) pe_int) pa_nil)))))), body_of (M := N__law_edges) (fun as R h => ?_) vs H Q E h⟩
  · obtain ⟨_, _, rfl, _⟩ := h; rfl
  · obtain ⟨ns, by_, rfl, hR⟩ := h
    refine sd_seq1 (sd_asg (ed_add (ed_whole rfl) (ed_var rfl)) rfl) (sd_ret (ed_pair (ed_mod (ed_fdiv (ed_var rfl) ed_int (by decide) (by decide)) ed_int (by decide)) (ed_mod (ed_fdiv (ed_var rfl) ed_int (by decide) (by decide)) ed_int (by decide))) (hR _ ?_))
    have mm : ∀ (x : Int), 0 ≤ x % 3 ∧ x % 3 < 3 := fun x => ⟨Int.emod_nonneg _ (by decide), Int.emod_lt_of_pos _ (by decide)⟩
    have h1 := mm ((((ns.take 63).sum.natAbs : Int) + by_) / 5)
    have h2 := mm ((((ns.take 63).sum.natAbs : Int) + by_) / 15)
    unfold okE
    dsimp only
    omega
def P__law_moments (as : List Sl) (R : Sl → Prop) : Prop := ∃ (e : Int × Int) (s : Show), as = [.dat (dP e), .dat (dS s)] ∧ R (.own ((moms e s).map PyData.int))
theorem ok__law_moments (T : Txt K mg) : FnOk P w K mg base CX0 1 T.fa__law_moments T.fd__law_moments A__law_moments (spF K P__law_moments) := by
  refine T.F__law_moments.ok sc__law_moments (spF_len (n := 2) fun as R h => ?_) fun cdv A outer s H vs Q E hr h => ⟨_, (pss_one (ps_ret (pe_lc (own := [("_law_moment", 2)]) (by rfl) sc__law_moments.nd (pi_range1 (by rfl) T.n_range (pa_cons pe_int pa_nil)) (blkOk_by (own := [("_law_moment", 2)]) (N := N__law_moments) (sc := defScope s__law_moments) (by decide +kernel)) (fun _ _ _ _ _ => (pg_name (i := 2) sc__law_moments.nd rfl (Or.inl rfl))) (fun _ _ _ _ _ => (pts_one (pt_chain op_le op_lt (pe_op op_sub (pe_ix (ixK (K := K) rfl) (pv 1) pe_int (fun _ _ => rfl)) (pe_ix (ixK (K := K) rfl) (pv 0) pe_int (fun _ _ => rfl))) (pv 2) (pe_op op_addA (pe_ix (ixK (K := K) rfl) (pv 1) pe_int (fun _ _ => rfl)) (pe_ix (ixK (K := K) rfl) (pv 0) pe_int (fun _ _ => rfl)))))) (fun _ _ _ _ _ => (pv 2))))), body_of (M := N__law_moments) (fun as R h => ?_) vs H Q E h⟩
  · obtain ⟨_, _, rfl, _⟩ := h; rfl
  · obtain ⟨e, s, rfl, hR⟩ := h
    refine sd_retL (el_is (el_filt (List.range 24) (fun (i : Nat) => .int (0 + (i : Int))) (fun (i : Nat) => .int (0 + (i : Int))) (fun (i : Nat) => decide (s.1 - e.1 ≤ 0 + (i : Int) ∧ 0 + (i : Int) < s.2.1 + e.2)) (js := [2]) (ei_rngN (m := 24) (ea1 ed_int) (by decide)) (by decide) (by decide) fun x _ => ⟨_, tg_name 2, et_test (ed_leLt (ed_sub (ed_s0 (ed_var rfl)) (ed_p0 (ed_var rfl))) (ed_var rfl) (ed_add (ed_s1 (ed_var rfl)) (ed_p1 (ed_var rfl)))), fun _ => ed_var rfl⟩) ?_) hR
    unfold moms
    rw [List.filter_map, List.map_map]
    have : ∀ i : Nat, (0 + (i : Int)) = (i : Int) := fun i => Int.zero_add _
    simp only [this]
    rfl
def P__law_full (as : List Sl) (R : Sl → Prop) : Prop := ∃ (m : Int) (e : Int × Int) (day : List Show) (ps : List Int), as = [.dat (.int m), .dat (dP e), .dat (dDay day), .dat (dI ps)] ∧ okP day.length ps ∧ R (.own ((full m e day ps).map PyData.int))
theorem ok__law_full (T : Txt K mg) : FnOk P w K mg base CX0 2 T.fa__law_full T.fd__law_full A__law_full (spF K P__law_full) := by
  refine T.F__law_full.ok sc__law_full (spF_len (n := 4) fun as R h => ?_) fun cdv A outer s H vs Q E hr h => ⟨_, (pss_cons (ps_set (i := 4) sc__law_full.nd rfl (Or.inr rfl) (pe_op op_mulA (pe_lst (pa_cons pe_int pa_nil)) pe_int))
  (pss_cons (ps_for PassesOwn.never rfl (seqK (K := K) rfl (pv 3)) (pg_name (i := 5) sc__law_full.nd rfl (Or.inl rfl)) (pss_one (ps_for PassesOwn.never rfl (seqK (K := K) rfl (pe_call (ok__law_moments T) (hr.mono (by decide)) (by rfl) T.g__law_moments T.F__law_moments.kp (b__law_moments T) .nil pass0 (pa_cons (pv 1) (pa_cons (pe_ix (ixK (K := K) rfl) (pv 2) (pv 5) (fun _ _ => rfl)) pa_nil)))) (pg_name (i := 6) sc__law_full.nd rfl (Or.inl rfl)) (pss_one (ps_asg (pe_op op_addA (pe_ix (ixK (K := K) rfl) (pv 4) (pv 6) (fun _ _ => rfl)) pe_int) (pg_sub (pv 4) (pv 6) set_list))))))
  (pss_one (ps_ret (pe_lc (own := [("_law_moment", 6)]) (by rfl) sc__law_full.nd (pi_range1 (by rfl) T.n_range (pa_cons pe_int pa_nil)) (blkOk_by (own := [("_law_moment", 6)]) (N := N__law_full) (sc := defScope s__law_full) (by decide +kernel)) (fun _ _ _ _ _ => (pg_name (i := 6) sc__law_full.nd rfl (Or.inl rfl))) (fun _ _ _ _ _ => (pts_one (pt_cmpR op_gt (pe_ix (ixK (K := K) rfl) (pv 4) (pv 6) (fun _ _ => rfl)) (pv 0) (nomark _)))) (fun _ _ _ _ _ => (pv 6))))))), body_of (M := N__law_full) (fun as R h => ?_) vs H Q E h⟩
  · obtain ⟨_, _, _, _, rfl, _⟩ := h; rfl
  · obtain ⟨m, e, day, ps, rfl, hp, hR⟩ := h
    refine sd_seq1 (sd_asgL (el_repI ed_int ed_int (by decide) (by decide)) rfl) ?_
    have iAt_getI : ∀ (l : List Int) (t : Int), iAt l t = getI l t.toNat := fun _ _ => rfl
    refine sd_seq (M := fun τ' => ∃ (s5 s6 : Sl), τ' = [.dat (.int m), .dat (dP e), .dat (dDay day), .dat (dI ps), .own ((cts e day ps).map PyData.int), s5, s6])
      (sd_for (fun i τ' => ∃ (s5 s6 : Sl), τ' = [.dat (.int m), .dat (dP e), .dat (dDay day), .dat (dI ps), .own ((cts e day (ps.take i)).map PyData.int), s5, s6])
        (ei_any (ed_var rfl)) ⟨.unk, .unk, rfl⟩ ?turn ?done) ?rest
    case turn =>
      rintro i d τ1 hd' ⟨s5, s6, rfl⟩
      obtain ⟨p, hx, rfl⟩ := map_at hd'
      obtain ⟨p0, p1⟩ := hp p (List.mem_of_getElem? hx)
      have hn : ps.take (i + 1) = ps.take i ++ [p] := by rw [List.take_add_one, hx]; rfl
      refine ⟨[5], _, tg_name 5, ?_⟩
      refine sd_for (its := (moms e (shAt day p)).map PyData.int) (fun j τ' => ∃ (s6 : Sl), τ' = [.dat (.int m), .dat (dP e), .dat (dDay day), .dat (dI ps), .own ((bump (cts e day (ps.take i)) ((moms e (shAt day p)).take j)).map PyData.int), .dat (.int p), s6])
        (ei_any (el_call (ea2 (ed_var rfl) (ed_day (ed_var rfl) (ed_var rfl) p0 p1)) ⟨e, _, rfl, rfl⟩).ed) ⟨s6, rfl⟩ ?turn2 ?done2
      case turn2 =>
        rintro j d τ2 hd2 ⟨s6, rfl⟩
        obtain ⟨t, ht, rfl⟩ := map_at hd2
        obtain ⟨⟨t0, t1⟩, _⟩ := moms_mem.mp (List.mem_of_getElem? ht)
        have hn2 : (moms e (shAt day p)).take (j + 1) = (moms e (shAt day p)).take j ++ [t] := by rw [List.take_add_one, ht]; rfl
        have ln : (bump (cts e day (ps.take i)) ((moms e (shAt day p)).take j)).length = 24 := by rw [bump_len, cts_len]
        refine ⟨[6], _, tg_name 6, ?_⟩
        refine sd_put (i := 4) (ds := (bump (cts e day (ps.take i)) ((moms e (shAt day p)).take j)).map PyData.int) (k := t) (j := t.toNat) rfl (ed_frz 4 rfl (ed_add (ed_iat (ns := bump (cts e day (ps.take i)) ((moms e (shAt day p)).take j)) (ed_var rfl) (ed_var rfl) t0 (by omega)) ed_int)) (ed_var rfl) (ixN_in t0 (by rw [List.length_map]; omega)) ⟨.dat (.int t), ?_⟩
        rw [hn2]
        unfold Pl.bump
        rw [List.foldl_append]
        show _ = [Sl.dat (.int m), .dat (dP e), .dat (dDay day), .dat (dI ps), .own ((List.set _ _ _).map PyData.int), .dat (.int p), .dat (.int t)]
        rw [List.map_set]
        rfl
      case done2 =>
        rintro τ2 ⟨s6, rfl⟩
        rw [List.length_map, List.take_length, bump_cts, ← hn]
        exact ⟨_, _, rfl⟩
    case done =>
      rintro τ1 ⟨s5, s6, rfl⟩
      rw [List.length_map, List.take_length]
      exact ⟨s5, s6, rfl⟩
    case rest =>
      rintro _ ⟨s5, s6, rfl⟩
      refine sd_retL (el_is (el_filt (List.range 24) (fun (i : Nat) => .int (0 + (i : Int))) (fun (i : Nat) => .int (0 + (i : Int))) (fun (i : Nat) => decide (m < getI (cts e day ps) i)) (js := [6]) (ei_rngN (m := 24) (ea1 ed_int) (by decide)) (by decide) (by decide) fun x hx => ⟨_, tg_name 6, et_frz 4 rfl (et_test (ed_is (ed_gt (ed_iat (ns := cts e day ps) (ed_var rfl) (ed_var rfl) (by omega) (by rw [cts_len]; have := List.mem_range.mp hx; omega)) (ed_var rfl)) ?_)), fun _ => ed_var rfl⟩) ?_) hR
      · rw [iAt_getI, Int.zero_add, Int.toNat_natCast]
      · rw [full_eq, List.map_map]
        refine List.map_congr_left fun t _ => ?_
        show PyData.int (0 + (t : Int)) = .int (t : Int)
        rw [Int.zero_add]
def P__law_wishes (as : List Sl) (R : Sl → Prop) : Prop := ∃ (ns : List Int) (by_ : Int) (day : List Show), as = [.scr ns, .dat (.int by_), .dat (dDay day)] ∧ okN ns ∧ 0 ≤ by_ ∧ by_ ≤ 100 ∧ day.length ≤ 10 ∧ ∀ rows : List (List Int), rows.length ≤ 6 → (∀ r ∈ rows, okR day.length r ∧ r ≠ []) → R (.own (rows.map dI))
theorem ok__law_wishes (T : Txt K mg) : FnOk P w K mg base CX0 2 T.fa__law_wishes T.fd__law_wishes A__law_wishes (spF K P__law_wishes) := by
  refine T.F__law_wishes.ok sc__law_wishes (spF_len (n := 3) fun as R h => ?_) fun cdv A outer s H vs Q E hr h => ⟨_, (pss_cons (ps_set (i := 3) sc__law_wishes.nd rfl (Or.inl rfl) (pe_ifExp (pt_cmpR (neK (K := K) hr rfl) (pv 0) (pe_lst pa_nil) (nomark _)) (pe_slice (slK (K := K) rfl) (pv 0) po_none (po_some pe_int)) (pe_lst (pa_cons pe_int pa_nil))))
  (pss_cons (ps_par (i := 4) (j := 5) rfl sc__law_wishes.nd rfl rfl (by decide) rfl rfl (pa_cons (pe_op op_addA (pe_callB cr_abs (by rfl) T.n_abs (by decide +kernel) (pa_cons (pe_callB (sumK (K := K) rfl rfl) (by rfl) T.n_sum (by decide +kernel) (pa_cons (pv 3) pa_nil)) pa_nil)) (pv 1)) (pa_cons (pe_lst pa_nil) pa_nil)) rfl)
  (pss_cons (ps_for PassesOwn.never rfl (pi_range1 (by rfl) T.n_range (pa_cons (pe_ifExp (pt_cmpR (neK (K := K) hr rfl) (pv 2) (pe_lst pa_nil) (nomark _)) (pe_op op_mod (pe_op op_fdiv (pv 4) pe_int) pe_int) pe_int) pa_nil)) (pg_name (i := 6) sc__law_wishes.nd rfl (Or.inl rfl)) (pss_cons (ps_set (i := 7) sc__law_wishes.nd rfl (Or.inr rfl) (pe_op op_fdiv (pe_call (ok__law_number T) (hr.mono (by decide)) (by rfl) T.g__law_number T.F__law_number.kp (b__law_number T) .nil pass0 (pa_cons (pe_ix (ixK (K := K) rfl) (pv 3) (pe_op op_mod (pe_op op_addA (pv 6) (pv 1)) (pe_callB (lenK (K := K) rfl) (by rfl) T.n_len (by decide +kernel) (pa_cons (pv 3) pa_nil))) (fun _ _ => rfl)) (pa_cons (pe_op op_addA (pv 6) (pe_op op_mulA pe_int (pv 1))) (pa_cons (pv 4) pa_nil)))) pe_int))
  (pss_cons (ps_set (i := 8) sc__law_wishes.nd rfl (Or.inl rfl) (pe_op op_addA pe_int (pe_op op_mod (pe_op op_fdiv (pv 7) pe_int) (pe_ifExp (pt_cmpR (eqK (K := K) hr rfl) (pe_op op_mod (pv 4) pe_int) pe_int (nomark _)) pe_int pe_int))))
  (pss_cons (ps_setLc (i := 9) (own := [("_law_turn", 10)]) (by rfl) sc__law_wishes.nd rfl rfl (sw_true rfl rfl rfl (by decide +kernel)) (pi_range1 (by rfl) T.n_range (pa_cons (pv 8) pa_nil)) (blkOk_by (own := [("_law_turn", 10)]) (N := N__law_wishes) (sc := defScope s__law_wishes) (by decide +kernel)) (fun _ _ _ _ _ => (pg_name (i := 10) sc__law_wishes.nd rfl (Or.inl rfl))) (fun _ _ _ _ _ => pts_nil) (fun _ _ _ _ _ => (pe_op op_mod (pe_op op_fdiv (pv 7) (pe_ix (ixK (K := K) rfl) (pe_tup (pa_cons pe_int (pa_cons pe_int (pa_cons pe_int (pa_cons pe_int pa_nil))))) (pv 10) (fun _ _ => rfl))) (pe_callB (lenK (K := K) rfl) (by rfl) T.n_len (by decide +kernel) (pa_cons (pv 2) pa_nil)))))
  (pss_one (ps_expr (bmK (K := K) rfl PySem.F.plainAttrs_list PySem.F.slot_list_append PySem.F.type_list_append mt_append (pv 5) (pa_cons (pe_ifExp (pt_cmpR op_gt (pe_op op_mod (pv 7) pe_int) pe_int (nomark _)) (pe_callB (sortSetK (w := w) rfl rfl) (by rfl) T.n_sorted (by decide +kernel) (pa_cons (pe_callTy (setLK (K := K) (w := w) rfl rfl rfl) (by rfl) T.n_set (by decide +kernel) (pa_cons (pv 9) pa_nil)) pa_nil)) (pe_listRg rfl (by rfl) T.n_list (prg_1 (by rfl) T.n_range (pe_op op_addA (pe_op op_mod (pe_op op_fdiv (pv 7) pe_int) (pe_callB (lenK (K := K) rfl) (by rfl) T.n_len (by decide +kernel) (pa_cons (pv 2) pa_nil))) pe_int)))) pa_nil))))))))
  (pss_one (ps_ret (pv 5)))))), body_of (M := N__law_wishes) (fun as R h => ?_) vs H Q E h⟩
  · obtain ⟨_, _, _, rfl, _⟩ := h; rfl
  · obtain ⟨ns, by_, day, rfl, hns, y0, y1, hdl, hR⟩ := h
    refine sd_seq1 (τ1 := (startS N__law_wishes [.scr ns, .dat (.int by_), .dat (dDay day)]).set 3 (.dat (dI (cells 4 ns)))) (sd_asg (d := dI (cells 4 ns)) (ed_if (et_test (ed_scrNe rfl)) (fun c => ed_is (el_slS rfl eo_none (eo_some ed_int)).ed ?_) fun c => ed_is (el_lst (ds := [.int 4]) (ea1 ed_int) (by simp)).ed ?_) rfl) ?_
    · have c' : ns ≠ [] := by simpa using c
      unfold cells
      rw [if_neg c', cutD_take (by omega)]
      show _ = PyData.list ((ns.take 63).map PyData.int)
      rw [List.map_take]
      rfl
    · have c' : ns = [] := by simpa using c
      unfold cells
      rw [if_pos c']
      rfl
    obtain ⟨cl0, cl1⟩ := cells_len (z := 4) (ns := ns)
    have cbd : ∀ y ∈ cells 4 ns, Bd 1048576 y := cells_bd ((show Bd 3 4 by unfold Bd; decide).mono (by decide)) (okN_bd hns)
    generalize hcs : cells 4 ns = cs at *
    refine sd_seq1 (sd_par (.dat (ed_add (ed_abs (ed_sum (ns := cs) (ed_var rfl))) (ed_var rfl))) (.own (el_lst (ds := []) ea_nil (by simp))) rfl) ?_
    have wbd : Bd 1048700 ((cs.sum.natAbs : Int) + by_) := by
      have h1 := bd_sum cs cbd
      have h2 : Bd (1048576 + 63) (cs.sum.natAbs : Int) := by
        have := h1.mono (show 1048576 + cs.length ≤ 1048576 + 63 by omega)
        unfold Bd at this ⊢
        rw [Int.natAbs_natCast]; exact this
      have h3 : Bd (1048576 + 63) by_ := (show Bd 40 by_ by unfold Bd; omega).mono (by omega)
      exact (h2.add h3).mono (by omega)
    generalize (cs.sum.natAbs : Int) + by_ = whole at *
    have mm : ∀ (x k : Int), 0 < k → 0 ≤ x % k ∧ x % k < k := fun x k hk => ⟨Int.emod_nonneg _ (by omega), Int.emod_lt_of_pos _ hk⟩
    have r01 := mm (whole / 3) 7 (by decide)
    have jb : 0 ≤ (if day = [] then 0 else whole / 3 % 7) ∧ (if day = [] then 0 else whole / 3 % 7) ≤ 6 := by split <;> omega
    refine sd_seq (M := fun τ' => ∃ (rows : List (List Int)) (s6 s7 s8 s9 s10 : Sl), τ' = [.scr ns, .dat (.int by_), .dat (dDay day), .dat (dI cs), .dat (.int whole), .own (rows.map dI), s6, s7, s8, s9, s10] ∧ rows.length ≤ 6 ∧ ∀ r ∈ rows, okR day.length r ∧ r ≠ [])
      (sd_for (its := rngD 0 (if day = [] then 0 else whole / 3 % 7).toNat) (fun i τ' => ∃ (rows : List (List Int)) (s6 s7 s8 s9 s10 : Sl), τ' = [.scr ns, .dat (.int by_), .dat (dDay day), .dat (dI cs), .dat (.int whole), .own (rows.map dI), s6, s7, s8, s9, s10] ∧ rows.length = i ∧ ∀ r ∈ rows, okR day.length r ∧ r ≠ [])
        (ei_rng1 (ea1 (ed_if (d := .int (if day = [] then 0 else whole / 3 % 7)) (et_test (ed_neT nice_dDay (a := day) (b := []) (ed_var rfl) (el_lst (ds := []) ea_nil (by simp)).ed)) (fun c => ed_is (ed_mod (ed_fdiv (ed_var rfl) ed_int (by decide) (by decide)) ed_int (by decide)) (by rw [if_neg (by simpa using c)])) fun c => ed_is ed_int (by rw [if_pos (by simpa using c)]))) (by omega) (by omega)) ⟨[], .unk, .unk, .unk, .unk, .unk, rfl, rfl, (by intro s hs; cases hs)⟩ ?turn ?done) ?rest
    case turn =>
      rintro i d τ1 hd' ⟨rows, s6, s7, s8, s9, s10, rfl, hlen, hok⟩
      rw [rngD_at] at hd'
      by_cases hi : i < (if day = [] then 0 else whole / 3 % 7).toNat
      case neg => rw [if_neg hi] at hd'; cases hd'
      rw [if_pos hi] at hd'
      cases hd'
      have hdne : day ≠ [] := fun z => by rw [if_pos z] at hi; simp at hi
      have hdp : 0 < day.length := List.length_pos_iff.mpr hdne
      refine ⟨[6], _, tg_name 6, ?_⟩
      have i1 : (i : Int) < 101 := by omega
      have j0 := Int.emod_nonneg (0 + (i : Int) + by_) (show (cs.length : Int) ≠ 0 by omega)
      have j1 := Int.emod_lt_of_pos (0 + (i : Int) + by_) (show (0 : Int) < (cs.length : Int) by omega)
      refine sd_seq (M := fun τ' => ∃ z : Int, τ' = [.scr ns, .dat (.int by_), .dat (dDay day), .dat (dI cs), .dat (.int whole), .own (rows.map dI), .dat (.int (0 + (i : Nat))), .dat (.int z), s8, s9, s10]) (sd_asgN (en_mono (en_div (en_call (ea_cons (ed_iat (ns := cs) (ed_var rfl) (ed_mod (ed_add (ed_var rfl) (ed_var rfl)) (ed_lenI (ns := cs) (ed_var rfl)) (by omega)) j0 j1) (ea2 (ed_add (ed_var rfl) (ed_mul ed_int (ed_var rfl) (cmB (n := 40) (m := 40) (by unfold Bd; decide) (by unfold Bd; omega) (by decide)))) (ed_var rfl))) (show P__law_number _ AnyI from ⟨_, _, _, 1048700, rfl, by omega, by omega, by decide, (cbd _ (iAt_mem j0 j1)).mono (by decide), wbd, fun z => ⟨z, rfl⟩⟩)) (by decide) (by decide)) fun s ⟨z, e⟩ => ⟨z, by rw [e]; rfl⟩)) ?_
      rintro _ ⟨z, rfl⟩
      have qb : (if whole % 2 = 0 then (4 : Int) else 2) = 4 ∨ (if whole % 2 = 0 then (4 : Int) else 2) = 2 := by split <;> simp
      refine sd_seq1 (sd_asg (ed_add ed_int (ed_mod (ed_fdiv (ed_var rfl) ed_int (by decide) (by decide)) (ed_if (d := .int (if whole % 2 = 0 then 4 else 2)) (et_test (ed_eqT nice_int (ed_mod (ed_var rfl) ed_int (by decide)) ed_int)) (fun c => ed_is ed_int (by rw [if_pos (of_decide_eq_true c)])) fun c => ed_is ed_int (by rw [if_neg (of_decide_eq_false c)])) (by omega))) rfl) ?_
      have tb := mm (z / 5) (if whole % 2 = 0 then (4 : Int) else 2) (by omega)
      generalize hmy : 1 + z / 5 % (if whole % 2 = 0 then (4 : Int) else 2) = my at *
      have my0 : 1 ≤ my ∧ my ≤ 4 := by omega
      have pw : ∀ k : Int, 0 ≤ k → k < 4 → 0 < iAt [1, 11, 121, 1331] k ∧ iAt [1, 11, 121, 1331] k < 1073741824 := fun k h0 h1 => iAt4 (P := fun x => 0 < x ∧ x < 1073741824) h0 h1 (by decide) (by decide) (by decide) (by decide)
      refine sd_seq1 (sd_asg (d := dI ((List.range my.toNat).map fun (t : Nat) => z / iAt [1, 11, 121, 1331] (0 + (t : Int)) % (day.length : Int))) (ed_is (el_map (List.range my.toNat) (fun (t : Nat) => .int (0 + (t : Int))) (fun (t : Nat) => .int (z / iAt [1, 11, 121, 1331] (0 + (t : Int)) % (day.length : Int))) (js := [10]) (ei_rngN (m := my.toNat) (ea1 (ed_is (ed_var rfl) (congrArg PyData.int (by omega)))) (by omega)) (by decide) (by simp; omega) fun t ht => ⟨_, tg_name 10, ed_mod (ed_fdiv (ed_var rfl) (ed_ixT (ds := [1, 11, 121, 1331].map PyData.int) (ed_tup (ds := [.int 1, .int 11, .int 121, .int 1331]) (ea_cons ed_int (ea_cons ed_int (ea2 ed_int ed_int))) (by simp)) (ed_var rfl) (atI_map (f := PyData.int) 0 (by omega) (by have := List.mem_range.mp ht; simp; omega))) (pw _ (by omega) (by have := List.mem_range.mp ht; omega)).1 (pw _ (by omega) (by have := List.mem_range.mp ht; omega)).2) (ed_lenDay (ed_var rfl)) (by omega)⟩).ed (by unfold dI; rw [List.map_map]; rfl)) rfl) ?_
      generalize hrow : ((List.range my.toNat).map fun (t : Nat) => z / iAt [1, 11, 121, 1331] (0 + (t : Int)) % (day.length : Int)) = row
      have rowok : okP day.length row := fun p hp => by
        rw [← hrow] at hp
        obtain ⟨t, _, rfl⟩ := List.mem_map.mp hp
        exact mm _ _ (by omega)
      have rowlen : row.length = my.toNat := by rw [← hrow]; simp
      have db := mm (z / 11) (day.length : Int) (by omega)
      have wid : okR day.length (if 0 < z % 11 then sset row else (List.range (z / 11 % (day.length : Int) + 1).toNat).map fun (i : Nat) => (0 + (i : Int))) ∧ (if 0 < z % 11 then sset row else (List.range (z / 11 % (day.length : Int) + 1).toNat).map fun (i : Nat) => (0 + (i : Int))) ≠ [] := by
        by_cases c : 0 < z % 11
        · rw [if_pos c]
          refine ⟨⟨fun p hp => rowok p (sset_mem.mp hp), sset_pw _⟩, fun q => ?_⟩
          cases hr : row with
          | nil => rw [hr] at rowlen; simp at rowlen; omega
          | cons x xs =>
            have : x ∈ sset row := sset_mem.mpr (by rw [hr]; simp)
            rw [q] at this
            cases this
        · rw [if_neg c]
          refine ⟨⟨fun p hp => ?_, ?_⟩, fun q => ?_⟩
          · obtain ⟨t, ht, rfl⟩ := List.mem_map.mp hp
            have := List.mem_range.mp ht
            omega
          · rw [List.pairwise_map]
            refine List.Pairwise.imp (fun h => ?_) List.pairwise_lt_range
            omega
          · have := congrArg List.length q
            simp at this
            omega
      refine sd_append (i := 5) (d := dI (if 0 < z % 11 then sset row else (List.range (z / 11 % (day.length : Int) + 1).toNat).map fun (i : Nat) => (0 + (i : Int)))) rfl (ed_if (et_test (ed_gt (ed_mod (ed_var rfl) ed_int (by decide)) ed_int)) (fun c => ed_is (el_sortSet (ns := row) (ms := sset row) (ed_var rfl) (by omega) (sset_pw _) fun k => sset_mem).ed (by rw [if_pos (of_decide_eq_true c)]; rfl)) fun c => ed_is (el_listRg (ed_add (ed_mod (ed_fdiv (ed_var rfl) ed_int (by decide) (by decide)) (ed_lenDay (ed_var rfl)) (by omega)) ed_int) (by omega) (by omega)).ed (by rw [if_neg (of_decide_eq_false c)]; unfold rngD dI; rw [List.map_map]; rfl)) (by rw [List.length_map]; omega) ⟨rows ++ [if 0 < z % 11 then sset row else (List.range (z / 11 % (day.length : Int) + 1).toNat).map fun (i : Nat) => (0 + (i : Int))], ?a, ?b, ?c, ?d, ?f, ?eq, by simp [hlen], ?ok⟩
      case eq => rw [List.map_append]; rfl
      case ok =>
        intro r hr'
        rcases List.mem_append.mp hr' with hr' | hr'
        · exact hok r hr'
        · have : r = (if 0 < z % 11 then sset row else (List.range (z / 11 % (day.length : Int) + 1).toNat).map fun (i : Nat) => (0 + (i : Int))) := by simpa using hr'
          rw [this]
          exact wid
    case done =>
      rintro τ1 ⟨rows, s6, s7, s8, s9, s10, rfl, hlen, hok⟩
      rw [rngD_len] at hlen
      exact ⟨rows, s6, s7, s8, s9, s10, rfl, by omega, hok⟩
    case rest =>
      rintro _ ⟨rows, s6, s7, s8, s9, s10, rfl, hlen, hok⟩
      exact sd_retO rfl (hR rows hlen hok)
def P__law_kept (as : List Sl) (R : Sl → Prop) : Prop := ∃ (m : Int) (e : Int × Int) (day : List Show) (rows : List (List Int)), as = [.dat (.int m), .dat (dP e), .dat (dDay day), .dat (dII rows)] ∧ rows.length ≤ 1000 ∧ (∀ r ∈ rows, okP day.length r ∧ r.length ≤ 10) ∧ R (.own ((lkept m e day rows).map PyData.bool))
theorem ok__law_kept (T : Txt K mg) : FnOk P w K mg base CX0 3 T.fa__law_kept T.fd__law_kept A__law_kept (spF K P__law_kept) := by
  refine T.F__law_kept.ok sc__law_kept (spF_len (n := 4) fun as R h => ?_) fun cdv A outer s H vs Q E hr h => ⟨_, (pss_cons (ps_asg (pe_tup (pa_cons (pe_lst pa_nil) (pa_cons (pe_lst pa_nil) pa_nil))) (tupK (K := K) (n := 2) rfl rfl (pgs_cons (pg_name (i := 4) sc__law_kept.nd rfl (Or.inl rfl)) (pgs_cons (pg_name (i := 5) sc__law_kept.nd rfl (Or.inr rfl)) pgs_nil))))
  (pss_cons (ps_for PassesOwn.never rfl (seqK (K := K) rfl (pv 3)) (pg_name (i := 6) sc__law_kept.nd rfl (Or.inl rfl)) (pss_cons (ps_set (i := 7) sc__law_kept.nd rfl (Or.inl rfl) (pe_op op_addA (pv 5) (pe_lc (own := [("_law_place", 8)]) (by rfl) sc__law_kept.nd (seqK (K := K) rfl (pv 6)) (blkOk_by (own := [("_law_place", 8)]) (N := N__law_kept) (sc := defScope s__law_kept) (by decide +kernel)) (fun _ _ _ _ _ => (pg_name (i := 8) sc__law_kept.nd rfl (Or.inl rfl))) (fun _ _ _ _ _ => (pts_one (pt_cmpR (ninK (K := K) rfl) (pv 8) (pv 5) (by rfl)))) (fun _ _ _ _ _ => (pv 8)))))
  (pss_cons (ps_expr (bmK (K := K) rfl PySem.F.plainAttrs_list PySem.F.slot_list_append PySem.F.type_list_append mt_append (pv 4) (pa_cons (pe_cmpR (eqK (K := K) hr rfl) (pe_call (ok__law_full T) (hr.mono (by decide)) (by rfl) T.g__law_full T.F__law_full.kp (b__law_full T) .nil pass0 (pa_cons (pv 0) (pa_cons (pv 1) (pa_cons (pv 2) (pa_cons (pv 7) pa_nil))))) (pe_lst pa_nil) (nomark _)) pa_nil)))
  (pss_one (ps_set (i := 5) sc__law_kept.nd rfl (Or.inr rfl) (pe_ifExp (pt_val (pe_ix (ixK (K := K) rfl) (pv 4) (pe_un un_neg pe_int) (fun _ _ => rfl))) (pv 7) (pv 5)))))))
  (pss_one (ps_ret (pv 4))))), body_of (M := N__law_kept) (fun as R h => ?_) vs H Q E h⟩
  · obtain ⟨_, _, _, _, rfl, _⟩ := h; rfl
  · obtain ⟨m, e, day, rows, rfl, hl, hrow, hR⟩ := h
    refine sd_seq1 (sd_mk2 (.own (el_lst (ds := []) ea_nil (by simp))) (.dat ed_nil) rfl) ?_
    refine sd_seq (M := fun τ' => ∃ (s5 s6 s7 s8 : Sl), τ' = [.dat (.int m), .dat (dP e), .dat (dDay day), .dat (dII rows), .own ((lkept m e day rows).map PyData.bool), s5, s6, s7, s8])
      (sd_for (fun i τ' => ∃ (found : List Bool) (sm : List Int) (s6 s7 s8 : Sl), τ' = [.dat (.int m), .dat (dP e), .dat (dDay day), .dat (dII rows), .own (found.map PyData.bool), .dat (dI sm), s6, s7, s8] ∧ okP day.length sm ∧ sm.length ≤ 10 * i ∧ found.length = i ∧ found ++ lkGo m e day (rows.drop i) sm = lkept m e day rows)
        (ei_any (ed_var rfl)) ⟨[], [], .unk, .unk, .unk, rfl, (by intro p hp; cases hp), by simp, rfl, rfl⟩ ?turn ?done) ?rest
    case turn =>
      rintro i d τ1 hd' ⟨found, sm, s6, s7, s8, rfl, hsm, hsl, hfl, hgo⟩
      obtain ⟨row, hx, rfl⟩ := map_at hd'
      obtain ⟨hr0, hr1⟩ := hrow row (List.mem_of_getElem? hx)
      have hil : i < rows.length := (List.getElem?_eq_some_iff.mp hx).1
      rw [drop_at hx] at hgo
      unfold lkGo at hgo
      have hfl2 : (row.filter fun p => !sm.contains p).length ≤ 10 := Nat.le_trans (List.length_filter_le _ _) hr1
      refine ⟨[6], _, tg_name 6, ?_⟩
      refine sd_seq1 (sd_asg (d := dI (sm ++ row.filter fun p => !sm.contains p)) (ed_is (el_cat (ed_var rfl) (el_filt row PyData.int PyData.int (fun p => !sm.contains p) (js := [8]) (ei_any (ed_var rfl)) (by decide) (by omega) fun x _ => ⟨_, tg_name 8, et_test (ed_nin (ed_var rfl) (ed_var rfl)), fun _ => ed_var rfl⟩).ed (by rw [List.length_map, List.length_map]; omega)).ed (by unfold dI; rw [List.map_append])) rfl) ?_
      generalize hmore : (sm ++ row.filter fun p => !sm.contains p) = more at *
      have okm : okP day.length more := fun p hp => by
        rw [← hmore] at hp
        rcases List.mem_append.mp hp with hp | hp
        · exact hsm p hp
        · exact hr0 p (List.mem_filter.mp hp).1
      have lm : more.length ≤ 10 * (i + 1) := by rw [← hmore, List.length_append]; omega
      refine sd_seq1 (sd_append (i := 4) (d := .bool (decide (full m e day more = []))) rfl (ed_eqT nice_dI (a := full m e day more) (b := []) (el_call (ea_cons (ed_var rfl) (ea_cons (ed_var rfl) (ea2 (ed_var rfl) (ed_var rfl)))) ⟨m, e, day, more, rfl, okm, rfl⟩).ed ed_nil) (by rw [List.length_map]; omega) rfl) ?_
      refine sd_asg (d := dI (if full m e day more = [] then more else sm)) (ed_if (b := decide (full m e day more = [])) (et_B (ed_frz 4 rfl (ed_ixL (ds := found.map PyData.bool ++ [.bool (decide (full m e day more = []))]) (ed_var rfl) (ed_neg ed_int) (atI_last _ _)))) (fun c => ed_is (ed_var rfl) (by rw [if_pos (of_decide_eq_true c)])) fun c => ed_is (ed_var rfl) (by rw [if_neg (of_decide_eq_false c)])) ⟨found ++ [decide (full m e day more = [])], if full m e day more = [] then more else sm, .dat (dI row), .dat (dI more), s8, ?_, ?_, ?_, by simp [hfl], ?_⟩
      · rw [List.map_append]; rfl
      · by_cases c : full m e day more = []
        · rw [if_pos c]; exact okm
        · rw [if_neg c]; exact hsm
      · by_cases c : full m e day more = []
        · rw [if_pos c]; exact lm
        · rw [if_neg c]; omega
      · rw [List.append_assoc]
        exact hgo
    case done =>
      rintro τ1 ⟨found, sm, s6, s7, s8, rfl, hsm, hsl, hfl, hgo⟩
      have e1 : rows.drop (rows.map dI).length = [] := by rw [List.length_map]; exact List.drop_length
      rw [e1] at hgo
      unfold lkGo at hgo
      rw [List.append_nil] at hgo
      exact ⟨.dat (dI sm), s6, s7, s8, by rw [← hgo]⟩
    case rest =>
      rintro _ ⟨s5, s6, s7, s8, rfl⟩
      exact sd_retO rfl hR
def P__law_moves (as : List Sl) (R : Sl → Prop) : Prop := ∃ (day : List Show) (w : Int), as = [.dat (dDay day), .dat (.int w)] ∧ okDay day ∧ ∀ mv : List (Int × Int), (∀ x ∈ mv, 0 ≤ x.1 ∧ x.1 < day.length ∧ 0 ≤ (shAt day x.1).1 + x.2 ∧ (shAt day x.1).2.1 + x.2 ≤ 24) → R (.own (mv.map dP))
theorem ok__law_moves (T : Txt K mg) : FnOk P w K mg base CX0 1 T.fa__law_moves T.fd__law_moves A__law_moves (spF K P__law_moves) := by
  refine T.F__law_moves.ok sc__law_moves (spF_len (n := 2) fun as R h => ?_) fun cdv A outer s H vs Q E hr h => ⟨_, (pss_cons (ps_set (i := 2) sc__law_moves.nd rfl (Or.inl rfl) (pe_lst pa_nil))
  (pss_cons (ps_for PassesOwn.never rfl (enumK (K := K) rfl (by rfl) T.n_enumerate (pa_cons (pv 0) pa_nil)) (tupK (K := K) (n := 2) rfl rfl (pgs_cons (pg_name (i := 3) sc__law_moves.nd rfl (Or.inl rfl)) (pgs_cons (pg_name (i := 4) sc__law_moves.nd rfl (Or.inl rfl)) pgs_nil))) (pss_cons (ps_set (i := 5) sc__law_moves.nd rfl (Or.inl rfl) (pe_op op_addA (pe_op op_sub (pe_op op_addA (pe_ix (ixK (K := K) rfl) (pv 4) pe_int (fun _ _ => rfl)) pe_int) (pe_ix (ixK (K := K) rfl) (pv 4) pe_int (fun _ _ => rfl))) pe_int))
  (pss_one (ps_expr (bmK (K := K) rfl PySem.F.plainAttrs_list PySem.F.slot_list_append PySem.F.type_list_append mt_append (pv 2) (pa_cons (pe_tup (pa_cons (pv 3) (pa_cons (pe_op op_sub (pe_op op_mod (pe_op op_addA (pv 1) (pv 3)) (pv 5)) (pe_ix (ixK (K := K) rfl) (pv 4) pe_int (fun _ _ => rfl))) pa_nil))) pa_nil))))))
  (pss_one (ps_ret (pv 2))))), body_of (M := N__law_moves) (fun as R h => ?_) vs H Q E h⟩
  · obtain ⟨_, _, rfl, _⟩ := h; rfl
  · obtain ⟨day, w', rfl, hd, hR⟩ := h
    have hd1 := hd.1
    refine sd_seq1 (sd_asgL (el_lst (ds := []) ea_nil (by simp)) rfl) ?_
    refine sd_seq (M := fun τ' => ∃ (mv : List (Int × Int)) (s3 s4 s5 : Sl), τ' = [.dat (dDay day), .dat (.int w'), .own (mv.map dP), s3, s4, s5] ∧ ∀ x ∈ mv, 0 ≤ x.1 ∧ x.1 < day.length ∧ 0 ≤ (shAt day x.1).1 + x.2 ∧ (shAt day x.1).2.1 + x.2 ≤ 24)
      (sd_for (fun i τ' => ∃ (mv : List (Int × Int)) (s3 s4 s5 : Sl), τ' = [.dat (dDay day), .dat (.int w'), .own (mv.map dP), s3, s4, s5] ∧ mv.length = i ∧ ∀ x ∈ mv, 0 ≤ x.1 ∧ x.1 < day.length ∧ 0 ≤ (shAt day x.1).1 + x.2 ∧ (shAt day x.1).2.1 + x.2 ≤ 24)
        (ei_enum (ea1 (ed_var rfl))) ⟨[], .unk, .unk, .unk, rfl, rfl, (by intro x hx; cases hx)⟩ ?turn ?done) ?rest
    case turn =>
      rintro i d τ1 hd' ⟨mv, s3, s4, s5, rfl, hl, hm⟩
      rw [enumD_map] at hd'
      obtain ⟨x, hx, rfl⟩ := map_at hd'
      rw [List.getElem?_zipIdx] at hx
      cases q : day[i]? with
      | none => rw [q] at hx; simp at hx
      | some s =>
        rw [q] at hx
        simp at hx
        subst hx
        have hi : i < day.length := (List.getElem?_eq_some_iff.mp q).1
        have hs : shAt day (i : Int) = s := by unfold shAt; rw [Int.toNat_natCast, List.getD_eq_getElem?_getD, q]; rfl
        obtain ⟨o1, o2, o3, o4, o5⟩ := hd.2 s (List.mem_of_getElem? q)
        refine ⟨[3, 4], _, tg2, ?_⟩
        refine sd_seq1 (sd_asg (ed_add (ed_sub (ed_add (ed_s0 (ed_var rfl)) ed_int) (ed_s1 (ed_var rfl))) ed_int) rfl) ?_
        have k0 := Int.emod_nonneg (w' + (i : Int)) (show s.1 + 24 - s.2.1 + 1 ≠ 0 by omega)
        have k1 := Int.emod_lt_of_pos (w' + (i : Int)) (show 0 < s.1 + 24 - s.2.1 + 1 by omega)
        refine sd_append (i := 2) (d := dP ((i : Int), (w' + (i : Int)) % (s.1 + 24 - s.2.1 + 1) - s.1)) rfl (ed_pair (ed_var rfl) (ed_sub (ed_mod (ed_add (ed_var rfl) (ed_var rfl)) (ed_var rfl) (by omega)) (ed_s0 (ed_var rfl)))) (by rw [List.length_map]; omega) ⟨mv ++ [((i : Int), (w' + (i : Int)) % (s.1 + 24 - s.2.1 + 1) - s.1)], ?a, ?b, ?c, ?eq, by simp [hl], ?ok⟩
        case eq => rw [List.map_append]; rfl
        case ok =>
          intro x hx
          rcases List.mem_append.mp hx with hx | hx
          · exact hm x hx
          · have : x = ((i : Int), (w' + (i : Int)) % (s.1 + 24 - s.2.1 + 1) - s.1) := by simpa using hx
            subst this
            dsimp only
            rw [hs]
            omega
    case done =>
      rintro τ1 ⟨mv, s3, s4, s5, rfl, hl, hm⟩
      exact ⟨mv, s3, s4, s5, rfl, hm⟩
    case rest =>
      rintro _ ⟨mv, s3, s4, s5, rfl, hm⟩
      exact sd_retO rfl (hR mv hm)
def P__law_moved (as : List Sl) (R : Sl → Prop) : Prop := ∃ (day : List Show) (p b : Int), as = [.dat (dDay day), .dat (.int p), .dat (.int b)] ∧ day.length ≤ 1000 ∧ 0 ≤ p ∧ p < day.length ∧ R (.own ((movedOf day p b).map dS))
theorem ok__law_moved (T : Txt K mg) : FnOk P w K mg base CX0 1 T.fa__law_moved T.fd__law_moved A__law_moved (spF K P__law_moved) := by
  refine T.F__law_moved.ok sc__law_moved (spF_len (n := 3) fun as R h => ?_) fun cdv A outer s H vs Q E hr h => ⟨_, (pss_cons (ps_asg (pe_ix (ixK (K := K) rfl) (pv 0) (pv 1) (fun _ _ => rfl)) (tupK (K := K) (n := 3) rfl rfl (pgs_cons (pg_name (i := 3) sc__law_moved.nd rfl (Or.inr rfl)) (pgs_cons (pg_name (i := 4) sc__law_moved.nd rfl (Or.inr rfl)) (pgs_cons (pg_name (i := 5) sc__law_moved.nd rfl (Or.inr rfl)) pgs_nil)))))
  (pss_one (ps_ret (pe_lc (own := [("_law_at", 6), ("_law_show", 7)]) (by rfl) sc__law_moved.nd (enumK (K := K) rfl (by rfl) T.n_enumerate (pa_cons (pv 0) pa_nil)) (blkOk_by (own := [("_law_at", 6), ("_law_show", 7)]) (N := N__law_moved) (sc := defScope s__law_moved) (by decide +kernel)) (fun _ _ _ _ _ => (tupK (K := K) (n := 2) rfl rfl (pgs_cons (pg_name (i := 6) sc__law_moved.nd rfl (Or.inl rfl)) (pgs_cons (pg_name (i := 7) sc__law_moved.nd rfl (Or.inl rfl)) pgs_nil)))) (fun _ _ _ _ _ => pts_nil) (fun _ _ _ _ _ => (pe_ifExp (pt_cmpR (eqK (K := K) hr rfl) (pv 6) (pv 1) (nomark _)) (pe_tup (pa_cons (pe_op op_addA (pv 3) (pv 2)) (pa_cons (pe_op op_addA (pv 4) (pv 2)) (pa_cons (pv 5) pa_nil)))) (pv 7))))))), body_of (M := N__law_moved) (fun as R h => ?_) vs H Q E h⟩
  · obtain ⟨_, _, _, rfl, _⟩ := h; rfl
  · obtain ⟨day, p, b, rfl, hl, h0, h1, hR⟩ := h
    refine sd_seq1 (sd_asgT (ed_day (ed_var rfl) (ed_var rfl) h0 h1) tg3 rfl) ?_
    refine sd_retL (el_is (el_map day.zipIdx (fun x => .tuple [.int (x.2 : Nat), dS x.1]) (fun x => dS (if ((x.2 : Nat) : Int) = p then mvS (shAt day p) b else x.1)) (js := [6, 7]) (ei_is (ei_enum (ea1 (ed_var rfl))) (enumD_map dS day)) (by decide) (by rw [List.length_zipIdx]; omega) fun x hx => ⟨_, tg2, ed_if (et_test (ed_eqT nice_int (ed_var rfl) (ed_var rfl))) (fun c => ed_is (ed_trip (ed_add (ed_var rfl) (ed_var rfl)) (ed_add (ed_var rfl) (ed_var rfl)) (ed_var rfl)) (by rw [if_pos (of_decide_eq_true c)]; rfl)) fun c => ed_is (ed_var rfl) (by rw [if_neg (of_decide_eq_false c)])⟩) ?_) hR
    unfold movedOf
    rw [← set_eq_map h0 h1, List.map_map]
    rfl
def P__law_move_right (as : List Sl) (R : Sl → Prop) : Prop := ∃ (m : Nat) (e : Int × Int) (day : List Show) (rows : List (List Int)) (p b : Int), as = [.dat (.int m), .dat (dP e), .dat (dDay day), .dat (dII rows), .dat (.int p), .dat (.int b)] ∧ (1 ≤ m ∧ m ≤ 3) ∧ okE e ∧ okDay day ∧ rows.length ≤ 6 ∧ (∀ r ∈ rows, okR day.length r ∧ r ≠ []) ∧ 0 ≤ p ∧ p < day.length ∧ 0 ≤ (shAt day p).1 + b ∧ (shAt day p).2.1 + b ≤ 24 ∧ R (.dat (.bool true))
theorem ok__law_move_right (T : Txt K mg) : FnOk P w K mg base CX0 6 T.fa__law_move_right T.fd__law_move_right A__law_move_right (spF K P__law_move_right) := by
  refine T.F__law_move_right.ok sc__law_move_right (spF_len (n := 6) fun as R h => ?_) fun cdv A outer s H vs Q E hr h => ⟨_, (pss_cons (ps_asg (pe_tup (pa_cons (pe_callTy (lstK (K := K) rfl) (by rfl) T.n_list (by decide +kernel) (pa_cons (pv 2) pa_nil)) (pa_cons (pe_lc (own := [("_law_row", 9)]) (by rfl) sc__law_move_right.nd (seqK (K := K) rfl (pv 3)) (blkOk_by (own := [("_law_row", 9)]) (N := N__law_move_right) (sc := defScope s__law_move_right) (by decide +kernel)) (fun _ _ _ _ _ => (pg_name (i := 9) sc__law_move_right.nd rfl (Or.inl rfl))) (fun _ _ _ _ _ => pts_nil) (fun _ _ _ _ _ => (pe_callTy (lstK (K := K) rfl) (by rfl) T.n_list (by decide +kernel) (pa_cons (pv 9) pa_nil)))) (pa_cons (pe_call (ok__law_kept T) (hr.mono (by decide)) (by rfl) T.g__law_kept T.F__law_kept.kp (b__law_kept T) .nil pass0 (pa_cons (pv 0) (pa_cons (pv 1) (pa_cons (pv 2) (pa_cons (pv 3) pa_nil))))) pa_nil)))) (tupK (K := K) (n := 3) rfl rfl (pgs_cons (pg_name (i := 6) sc__law_move_right.nd rfl (Or.inl rfl)) (pgs_cons (pg_name (i := 7) sc__law_move_right.nd rfl (Or.inl rfl)) (pgs_cons (pg_name (i := 8) sc__law_move_right.nd rfl (Or.inr rfl)) pgs_nil)))))
  (pss_cons (ps_set (i := 10) sc__law_move_right.nd rfl (Or.inl rfl) (pe_call (ok_moved T) (hr.mono (by decide)) (by rfl) T.g_moved T.F_moved.kp (b_moved T) .nil pass0 (pa_cons (pv 6) (pa_cons (pv 4) (pa_cons (pv 5) pa_nil)))))
  (pss_cons (ps_if (PW.pt (pw_or (pt_not (pt_val (pe_callB (isiK (K := K) rfl) (by rfl) T.n_isinstance (by decide +kernel) (pa_cons (pv 10) (pa_cons (pe_bltn (v := .ty "list") (by rfl) T.n_list (by decide +kernel) rfl) pa_nil))))) (pw_or (pt_cmpR (neK (K := K) hr rfl) (pv 10) (pe_call (ok__law_moved T) (hr.mono (by decide)) (by rfl) T.g__law_moved T.F__law_moved.kp (b__law_moved T) .nil pass0 (pa_cons (pv 2) (pa_cons (pv 4) (pa_cons (pv 5) pa_nil)))) (nomark _)) (pw_or1 (pt_cmpR (neK (K := K) hr rfl) (pv 6) (pv 2) (nomark _)))))) (pss_one (ps_ret pe_bl)) pss_nil)
  (pss_cons (ps_set (i := 11) sc__law_move_right.nd rfl (Or.inl rfl) (pe_call (ok__law_kept T) (hr.mono (by decide)) (by rfl) T.g__law_kept T.F__law_kept.kp (b__law_kept T) .nil pass0 (pa_cons (pv 0) (pa_cons (pv 1) (pa_cons (pv 10) (pa_cons (pv 3) pa_nil))))))
  (pss_cons (ps_setLc (i := 12) (own := [("_law_at", 13), ("_law_one", 14)]) (by rfl) sc__law_move_right.nd rfl rfl (sw_true rfl rfl rfl (by decide +kernel)) (enumK (K := K) rfl (by rfl) T.n_enumerate (pa_cons (pv 11) pa_nil)) (blkOk_by (own := [("_law_at", 13), ("_law_one", 14)]) (N := N__law_move_right) (sc := defScope s__law_move_right) (by decide +kernel)) (fun _ _ _ _ _ => (tupK (K := K) (n := 2) rfl rfl (pgs_cons (pg_name (i := 13) sc__law_move_right.nd rfl (Or.inl rfl)) (pgs_cons (pg_name (i := 14) sc__law_move_right.nd rfl (Or.inl rfl)) pgs_nil)))) (fun _ _ _ _ _ => (pts_one (pt_cmpR (neK (K := K) hr rfl) (pv 14) (pe_ix (ixK (K := K) rfl) (pv 8) (pv 13) (fun _ _ => rfl)) (nomark _)))) (fun _ _ _ _ _ => (pe_tup (pa_cons (pv 13) (pa_cons (pv 14) pa_nil)))))
  (pss_cons (ps_for PassesOwn.never rfl (pi_range1 (by rfl) T.n_range (pa_cons pe_int pa_nil)) (pg_name (i := 15) sc__law_move_right.nd rfl (Or.inl rfl)) (pss_cons (ps_set (i := 16) sc__law_move_right.nd rfl (Or.inl rfl) (pe_call (ok_changes T) (hr.mono (by decide)) (by rfl) T.g_changes T.F_changes.kp (b_changes T) .nil pass0 (pa_cons (pv 0) (pa_cons (pv 1) (pa_cons (pv 6) (pa_cons (pv 7) (pa_cons (pv 4) (pa_cons (pv 5) pa_nil))))))))
  (pss_cons (ps_if (PW.pt (pw_or (pt_cmpR (neK (K := K) hr rfl) (pv 16) (pv 12) (nomark _)) (pw_or (pt_cmpR (neK (K := K) hr rfl) (pv 6) (pv 2) (nomark _)) (pw_or1 (pt_cmpR (neK (K := K) hr rfl) (pv 7) (pv 3) (nomark _)))))) (pss_one (ps_ret pe_bl)) pss_nil)
  (pss_cons (ps_if (pt_not (pt_val (pe_callB (allK (K := K) rfl rfl) (by rfl) T.n_all (by decide +kernel) (pa_cons (pe_lc (own := [("_law_pair", 17)]) (by rfl) sc__law_move_right.nd (seqK (K := K) rfl (pv 16)) (blkOk_by (own := [("_law_pair", 17)]) (N := N__law_move_right) (sc := defScope s__law_move_right) (by decide +kernel)) (fun _ _ _ _ _ => (pg_name (i := 17) sc__law_move_right.nd rfl (Or.inl rfl))) (fun _ _ _ _ _ => pts_nil) (fun _ _ _ _ _ => (pe_and (pe_callB (isiK (K := K) rfl) (by rfl) T.n_isinstance (by decide +kernel) (pa_cons (pv 17) (pa_cons (pe_bltn (v := .ty "tuple") (by rfl) T.n_tuple (by decide +kernel) rfl) pa_nil))) (pe_one (pe_callB (isiK (K := K) rfl) (by rfl) T.n_isinstance (by decide +kernel) (pa_cons (pe_ix (ixK (K := K) rfl) (pv 17) pe_int (fun _ _ => rfl)) (pa_cons (pe_bltn (v := .ty "bool") (by rfl) T.n_bool (by decide +kernel) rfl) pa_nil))))))) pa_nil)))) (pss_one (ps_ret pe_bl)) pss_nil)
  (pss_one (ps_expr (bmK (K := K) rfl PySem.F.plainAttrs_list PySem.F.slot_list_append PySem.F.type_list_append mt_append (pv 16) (pa_cons (pe_tup pa_nil) pa_nil))))))))
  (pss_cons (ps_expr (bmK (K := K) rfl PySem.F.plainAttrs_list PySem.F.slot_list_append PySem.F.type_list_append mt_append (pv 10) (pa_cons (pe_tup (pa_cons pe_int (pa_cons pe_int (pa_cons pe_int pa_nil)))) pa_nil)))
  (pss_one (ps_ret (pe_cmpR (eqK (K := K) hr rfl) (pe_call (ok_moved T) (hr.mono (by decide)) (by rfl) T.g_moved T.F_moved.kp (b_moved T) .nil pass0 (pa_cons (pv 6) (pa_cons (pv 4) (pa_cons (pv 5) pa_nil)))) (pe_slice (slK (K := K) rfl) (pv 10) po_none (po_some (pe_un un_neg pe_int))) (nomark _))))))))))), body_of (M := N__law_move_right) (fun as R h => ?_) vs H Q E h⟩
  · obtain ⟨_, _, _, _, _, _, rfl, _⟩ := h; rfl
  · obtain ⟨m, e, day, rows, p, b, rfl, hm, he, hd, hl, hrow, h0, h1, b0, b1, hR⟩ := h
    have hd1 := hd.1
    have hrl : ∀ r ∈ rows, okP day.length r ∧ r.length ≤ 10 := fun r hr0 => ⟨(hrow r hr0).1.1, by have := okR_len (hrow r hr0).1; omega⟩
    have kd : keptOf m e day rows = lkept (m : Int) e day rows := kept_eq he hd.2 fun r hr0 => (hrow r hr0).1
    have km : keptOf m e (movedOf day p b) rows = lkept (m : Int) e (movedOf day p b) rows := kept_eq he (Pl.ok_moved hd.2 b0 b1 h0 h1) fun r hr0 => by rw [len_moved]; exact (hrow r hr0).1
    refine sd_seq1 (sd_mk3 (.dat (el_list (ed_var rfl)).ed) (.dat (el_map rows dI dI (js := [9]) (ei_any (ed_var rfl)) (by decide) (by omega) fun r _ => ⟨_, tg_name 9, (el_list (ed_var rfl)).ed⟩).ed) (.dat (el_call (ea_cons (ed_var rfl) (ea_cons (ed_var rfl) (ea2 (ed_var rfl) (ed_var rfl)))) ⟨m, e, day, rows, rfl, by omega, hrl, rfl⟩).ed) rfl) ?_
    refine sd_seq1 (sd_asgL (el_call (ea_cons (ed_var rfl) (ea2 (ed_var rfl) (ed_var rfl))) ⟨day, p, b, rfl, hd, h0, h1, b0, b1, rfl⟩) rfl) ?_
    refine sd_seq1 (sd_if (b := false) (et_frz 10 rfl (et_is (et_or (et_not (et_B (ed_isLst (ed_var rfl)))) fun _ => et_or (et_test (ed_neT nice_dDay (a := movedOf day p b) (b := movedOf day p b) (ed_var rfl) (el_call (ea_cons (ed_var rfl) (ea2 (ed_var rfl) (ed_var rfl))) ⟨day, p, b, rfl, by omega, h0, h1, rfl⟩).ed)) fun _ => et_test (ed_neT nice_dDay (a := day) (b := day) (ed_var rfl) (ed_var rfl))) (by simp [isA, isN, tyN]))) (fun c => by cases c) fun _ => sd_next rfl) ?_
    refine sd_seq1 (sd_asg (el_frz 10 rfl (el_call (ea_cons (ed_var rfl) (ea_cons (ed_var rfl) (ea2 (ed_var rfl) (ed_var rfl)))) ⟨m, e, movedOf day p b, rows, rfl, by omega, fun r hr0 => by rw [len_moved]; exact hrl r hr0, rfl⟩) (scal_bools _)).ed rfl) ?_
    have lb : (lkept (m : Int) e day rows).length = rows.length := by rw [← kd]; exact keptGo_len _ _
    have la : (lkept (m : Int) e (movedOf day p b) rows).length = rows.length := by rw [← km]; exact keptGo_len _ _
    have chg : changeOf (keptOf m e day rows) (keptOf m e (movedOf day p b) rows) = changeOf (lkept (m : Int) e day rows) (lkept (m : Int) e (movedOf day p b) rows) := by rw [kd, km]
    generalize lkept (m : Int) e day rows = before at *
    generalize lkept (m : Int) e (movedOf day p b) rows = after at *
    have chl : (changeOf before after).length ≤ 6 := by
      unfold changeOf
      rw [List.length_map]
      have := List.length_filter_le (fun x : Bool × Nat => !decide (x.1 = before.getD x.2 false)) after.zipIdx
      rw [List.length_zipIdx] at this
      omega
    refine sd_seq1 (sd_asg (d := .list ((changeOf before after).map dC)) (ed_is (el_filt after.zipIdx (fun x => .tuple [.int (x.2 : Nat), .bool x.1]) (fun x => dC ((x.2 : Int), x.1)) (fun x => !decide (x.1 = before.getD x.2 false)) (js := [13, 14]) (ei_is (ei_enum (ea1 (ed_var rfl))) (enumD_map PyData.bool after)) (by decide) (by rw [List.length_zipIdx]; omega) fun x hx => ⟨_, tg2, et_test (ed_neT nice_bool (ed_var rfl) (ed_batN (ed_var rfl) (ed_var rfl) (by have := (zipIdx_mem hx).2.1; omega))), fun _ => ed_tup (ds := [_, _]) (ea2 (ed_var rfl) (ed_var rfl)) (by simp)⟩).ed (by unfold changeOf; rw [List.map_map]; rfl)) rfl) ?_
    refine sd_seq (M := fun τ' => ∃ (s9 s13 s14 s15 s16 s17 : Sl), τ' = [.dat (.int m), .dat (dP e), .dat (dDay day), .dat (dII rows), .dat (.int p), .dat (.int b), .dat (dDay day), .dat (dII rows), .dat (dB before), s9, .own ((movedOf day p b).map dS), .dat (dB after), .dat (.list ((changeOf before after).map dC)), s13, s14, s15, s16, s17])
      (sd_for (fun i τ' => ∃ (s9 s13 s14 s15 s16 s17 : Sl), τ' = [.dat (.int m), .dat (dP e), .dat (dDay day), .dat (dII rows), .dat (.int p), .dat (.int b), .dat (dDay day), .dat (dII rows), .dat (dB before), s9, .own ((movedOf day p b).map dS), .dat (dB after), .dat (.list ((changeOf before after).map dC)), s13, s14, s15, s16, s17])
        (ei_rngN (m := 2) (ea1 ed_int) (by decide)) ⟨.unk, .unk, .unk, .unk, .unk, .unk, rfl⟩ ?turn fun τ1 h => h) ?rest
    case turn =>
      rintro i d τ1 _ ⟨s9, s13, s14, s15, s16, s17, rfl⟩
      refine ⟨[15], _, tg_name 15, ?_⟩
      refine sd_seq1 (sd_asgL (el_call (ea_cons (ed_var rfl) (ea_cons (ed_var rfl) (ea_cons (ed_var rfl) (ea_cons (ed_var rfl) (ea2 (ed_var rfl) (ed_var rfl)))))) ⟨m, e, day, rows, p, b, rfl, hm, he, hd, hl, hrow, h0, h1, b0, b1, rfl⟩) rfl) ?_
      rw [chg]
      refine sd_seq1 (sd_if (b := false) (et_frz 16 rfl (et_is (et_or (et_test (ed_neT nice_dCs (a := changeOf before after) (b := changeOf before after) (ed_var rfl) (ed_var rfl))) fun _ => et_or (et_test (ed_neT nice_dDay (a := day) (b := day) (ed_var rfl) (ed_var rfl))) fun _ => et_test (ed_neT nice_dII (a := rows) (b := rows) (ed_var rfl) (ed_var rfl))) (by simp))) (fun c => by cases c) fun _ => sd_next rfl) ?_
      refine sd_seq1 (sd_if (b := false) (et_frz 16 rfl (et_is (et_not (et_B (ed_allF (changeOf before after) (fun _ => true) (el_map (changeOf before after) dC (fun _ => .bool true) (js := [17]) (ei_any (ed_var rfl)) (by decide) (by omega) fun x _ => ⟨_, tg_name 17, ed_is (ed_andV (ed_isTup (ed_var rfl)) fun _ => ed_isBool (ed_ixT (ds := [.int x.1, .bool x.2]) (ed_var rfl) ed_int rfl)) (by simp [isA, isN, tyN, dC])⟩)))) (by simp))) (fun c => by cases c) fun _ => sd_next rfl) ?_
      exact sd_append (i := 16) rfl (ed_tup (ds := []) ea_nil (by simp)) (by rw [List.length_map]; omega) ⟨_, _, _, _, _, _, rfl⟩
    case rest =>
      rintro _ ⟨s9, s13, s14, s15, s16, s17, rfl⟩
      refine sd_seq1 (sd_append (i := 10) (d := dS (0, 1, 0)) rfl (ed_trip ed_int ed_int ed_int) (by rw [List.length_map, len_moved]; omega) rfl) ?_
      refine sd_frz (i := 10) rfl (sd_ret (ed_is (ed_eqT nice_dDay (a := movedOf day p b) (b := movedOf day p b) (el_call (ea_cons (ed_var rfl) (ea2 (ed_var rfl) (ed_var rfl))) ⟨day, p, b, rfl, hd, h0, h1, b0, b1, rfl⟩).ed (ed_is (el_sl (ed_var rfl) eo_none (eo_some (ed_neg ed_int))).ed (by rw [cutD_init]; rfl))) (by simp)) hR)
def P_law (as : List Sl) (R : Sl → Prop) : Prop := ∃ ns : List Int, as = [.scr ns] ∧ okN ns ∧ R (.dat (.bool true))
theorem ok_law (T : Txt K mg) : FnOk P w K mg base CX0 7 T.fa_law T.fd_law A_law (spF K P_law) := by
  refine T.F_law.ok sc_law (spF_len (n := 1) fun as R h => ?_) fun cdv A outer s H vs Q E hr h => ⟨_, (pss_cons (ps_set (i := 1) sc_law.nd rfl (Or.inl rfl) (pe_callB cr_abs (by rfl) T.n_abs (by decide +kernel) (pa_cons (pe_callB (sumK (K := K) rfl rfl) (by rfl) T.n_sum (by decide +kernel) (pa_cons (pe_slice (slK (K := K) rfl) (pv 0) po_none (po_some pe_int)) pa_nil)) pa_nil)))
  (pss_cons (ps_for PassesOwn.never rfl (seqK (K := K) rfl (pe_lst (pa_cons pe_int (pa_cons pe_int (pa_cons pe_int pa_nil))))) (pg_name (i := 2) sc_law.nd rfl (Or.inl rfl)) (pss_cons (ps_par3 (i := 3) (j := 4) (l := 5) rfl sc_law.nd rfl rfl rfl (by decide) (by decide) (by decide) rfl rfl rfl (pa_cons (pe_call (ok__law_day T) (hr.mono (by decide)) (by rfl) T.g__law_day T.F__law_day.kp (b__law_day T) .nil pass0 (pa_cons (pv 0) (pa_cons (pv 2) (pa_cons pe_int pa_nil)))) (pa_cons (pe_call (ok__law_edges T) (hr.mono (by decide)) (by rfl) T.g__law_edges T.F__law_edges.kp (b__law_edges T) .nil pass0 (pa_cons (pv 0) (pa_cons (pv 2) pa_nil))) (pa_cons (pe_op op_addA pe_int (pe_op op_mod (pe_op op_addA (pv 1) (pv 2)) pe_int)) pa_nil))) rfl)
  (pss_cons (ps_set (i := 6) sc_law.nd rfl (Or.inl rfl) (pe_call (ok__law_wishes T) (hr.mono (by decide)) (by rfl) T.g__law_wishes T.F__law_wishes.kp (b__law_wishes T) .nil pass0 (pa_cons (pv 0) (pa_cons (pv 2) (pa_cons (pv 3) pa_nil)))))
  (pss_cons (ps_par (i := 7) (j := 8) rfl sc_law.nd rfl rfl (by decide) rfl rfl (pa_cons (pe_callTy (lstK (K := K) rfl) (by rfl) T.n_list (by decide +kernel) (pa_cons (pv 3) pa_nil)) (pa_cons (pe_lc (own := [("_law_row", 9)]) (by rfl) sc_law.nd (seqK (K := K) rfl (pv 6)) (blkOk_by (own := [("_law_row", 9)]) (N := N_law) (sc := defScope s_law) (by decide +kernel)) (fun _ _ _ _ _ => (pg_name (i := 9) sc_law.nd rfl (Or.inl rfl))) (fun _ _ _ _ _ => pts_nil) (fun _ _ _ _ _ => (pe_callTy (lstK (K := K) rfl) (by rfl) T.n_list (by decide +kernel) (pa_cons (pv 9) pa_nil)))) pa_nil)) rfl)
  (pss_cons (ps_set (i := 10) sc_law.nd rfl (Or.inl rfl) (pe_call (ok__law_kept T) (hr.mono (by decide)) (by rfl) T.g__law_kept T.F__law_kept.kp (b__law_kept T) .nil pass0 (pa_cons (pv 5) (pa_cons (pv 4) (pa_cons (pv 3) (pa_cons (pv 6) pa_nil))))))
  (pss_cons (ps_for PassesOwn.never rfl (pi_range1 (by rfl) T.n_range (pa_cons pe_int pa_nil)) (pg_name (i := 11) sc_law.nd rfl (Or.inl rfl)) (pss_cons (ps_set (i := 12) sc_law.nd rfl (Or.inl rfl) (pe_call (ok_kept T) (hr.mono (by decide)) (by rfl) T.g_kept T.F_kept.kp (b_kept T) .nil pass0 (pa_cons (pv 5) (pa_cons (pv 4) (pa_cons (pv 7) (pa_cons (pv 8) pa_nil))))))
  (pss_cons (ps_if (PW.pt (pw_or (pt_not (pt_val (pe_callB (isiK (K := K) rfl) (by rfl) T.n_isinstance (by decide +kernel) (pa_cons (pv 12) (pa_cons (pe_bltn (v := .ty "list") (by rfl) T.n_list (by decide +kernel) rfl) pa_nil))))) (pw_or (pt_cmpR (neK (K := K) hr rfl) (pv 12) (pv 10) (nomark _)) (pw_or1 (pt_not (pt_val (pe_callB (allK (K := K) rfl rfl) (by rfl) T.n_all (by decide +kernel) (pa_cons (pe_lc (own := [("_law_one", 13)]) (by rfl) sc_law.nd (seqK (K := K) rfl (pv 12)) (blkOk_by (own := [("_law_one", 13)]) (N := N_law) (sc := defScope s_law) (by decide +kernel)) (fun _ _ _ _ _ => (pg_name (i := 13) sc_law.nd rfl (Or.inl rfl))) (fun _ _ _ _ _ => pts_nil) (fun _ _ _ _ _ => (pe_callB (isiK (K := K) rfl) (by rfl) T.n_isinstance (by decide +kernel) (pa_cons (pv 13) (pa_cons (pe_bltn (v := .ty "bool") (by rfl) T.n_bool (by decide +kernel) rfl) pa_nil))))) pa_nil)))))))) (pss_one (ps_ret pe_bl)) pss_nil)
  (pss_cons (ps_if (PW.pt (pw_or (pt_cmpR (neK (K := K) hr rfl) (pv 7) (pv 3) (nomark _)) (pw_or1 (pt_cmpR (neK (K := K) hr rfl) (pv 8) (pv 6) (nomark _))))) (pss_one (ps_ret pe_bl)) pss_nil)
  (pss_one (ps_expr (bmK (K := K) rfl PySem.F.plainAttrs_list PySem.F.slot_list_append PySem.F.type_list_append mt_append (pv 12) (pa_cons pe_bl pa_nil))))))))
  (pss_cons (ps_if (pt_cmpR (neK (K := K) hr rfl) (pe_call (ok_kept T) (hr.mono (by decide)) (by rfl) T.g_kept T.F_kept.kp (b_kept T) .nil pass0 (pa_cons (pv 5) (pa_cons (pv 4) (pa_cons (pv 3) (pa_cons (pe_slice (slK (K := K) rfl) (pv 6) po_none (po_some pe_int)) pa_nil))))) (pe_slice (slK (K := K) rfl) (pv 10) po_none (po_some pe_int)) (nomark _)) (pss_one (ps_ret pe_bl)) pss_nil)
  (pss_one (ps_for PassesOwn.never rfl (seqK (K := K) rfl (pe_call (ok__law_moves T) (hr.mono (by decide)) (by rfl) T.g__law_moves T.F__law_moves.kp (b__law_moves T) .nil pass0 (pa_cons (pv 3) (pa_cons (pv 1) pa_nil)))) (tupK (K := K) (n := 2) rfl rfl (pgs_cons (pg_name (i := 14) sc_law.nd rfl (Or.inl rfl)) (pgs_cons (pg_name (i := 15) sc_law.nd rfl (Or.inl rfl)) pgs_nil))) (pss_one (ps_if (pt_not (pt_val (pe_call (ok__law_move_right T) (hr.mono (by decide)) (by rfl) T.g__law_move_right T.F__law_move_right.kp (b__law_move_right T) .nil pass0 (pa_cons (pv 5) (pa_cons (pv 4) (pa_cons (pv 3) (pa_cons (pv 6) (pa_cons (pv 14) (pa_cons (pv 15) pa_nil))))))))) (pss_one (ps_ret pe_bl)) pss_nil)))))))))))
  (pss_cons (ps_set (i := 3) sc_law.nd rfl (Or.inl rfl) (pe_lst (pa_cons (pe_tup (pa_cons pe_int (pa_cons pe_int (pa_cons pe_int pa_nil)))) (pa_cons (pe_tup (pa_cons pe_int (pa_cons pe_int (pa_cons pe_int pa_nil)))) (pa_cons (pe_tup (pa_cons pe_int (pa_cons pe_int (pa_cons pe_int pa_nil)))) pa_nil)))))
  (pss_cons (ps_if (pt_cmpR (neK (K := K) hr rfl) (pe_call (ok_kept T) (hr.mono (by decide)) (by rfl) T.g_kept T.F_kept.kp (b_kept T) .nil pass0 (pa_cons pe_int (pa_cons (pe_tup (pa_cons pe_int (pa_cons pe_int pa_nil))) (pa_cons (pv 3) (pa_cons (pe_lst (pa_cons (pe_lst (pa_cons pe_int (pa_cons pe_int pa_nil))) (pa_cons (pe_lst (pa_cons pe_int pa_nil)) (pa_cons (pe_lst (pa_cons pe_int pa_nil)) (pa_cons (pe_lst (pa_cons pe_int pa_nil)) pa_nil))))) pa_nil))))) (pe_lst (pa_cons pe_bl (pa_cons pe_bl (pa_cons pe_bl (pa_cons pe_bl pa_nil))))) (nomark _)) (pss_one (ps_ret pe_bl)) pss_nil)
  (pss_cons (ps_if (pt_cmpR (neK (K := K) hr rfl) (pe_call (ok_moved T) (hr.mono (by decide)) (by rfl) T.g_moved T.F_moved.kp (b_moved T) .nil pass0 (pa_cons (pe_lst (pa_cons (pe_tup (pa_cons pe_int (pa_cons pe_int (pa_cons pe_int pa_nil)))) pa_nil)) (pa_cons pe_int (pa_cons (pe_un un_neg pe_int) pa_nil)))) (pe_lst (pa_cons (pe_tup (pa_cons pe_int (pa_cons pe_int (pa_cons pe_int pa_nil)))) pa_nil)) (nomark _)) (pss_one (ps_ret pe_bl)) pss_nil)
  (pss_one (ps_ret (pe_cmpR (eqK (K := K) hr rfl) (pe_call (ok_changes T) (hr.mono (by decide)) (by rfl) T.g_changes T.F_changes.kp (b_changes T) .nil pass0 (pa_cons pe_int (pa_cons (pe_tup (pa_cons pe_int (pa_cons pe_int pa_nil))) (pa_cons (pe_slice (slK (K := K) rfl) (pv 3) po_none (po_some pe_int)) (pa_cons (pe_lst (pa_cons (pe_lst (pa_cons pe_int pa_nil)) (pa_cons (pe_lst (pa_cons pe_int pa_nil)) pa_nil))) (pa_cons pe_int (pa_cons pe_int pa_nil))))))) (pe_lst (pa_cons (pe_tup (pa_cons pe_int (pa_cons pe_bl pa_nil))) pa_nil)) (nomark _))))))))), body_of (M := N_law) (fun as R h => ?_) vs H Q E h⟩
  · obtain ⟨_, rfl, _⟩ := h; rfl
  · obtain ⟨ns, rfl, hns, hR⟩ := h
    refine sd_seq1 (sd_asg (ed_whole rfl) rfl) ?_
    generalize ((ns.take 63).sum.natAbs : Int) = whole
    refine sd_seq (M := fun τ' => ∃ (s2 s3 s4 s5 s6 s7 s8 s9 s10 s11 s12 s13 s14 s15 : Sl), τ' = [.scr ns, .dat (.int whole), s2, s3, s4, s5, s6, s7, s8, s9, s10, s11, s12, s13, s14, s15])
      (sd_for (its := [0, 1, 3].map PyData.int) (fun i τ' => ∃ (s2 s3 s4 s5 s6 s7 s8 s9 s10 s11 s12 s13 s14 s15 : Sl), τ' = [.scr ns, .dat (.int whole), s2, s3, s4, s5, s6, s7, s8, s9, s10, s11, s12, s13, s14, s15])
        (ei_any (el_lst (ds := [.int 0, .int 1, .int 3]) (ea_cons ed_int (ea2 ed_int ed_int)) (by simp)).ed) ⟨.unk, .unk, .unk, .unk, .unk, .unk, .unk, .unk, .unk, .unk, .unk, .unk, .unk, .unk, rfl⟩ ?turn fun τ1 h => h) ?rest
    case turn =>
      rintro i d τ1 hd' ⟨s2, s3, s4, s5, s6, s7, s8, s9, s10, s11, s12, s13, s14, s15, rfl⟩
      obtain ⟨by_, hx, rfl⟩ := map_at hd'
      have hby : 0 ≤ by_ ∧ by_ ≤ 3 := by
        have := List.mem_of_getElem? hx
        simp at this
        omega
      refine ⟨[2], _, tg_name 2, ?_⟩
      have k0 := Int.emod_nonneg (whole + by_) (show (3 : Int) ≠ 0 by decide)
      have k1 := Int.emod_lt_of_pos (whole + by_) (show (0 : Int) < 3 by decide)
      obtain ⟨m, hmz⟩ := nat_of (show 0 ≤ 1 + (whole + by_) % 3 by omega)
      have hm : 1 ≤ m ∧ m ≤ 3 := by omega
      refine sd_seq (M := fun τ' => ∃ (day : List Show) (e : Int × Int), okDay day ∧ okE e ∧ τ' = [.scr ns, .dat (.int whole), .dat (.int by_), .own (day.map dS), .dat (dP e), .dat (.int m), s6, s7, s8, s9, s10, s11, s12, s13, s14, s15])
        (sd_par3N (S1 := fun s => ∃ day, okDay day ∧ s = .own (day.map dS)) (S2 := fun s => ∃ e, okE e ∧ s = .dat (dP e)) (S3 := fun s => s = .dat (.int m)) (en_call (ea_scr rfl (ea2 (ed_var rfl) ed_int)) ⟨ns, by_, 10, rfl, hns, by omega, by omega, by omega, by omega, fun day hok hl => ⟨day, ⟨by omega, hok⟩, rfl⟩⟩) (en_call (ea_scr rfl (ea1 (ed_var rfl))) ⟨ns, by_, rfl, fun e he => ⟨e, he, rfl⟩⟩) (en_ed (ed_add ed_int (ed_mod (ed_add (ed_var rfl) (ed_var rfl)) ed_int (by decide))) (by rw [hmz])) ?_) ?_
      · rintro _ _ _ ⟨day, hd, rfl⟩ ⟨e, he, rfl⟩ rfl
        exact ⟨day, e, hd, he, rfl⟩
      rintro _ ⟨day, e, hd, he, rfl⟩
      have hd1 := hd.1
      refine sd_frz (i := 3) rfl ?_
      refine sd_seq (M := fun τ' => ∃ rows : List (List Int), rows.length ≤ 6 ∧ (∀ r ∈ rows, okR day.length r ∧ r ≠ []) ∧ τ' = [.scr ns, .dat (.int whole), .dat (.int by_), .dat (dDay day), .dat (dP e), .dat (.int m), .own (rows.map dI), s7, s8, s9, s10, s11, s12, s13, s14, s15]) (sd_asgN (en_call (ea_scr rfl (ea2 (ed_var rfl) (ed_var rfl))) ⟨ns, by_, day, rfl, hns, by omega, by omega, hd1, fun rows hl hok => ⟨rows, hl, hok, rfl⟩⟩)) ?_
      rintro _ ⟨rows, hl, hrow, rfl⟩
      refine sd_frz (i := 6) rfl ?_
      have hrl : ∀ r ∈ rows, okP day.length r ∧ r.length ≤ 10 := fun r hr0 => ⟨(hrow r hr0).1.1, by have := okR_len (hrow r hr0).1; omega⟩
      have kd : keptOf m e day rows = lkept (m : Int) e day rows := kept_eq he hd.2 fun r hr0 => (hrow r hr0).1
      refine sd_seq1 (sd_par (.dat (el_list (ed_var rfl)).ed) (.dat (el_map rows dI dI (js := [9]) (ei_any (ed_var rfl)) (by decide) (by omega) fun r _ => ⟨_, tg_name 9, (el_list (ed_var rfl)).ed⟩).ed) rfl) ?_
      refine sd_seq1 (sd_asg (el_call (ea_cons (ed_var rfl) (ea_cons (ed_var rfl) (ea2 (ed_var rfl) (ed_var rfl)))) ⟨m, e, day, rows, rfl, by omega, hrl, rfl⟩).ed rfl) ?_
      rw [← kd]
      have lb : (keptOf m e day rows).length = rows.length := keptGo_len _ _
      refine sd_seq (M := fun τ' => ∃ (s9 s11 s12 s13 s14 s15 : Sl), τ' = [.scr ns, .dat (.int whole), .dat (.int by_), .dat (dDay day), .dat (dP e), .dat (.int m), .dat (dII rows), .dat (dDay day), .dat (dII rows), s9, .dat (dB (keptOf m e day rows)), s11, s12, s13, s14, s15])
        (sd_for (fun i τ' => ∃ (s9 s11 s12 s13 s14 s15 : Sl), τ' = [.scr ns, .dat (.int whole), .dat (.int by_), .dat (dDay day), .dat (dP e), .dat (.int m), .dat (dII rows), .dat (dDay day), .dat (dII rows), s9, .dat (dB (keptOf m e day rows)), s11, s12, s13, s14, s15])
          (ei_rngN (m := 2) (ea1 ed_int) (by decide)) ⟨s9, s11, s12, s13, s14, s15, rfl⟩ ?turn2 fun τ1 h => h) ?rest2
      case turn2 =>
        rintro i d τ1 _ ⟨s9, s11, s12, s13, s14, s15, rfl⟩
        refine ⟨[11], _, tg_name 11, ?_⟩
        refine sd_seq1 (sd_asgL (el_call (ea_cons (ed_var rfl) (ea_cons (ed_var rfl) (ea2 (ed_var rfl) (ed_var rfl)))) ⟨m, e, day, rows, rfl, hm, he, hd, hl, hrow, rfl⟩) rfl) ?_
        refine sd_seq1 (sd_if (b := false) (et_frz 12 rfl (et_is (et_or (et_not (et_B (ed_isLst (ed_var rfl)))) fun _ => et_or (et_test (ed_neT nice_dB (a := keptOf m e day rows) (b := keptOf m e day rows) (ed_var rfl) (ed_var rfl))) fun _ => et_not (et_B (ed_allF (keptOf m e day rows) (fun _ => true) (el_map (keptOf m e day rows) PyData.bool (fun _ => .bool true) (js := [13]) (ei_any (ed_var rfl)) (by decide) (by omega) fun x _ => ⟨_, tg_name 13, ed_is (ed_isBool (ed_var rfl)) (by simp [isA, isN, tyN])⟩)))) (by simp [isA, isN, tyN]))) (fun c => by cases c) fun _ => sd_next rfl) ?_
        refine sd_seq1 (sd_if (b := false) (et_is (et_or (et_test (ed_neT nice_dDay (a := day) (b := day) (ed_var rfl) (ed_var rfl))) fun _ => et_test (ed_neT nice_dII (a := rows) (b := rows) (ed_var rfl) (ed_var rfl))) (by simp)) (fun c => by cases c) fun _ => sd_next rfl) ?_
        exact sd_append (i := 12) rfl ed_bl (by rw [List.length_map]; omega) ⟨_, _, _, _, _, _, rfl⟩
      case rest2 =>
        rintro _ ⟨s9, s11, s12, s13, s14, s15, rfl⟩
        refine sd_seq1 (sd_if (b := false) (et_is (et_test (ed_neT nice_dB (a := (keptOf m e day rows).take 2) (b := (keptOf m e day rows).take 2) (ed_is (el_call (ea_cons (ed_var rfl) (ea_cons (ed_var rfl) (ea2 (ed_var rfl) (ed_is (el_sl (ed_var rfl) eo_none (eo_some ed_int)).ed (show _ = dII (rows.take 2) by rw [cutD_take (by decide)]; unfold dII; rw [List.map_take]; rfl))))) ⟨m, e, day, rows.take 2, rfl, hm, he, hd, by rw [List.length_take]; omega, fun r hr0 => hrow r (List.mem_of_mem_take hr0), rfl⟩).ed (by unfold dB keptOf; rw [keptGo_take])) (ed_is (el_sl (ed_var rfl) eo_none (eo_some ed_int)).ed (by rw [cutD_take (by decide)]; unfold dB; rw [List.map_take]; rfl)))) (by simp)) (fun c => by cases c) fun _ => sd_next rfl) ?_
        refine sd_forN (S := fun s => ∃ mv : List (Int × Int), s = .own (mv.map dP) ∧ ∀ x ∈ mv, 0 ≤ x.1 ∧ x.1 < day.length ∧ 0 ≤ (shAt day x.1).1 + x.2 ∧ (shAt day x.1).2.1 + x.2 ≤ 24) (en_call (ea2 (ed_var rfl) (ed_var rfl)) ⟨day, whole, rfl, hd, fun mv hmv => ⟨mv, rfl, hmv⟩⟩) ?_
        rintro _ ⟨mv, rfl, hmv⟩
        refine ⟨mv.map dP, rfl, fun i τ' => ∃ (s9 s11 s12 s13 s14 s15 : Sl), τ' = [.scr ns, .dat (.int whole), .dat (.int by_), .dat (dDay day), .dat (dP e), .dat (.int m), .dat (dII rows), .dat (dDay day), .dat (dII rows), s9, .dat (dB (keptOf m e day rows)), s11, s12, s13, s14, s15], ⟨s9, s11, s12, s13, s14, s15, rfl⟩, ?_, ?_⟩
        · rintro j d τ1 hd2 ⟨s9, s11, s12, s13, s14, s15, rfl⟩
          obtain ⟨x, hx, rfl⟩ := map_at hd2
          obtain ⟨x0, x1, x2, x3⟩ := hmv x (List.mem_of_getElem? hx)
          refine ⟨[14, 15], _, tg2, ?_⟩
          exact sd_if (b := false) (et_is (et_not (et_B (ed_call (d := .bool true) (ea_cons (ed_var rfl) (ea_cons (ed_var rfl) (ea_cons (ed_var rfl) (ea_cons (ed_var rfl) (ea2 (ed_var rfl) (ed_var rfl)))))) ⟨m, e, day, rows, x.1, x.2, rfl, hm, he, hd, hl, hrow, x0, x1, x2, x3, rfl⟩))) rfl) (fun c => by cases c) fun _ => sd_next ⟨_, _, _, _, _, _, rfl⟩
        · rintro τ1 ⟨s9, s11, s12, s13, s14, s15, rfl⟩
          exact ⟨_, _, _, _, _, _, _, _, _, _, _, _, _, _, rfl⟩
    case rest =>
      rintro _ ⟨s2, s3, s4, s5, s6, s7, s8, s9, s10, s11, s12, s13, s14, s15, rfl⟩
      have ok3 : okDay [(0, 4, 0), (3, 5, 0), (4, 6, 0)] := ⟨by decide, by unfold okS; decide⟩
      have oe : okE (0, 0) := by unfold okE; decide
      refine sd_seq1 (sd_asg (d := dDay [(0, 4, 0), (3, 5, 0), (4, 6, 0)]) (el_lst (ds := [dS (0, 4, 0), dS (3, 5, 0), dS (4, 6, 0)]) (ea_cons (ed_trip ed_int ed_int ed_int) (ea2 (ed_trip ed_int ed_int ed_int) (ed_trip ed_int ed_int ed_int))) (by simp)).ed rfl) ?_
      have lI : ∀ {τ : Sls} {a : Int}, ED K (tLst (tCons (tC (.int a)) tNil)) τ (dI [a]) := fun {τ a} => (el_lst (ds := [.int a]) (ea1 ed_int) (by simp)).ed
      have lI2 : ∀ {τ : Sls} {a b : Int}, ED K (tLst (tCons (tC (.int a)) (tCons (tC (.int b)) tNil))) τ (dI [a, b]) := fun {τ a b} => (el_lst (ds := [.int a, .int b]) (ea2 ed_int ed_int) (by simp)).ed
      have r1 : ∀ r ∈ [[0, 1], [0], [1], [2]], okR 3 r ∧ r ≠ [] := by
        unfold okR okP
        decide
      have r2 : ∀ r ∈ [[0], [1]], okR 2 r ∧ r ≠ [] := by
        unfold okR okP
        decide
      refine sd_seq1 (sd_if (b := false) (et_is (et_test (ed_neT nice_dB (a := [false, true, false, true]) (b := [false, true, false, true]) (ed_is (el_call (ea_cons ed_int (ea_cons (ed_pair ed_int ed_int) (ea2 (ed_var rfl) (el_lst (ds := [dI [0, 1], dI [0], dI [1], dI [2]]) (ea_cons lI2 (ea_cons lI (ea2 lI lI))) (by simp)).ed))) ⟨1, (0, 0), [(0, 4, 0), (3, 5, 0), (4, 6, 0)], [[0, 1], [0], [1], [2]], rfl, ⟨by decide, by decide⟩, oe, ok3, by decide, r1, rfl⟩).ed ?k1) (el_lst (ds := [.bool false, .bool true, .bool false, .bool true]) (ea_cons ed_bl (ea_cons ed_bl (ea2 ed_bl ed_bl))) (by simp)).ed)) (by simp)) (fun c => by cases c) fun _ => sd_next rfl) ?_
      case k1 =>
        have : keptOf 1 (0, 0) [(0, 4, 0), (3, 5, 0), (4, 6, 0)] [[0, 1], [0], [1], [2]] = [false, true, false, true] := (kept_eq oe ok3.2 fun r hr0 => (r1 r hr0).1).trans (by decide +kernel)
        rw [this]
        rfl
      refine sd_seq1 (sd_if (b := false) (et_is (et_test (ed_neT nice_dDay (a := [(0, 1, 9)]) (b := [(0, 1, 9)]) (el_call (ea_cons (el_lst (ds := [dS (2, 3, 9)]) (ea1 (ed_trip ed_int ed_int ed_int)) (by simp)).ed (ea2 ed_int (ed_neg ed_int))) ⟨[(2, 3, 9)], 0, -2, rfl, ⟨by decide, by unfold okS; decide⟩, by decide, by decide, by decide, by decide, rfl⟩).ed (el_lst (ds := [dS (0, 1, 9)]) (ea1 (ed_trip ed_int ed_int ed_int)) (by simp)).ed)) (by simp)) (fun c => by cases c) fun _ => sd_next rfl) ?_
      have ok2 : okDay [(0, 4, 0), (3, 5, 0)] := ⟨by decide, by unfold okS; decide⟩
      refine sd_ret (ed_is (ed_eqT nice_dCs (a := [(1, true)]) (b := [(1, true)]) (ed_is (el_call (ea_cons ed_int (ea_cons (ed_pair ed_int ed_int) (ea_cons (ed_is (el_sl (ed_var rfl) eo_none (eo_some ed_int)).ed (show _ = dDay [(0, 4, 0), (3, 5, 0)] by rw [cutD_take (by decide)]; rfl)) (ea_cons (el_lst (ds := [dI [0], dI [1]]) (ea2 lI lI) (by simp)).ed (ea2 ed_int ed_int))))) ⟨1, (0, 0), [(0, 4, 0), (3, 5, 0)], [[0], [1]], 1, 1, rfl, ⟨by decide, by decide⟩, oe, ok2, by decide, r2, by decide, by decide, by decide, by decide, rfl⟩).ed ?k2) (el_lst (ds := [dC (1, true)]) (ea1 (ed_tup (ds := [.int 1, .bool true]) (ea2 ed_int ed_bl) (by simp))) (by simp)).ed) (by simp)) hR
      case k2 =>
        have h1 : keptOf 1 (0, 0) [(0, 4, 0), (3, 5, 0)] [[0], [1]] = [true, false] := (kept_eq oe ok2.2 fun r hr0 => (r2 r hr0).1).trans (by decide +kernel)
        have h2 : keptOf 1 (0, 0) (movedOf [(0, 4, 0), (3, 5, 0)] 1 1) [[0], [1]] = [true, true] := (kept_eq oe (show ∀ s ∈ movedOf [(0, 4, 0), (3, 5, 0)] 1 1, okS s by unfold okS; decide) fun r hr0 => (r2 r hr0).1).trans (by decide +kernel)
        rw [h1, h2]
        rfl
end
theorem law_end (ns : List Int) (hl : ns.length ≤ 63) (hb : ∀ z ∈ ns, Builtin.Int.intBits z ≤ 1048576) : P_law [.scr ns] (· = .dat (.bool true)) := ⟨ns, rfl, ⟨hl, hb⟩, rfl⟩
theorem all_mk {P : Program} {w : World} {K : PySem.W.Frag} {h : Heap} {mg : Str → Option Value} {fa : Addr} (X : K.In h) (G : h.Ns mainGlobals mg) (hfa : mg "law" = some (.ref fa))
    {f0 : Addr} {oc0 kV0 dc0 pm0 cd0 ct0 : Value} {od0 an0 : Option Addr} {sl0 : Array (Option Value)}
    {f1 : Addr} {oc1 kV1 dc1 pm1 cd1 ct1 : Value} {od1 an1 : Option Addr} {sl1 : Array (Option Value)}
    {f2 : Addr} {oc2 kV2 dc2 pm2 cd2 ct2 : Value} {od2 an2 : Option Addr} {sl2 : Array (Option Value)}
    {f3 : Addr} {oc3 kV3 dc3 pm3 cd3 ct3 : Value} {od3 an3 : Option Addr} {sl3 : Array (Option Value)}
    {f4 : Addr} {oc4 kV4 dc4 pm4 cd4 ct4 : Value} {od4 an4 : Option Addr} {sl4 : Array (Option Value)}
    {f5 : Addr} {oc5 kV5 dc5 pm5 cd5 ct5 : Value} {od5 an5 : Option Addr} {sl5 : Array (Option Value)}
    {f6 : Addr} {oc6 kV6 dc6 pm6 cd6 ct6 : Value} {od6 an6 : Option Addr} {sl6 : Array (Option Value)}
    {f7 : Addr} {oc7 kV7 dc7 pm7 cd7 ct7 : Value} {od7 an7 : Option Addr} {sl7 : Array (Option Value)}
    {f8 : Addr} {oc8 kV8 dc8 pm8 cd8 ct8 : Value} {od8 an8 : Option Addr} {sl8 : Array (Option Value)}
    {f9 : Addr} {oc9 kV9 dc9 pm9 cd9 ct9 : Value} {od9 an9 : Option Addr} {sl9 : Array (Option Value)}
    {f10 : Addr} {oc10 kV10 dc10 pm10 cd10 ct10 : Value} {od10 an10 : Option Addr} {sl10 : Array (Option Value)}
    {f11 : Addr} {oc11 kV11 dc11 pm11 cd11 ct11 : Value} {od11 an11 : Option Addr} {sl11 : Array (Option Value)}
    {f12 : Addr} {oc12 kV12 dc12 pm12 cd12 ct12 : Value} {od12 an12 : Option Addr} {sl12 : Array (Option Value)}
    {f13 : Addr} {oc13 kV13 dc13 pm13 cd13 ct13 : Value} {od13 an13 : Option Addr} {sl13 : Array (Option Value)}
    {f14 : Addr} {oc14 kV14 dc14 pm14 cd14 ct14 : Value} {od14 an14 : Option Addr} {sl14 : Array (Option Value)}
    {f15 : Addr} {oc15 kV15 dc15 pm15 cd15 ct15 : Value} {od15 an15 : Option Addr} {sl15 : Array (Option Value)}
    {f16 : Addr} {oc16 kV16 dc16 pm16 cd16 ct16 : Value} {od16 an16 : Option Addr} {sl16 : Array (Option Value)}
    {f17 : Addr} {oc17 kV17 dc17 pm17 cd17 ct17 : Value} {od17 an17 : Option Addr} {sl17 : Array (Option Value)}
    {f18 : Addr} {oc18 kV18 dc18 pm18 cd18 ct18 : Value} {od18 an18 : Option Addr} {sl18 : Array (Option Value)}
    {f19 : Addr} {oc19 kV19 dc19 pm19 cd19 ct19 : Value} {od19 an19 : Option Addr} {sl19 : Array (Option Value)}
    {f20 : Addr} {oc20 kV20 dc20 pm20 cd20 ct20 : Value} {od20 an20 : Option Addr} {sl20 : Array (Option Value)}
    {f21 : Addr} {oc21 kV21 dc21 pm21 cd21 ct21 : Value} {od21 an21 : Option Addr} {sl21 : Array (Option Value)}
    {f22 : Addr} {oc22 kV22 dc22 pm22 cd22 ct22 : Value} {od22 an22 : Option Addr} {sl22 : Array (Option Value)}
    {f23 : Addr} {oc23 kV23 dc23 pm23 cd23 ct23 : Value} {od23 an23 : Option Addr} {sl23 : Array (Option Value)}
    {f24 : Addr} {oc24 kV24 dc24 pm24 cd24 ct24 : Value} {od24 an24 : Option Addr} {sl24 : Array (Option Value)}
    {f25 : Addr} {oc25 kV25 dc25 pm25 cd25 ct25 : Value} {od25 an25 : Option Addr} {sl25 : Array (Option Value)}
    {f26 : Addr} {oc26 kV26 dc26 pm26 cd26 ct26 : Value} {od26 an26 : Option Addr} {sl26 : Array (Option Value)}
    {f27 : Addr} {oc27 kV27 dc27 pm27 cd27 ct27 : Value} {od27 an27 : Option Addr} {sl27 : Array (Option Value)}
    {y0 : Tok}
    {y1 : Tok}
    {y2 : Tok}
    {y3 : Tok}
    {y4 : Tok}
    (a0 : PySem.W.nsIn K mainGlobals "is_whole" = some (some (.ref f0)))
    (l0 : K.lookup f0 = some ⟨oc0, od0, .func (PySem.W.fnOf "is_whole" "is_whole" (defArgs s_is_whole) (defBody s_is_whole) (defScope s_is_whole) .none kV0 dc0 pm0 an0 cd0 ct0), sl0⟩)
    (c0 : PySem.W.codeIn K cd0 "is_whole" = true)
    (k0 : PySem.W.keepIn K (.ref f0) = true)
    (a1 : PySem.W.nsIn K mainGlobals "is_show" = some (some (.ref f1)))
    (l1 : K.lookup f1 = some ⟨oc1, od1, .func (PySem.W.fnOf "is_show" "is_show" (defArgs s_is_show) (defBody s_is_show) (defScope s_is_show) .none kV1 dc1 pm1 an1 cd1 ct1), sl1⟩)
    (c1 : PySem.W.codeIn K cd1 "is_show" = true)
    (k1 : PySem.W.keepIn K (.ref f1) = true)
    (a2 : PySem.W.nsIn K mainGlobals "asked_tuners" = some (some (.ref f2)))
    (l2 : K.lookup f2 = some ⟨oc2, od2, .func (PySem.W.fnOf "asked_tuners" "asked_tuners" (defArgs s_asked_tuners) (defBody s_asked_tuners) (defScope s_asked_tuners) .none kV2 dc2 pm2 an2 cd2 ct2), sl2⟩)
    (c2 : PySem.W.codeIn K cd2 "asked_tuners" = true)
    (k2 : PySem.W.keepIn K (.ref f2) = true)
    (a3 : PySem.W.nsIn K mainGlobals "asked_edges" = some (some (.ref f3)))
    (l3 : K.lookup f3 = some ⟨oc3, od3, .func (PySem.W.fnOf "asked_edges" "asked_edges" (defArgs s_asked_edges) (defBody s_asked_edges) (defScope s_asked_edges) .none kV3 dc3 pm3 an3 cd3 ct3), sl3⟩)
    (c3 : PySem.W.codeIn K cd3 "asked_edges" = true)
    (k3 : PySem.W.keepIn K (.ref f3) = true)
    (a4 : PySem.W.nsIn K mainGlobals "asked_shows" = some (some (.ref f4)))
    (l4 : K.lookup f4 = some ⟨oc4, od4, .func (PySem.W.fnOf "asked_shows" "asked_shows" (defArgs s_asked_shows) (defBody s_asked_shows) (defScope s_asked_shows) .none kV4 dc4 pm4 an4 cd4 ct4), sl4⟩)
    (c4 : PySem.W.codeIn K cd4 "asked_shows" = true)
    (k4 : PySem.W.keepIn K (.ref f4) = true)
    (a5 : PySem.W.nsIn K mainGlobals "are_places" = some (some (.ref f5)))
    (l5 : K.lookup f5 = some ⟨oc5, od5, .func (PySem.W.fnOf "are_places" "are_places" (defArgs s_are_places) (defBody s_are_places) (defScope s_are_places) .none kV5 dc5 pm5 an5 cd5 ct5), sl5⟩)
    (c5 : PySem.W.codeIn K cd5 "are_places" = true)
    (k5 : PySem.W.keepIn K (.ref f5) = true)
    (a6 : PySem.W.nsIn K mainGlobals "asked_places" = some (some (.ref f6)))
    (l6 : K.lookup f6 = some ⟨oc6, od6, .func (PySem.W.fnOf "asked_places" "asked_places" (defArgs s_asked_places) (defBody s_asked_places) (defScope s_asked_places) .none kV6 dc6 pm6 an6 cd6 ct6), sl6⟩)
    (c6 : PySem.W.codeIn K cd6 "asked_places" = true)
    (k6 : PySem.W.keepIn K (.ref f6) = true)
    (a7 : PySem.W.nsIn K mainGlobals "asked_wishes" = some (some (.ref f7)))
    (l7 : K.lookup f7 = some ⟨oc7, od7, .func (PySem.W.fnOf "asked_wishes" "asked_wishes" (defArgs s_asked_wishes) (defBody s_asked_wishes) (defScope s_asked_wishes) .none kV7 dc7 pm7 an7 cd7 ct7), sl7⟩)
    (c7 : PySem.W.codeIn K cd7 "asked_wishes" = true)
    (k7 : PySem.W.keepIn K (.ref f7) = true)
    (a8 : PySem.W.nsIn K mainGlobals "asked_all" = some (some (.ref f8)))
    (l8 : K.lookup f8 = some ⟨oc8, od8, .func (PySem.W.fnOf "asked_all" "asked_all" (defArgs s_asked_all) (defBody s_asked_all) (defScope s_asked_all) .none kV8 dc8 pm8 an8 cd8 ct8), sl8⟩)
    (c8 : PySem.W.codeIn K cd8 "asked_all" = true)
    (k8 : PySem.W.keepIn K (.ref f8) = true)
    (a9 : PySem.W.nsIn K mainGlobals "held_of" = some (some (.ref f9)))
    (l9 : K.lookup f9 = some ⟨oc9, od9, .func (PySem.W.fnOf "held_of" "held_of" (defArgs s_held_of) (defBody s_held_of) (defScope s_held_of) .none kV9 dc9 pm9 an9 cd9 ct9), sl9⟩)
    (c9 : PySem.W.codeIn K cd9 "held_of" = true)
    (k9 : PySem.W.keepIn K (.ref f9) = true)
    (a10 : PySem.W.nsIn K mainGlobals "laid_of" = some (some (.ref f10)))
    (l10 : K.lookup f10 = some ⟨oc10, od10, .func (PySem.W.fnOf "laid_of" "laid_of" (defArgs s_laid_of) (defBody s_laid_of) (defScope s_laid_of) .none kV10 dc10 pm10 an10 cd10 ct10), sl10⟩)
    (c10 : PySem.W.codeIn K cd10 "laid_of" = true)
    (k10 : PySem.W.keepIn K (.ref f10) = true)
    (a11 : PySem.W.nsIn K mainGlobals "kept_of" = some (some (.ref f11)))
    (l11 : K.lookup f11 = some ⟨oc11, od11, .func (PySem.W.fnOf "kept_of" "kept_of" (defArgs s_kept_of) (defBody s_kept_of) (defScope s_kept_of) .none kV11 dc11 pm11 an11 cd11 ct11), sl11⟩)
    (c11 : PySem.W.codeIn K cd11 "kept_of" = true)
    (k11 : PySem.W.keepIn K (.ref f11) = true)
    (a12 : PySem.W.nsIn K mainGlobals "kept" = some (some (.ref f12)))
    (l12 : K.lookup f12 = some ⟨oc12, od12, .func (PySem.W.fnOf "kept" "kept" (defArgs s_kept) (defBody s_kept) (defScope s_kept) .none kV12 dc12 pm12 an12 cd12 ct12), sl12⟩)
    (c12 : PySem.W.codeIn K cd12 "kept" = true)
    (k12 : PySem.W.keepIn K (.ref f12) = true)
    (a13 : PySem.W.nsIn K mainGlobals "moved_of" = some (some (.ref f13)))
    (l13 : K.lookup f13 = some ⟨oc13, od13, .func (PySem.W.fnOf "moved_of" "moved_of" (defArgs s_moved_of) (defBody s_moved_of) (defScope s_moved_of) .none kV13 dc13 pm13 an13 cd13 ct13), sl13⟩)
    (c13 : PySem.W.codeIn K cd13 "moved_of" = true)
    (k13 : PySem.W.keepIn K (.ref f13) = true)
    (a14 : PySem.W.nsIn K mainGlobals "asked_move" = some (some (.ref f14)))
    (l14 : K.lookup f14 = some ⟨oc14, od14, .func (PySem.W.fnOf "asked_move" "asked_move" (defArgs s_asked_move) (defBody s_asked_move) (defScope s_asked_move) .none kV14 dc14 pm14 an14 cd14 ct14), sl14⟩)
    (c14 : PySem.W.codeIn K cd14 "asked_move" = true)
    (k14 : PySem.W.keepIn K (.ref f14) = true)
    (a15 : PySem.W.nsIn K mainGlobals "moved" = some (some (.ref f15)))
    (l15 : K.lookup f15 = some ⟨oc15, od15, .func (PySem.W.fnOf "moved" "moved" (defArgs s_moved) (defBody s_moved) (defScope s_moved) .none kV15 dc15 pm15 an15 cd15 ct15), sl15⟩)
    (c15 : PySem.W.codeIn K cd15 "moved" = true)
    (k15 : PySem.W.keepIn K (.ref f15) = true)
    (a16 : PySem.W.nsIn K mainGlobals "changes" = some (some (.ref f16)))
    (l16 : K.lookup f16 = some ⟨oc16, od16, .func (PySem.W.fnOf "changes" "changes" (defArgs s_changes) (defBody s_changes) (defScope s_changes) .none kV16 dc16 pm16 an16 cd16 ct16), sl16⟩)
    (c16 : PySem.W.codeIn K cd16 "changes" = true)
    (k16 : PySem.W.keepIn K (.ref f16) = true)
    (a17 : PySem.W.nsIn K mainGlobals "_law_number" = some (some (.ref f17)))
    (l17 : K.lookup f17 = some ⟨oc17, od17, .func (PySem.W.fnOf "_law_number" "_law_number" (defArgs s__law_number) (defBody s__law_number) (defScope s__law_number) .none kV17 dc17 pm17 an17 cd17 ct17), sl17⟩)
    (c17 : PySem.W.codeIn K cd17 "_law_number" = true)
    (k17 : PySem.W.keepIn K (.ref f17) = true)
    (a18 : PySem.W.nsIn K mainGlobals "_law_day" = some (some (.ref f18)))
    (l18 : K.lookup f18 = some ⟨oc18, od18, .func (PySem.W.fnOf "_law_day" "_law_day" (defArgs s__law_day) (defBody s__law_day) (defScope s__law_day) .none kV18 dc18 pm18 an18 cd18 ct18), sl18⟩)
    (c18 : PySem.W.codeIn K cd18 "_law_day" = true)
    (k18 : PySem.W.keepIn K (.ref f18) = true)
    (a19 : PySem.W.nsIn K mainGlobals "_law_edges" = some (some (.ref f19)))
    (l19 : K.lookup f19 = some ⟨oc19, od19, .func (PySem.W.fnOf "_law_edges" "_law_edges" (defArgs s__law_edges) (defBody s__law_edges) (defScope s__law_edges) .none kV19 dc19 pm19 an19 cd19 ct19), sl19⟩)
    (c19 : PySem.W.codeIn K cd19 "_law_edges" = true)
    (k19 : PySem.W.keepIn K (.ref f19) = true)
    (a20 : PySem.W.nsIn K mainGlobals "_law_moments" = some (some (.ref f20)))
    (l20 : K.lookup f20 = some ⟨oc20, od20, .func (PySem.W.fnOf "_law_moments" "_law_moments" (defArgs s__law_moments) (defBody s__law_moments) (defScope s__law_moments) .none kV20 dc20 pm20 an20 cd20 ct20), sl20⟩)
    (c20 : PySem.W.codeIn K cd20 "_law_moments" = true)
    (k20 : PySem.W.keepIn K (.ref f20) = true)
    (a21 : PySem.W.nsIn K mainGlobals "_law_full" = some (some (.ref f21)))
    (l21 : K.lookup f21 = some ⟨oc21, od21, .func (PySem.W.fnOf "_law_full" "_law_full" (defArgs s__law_full) (defBody s__law_full) (defScope s__law_full) .none kV21 dc21 pm21 an21 cd21 ct21), sl21⟩)
    (c21 : PySem.W.codeIn K cd21 "_law_full" = true)
    (k21 : PySem.W.keepIn K (.ref f21) = true)
    (a22 : PySem.W.nsIn K mainGlobals "_law_wishes" = some (some (.ref f22)))
    (l22 : K.lookup f22 = some ⟨oc22, od22, .func (PySem.W.fnOf "_law_wishes" "_law_wishes" (defArgs s__law_wishes) (defBody s__law_wishes) (defScope s__law_wishes) .none kV22 dc22 pm22 an22 cd22 ct22), sl22⟩)
    (c22 : PySem.W.codeIn K cd22 "_law_wishes" = true)
    (k22 : PySem.W.keepIn K (.ref f22) = true)
    (a23 : PySem.W.nsIn K mainGlobals "_law_kept" = some (some (.ref f23)))
    (l23 : K.lookup f23 = some ⟨oc23, od23, .func (PySem.W.fnOf "_law_kept" "_law_kept" (defArgs s__law_kept) (defBody s__law_kept) (defScope s__law_kept) .none kV23 dc23 pm23 an23 cd23 ct23), sl23⟩)
    (c23 : PySem.W.codeIn K cd23 "_law_kept" = true)
    (k23 : PySem.W.keepIn K (.ref f23) = true)
    (a24 : PySem.W.nsIn K mainGlobals "_law_moves" = some (some (.ref f24)))
    (l24 : K.lookup f24 = some ⟨oc24, od24, .func (PySem.W.fnOf "_law_moves" "_law_moves" (defArgs s__law_moves) (defBody s__law_moves) (defScope s__law_moves) .none kV24 dc24 pm24 an24 cd24 ct24), sl24⟩)
    (c24 : PySem.W.codeIn K cd24 "_law_moves" = true)
    (k24 : PySem.W.keepIn K (.ref f24) = true)
    (a25 : PySem.W.nsIn K mainGlobals "_law_moved" = some (some (.ref f25)))
    (l25 : K.lookup f25 = some ⟨oc25, od25, .func (PySem.W.fnOf "_law_moved" "_law_moved" (defArgs s__law_moved) (defBody s__law_moved) (defScope s__law_moved) .none kV25 dc25 pm25 an25 cd25 ct25), sl25⟩)
    (c25 : PySem.W.codeIn K cd25 "_law_moved" = true)
    (k25 : PySem.W.keepIn K (.ref f25) = true)
    (a26 : PySem.W.nsIn K mainGlobals "_law_move_right" = some (some (.ref f26)))
    (l26 : K.lookup f26 = some ⟨oc26, od26, .func (PySem.W.fnOf "_law_move_right" "_law_move_right" (defArgs s__law_move_right) (defBody s__law_move_right) (defScope s__law_move_right) .none kV26 dc26 pm26 an26 cd26 ct26), sl26⟩)
    (c26 : PySem.W.codeIn K cd26 "_law_move_right" = true)
    (k26 : PySem.W.keepIn K (.ref f26) = true)
    (a27 : PySem.W.nsIn K mainGlobals "law" = some (some (.ref f27)))
    (l27 : K.lookup f27 = some ⟨oc27, od27, .func (PySem.W.fnOf "law" "law" (defArgs s_law) (defBody s_law) (defScope s_law) .none kV27 dc27 pm27 an27 cd27 ct27), sl27⟩)
    (c27 : PySem.W.codeIn K cd27 "law" = true)
    (k27 : PySem.W.keepIn K (.ref f27) = true)
    (z0 : PySem.W.nsIn K mainGlobals "abs" = some none)
    (z1 : PySem.W.nsIn K mainGlobals "all" = some none)
    (z2 : PySem.W.nsIn K mainGlobals "bool" = some none)
    (z3 : PySem.W.nsIn K mainGlobals "enumerate" = some none)
    (z4 : PySem.W.nsIn K mainGlobals "int" = some none)
    (z5 : PySem.W.nsIn K mainGlobals "isinstance" = some none)
    (z6 : PySem.W.nsIn K mainGlobals "len" = some none)
    (z7 : PySem.W.nsIn K mainGlobals "list" = some none)
    (z8 : PySem.W.nsIn K mainGlobals "max" = some none)
    (z9 : PySem.W.nsIn K mainGlobals "min" = some none)
    (z10 : PySem.W.nsIn K mainGlobals "range" = some none)
    (z11 : PySem.W.nsIn K mainGlobals "set" = some none)
    (z12 : PySem.W.nsIn K mainGlobals "sorted" = some none)
    (z13 : PySem.W.nsIn K mainGlobals "sum" = some none)
    (z14 : PySem.W.nsIn K mainGlobals "tuple" = some none)
    (w0 : PySem.W.nsIn K mainGlobals "DAY_answers" = some (some (.int 24 y0)))
    (w1 : PySem.W.nsIn K mainGlobals "DAY_days" = some (some (.int 24 y1)))
    (w2 : PySem.W.nsIn K mainGlobals "MOST_SHOWS" = some (some (.int 10 y2)))
    (w3 : PySem.W.nsIn K mainGlobals "MOST_WISHES" = some (some (.int 6 y3)))
    (w4 : PySem.W.nsIn K mainGlobals "MOST_WORTH" = some (some (.int 60 y4)))
    : ∃ fd : FuncData, (∀ (s : Shared) (v : Value), BindsTo s fd ⟨[v], []⟩ [("_law_script", v)]) ∧ ∀ base : Heap, K.In base → base.Ns mainGlobals mg → FnOk P w K mg base CX0 7 fa fd ["_law_script"] (spF K P_law) := by
  have e : f27 = fa := (Value.ref.inj (Option.some.inj (hfa.symm.trans (PySem.W.mg_of X G a27)))).symm
  subst e
  let T : Txt K mg := {
    fa_is_whole := f0, fd_is_whole := _, F_is_whole := fun_mk (st := s_is_whole) l0 c0 k0, g_is_whole := PySem.W.mg_of X G a0,
    fa_is_show := f1, fd_is_show := _, F_is_show := fun_mk (st := s_is_show) l1 c1 k1, g_is_show := PySem.W.mg_of X G a1,
    fa_asked_tuners := f2, fd_asked_tuners := _, F_asked_tuners := fun_mk (st := s_asked_tuners) l2 c2 k2, g_asked_tuners := PySem.W.mg_of X G a2,
    fa_asked_edges := f3, fd_asked_edges := _, F_asked_edges := fun_mk (st := s_asked_edges) l3 c3 k3, g_asked_edges := PySem.W.mg_of X G a3,
    fa_asked_shows := f4, fd_asked_shows := _, F_asked_shows := fun_mk (st := s_asked_shows) l4 c4 k4, g_asked_shows := PySem.W.mg_of X G a4,
    fa_are_places := f5, fd_are_places := _, F_are_places := fun_mk (st := s_are_places) l5 c5 k5, g_are_places := PySem.W.mg_of X G a5,
    fa_asked_places := f6, fd_asked_places := _, F_asked_places := fun_mk (st := s_asked_places) l6 c6 k6, g_asked_places := PySem.W.mg_of X G a6,
    fa_asked_wishes := f7, fd_asked_wishes := _, F_asked_wishes := fun_mk (st := s_asked_wishes) l7 c7 k7, g_asked_wishes := PySem.W.mg_of X G a7,
    fa_asked_all := f8, fd_asked_all := _, F_asked_all := fun_mk (st := s_asked_all) l8 c8 k8, g_asked_all := PySem.W.mg_of X G a8,
    fa_held_of := f9, fd_held_of := _, F_held_of := fun_mk (st := s_held_of) l9 c9 k9, g_held_of := PySem.W.mg_of X G a9,
    fa_laid_of := f10, fd_laid_of := _, F_laid_of := fun_mk (st := s_laid_of) l10 c10 k10, g_laid_of := PySem.W.mg_of X G a10,
    fa_kept_of := f11, fd_kept_of := _, F_kept_of := fun_mk (st := s_kept_of) l11 c11 k11, g_kept_of := PySem.W.mg_of X G a11,
    fa_kept := f12, fd_kept := _, F_kept := fun_mk (st := s_kept) l12 c12 k12, g_kept := PySem.W.mg_of X G a12,
    fa_moved_of := f13, fd_moved_of := _, F_moved_of := fun_mk (st := s_moved_of) l13 c13 k13, g_moved_of := PySem.W.mg_of X G a13,
    fa_asked_move := f14, fd_asked_move := _, F_asked_move := fun_mk (st := s_asked_move) l14 c14 k14, g_asked_move := PySem.W.mg_of X G a14,
    fa_moved := f15, fd_moved := _, F_moved := fun_mk (st := s_moved) l15 c15 k15, g_moved := PySem.W.mg_of X G a15,
    fa_changes := f16, fd_changes := _, F_changes := fun_mk (st := s_changes) l16 c16 k16, g_changes := PySem.W.mg_of X G a16,
    fa__law_number := f17, fd__law_number := _, F__law_number := fun_mk (st := s__law_number) l17 c17 k17, g__law_number := PySem.W.mg_of X G a17,
    fa__law_day := f18, fd__law_day := _, F__law_day := fun_mk (st := s__law_day) l18 c18 k18, g__law_day := PySem.W.mg_of X G a18,
    fa__law_edges := f19, fd__law_edges := _, F__law_edges := fun_mk (st := s__law_edges) l19 c19 k19, g__law_edges := PySem.W.mg_of X G a19,
    fa__law_moments := f20, fd__law_moments := _, F__law_moments := fun_mk (st := s__law_moments) l20 c20 k20, g__law_moments := PySem.W.mg_of X G a20,
    fa__law_full := f21, fd__law_full := _, F__law_full := fun_mk (st := s__law_full) l21 c21 k21, g__law_full := PySem.W.mg_of X G a21,
    fa__law_wishes := f22, fd__law_wishes := _, F__law_wishes := fun_mk (st := s__law_wishes) l22 c22 k22, g__law_wishes := PySem.W.mg_of X G a22,
    fa__law_kept := f23, fd__law_kept := _, F__law_kept := fun_mk (st := s__law_kept) l23 c23 k23, g__law_kept := PySem.W.mg_of X G a23,
    fa__law_moves := f24, fd__law_moves := _, F__law_moves := fun_mk (st := s__law_moves) l24 c24 k24, g__law_moves := PySem.W.mg_of X G a24,
    fa__law_moved := f25, fd__law_moved := _, F__law_moved := fun_mk (st := s__law_moved) l25 c25 k25, g__law_moved := PySem.W.mg_of X G a25,
    fa__law_move_right := f26, fd__law_move_right := _, F__law_move_right := fun_mk (st := s__law_move_right) l26 c26 k26, g__law_move_right := PySem.W.mg_of X G a26,
    fa_law := f27, fd_law := _, F_law := fun_mk (st := s_law) l27 c27 k27, g_law := PySem.W.mg_of X G a27,
    n_abs := PySem.W.mg_none_of X G z0,
    n_all := PySem.W.mg_none_of X G z1,
    n_bool := PySem.W.mg_none_of X G z2,
    n_enumerate := PySem.W.mg_none_of X G z3,
    n_int := PySem.W.mg_none_of X G z4,
    n_isinstance := PySem.W.mg_none_of X G z5,
    n_len := PySem.W.mg_none_of X G z6,
    n_list := PySem.W.mg_none_of X G z7,
    n_max := PySem.W.mg_none_of X G z8,
    n_min := PySem.W.mg_none_of X G z9,
    n_range := PySem.W.mg_none_of X G z10,
    n_set := PySem.W.mg_none_of X G z11,
    n_sorted := PySem.W.mg_none_of X G z12,
    n_sum := PySem.W.mg_none_of X G z13,
    n_tuple := PySem.W.mg_none_of X G z14,
    t_DAY_answers := y0, c_DAY_answers := PySem.W.mg_of X G w0,
    t_DAY_days := y1, c_DAY_days := PySem.W.mg_of X G w1,
    t_MOST_SHOWS := y2, c_MOST_SHOWS := PySem.W.mg_of X G w2,
    t_MOST_WISHES := y3, c_MOST_WISHES := PySem.W.mg_of X G w3,
    t_MOST_WORTH := y4, c_MOST_WORTH := PySem.W.mg_of X G w4 }
  exact ⟨PySem.W.fnOf "law" "law" (defArgs s_law) (defBody s_law) (defScope s_law) .none kV27 dc27 pm27 an27 cd27 ct27, fun s v => .of_eq rfl, fun base _ _ => ok_law T⟩
theorem walk {l : PySem.W.OpenLaw} {q : Program} {loose : List Str} {XP : (Str → Option Value) → Heap → Prop} {YP : World → Heap → Prop} {d : DefRec} {K : Params → PySem.W.Frag} (hn : l.most = some 63) (hdf : d.params.defaults = [])
    (hY : ∀ (w : World) (h : Heap), YP w h → (K w.params).In h)
    (F : ∀ (w : World) (mg : Str → Option Value) (fa : Addr) (h : Heap), (K w.params).In h → h.Ns mainGlobals mg → mg d.name = some (.ref fa) →
      ∃ fd : FuncData, (∀ (s : Shared) (u : Value), BindsTo s fd ⟨[u], []⟩ [("_law_script", u)]) ∧ ∀ base : Heap, (K w.params).In base → base.Ns mainGlobals mg → FnOk l.prog w (K w.params) mg base CX0 7 fa fd ["_law_script"] (spF (K w.params) P_law)) :
    PySem.W.WalkO q loose XP YP l.row.toRowW d [] (fun f vs => PySem.call f vs) :=
  L2.walk_ofB (n := 63) (k := 7) (x := "_law_script") (CX := fun _ => CX0) (sp := fun w => spF (K w.params) P_law) hn (by decide) hdf ⟨rfl, by decide, by decide⟩ hY F (fun w H a ns hl hb _ hS => spF_end hS (law_end ns hl hb)) fun _ _ _ _ _ z => z
end Law

open PySem PySem.W PyProof.Rows in
set_option maxRecDepth 100000 in
set_option maxHeartbeats 0 in
theorem PySem.Challenge.cw_setahead_k06_whole_kept_holds : PySem.Challenge.rw_setahead_k06_whole_kept.Holds := by
  w_on; o_law; k_head; (case hw => w_witness2)
  k_fill
  refine Law.walk (l := PySem.Challenge.rw_setahead_k06_whole_kept) rfl rfl (fun w h Y => PySem.W.kIn_of Y) ?F
  case F =>
    intro w mg fa h KX G hmg
    refine' Law.all_mk KX G hmg ?a0 ?l0 ?c0 ?k0 ?a1 ?l1 ?c1 ?k1 ?a2 ?l2 ?c2 ?k2 ?a3 ?l3 ?c3 ?k3 ?a4 ?l4 ?c4 ?k4 ?a5 ?l5 ?c5 ?k5 ?a6 ?l6 ?c6 ?k6 ?a7 ?l7 ?c7 ?k7 ?a8 ?l8 ?c8 ?k8 ?a9 ?l9 ?c9 ?k9 ?a10 ?l10 ?c10 ?k10 ?a11 ?l11 ?c11 ?k11 ?a12 ?l12 ?c12 ?k12 ?a13 ?l13 ?c13 ?k13 ?a14 ?l14 ?c14 ?k14 ?a15 ?l15 ?c15 ?k15 ?a16 ?l16 ?c16 ?k16 ?a17 ?l17 ?c17 ?k17 ?a18 ?l18 ?c18 ?k18 ?a19 ?l19 ?c19 ?k19 ?a20 ?l20 ?c20 ?k20 ?a21 ?l21 ?c21 ?k21 ?a22 ?l22 ?c22 ?k22 ?a23 ?l23 ?c23 ?k23 ?a24 ?l24 ?c24 ?k24 ?a25 ?l25 ?c25 ?k25 ?a26 ?l26 ?c26 ?k26 ?a27 ?l27 ?c27 ?k27 ?z0 ?z1 ?z2 ?z3 ?z4 ?z5 ?z6 ?z7 ?z8 ?z9 ?z10 ?z11 ?z12 ?z13 ?z14 ?w0 ?w1 ?w2 ?w3 ?w4
    (case a0 => k_is)
    (case l0 => k_is)
    (case c0 => k_is)
    (case k0 => k_is)
    (case a1 => k_is)
    (case l1 => k_is)
    (case c1 => k_is)
    (case k1 => k_is)
    (case a2 => k_is)
    (case l2 => k_is)
    (case c2 => k_is)
    (case k2 => k_is)
    (case a3 => k_is)
    (case l3 => k_is)
    (case c3 => k_is)
    (case k3 => k_is)
    (case a4 => k_is)
    (case l4 => k_is)
    (case c4 => k_is)
    (case k4 => k_is)
    (case a5 => k_is)
    (case l5 => k_is)
    (case c5 => k_is)
    (case k5 => k_is)
    (case a6 => k_is)
    (case l6 => k_is)
    (case c6 => k_is)
    (case k6 => k_is)
    (case a7 => k_is)
    (case l7 => k_is)
    (case c7 => k_is)
    (case k7 => k_is)
    (case a8 => k_is)
    (case l8 => k_is)
    (case c8 => k_is)
    (case k8 => k_is)
    (case a9 => k_is)
    (case l9 => k_is)
    (case c9 => k_is)
    (case k9 => k_is)
    (case a10 => k_is)
    (case l10 => k_is)
    (case c10 => k_is)
    (case k10 => k_is)
    (case a11 => k_is)
    (case l11 => k_is)
    (case c11 => k_is)
    (case k11 => k_is)
    (case a12 => k_is)
    (case l12 => k_is)
    (case c12 => k_is)
    (case k12 => k_is)
    (case a13 => k_is)
    (case l13 => k_is)
    (case c13 => k_is)
    (case k13 => k_is)
    (case a14 => k_is)
    (case l14 => k_is)
    (case c14 => k_is)
    (case k14 => k_is)
    (case a15 => k_is)
    (case l15 => k_is)
    (case c15 => k_is)
    (case k15 => k_is)
    (case a16 => k_is)
    (case l16 => k_is)
    (case c16 => k_is)
    (case k16 => k_is)
    (case a17 => k_is)
    (case l17 => k_is)
    (case c17 => k_is)
    (case k17 => k_is)
    (case a18 => k_is)
    (case l18 => k_is)
    (case c18 => k_is)
    (case k18 => k_is)
    (case a19 => k_is)
    (case l19 => k_is)
    (case c19 => k_is)
    (case k19 => k_is)
    (case a20 => k_is)
    (case l20 => k_is)
    (case c20 => k_is)
    (case k20 => k_is)
    (case a21 => k_is)
    (case l21 => k_is)
    (case c21 => k_is)
    (case k21 => k_is)
    (case a22 => k_is)
    (case l22 => k_is)
    (case c22 => k_is)
    (case k22 => k_is)
    (case a23 => k_is)
    (case l23 => k_is)
    (case c23 => k_is)
    (case k23 => k_is)
    (case a24 => k_is)
    (case l24 => k_is)
    (case c24 => k_is)
    (case k24 => k_is)
    (case a25 => k_is)
    (case l25 => k_is)
    (case c25 => k_is)
    (case k25 => k_is)
    (case a26 => k_is)
    (case l26 => k_is)
    (case c26 => k_is)
    (case k26 => k_is)
    (case a27 => k_is)
    (case l27 => k_is)
    (case c27 => k_is)
    (case k27 => k_is)
    (case z0 => k_is)
    (case z1 => k_is)
    (case z2 => k_is)
    (case z3 => k_is)
    (case z4 => k_is)
    (case z5 => k_is)
    (case z6 => k_is)
    (case z7 => k_is)
    (case z8 => k_is)
    (case z9 => k_is)
    (case z10 => k_is)
    (case z11 => k_is)
    (case z12 => k_is)
    (case z13 => k_is)
    (case z14 => k_is)
    (case w0 => k_is)
    (case w1 => k_is)
    (case w2 => k_is)
    (case w3 => k_is)
    (case w4 => k_is)
