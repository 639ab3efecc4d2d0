import PyProof.Rows.All
import Wide.All
import OpenK.AllK
import Wide.FinOn
import HandS.Base
import HandS.Call
import HandS.List
import HandS.Comp
import HandS.Ends
import HandS.Iter
import HandS.Words
import HandS.WordsList
import HandS.EndBits
import HandS.Wide
import HandS.Style
import HandS.Zip
import HandS.Conv
import HandS.IsInst
import HandS.Strs
import HandS.SetFor
import KE.SortData
import KE.BitLaws
import KE.DataMinMax
import HandS.TupSets
import HandS.ExcCtx
import HandS.ExcIs
import HandS.WordsExc
import HandS.HotCalls
import HandS.Lambda
import HandS.Nested
import HandS.EndTab
import HandS.EndOwn
import PySem.Challenge.RW_setahead_k08_refused
set_option Elab.async false
set_option linter.all false
set_option maxRecDepth 100000
set_option maxHeartbeats 4000000
/-! Ab: data told by slots; frames of what is frozen; own lists beside. -/
namespace Ab
open PySem L2

/-! ### heaps -/
def Ex (H H' : Hp) : Prop := ∀ a o, H a = some o → H' a = some o
theorem Ex.rfl (H : Hp) : Ex H H := fun _ _ h => h
theorem Ex.tr {H H1 H2 : Hp} (a : Ex H H1) (b : Ex H1 H2) : Ex H H2 := fun x o h => b x o (a x o h)
theorem Ex.none {H H' : Hp} {p : Addr} (e : Ex H H') (h : H' p = Option.none) : H p = Option.none := by
  cases q : H p with
  | none => rfl
  | some o => rw [e p o q] at h; cases h
theorem Ex.sqL {K : PySem.W.Frag} {H H' : Hp} {a : Addr} {xs : List V} (e : Ex H H') (h : SqL K H a xs) : SqL K H' a xs := by
  rcases h with (h | ⟨o, h⟩) | h
  · exact .inl (.inl (e _ _ h))
  · exact .inl (.inr ⟨o, e _ _ h⟩)
  · exact .inr h
theorem Ex.sqT {K : PySem.W.Frag} {H H' : Hp} {a : Addr} {xs : List V} (e : Ex H H') (h : SqT K H a xs) : SqT K H' a xs := by
  rcases h with (h | ⟨o, h⟩) | h
  · exact .inl (.inl (e _ _ h))
  · exact .inl (.inr ⟨o, e _ _ h⟩)
  · exact .inr h

/-- what a step leads to: G the frozen part of H -/
structure Ext (G H G' H' : Hp) : Prop where
  gg : Ex G G'
  hh : Ex H H'
  gh : Ex G' H'
  ap : ∀ p, G p = Option.none → H p ≠ Option.none → G' p = Option.none
theorem Ext.rfl {G H : Hp} (e : Ex G H) : Ext G H G H := ⟨Ex.rfl G, Ex.rfl H, e, fun _ h _ => h⟩
theorem Ext.tr {G H G1 H1 G2 H2 : Hp} (a : Ext G H G1 H1) (b : Ext G1 H1 G2 H2) : Ext G H G2 H2 where
  gg := a.gg.tr b.gg
  hh := a.hh.tr b.hh
  gh := b.gh
  ap := fun p h1 h2 => b.ap p (a.ap p h1 h2) fun z => h2 (a.hh.none z)
theorem Ext.grow {G H H' : Hp} (e : Ex G H) (h : Ex H H') : Ext G H G H' := ⟨Ex.rfl G, h, e.tr h, fun _ h _ => h⟩
theorem Ex.upd {H : Hp} {p : Addr} {o : HO} (h : H p = Option.none) : Ex H (upd H p o) := fun a u e => by
  rw [upd_ne (ne_of_none e h)]; exact e
/-- a new object, frozen -/
theorem Ext.new {G H : Hp} {p : Addr} {o : HO} (e : Ex G H) (h : H p = Option.none) : Ext G H (L2.upd G p o) (L2.upd H p o) where
  gg := Ex.upd (e.none h)
  hh := Ex.upd h
  gh := fun a u q => by
    by_cases z : a = p
    · subst z; rw [upd_same] at q ⊢; exact q
    · rw [upd_ne z] at q ⊢; exact e a u q
  ap := fun q h1 h2 => by
    by_cases z : q = p
    · subst z; exact absurd h h2
    · rw [upd_ne z]; exact h1
/-- a new object, not frozen -/
theorem Ext.newO {G H : Hp} {p : Addr} {o : HO} (e : Ex G H) (h : H p = Option.none) : Ext G H G (L2.upd H p o) := Ext.grow e (Ex.upd h)
/-- a thing that is not of H is frozen later -/
theorem Ext.frz {G H G' H' : Hp} {p : Addr} {o : HO} (e : Ext G H G' H') (h : H p = Option.none) (h' : H' p = some o) (g : G' p = Option.none) : Ext G H (L2.upd G' p o) H' where
  gg := e.gg.tr (Ex.upd g)
  hh := e.hh
  gh := fun a u q => by
    by_cases z : a = p
    · subst z; rw [upd_same] at q; rw [h']; exact q
    · rw [upd_ne z] at q; exact e.gh a u q
  ap := fun q h1 h2 => by
    by_cases z : q = p
    · subst z; exact absurd h h2
    · rw [upd_ne z]; exact e.ap q h1 h2
/-- a thing that is not of H changes -/
theorem Ext.mut {G H G' H' : Hp} {p : Addr} {o : HO} (e : Ext G H G' H') (h : H p = Option.none) (g : G' p = Option.none) : Ext G H G' (L2.upd H' p o) where
  gg := e.gg
  hh := fun a u q => by rw [upd_ne (ne_of_none q h)]; exact e.hh a u q
  gh := fun a u q => by rw [upd_ne (ne_of_none q g)]; exact e.gh a u q
  ap := e.ap

/-! ### lambdas -/
structure LamI where
  q : Str
  params : Arguments
  body : Expr
  scope : Scope
/-- the object at f is the lambda L, its captured cells, its code object -/
def LamO (f : Addr) (L : LamI) (cl : List (Str × Addr)) (c : Addr) : HO := .ext fun h => ∃ pm ctv : Value, h.get? f = some (PySem.W.kla_obj "<lambda>" L.q L.params L.body L.scope cl pm c ctv)
/-- the lambdas of a text, by number -/
class LamTab where
  tab : Nat → LamI
/-- the lambda n with its captured cells, as data -/
def dFn (n : Nat) (cl : List (Str × Addr)) : PyData := .dict ((.none, .bool true) :: (.int ((n : Nat) : Int), .none) :: cl.map fun y => (.str y.1, .int ((y.2 : Nat) : Int)))
variable [LamTab]

/-! ### data -/
mutual
inductive Dt (H : Hp) : V → PyData → Prop
  | non : Dt H .non .none
  | bl (b : Bool) : Dt H (.bl b) (.bool b)
  | int (i : Int) : Dt H (.int i) (.int i)
  | str (x : Str) : Dt H (.str x) (.str x)
  | lst {a : Addr} {xs : List V} {ds : List PyData} : H a = some (.lst xs) → DtAll H xs ds → Dt H (.ref a) (.list ds)
  | tup {a : Addr} {xs : List V} {ds : List PyData} : H a = some (.tup xs) → DtAll H xs ds → Dt H (.ref a) (.tuple ds)
  | ins {a C dx : Addr} {fs : List (Str × V)} {ds : List (PyData × PyData)} : H a = some (.ins C dx fs) → DtF H fs ds → Dt H (.ref a) (.dict ((.int ((C : Nat) : Int), .none) :: ds))
  | tag {a : Addr} {d : PyData} : Dt H (.ref a) d → Dt H (.ref a) (.dict [(.none, .int ((a : Nat) : Int)), (.none, d)])
  | fn {a c : Addr} {n : Nat} {cl : List (Str × Addr)} : H a = some (LamO a (LamTab.tab n) cl c) → H c = some (LamX.CodeO c (LamTab.tab n).q) → Dt H (.ref a) (dFn n cl)
  | bes {a b : Addr} {d e : PyData} : Dt H (.ref a) d → Dt H (.ref b) e → Dt H (.ref a) (.dict [(.none, .bool false), (.int ((b : Nat) : Int), e), (.none, d)])
  | dct {a : Addr} : H a = some (.dK []) → Dt H (.ref a) (.dict [])
  | see {a : Addr} {o : HO} {i : Int} {d : PyData} : Dt H (.int i) d → H a = some o → (∀ ps, o ≠ .tbl ps) → Dt H (.int i) (.dict [(.none, .none), (.int ((a : Nat) : Int), d)])
inductive DtAll (H : Hp) : List V → List PyData → Prop
  | nil : DtAll H [] []
  | cons {v : V} {vs : List V} {d : PyData} {ds : List PyData} : Dt H v d → DtAll H vs ds → DtAll H (v :: vs) (d :: ds)
/-- the attributes of an instance -/
inductive DtF (H : Hp) : List (Str × V) → List (PyData × PyData) → Prop
  | nil : DtF H [] []
  | cons {n : Str} {v : V} {fs : List (Str × V)} {d : PyData} {ds : List (PyData × PyData)} : Dt H v d → DtF H fs ds → DtF H ((n, v) :: fs) ((.str n, d) :: ds)
end
section
mutual
theorem Dt.ex {H H' : Hp} (e : Ex H H') : ∀ {v : V} {d : PyData}, Dt H v d → Dt H' v d
  | _, _, .non => .non
  | _, _, .bl b => .bl b
  | _, _, .int i => .int i
  | _, _, .str x => .str x
  | _, _, .lst h a => .lst (e _ _ h) (DtAll.ex e a)
  | _, _, .tup h a => .tup (e _ _ h) (DtAll.ex e a)
  | _, _, .ins h a => .ins (e _ _ h) (DtF.ex e a)
  | _, _, .tag h => .tag (Dt.ex e h)
  | _, _, .fn h k => .fn (e _ _ h) (e _ _ k)
  | _, _, .bes h k => .bes (Dt.ex e h) (Dt.ex e k)
  | _, _, .dct h => .dct (e _ _ h)
  | _, _, .see h k n => .see (Dt.ex e h) (e _ _ k) n
theorem DtAll.ex {H H' : Hp} (e : Ex H H') : ∀ {vs : List V} {ds : List PyData}, DtAll H vs ds → DtAll H' vs ds
  | _, _, .nil => .nil
  | _, _, .cons h t => .cons (Dt.ex e h) (DtAll.ex e t)
theorem DtF.ex {H H' : Hp} (e : Ex H H') : ∀ {vs : List (Str × V)} {ds : List (PyData × PyData)}, DtF H vs ds → DtF H' vs ds
  | _, _, .nil => .nil
  | _, _, .cons h t => .cons (Dt.ex e h) (DtF.ex e t)
end
mutual
theorem Dt.dp {K : PySem.W.Frag} {H : Hp} : ∀ {v : V} {d : PyData}, Dt H v d → PyData.canLay0 d = true → Dp K H v d
  | _, _, .non, _ => .non
  | _, _, .bl b, _ => .bl b
  | _, _, .int i, _ => .int i
  | _, _, .str x, _ => .str x
  | _, _, .lst h a, c => .lst (.inl (.inl h)) (DtAll.dp a c)
  | _, _, .tup h a, c => .tup (.inl (.inl h)) (DtAll.dp a c)
  | _, _, .ins h a, c => (by cases c)
  | _, _, .tag h, c => (by cases c)
  | _, _, .fn h k, c => (by cases c)
  | _, _, .bes h k, c => (by cases c)
  | _, _, .dct h, c => (by cases c)
  | _, _, .see h k n, c => (by cases c)
theorem DtAll.dp {K : PySem.W.Frag} {H : Hp} : ∀ {vs : List V} {ds : List PyData}, DtAll H vs ds → PyData.canLayAll0 ds = true → DpAll K H vs ds
  | _, _, .nil, _ => .nil
  | _, _, .cons h t, c => by
    rw [PyData.canLayAll0, Bool.and_eq_true] at c
    exact .cons (Dt.dp h c.1) (DtAll.dp t c.2)
end
theorem DtAll.len {H : Hp} : ∀ {vs : List V} {ds : List PyData}, DtAll H vs ds → vs.length = ds.length
  | _, _, .nil => rfl
  | _, _, .cons _ t => by simp [DtAll.len t]
theorem DtAll.at {H : Hp} : ∀ {vs : List V} {ds : List PyData} {i : Nat} {d : PyData}, DtAll H vs ds → ds[i]? = some d → ∃ v, vs[i]? = some v ∧ Dt H v d
  | _, _, _, _, .nil, e => by simp at e
  | _, _, 0, _, .cons h _, e => by simp at e; subst e; exact ⟨_, rfl, h⟩
  | _, _, i + 1, d, .cons _ t, e => by
    obtain ⟨v, h1, h2⟩ := DtAll.at (i := i) (d := d) t (by simpa using e)
    exact ⟨v, by simpa using h1, h2⟩
theorem DtAll.app {H : Hp} : ∀ {vs us : List V} {ds es : List PyData}, DtAll H vs ds → DtAll H us es → DtAll H (vs ++ us) (ds ++ es)
  | _, _, _, _, .nil, s => s
  | _, _, _, _, .cons h t, s => .cons h (DtAll.app t s)
theorem DtAll.set {H : Hp} {v : V} {d : PyData} (r : Dt H v d) : ∀ {vs : List V} {ds : List PyData} (i : Nat), DtAll H vs ds → DtAll H (vs.set i v) (ds.set i d)
  | _, _, _, .nil => .nil
  | _, _, 0, .cons _ t => .cons r t
  | _, _, i + 1, .cons q t => .cons q (DtAll.set r i t)
theorem DtAll.take {H : Hp} : ∀ {vs : List V} {ds : List PyData} (n : Nat), DtAll H vs ds → DtAll H (vs.take n) (ds.take n)
  | _, _, 0, _ => .nil
  | _, _, _ + 1, .nil => .nil
  | _, _, n + 1, .cons r t => .cons r (DtAll.take n t)
theorem DtAll.drop {H : Hp} : ∀ {vs : List V} {ds : List PyData} (n : Nat), DtAll H vs ds → DtAll H (vs.drop n) (ds.drop n)
  | _, _, 0, r => r
  | _, _, _ + 1, .nil => .nil
  | _, _, n + 1, .cons _ t => DtAll.drop n t
theorem DtAll.rev {H : Hp} : ∀ {vs : List V} {ds : List PyData}, DtAll H vs ds → DtAll H vs.reverse ds.reverse
  | _, _, .nil => .nil
  | _, _, .cons r t => by rw [List.reverse_cons, List.reverse_cons]; exact DtAll.app (DtAll.rev t) (.cons r .nil)
theorem DtAll.rep {H : Hp} {vs : List V} {ds : List PyData} (h : DtAll H vs ds) : ∀ k : Nat, DtAll H (List.replicate k vs).flatten (List.replicate k ds).flatten
  | 0 => .nil
  | k + 1 => by rw [List.replicate_succ, List.replicate_succ, List.flatten_cons, List.flatten_cons]; exact DtAll.app h (DtAll.rep h k)
theorem Dt.int_of {H : Hp} {v : V} {i : Int} (h : Dt H v (.int i)) : v = .int i := by cases h; rfl
theorem Dt.bl_of {H : Hp} {v : V} {b : Bool} (h : Dt H v (.bool b)) : v = .bl b := by cases h; rfl
theorem Dt.non_of {H : Hp} {v : V} (h : Dt H v .none) : v = .non := by cases h; rfl
theorem Dt.lst_of {H : Hp} {v : V} {ds : List PyData} (h : Dt H v (.list ds)) : ∃ a vs, v = .ref a ∧ H a = some (.lst vs) ∧ DtAll H vs ds := by
  cases h with
  | lst h a => exact ⟨_, _, rfl, h, a⟩
theorem Dt.tup_of {H : Hp} {v : V} {ds : List PyData} (h : Dt H v (.tuple ds)) : ∃ a vs, v = .ref a ∧ H a = some (.tup vs) ∧ DtAll H vs ds := by
  cases h with
  | tup h a => exact ⟨_, _, rfl, h, a⟩
theorem DtAll.ints {H : Hp} : ∀ {ns : List Int} {vs : List V}, DtAll H vs (ns.map PyData.int) → vs = ns.map V.int
  | [], _, .nil => rfl
  | n :: ns, _, .cons h t => by rw [Dt.int_of h, DtAll.ints t]; rfl
theorem DtAll.bools {H : Hp} : ∀ {ns : List Bool} {vs : List V}, DtAll H vs (ns.map PyData.bool) → vs = ns.map V.bl
  | [], _, .nil => rfl
  | n :: ns, _, .cons h t => by rw [Dt.bl_of h, DtAll.bools t]; rfl
theorem dtAll_ints {H : Hp} : ∀ (ns : List Int), DtAll H (ns.map V.int) (ns.map PyData.int)
  | [] => .nil
  | n :: ns => .cons (.int n) (dtAll_ints ns)
end

/-! ### slots -/
inductive Sl where
  | unk
  | dat (d : PyData)
  | own (ds : List PyData)
  | scr (ns : List Int)
  | obj (x C dx : Addr) (fs : List (Str × Addr × List PyData))
  | at_ (p : Addr)
abbrev Sls := List Sl
def foot (x : Addr) (fs : List (Str × Addr × List PyData)) : List Addr := x :: fs.map fun f => f.2.1
/-- what a slot owns -/
def Ow (ov : Option V) : Sl → Addr → Prop
  | .own _, p => ov = some (.ref p)
  | .obj x _ _ fs, p => p ∈ foot x fs
  | _, _ => False
def ObOk (H0 G H : Hp) (x C dx : Addr) (fs : List (Str × Addr × List PyData)) : Prop := H x = some (.ins C dx (fs.map fun f => (f.1, V.ref f.2.1))) ∧ G x = Option.none ∧ H0 x = Option.none ∧ (foot x fs).Nodup ∧
  ∀ f ∈ fs, ∃ vs, H f.2.1 = some (.lst vs) ∧ G f.2.1 = Option.none ∧ H0 f.2.1 = Option.none ∧ DtAll G vs f.2.2
section
variable (K : PySem.W.Frag)
def SlOk (H0 G H : Hp) (ov : Option V) : Sl → Prop
  | .unk => True
  | .dat d => ∃ v, ov = some v ∧ Dt G v d
  | .own ds => ∃ p vs, ov = some (.ref p) ∧ H p = some (.lst vs) ∧ G p = Option.none ∧ H0 p = Option.none ∧ DtAll G vs ds
  | .scr ns => ∃ a, ov = some (.ref a) ∧ SqL K G a (ns.map V.int)
  | .obj x C dx fs => ov = some (.ref x) ∧ ObOk H0 G H x C dx fs
  | .at_ p => ov = some (.ref p)
structure Rel (G0 H0 G H : Hp) (σ : L2.St) (τ : Sls) : Prop where
  base : Ex G0 H0
  ext : Ext G0 H0 G H
  len : σ.length = τ.length
  at_ : ∀ (i : Nat) (s : Sl), τ[i]? = some s → ∃ ov, σ[i]? = some ov ∧ SlOk K H0 G H ov s
  sep : ∀ (i j : Nat) (s s' : Sl) (ov ov' : Option V) (p : Addr), τ[i]? = some s → τ[j]? = some s' → σ[i]? = some ov → σ[j]? = some ov' → Ow ov s p → Ow ov' s' p → i = j
end
section
variable {K : PySem.W.Frag} {G0 H0 G H G' H' : Hp} {σ : L2.St} {τ : Sls}
theorem ObOk.step {x C dx : Addr} {fs : List (Str × Addr × List PyData)} (h : ObOk H0 G H x C dx fs) (e : Ext G H G' H') : ObOk H0 G' H' x C dx fs := by
  obtain ⟨h1, h2, h3, h4, h5⟩ := h
  refine ⟨e.hh _ _ h1, e.ap x h2 (by rw [h1]; exact fun z => nomatch z), h3, h4, fun f hf => ?_⟩
  obtain ⟨vs, k1, k2, k3, k4⟩ := h5 f hf
  exact ⟨vs, e.hh _ _ k1, e.ap _ k2 (by rw [k1]; exact fun z => nomatch z), k3, DtAll.ex e.gg k4⟩
theorem SlOk.step {ov : Option V} {s : Sl} (h : SlOk K H0 G H ov s) (e : Ext G H G' H') : SlOk K H0 G' H' ov s := by
  cases s with
  | unk => trivial
  | dat d => obtain ⟨v, h1, h2⟩ := h; exact ⟨v, h1, Dt.ex e.gg h2⟩
  | own ds =>
    obtain ⟨p, vs, h1, h2, h3, h4, h5⟩ := h
    exact ⟨p, vs, h1, e.hh _ _ h2, e.ap p h3 (by rw [h2]; exact fun z => nomatch z), h4, DtAll.ex e.gg h5⟩
  | scr ns => obtain ⟨a, h1, h2⟩ := h; exact ⟨a, h1, e.gg.sqL h2⟩
  | obj x C dx fs => exact ⟨h.1, h.2.step e⟩
  | at_ p => exact h
/-- what is owned is there, and not frozen -/
theorem SlOk.owned {ov : Option V} {s : Sl} {p : Addr} (h : SlOk K H0 G H ov s) (o : Ow ov s p) : H p ≠ Option.none ∧ G p = Option.none ∧ H0 p = Option.none := by
  cases s with
  | unk => exact o.elim
  | dat d => exact o.elim
  | scr ns => exact o.elim
  | at_ q => exact o.elim
  | own ds =>
    obtain ⟨q, vs, h1, h2, h3, h4, h5⟩ := h
    have o : ov = some (.ref p) := o
    rw [o] at h1
    cases h1
    exact ⟨by rw [h2]; exact (fun z => nomatch z), h3, h4⟩
  | obj x C dx fs =>
    obtain ⟨_, h1, h2, h3, h4, h5⟩ := h
    rcases List.mem_cons.mp (show p ∈ x :: fs.map (fun f => f.2.1) from o) with rfl | o
    · exact ⟨by rw [h1]; exact (fun z => nomatch z), h2, h3⟩
    · obtain ⟨f, hf, rfl⟩ := List.mem_map.mp o
      obtain ⟨vs, k1, k2, k3, k4⟩ := h5 f hf
      exact ⟨by rw [k1]; exact (fun z => nomatch z), k2, k3⟩
theorem Rel.step (r : Rel K G0 H0 G H σ τ) (e : Ext G H G' H') : Rel K G0 H0 G' H' σ τ where
  base := r.base
  ext := r.ext.tr e
  len := r.len
  at_ := fun i s h => by
    obtain ⟨ov, h1, h2⟩ := r.at_ i s h
    exact ⟨ov, h1, h2.step e⟩
  sep := r.sep
theorem Rel.gh (r : Rel K G0 H0 G H σ τ) : Ex G H := r.ext.gh
theorem Rel.var (r : Rel K G0 H0 G H σ τ) {i : Nat} {d : PyData} (h : τ[i]? = some (.dat d)) : ∃ v, σ[i]? = some (some v) ∧ Dt G v d := by
  obtain ⟨ov, h1, v, h2, h3⟩ := r.at_ i _ h
  exact ⟨v, by rw [h1, h2], h3⟩
theorem Rel.ownAt (r : Rel K G0 H0 G H σ τ) {i : Nat} {ds : List PyData} (h : τ[i]? = some (.own ds)) : ∃ p vs, σ[i]? = some (some (.ref p)) ∧ H p = some (.lst vs) ∧ G p = Option.none ∧ H0 p = Option.none ∧ DtAll G vs ds := by
  obtain ⟨ov, h1, p, vs, h2, h3⟩ := r.at_ i _ h
  exact ⟨p, vs, by rw [h1, h2], h3⟩
theorem Rel.obAt (r : Rel K G0 H0 G H σ τ) {i : Nat} {x C dx : Addr} {fs : List (Str × Addr × List PyData)} (h : τ[i]? = some (.obj x C dx fs)) : σ[i]? = some (some (.ref x)) ∧ ObOk H0 G H x C dx fs := by
  obtain ⟨ov, h1, h2, h3⟩ := r.at_ i _ h
  exact ⟨by rw [h1, h2], h3⟩
theorem set_cases {α : Type} {l : List α} {i j : Nat} {x y : α} (h : (l.set i x)[j]? = some y) : (j = i ∧ y = x ∧ i < l.length) ∨ (j ≠ i ∧ l[j]? = some y) := by
  by_cases z : i = j
  · subst z
    by_cases hl : i < l.length
    · rw [List.getElem?_set_self hl] at h
      cases h
      exact .inl ⟨rfl, rfl, hl⟩
    · rw [List.getElem?_eq_none (by rw [List.length_set]; omega)] at h; cases h
  · rw [List.getElem?_set_ne z] at h
    exact .inr ⟨fun e => z e.symm, h⟩
/-- a slot gets something that nothing else owns -/
theorem Rel.setX (r : Rel K G0 H0 G H σ τ) (i : Nat) {ov : Option V} {s : Sl} (h : SlOk K H0 G H ov s) (fr : ∀ p, Ow ov s p → ∀ (j : Nat) (s' : Sl) (ov' : Option V), j ≠ i → τ[j]? = some s' → σ[j]? = some ov' → ¬ Ow ov' s' p) : Rel K G0 H0 G H (σ.set i ov) (τ.set i s) where
  base := r.base
  ext := r.ext
  len := by rw [List.length_set, List.length_set]; exact r.len
  at_ := fun j s' hj => by
    rcases set_cases hj with ⟨rfl, rfl, hl⟩ | ⟨z, hj⟩
    · exact ⟨ov, List.getElem?_set_self (by rw [r.len]; exact hl), h⟩
    · rw [List.getElem?_set_ne fun e => z e.symm]
      exact r.at_ j s' hj
  sep := fun a b sa sb oa ob p ha hb ka kb wa wb => by
    rcases set_cases ha with ⟨rfl, rfl, hl⟩ | ⟨za, ha1⟩
    · rcases set_cases hb with ⟨rfl, _, _⟩ | ⟨zb, hb⟩
      · rfl
      · rw [List.getElem?_set_self (by rw [r.len]; exact hl)] at ka
        cases ka
        rw [List.getElem?_set_ne fun e => zb e.symm] at kb
        exact absurd wb (fr p wa b sb ob zb hb kb)
    · rw [List.getElem?_set_ne fun e => za e.symm] at ka
      rcases set_cases hb with ⟨rfl, rfl, hl⟩ | ⟨zb, hb⟩
      · rw [List.getElem?_set_self (by rw [r.len]; exact hl)] at kb
        cases kb
        exact absurd wa (fr p wb a sa oa za ha1 ka)
      · rw [List.getElem?_set_ne fun e => zb e.symm] at kb
        exact r.sep a b sa sb oa ob p ha1 hb ka kb wa wb
/-- a slot gets data -/
theorem Rel.set (r : Rel K G0 H0 G H σ τ) (i : Nat) {v : V} {d : PyData} (h : Dt G v d) : Rel K G0 H0 G H (σ.set i (some v)) (τ.set i (.dat d)) := r.setX i (s := .dat d) ⟨v, rfl, h⟩ fun p o => o.elim
theorem Rel.unk (r : Rel K G0 H0 G H σ τ) (i : Nat) : Rel K G0 H0 G H (σ.set i none) (τ.set i .unk) := r.setX i (s := .unk) trivial fun p o => o.elim
/-- a slot gets a thing that is new since Ha -/
theorem Rel.setNew {Ha : Hp} (r : Rel K G0 H0 G H σ τ) (i : Nat) {ov : Option V} {s : Sl} (h : SlOk K H0 G H ov s) (fa : ∀ p, Ow ov s p → Ha p = Option.none) (oa : ∀ (j : Nat) (s' : Sl) (ov' : Option V) (p : Addr), τ[j]? = some s' → σ[j]? = some ov' → Ow ov' s' p → Ha p ≠ Option.none) : Rel K G0 H0 G H (σ.set i ov) (τ.set i s) :=
  r.setX i h fun p o j s' ov' _ hj kj w => oa j s' ov' p hj kj w (fa p o)
def OwnIn (H : Hp) (σ : L2.St) (τ : Sls) : Prop := ∀ (j : Nat) (s' : Sl) (ov' : Option V) (p : Addr), τ[j]? = some s' → σ[j]? = some ov' → Ow ov' s' p → H p ≠ Option.none
theorem Rel.ownIn (r : Rel K G0 H0 G H σ τ) : OwnIn H σ τ := fun j s' ov' p hj kj w => by
  obtain ⟨ov, h1, h2⟩ := r.at_ j s' hj
  rw [kj] at h1
  cases h1
  exact (h2.owned w).1
theorem OwnIn.ex {H H' : Hp} (h : OwnIn H σ τ) (x : Ex H H') : OwnIn H' σ τ := fun j s ov p h1 h2 w z => h j s ov p h1 h2 w (x.none z)
/-- a slot gets a new list of its own -/
theorem Rel.setOwn (r : Rel K G0 H0 G H σ τ) (e : Ext G H G' H') (i : Nat) {p : Addr} {vs : List V} {ds : List PyData} (hp : H p = Option.none) (hg : G' p = Option.none) (hh : H' p = some (.lst vs)) (h : DtAll G' vs ds) :
    Rel K G0 H0 G' H' (σ.set i (some (.ref p))) (τ.set i (.own ds)) :=
  (r.step e).setNew (Ha := H) i (s := .own ds) ⟨p, vs, rfl, hh, hg, r.ext.hh.none hp, h⟩ (fun q o => by cases (show some (V.ref p) = some (V.ref q) from o); exact hp) r.ownIn
/-- what a slot owns changes; nothing else does -/
theorem Rel.mutX (r : Rel K G0 H0 G H σ τ) {i : Nat} {s s2 : Sl} {ov : Option V} {q : Addr} {o : HO} (ht : τ[i]? = some s) (hs : σ[i]? = some ov) (hw : Ow ov s q) (hsub : ∀ p, Ow ov s2 p → Ow ov s p) (h : SlOk K H0 G (upd H q o) ov s2) :
    Rel K G0 H0 G (upd H q o) σ (τ.set i s2) := by
  obtain ⟨ov', e1, e2⟩ := r.at_ i s ht
  rw [hs] at e1; cases e1
  obtain ⟨q1, q2, q3⟩ := e2.owned hw
  have other : ∀ (j : Nat) (s' : Sl) (ov' : Option V), j ≠ i → τ[j]? = some s' → σ[j]? = some ov' → ¬ Ow ov' s' q := fun j s' ov' ne hj kj w => ne (r.sep j i s' s ov' ov q hj ht kj hs w hw)
  refine ⟨r.base, r.ext.mut q3 q2, by rw [List.length_set]; exact r.len, fun j s' hj => ?_, fun a b sa sb oa ob p ha hb ka kb wa wb => ?_⟩
  · rcases set_cases hj with ⟨rfl, rfl, hl⟩ | ⟨z, hj⟩
    · exact ⟨ov, hs, h⟩
    · obtain ⟨oj, h1, h2⟩ := r.at_ j s' hj
      refine ⟨oj, h1, ?_⟩
      have no := other j s' oj z hj h1
      cases s' with
      | unk => trivial
      | dat d => exact h2
      | scr ns => exact h2
      | at_ p => exact h2
      | own dj =>
        obtain ⟨p, ws, f1, f2, f3⟩ := h2
        refine ⟨p, ws, f1, ?_, f3⟩
        rw [upd_ne]
        · exact f2
        · intro zz
          subst zz
          exact no f1
      | obj x C dx fs =>
        obtain ⟨f1, f2, f3, f4, f5, f6⟩ := h2
        refine ⟨f1, ?_, f3, f4, f5, fun f hf => ?_⟩
        · rw [upd_ne]
          · exact f2
          · intro zz
            subst zz
            exact no (List.mem_cons_self ..)
        · obtain ⟨vs, k1, k2⟩ := f6 f hf
          refine ⟨vs, ?_, k2⟩
          rw [upd_ne]
          · exact k1
          · intro zz
            exact no (List.mem_cons_of_mem _ (List.mem_map.mpr ⟨f, hf, zz⟩))
  · rcases set_cases ha with ⟨rfl, rfl, hl⟩ | ⟨za, ha1⟩
    · rw [hs] at ka
      cases ka
      rcases set_cases hb with ⟨rfl, _, _⟩ | ⟨zb, hb1⟩
      · rfl
      · exact r.sep a b s sb ov ob p ht hb1 hs kb (hsub p wa) wb
    · rcases set_cases hb with ⟨rfl, rfl, hl⟩ | ⟨zb, hb1⟩
      · rw [hs] at kb
        cases kb
        exact r.sep a b sa s oa ov p ha1 ht ka hs wa (hsub p wb)
      · exact r.sep a b sa sb oa ob p ha1 hb1 ka kb wa wb
/-- an own list changes in place -/
theorem Rel.mut (r : Rel K G0 H0 G H σ τ) {i : Nat} {ds es : List PyData} {p : Addr} {us : List V} (ht : τ[i]? = some (.own ds)) (hs : σ[i]? = some (some (.ref p))) (h : DtAll G us es) :
    Rel K G0 H0 G (upd H p (.lst us)) σ (τ.set i (.own es)) := by
  obtain ⟨p', vs, e1, e2, e3, e4, e5⟩ := r.ownAt ht
  rw [hs] at e1; cases e1
  exact r.mutX (s2 := .own es) ht hs (show some (V.ref p) = some (V.ref p) from rfl) (fun _ z => z) ⟨p, us, rfl, upd_same, e3, e4, h⟩
/-- what a slot owns is frozen -/
theorem Rel.frzX (r : Rel K G0 H0 G H σ τ) {i : Nat} {s s2 : Sl} {ov : Option V} {G1 : Hp} (ht : τ[i]? = some s) (hs : σ[i]? = some ov) (hx : Ex G G1) (hG : Ext G0 H0 G1 H) (own : ∀ p, G1 p ≠ Option.none → G p = Option.none → Ow ov s p) (no : ∀ p, ¬ Ow ov s2 p) (h : SlOk K H0 G1 H ov s2) :
    Rel K G0 H0 G1 H σ (τ.set i s2) := by
  have other : ∀ (j : Nat) (s' : Sl) (ov' : Option V) (p : Addr), j ≠ i → τ[j]? = some s' → σ[j]? = some ov' → Ow ov' s' p → G p = Option.none → G1 p = Option.none := fun j s' ov' p ne hj kj w g => by
    cases q : G1 p with
    | none => rfl
    | some o => exact absurd (r.sep j i s' s ov' ov p hj ht kj hs w (own p (by rw [q]; exact fun z => nomatch z) g)) ne
  refine ⟨r.base, hG, by rw [List.length_set]; exact r.len, fun j s' hj => ?_, fun a b sa sb oa ob p ha hb ka kb wa wb => ?_⟩
  · rcases set_cases hj with ⟨rfl, rfl, hl⟩ | ⟨z, hj⟩
    · exact ⟨ov, hs, h⟩
    · obtain ⟨oj, h1, h2⟩ := r.at_ j s' hj
      refine ⟨oj, h1, ?_⟩
      have no := other j s' oj
      cases s' with
      | unk => trivial
      | dat d => obtain ⟨v, f1, f2⟩ := h2; exact ⟨v, f1, Dt.ex hx f2⟩
      | scr ns => obtain ⟨a, f1, f2⟩ := h2; exact ⟨a, f1, hx.sqL f2⟩
      | at_ p => exact h2
      | own dj =>
        obtain ⟨p, ws, f1, f2, f3, f4, f5⟩ := h2
        exact ⟨p, ws, f1, f2, no p z hj h1 f1 f3, f4, DtAll.ex hx f5⟩
      | obj x C dx fs =>
        obtain ⟨f1, f2, f3, f4, f5, f6⟩ := h2
        refine ⟨f1, f2, no x z hj h1 (List.mem_cons_self ..) f3, f4, f5, fun f hf => ?_⟩
        obtain ⟨vs, k1, k2, k3, k4⟩ := f6 f hf
        exact ⟨vs, k1, no _ z hj h1 (List.mem_cons_of_mem _ (List.mem_map.mpr ⟨f, hf, rfl⟩)) k2, k3, DtAll.ex hx k4⟩
  · rcases set_cases ha with ⟨rfl, rfl, hl⟩ | ⟨za, ha⟩
    · rw [hs] at ka
      cases ka
      exact absurd wa (no p)
    · rcases set_cases hb with ⟨rfl, rfl, hl⟩ | ⟨zb, hb⟩
      · rw [hs] at kb
        cases kb
        exact absurd wb (no p)
      · exact r.sep a b sa sb oa ob p ha hb ka kb wa wb
/-- an own list is frozen -/
theorem Rel.frz (r : Rel K G0 H0 G H σ τ) {i : Nat} {ds : List PyData} (ht : τ[i]? = some (.own ds)) : ∃ G1, Ex G G1 ∧ Rel K G0 H0 G1 H σ (τ.set i (.dat (.list ds))) := by
  obtain ⟨p, vs, e1, e2, e3, e4, e5⟩ := r.ownAt ht
  have hx : Ex G (upd G p (.lst vs)) := Ex.upd e3
  refine ⟨upd G p (.lst vs), hx, r.frzX (s2 := .dat (.list ds)) ht e1 hx (r.ext.frz e4 e2 e3) (fun q h1 h2 => ?_) (fun q z => z.elim) ⟨_, rfl, .lst upd_same (DtAll.ex hx e5)⟩⟩
  by_cases z : q = p
  · subst z; rfl
  · rw [upd_ne z] at h1; exact absurd h2 h1
/-- the fields of an instance, as data -/
def fldD (fs : List (Str × Addr × List PyData)) : List (PyData × PyData) := fs.map fun f => (.str f.1, .list f.2.2)
def dObj (C : Addr) (fs : List (PyData × PyData)) : PyData := .dict ((.int ((C : Nat) : Int), .none) :: fs)
/-- an own instance is frozen -/
theorem freeze_fields {H0 G0 G H : Hp} : ∀ (fs : List (Str × Addr × List PyData)), (fs.map fun f => f.2.1).Nodup → Ext G0 H0 G H → (∀ f ∈ fs, ∃ vs, H f.2.1 = some (.lst vs) ∧ G f.2.1 = Option.none ∧ H0 f.2.1 = Option.none ∧ DtAll G vs f.2.2) →
    ∃ G1, Ex G G1 ∧ Ext G0 H0 G1 H ∧ DtF G1 (fs.map fun f => (f.1, V.ref f.2.1)) (fldD fs) ∧ ∀ p, G1 p ≠ Option.none → G p = Option.none → p ∈ fs.map fun f => f.2.1
  | [], _, x, _ => ⟨G, Ex.rfl G, x, .nil, fun p h1 h2 => absurd h2 h1⟩
  | f :: fs, nd, x, h => by
    rw [List.map_cons, List.nodup_cons] at nd
    obtain ⟨vs, k1, k2, k3, k4⟩ := h f (by simp)
    obtain ⟨G1, y1, y2, y3, y4⟩ := freeze_fields fs nd.2 x fun g hg => h g (List.mem_cons_of_mem _ hg)
    have g1 : G1 f.2.1 = Option.none := by
      cases q : G1 f.2.1 with
      | none => rfl
      | some o => exact absurd (y4 _ (by rw [q]; exact fun z => nomatch z) k2) nd.1
    have hx : Ex G1 (upd G1 f.2.1 (.lst vs)) := Ex.upd g1
    refine ⟨upd G1 f.2.1 (.lst vs), y1.tr hx, y2.frz k3 k1 g1, ?_, fun p h1 h2 => ?_⟩
    · exact DtF.cons (.lst upd_same (DtAll.ex (y1.tr hx) k4)) (DtF.ex hx y3)
    · by_cases z : p = f.2.1
      · rw [z]; exact List.mem_cons_self ..
      · rw [upd_ne z] at h1
        exact List.mem_cons_of_mem _ (y4 p h1 h2)
theorem Rel.frzO (r : Rel K G0 H0 G H σ τ) {i : Nat} {x C dx : Addr} {fs : List (Str × Addr × List PyData)} (ht : τ[i]? = some (.obj x C dx fs)) : ∃ G1, Ex G G1 ∧ Rel K G0 H0 G1 H σ (τ.set i (.dat (dObj C (fldD fs)))) ∧ ∀ f ∈ fs, Dt G1 (.ref f.2.1) (.list f.2.2) := by
  obtain ⟨e1, h1, h2, h3, h4, h5⟩ := r.obAt ht
  have nd := List.nodup_cons.mp h4
  obtain ⟨G1, y1, y2, y3, y4⟩ := freeze_fields fs nd.2 r.ext h5
  have g1 : G1 x = Option.none := by
    cases q : G1 x with
    | none => rfl
    | some o => exact absurd (y4 x (by rw [q]; exact fun z => nomatch z) h2) nd.1
  have hx : Ex G1 (upd G1 x (.ins C dx (fs.map fun f => (f.1, V.ref f.2.1)))) := Ex.upd g1
  refine ⟨_, y1.tr hx, r.frzX (s2 := .dat (dObj C (fldD fs))) ht e1 (y1.tr hx) (y2.frz h3 h1 g1) (fun q k1 k2 => ?_) (fun q z => z.elim) ⟨_, rfl, .ins upd_same (DtF.ex hx y3)⟩, fun f hf => ?_⟩
  · by_cases z : q = x
    · rw [z]; exact List.mem_cons_self ..
    · rw [upd_ne z] at k1
      exact List.mem_cons_of_mem _ (y4 q k1 k2)
  · have all : ∀ (fs : List (Str × Addr × List PyData)), DtF G1 (fs.map fun f => (f.1, V.ref f.2.1)) (fldD fs) → ∀ f ∈ fs, Dt G1 (.ref f.2.1) (.list f.2.2) := fun fs => by
      induction fs with
      | nil => intro _ f hf; cases hf
      | cons g fs ih =>
        intro hd f hf
        cases hd with
        | cons a b =>
          rcases List.mem_cons.mp hf with rfl | hf
          · exact a
          · exact ih b f hf
    exact Dt.ex hx (all fs y3 f hf)
end
end Ab

namespace Ab
open PySem L2 PySem.Spec PyProof.Rows
variable [LamTab]

/-! ### further operators of the layer -/
def CMulB (i j : Int) : Prop := i.natAbs.log2 + j.natAbs.log2 < 100000000
theorem CMulB.ok {i j : Int} (h : CMulB i j) : IntMulOk i j := by
  have b : ∀ x : Int, Builtin.Int.intBits x ≤ x.natAbs.log2 + 1 := fun x => by
    unfold Builtin.Int.intBits
    split <;> omega
  have b1 := b i
  have b2 := b j
  unfold CMulB at h
  have ln : bitsLine = 134217728 := by decide
  intro z
  rw [Bool.and_eq_true] at z
  have z2 := of_decide_eq_true (show decide _ = true from z.2)
  rw [ln] at z2
  omega
section
variable {X : Cx}
theorem op_mulB : OpR X (binaryOp .Mult) (rI CMulB fun i j => .int (i * j)) := opI fun _ _ _ _ _ _ _ hc q => mul_int q hc.ok
def rAddA : R2 := fun x y H Q => (rI0 fun i j => .int (i + j)) x y H Q ∨ rCat x y H Q
theorem op_addA : OpR X (binaryOp .Add) rAddA := op_add.or op_cat
def rMulA : R2 := fun x y H Q => (rI CMulB fun i j => .int (i * j)) x y H Q ∨ rRep x y H Q
theorem op_mulA : OpR X (binaryOp .Mult) rMulA := op_mulB.or op_rep
def rIxA (K : PySem.W.Frag) : R2 := fun x y H Q => rIxL K x y H Q ∨ rIxT K x y H Q
theorem ix_A : IxR X (rIxA X.K) := ix_list.or ix_tup
/-- a op1 b op2 c op3 d -/
def tChain3 (r r' r'' : R2) (ta tb tc td : TE) : TE := fun σ H Q => ta σ H fun x H1 => tb σ H1 fun y H2 => r x y H2 fun z H3 => ∃ k, z = .bl k ∧
  (if k = true then tc σ H3 fun u H4 => r' y u H4 fun z' H5 => ∃ k', z' = .bl k' ∧ (if k' = true then td σ H5 fun w' H6 => r'' u w' H6 Q else Q (.bl false) H5) else Q (.bl false) H3)
variable {a b c d : Expr} {ta tb tc td : TE} {pos : Pos}
theorem pe_chain3 {op op' op'' : CmpOp} {r r' r'' : R2} (h1 : OpR X (compareOp op) r) (h2 : OpR X (compareOp op') r') (h3 : OpR X (compareOp op'') r'') (ha : PE X a ta) (hb : PE X b tb) (hc : PE X c tc) (hd : PE X d td)
    (hm : lastMarks [op, op', op''] [b, c, d] = false := by with_unfolding_all rfl) : PE X (.Compare a [op, op', op''] [b, c, d] pos) (tChain3 r r' r'' ta tb tc td) := by
  refine ⟨fun pins s σ H Q I h => ?_⟩
  refine Compare_chain (thn (ha.run pins s σ H _ I h) fun v s1 ⟨x, H1, I1, r1, q1⟩ => chain_link (thn (hb.run pins s1 σ H1 _ I1 q1) fun u s2 ⟨y, H2, I2, r2, q2⟩ =>
    thn (h1 pins s2 σ H2 x y v u _ I2 r1 r2 q2) fun d s3 ⟨z, H3, I3, r3, k, e, q3⟩ => ?_)) hm
  subst e
  cases r3
  refine wpAny_truthy_bool ?_
  cases k with
  | false => exact ite_ff ⟨.bl false, H3, I3, rfl, q3⟩
  | true =>
    refine ite_tt (chain_link (thn (hc.run pins s3 σ H3 _ I3 q3) fun u' s4 ⟨y', H4, I4, r4, q4⟩ => thn (h2 pins s4 σ H4 y y' u u' _ I4 r2 r4 q4) fun d' s5 ⟨z', H5, I5, r5, k', e', q5⟩ => ?_))
    subst e'
    cases r5
    refine wpAny_truthy_bool ?_
    cases k' with
    | false => exact ite_ff ⟨.bl false, H5, I5, rfl, q5⟩
    | true => exact ite_tt (chain_last (thn (hd.run pins s5 σ H5 _ I5 q5) fun w' s6 ⟨z'', H6, I6, r6, q6⟩ => h3 pins s6 σ H6 y' z'' u' w' Q I6 r4 r6 q6))
theorem pt_chain3 {op op' op'' : CmpOp} {r r' r'' : R2} (h1 : OpR X (compareOp op) r) (h2 : OpR X (compareOp op') r') (h3 : OpR X (compareOp op'') r'') (ha : PE X a ta) (hb : PE X b tb) (hc : PE X c tc) (hd : PE X d td)
    (hm : lastMarks [op, op', op''] [b, c, d] = false := by with_unfolding_all rfl) : PT X (.Compare a [op, op', op''] [b, c, d] pos) (tTest (tChain3 r r' r'' ta tb tc td)) := by
  refine ⟨fun pins s σ H Q I h => ?_⟩
  refine isTrue_chain (thn (ha.run pins s σ H _ I h) fun v s1 ⟨x, H1, I1, r1, q1⟩ => test_link (thn (hb.run pins s1 σ H1 _ I1 q1) fun u s2 ⟨y, H2, I2, r2, q2⟩ =>
    thn (h1 pins s2 σ H2 x y v u _ I2 r1 r2 q2) fun d s3 ⟨z, H3, I3, r3, k, e, q3⟩ => ?_)) hm
  subst e
  cases r3
  refine wpAny_truthy_bool ?_
  cases k with
  | false =>
    obtain ⟨k', e', q'⟩ := q3
    cases e'
    exact ite_ff ⟨H3, I3, q'⟩
  | true =>
    refine ite_tt (test_link (thn (hc.run pins s3 σ H3 _ I3 q3) fun u' s4 ⟨y', H4, I4, r4, q4⟩ => thn (h2 pins s4 σ H4 y y' u u' _ I4 r2 r4 q4) fun d' s5 ⟨z', H5, I5, r5, k', e', q5⟩ => ?_))
    subst e'
    cases r5
    refine wpAny_truthy_bool ?_
    cases k' with
    | false =>
      obtain ⟨k2, e2, q'⟩ := q5
      cases e2
      exact ite_ff ⟨H5, I5, q'⟩
    | true =>
      refine ite_tt (test_last (thn (hd.run pins s5 σ H5 _ I5 q5) fun w' s6 ⟨z'', H6, I6, r6, q6⟩ => thn (h3 pins s6 σ H6 y' z'' u' w' _ I6 r4 r6 q6) fun d'' s7 ⟨z3, H7, I7, r7, k3, e3, q7⟩ => ?_))
      subst e3
      cases r7
      exact wpAny_truthy_bool ⟨H7, I7, q7⟩
end

/-! ### what evaluates to what -/
section
variable (K : PySem.W.Frag)
def ED (te : TE) (τ : Sls) (d : PyData) : Prop := ∀ G0 H0 G H σ, Rel K G0 H0 G H σ τ → ∀ Q : VK, (∀ v G' H', Ext G H G' H' → Dt G' v d → Q v H') → te σ H Q
/-- a new list -/
def EL (te : TE) (τ : Sls) (ds : List PyData) : Prop := ∀ G0 H0 G H σ, Rel K G0 H0 G H σ τ → ∀ Q : VK, (∀ p vs G' H', Ext G H G' H' → H p = none → G' p = none → H' p = some (.lst vs) → DtAll G' vs ds → Q (.ref p) H') → te σ H Q
def ET (tt : TT) (τ : Sls) (b : Bool) : Prop := ∀ G0 H0 G H σ, Rel K G0 H0 G H σ τ → ∀ Q : Bool → Hp → Prop, (∀ G' H', Ext G H G' H' → Q b H') → tt σ H Q
def ArgOk (G : Hp) (v : V) : Sl → Prop
  | .dat d => Dt G v d
  | .scr ns => ∃ a, v = .ref a ∧ SqL K G a (ns.map V.int)
  | .unk => True
  | _ => False
inductive ArgsOk (G : Hp) : List V → List Sl → Prop
  | nil : ArgsOk G [] []
  | cons {v : V} {s : Sl} {vs : List V} {ss : List Sl} : ArgOk K G v s → ArgsOk G vs ss → ArgsOk G (v :: vs) (s :: ss)
def EA (ta : TA) (τ : Sls) (as : List Sl) : Prop := ∀ G0 H0 G H σ, Rel K G0 H0 G H σ τ → ∀ Q : List V → Hp → Prop, (∀ vs G' H', Ext G H G' H' → ArgsOk K G' vs as → Q vs H') → ta σ H Q
def EO (to : TO) (τ : Sls) (o : Option Int) : Prop := ∀ G0 H0 G H σ, Rel K G0 H0 G H σ τ → ∀ Q : Option Int → Hp → Prop, (∀ G' H', Ext G H G' H' → Q o H') → to σ H Q
/-- by values -/
def RD (r : R2) (d e f : PyData) : Prop := ∀ G H v u, Ex G H → Dt G v d → Dt G u e → ∀ Q : VK, (∀ w G' H', Ext G H G' H' → Dt G' w f → Q w H') → r v u H Q
def RL (r : R2) (d e : PyData) (fs : List PyData) : Prop := ∀ G H v u, Ex G H → Dt G v d → Dt G u e → ∀ Q : VK, (∀ p vs G' H', Ext G H G' H' → H p = none → G' p = none → H' p = some (.lst vs) → DtAll G' vs fs → Q (.ref p) H') → r v u H Q
def RC (r : List V → Hp → VK → Prop) (as : List Sl) (f : PyData) : Prop := ∀ G H vs, Ex G H → ArgsOk K G vs as → ∀ Q : VK, (∀ w G' H', Ext G H G' H' → Dt G' w f → Q w H') → r vs H Q
def RCL (r : List V → Hp → VK → Prop) (as : List Sl) (fs : List PyData) : Prop := ∀ G H vs, Ex G H → ArgsOk K G vs as → ∀ Q : VK, (∀ p ws G' H', Ext G H G' H' → H p = none → G' p = none → H' p = some (.lst ws) → DtAll G' ws fs → Q (.ref p) H') → r vs H Q
end
section
variable {K : PySem.W.Frag} {τ : Sls} {ta tb tc td te : TE} {d e f : PyData} {r r' r'' : R2} {t u : TT} {tr : TA}
theorem ArgOk.ex {G G' : Hp} {v : V} {s : Sl} (x : Ex G G') (h : ArgOk K G v s) : ArgOk K G' v s := by
  cases s with
  | unk => exact h
  | own ds => exact h
  | obj _ _ _ _ => exact h
  | at_ _ => exact h
  | dat d => exact Dt.ex x h
  | scr ns => obtain ⟨a, h1, h2⟩ := h; exact ⟨a, h1, x.sqL h2⟩
theorem ArgsOk.ex {G G' : Hp} (x : Ex G G') : ∀ {vs : List V} {ss : List Sl}, ArgsOk K G vs ss → ArgsOk K G' vs ss
  | _, _, .nil => .nil
  | _, _, .cons h t => .cons (h.ex x) (t.ex x)
theorem ArgsOk.len {G : Hp} : ∀ {vs : List V} {ss : List Sl}, ArgsOk K G vs ss → vs.length = ss.length
  | _, _, .nil => rfl
  | _, _, .cons _ t => by simp [t.len]
theorem ed_var {i : Nat} (h : τ[i]? = some (.dat d)) : ED K (tVar i) τ d := fun G0 H0 G H σ r Q q => by
  obtain ⟨v, h1, h2⟩ := r.var h
  exact ⟨v, h1, q v G H (Ext.rfl r.gh) h2⟩
theorem ed_c {v : V} (h : ∀ G, Dt G v d) : ED K (tC v) τ d := fun G0 H0 G H σ r Q q => q v G H (Ext.rfl r.gh) (h G)
theorem ed_int {i : Int} : ED K (tC (.int i)) τ (.int i) := ed_c fun _ => .int i
theorem ed_bl {b : Bool} : ED K (tC (.bl b)) τ (.bool b) := ed_c fun _ => .bl b
theorem ed_non : ED K (tC .non) τ .none := ed_c fun _ => .non
theorem ed_str {x : Str} : ED K (tC (.str x)) τ (.str x) := ed_c fun _ => .str x
theorem ed_is (h : ED K te τ d) (x : d = e) : ED K te τ e := x ▸ h
theorem EL.ed {ds : List PyData} (h : EL K te τ ds) : ED K te τ (.list ds) := fun G0 H0 G H σ r Q q =>
  h G0 H0 G H σ r Q fun p vs G' H' x hp gp hh da => q _ _ _ (x.frz hp hh gp) (.lst upd_same (DtAll.ex (Ex.upd gp) da))
theorem el_is {ds es : List PyData} (h : EL K te τ ds) (x : ds = es) : EL K te τ es := x ▸ h
theorem et_is {a b : Bool} (h : ET K t τ a) (x : a = b) : ET K t τ b := x ▸ h
theorem ed_op (ha : ED K ta τ d) (hb : ED K tb τ e) (hr : RD r d e f) : ED K (tOp r ta tb) τ f := fun G0 H0 G H σ R Q q =>
  ha G0 H0 G H σ R _ fun v G1 H1 x1 d1 => hb G0 H0 G1 H1 σ (R.step x1) _ fun w G2 H2 x2 d2 => hr G2 H2 v w x2.gh (Dt.ex x2.gg d1) d2 Q fun z G3 H3 x3 d3 => q z G3 H3 ((x1.tr x2).tr x3) d3
theorem el_op {fs : List PyData} (ha : ED K ta τ d) (hb : ED K tb τ e) (hr : RL r d e fs) : EL K (tOp r ta tb) τ fs := fun G0 H0 G H σ R Q q =>
  ha G0 H0 G H σ R _ fun v G1 H1 x1 d1 => hb G0 H0 G1 H1 σ (R.step x1) _ fun w G2 H2 x2 d2 => hr G2 H2 v w x2.gh (Dt.ex x2.gg d1) d2 Q fun p vs G3 H3 x3 hp gp hh d3 =>
    q p vs G3 H3 ((x1.tr x2).tr x3) ((x1.tr x2).hh.none hp) gp hh d3
theorem ed_un {g : Int → V} {i : Int} (ha : ED K ta τ (.int i)) (h : ∀ G, Dt G (g i) f) : ED K (tUn (rU g) ta) τ f := fun G0 H0 G H σ R Q q =>
  ha G0 H0 G H σ R _ fun v G1 H1 x1 d1 => ⟨i, Dt.int_of d1, q _ G1 H1 x1 (h G1)⟩
/-! ints -/
theorem rd_I0 {g : Int → Int → V} {i j : Int} (h : ∀ G, Dt G (g i j) f) : RD (rI0 g) (.int i) (.int j) f := fun G H v u x h1 h2 Q q => ⟨i, j, Dt.int_of h1, Dt.int_of h2, q _ G H (Ext.rfl x) (h G)⟩
theorem rd_I {C : Int → Int → Prop} {g : Int → Int → V} {i j : Int} (hc : C i j) (h : ∀ G, Dt G (g i j) f) : RD (rI C g) (.int i) (.int j) f := fun G H v u x h1 h2 Q q => ⟨i, j, Dt.int_of h1, Dt.int_of h2, hc, q _ G H (Ext.rfl x) (h G)⟩
theorem ed_add {i j : Int} (ha : ED K ta τ (.int i)) (hb : ED K tb τ (.int j)) : ED K (tOp rAddA ta tb) τ (.int (i + j)) := ed_op ha hb fun G H v u x h1 h2 Q q => .inl (rd_I0 (fun _ => .int _) G H v u x h1 h2 Q q)
theorem ed_sub {i j : Int} (ha : ED K ta τ (.int i)) (hb : ED K tb τ (.int j)) : ED K (tOp (rI0 fun i j => .int (i - j)) ta tb) τ (.int (i - j)) := ed_op ha hb (rd_I0 fun _ => .int _)
theorem ed_mul {i j : Int} (ha : ED K ta τ (.int i)) (hb : ED K tb τ (.int j)) (hc : CMulB i j) : ED K (tOp rMulA ta tb) τ (.int (i * j)) := ed_op ha hb fun G H v u x h1 h2 Q q => .inl (rd_I hc (fun _ => .int _) G H v u x h1 h2 Q q)
theorem ed_fdiv {i j : Int} (ha : ED K ta τ (.int i)) (hb : ED K tb τ (.int j)) (h0 : 0 < j) (h1 : j < 1073741824) : ED K (tOp (rI CDiv fun i j => .int (i / j)) ta tb) τ (.int (i / j)) := ed_op ha hb (rd_I ⟨h0, h1⟩ fun _ => .int _)
theorem ed_mod {i j : Int} (ha : ED K ta τ (.int i)) (hb : ED K tb τ (.int j)) (h0 : 0 < j) : ED K (tOp (rI (fun _ j => 0 < j) fun i j => .int (i % j)) ta tb) τ (.int (i % j)) := ed_op ha hb (rd_I h0 fun _ => .int _)
theorem ed_lt {i j : Int} (ha : ED K ta τ (.int i)) (hb : ED K tb τ (.int j)) : ED K (tOp (rI0 fun i j => .bl (decide (i < j))) ta tb) τ (.bool (decide (i < j))) := ed_op ha hb (rd_I0 fun _ => .bl _)
theorem ed_le {i j : Int} (ha : ED K ta τ (.int i)) (hb : ED K tb τ (.int j)) : ED K (tOp (rI0 fun i j => .bl (decide (i ≤ j))) ta tb) τ (.bool (decide (i ≤ j))) := ed_op ha hb (rd_I0 fun _ => .bl _)
theorem ed_neg {i : Int} (ha : ED K ta τ (.int i)) : ED K (tUn (rU fun i => .int (-i)) ta) τ (.int (-i)) := ed_un ha fun _ => .int _
/-! lists -/
theorem sz {n : Nat} (h : n ≤ 100000) : n ≤ sizeLine := Nat.le_trans h (by decide)
theorem szl {n : Nat} (h : n < 100000) : n < sizeLine := Nat.lt_of_lt_of_le h (by decide)
theorem el_cat {ds es : List PyData} (ha : ED K ta τ (.list ds)) (hb : ED K tb τ (.list es)) (hl : ds.length + es.length ≤ 100000) : EL K (tOp rAddA ta tb) τ (ds ++ es) := el_op ha hb fun G H v u x h1 h2 Q q => by
  obtain ⟨a, vs, rfl, e1, a1⟩ := Dt.lst_of h1
  obtain ⟨b, us, rfl, e2, a2⟩ := Dt.lst_of h2
  refine .inr ⟨a, b, vs, us, rfl, rfl, x _ _ e1, x _ _ e2, sz (by rw [a1.len, a2.len]; exact hl), fun p hp => ?_⟩
  exact q p _ G _ (Ext.newO x hp) hp (x.none hp) upd_same (a1.app a2)
theorem el_rep {ds : List PyData} {k : Int} (ha : ED K ta τ (.list ds)) (hb : ED K tb τ (.int k)) (h0 : 0 ≤ k) (hk : k ≤ 100000) (hl : ds.length * k.toNat ≤ 100000) : EL K (tOp rMulA ta tb) τ (List.replicate k.toNat ds).flatten := el_op ha hb fun G H v u x h1 h2 Q q => by
  obtain ⟨a, vs, rfl, e1, a1⟩ := Dt.lst_of h1
  cases Dt.int_of h2
  refine .inr ⟨a, k, vs, rfl, rfl, x _ _ e1, by omega, by omega, sz (by rw [a1.len]; exact hl), fun p hp => ?_⟩
  exact q p _ G _ (Ext.newO x hp) hp (x.none hp) upd_same (a1.rep _)
theorem flat_one {α : Type} (x : α) : ∀ k : Nat, (List.replicate k [x]).flatten = List.replicate k x
  | 0 => rfl
  | k + 1 => by rw [List.replicate_succ, List.flatten_cons, flat_one x k, List.replicate_succ]; rfl
theorem at_get {α : Type} {xs : List α} {i : Nat} {v : α} (h : xs[i]? = some v) : atI xs (i : Int) = some v := atI_nat h
theorem DtAll.atI {G : Hp} {vs : List V} {ds : List PyData} {i : Int} (h : DtAll G vs ds) (e : L2.atI ds i = some d) : ∃ v, L2.atI vs i = some v ∧ Dt G v d := by
  unfold L2.atI at e ⊢
  rw [h.len]
  cases q : ixN ds.length i with
  | none => rw [q] at e; cases e
  | some j =>
    rw [q] at e
    exact h.at e
theorem ed_ixL {ds : List PyData} {i : Int} (ha : ED K ta τ (.list ds)) (hb : ED K tb τ (.int i)) (h : atI ds i = some d) : ED K (tOp (rIxA K) ta tb) τ d := ed_op ha hb fun G H v u x h1 h2 Q q => by
  obtain ⟨a, vs, rfl, e1, a1⟩ := Dt.lst_of h1
  obtain ⟨w, f1, f2⟩ := a1.atI h
  cases Dt.int_of h2
  exact .inl ⟨a, vs, i, w, rfl, rfl, .inl (.inl (x _ _ e1)), f1, q _ G H (Ext.rfl x) f2⟩
theorem ed_ixT {ds : List PyData} {i : Int} (ha : ED K ta τ (.tuple ds)) (hb : ED K tb τ (.int i)) (h : atI ds i = some d) : ED K (tOp (rIxA K) ta tb) τ d := ed_op ha hb fun G H v u x h1 h2 Q q => by
  obtain ⟨a, vs, rfl, e1, a1⟩ := Dt.tup_of h1
  obtain ⟨w, f1, f2⟩ := a1.atI h
  cases Dt.int_of h2
  exact .inr ⟨a, vs, i, w, rfl, rfl, .inl (.inl (x _ _ e1)), f1, q _ G H (Ext.rfl x) f2⟩
theorem eo_none : EO K tNoPart τ none := fun G0 H0 G H σ R Q q => q G H (Ext.rfl R.gh)
theorem eo_some {i : Int} (h : ED K te τ (.int i)) : EO K (tPart te) τ (some i) := fun G0 H0 G H σ R Q q => h G0 H0 G H σ R _ fun v G1 H1 x d1 => ⟨i, Dt.int_of d1, q G1 H1 x⟩
def cutD (ds : List PyData) (lo hi : Option Int) : List PyData := (ds.drop (HT.sIx ds.length 0 lo)).take (HT.sIx ds.length ds.length hi - HT.sIx ds.length 0 lo)
theorem DtAll.cut {G : Hp} {vs : List V} {ds : List PyData} (h : DtAll G vs ds) (lo hi : Option Int) : DtAll G (cutV vs lo hi) (cutD ds lo hi) := by
  unfold cutV cutD
  rw [h.len]
  exact (h.drop _).take _
theorem el_sl {tl th : TO} {ds : List PyData} {lo hi : Option Int} (h : ED K te τ (.list ds)) (h1 : EO K tl τ lo) (h2 : EO K th τ hi) : EL K (tSl (rSlL K) te tl th) τ (cutD ds lo hi) := fun G0 H0 G H σ R Q q =>
  h G0 H0 G H σ R _ fun v G1 H1 x1 d1 => h1 G0 H0 G1 H1 σ (R.step x1) _ fun G2 H2 x2 => h2 G0 H0 G2 H2 σ ((R.step x1).step x2) _ fun G3 H3 x3 => by
    obtain ⟨a, vs, rfl, e1, a1⟩ := Dt.lst_of d1
    have xx := (x1.tr x2).tr x3
    have e2 := (x2.tr x3).gg _ _ e1
    refine ⟨a, vs, rfl, .inl (.inl (x3.gh _ _ e2)), fun p hp => ?_⟩
    exact q p _ G3 _ (xx.tr (Ext.newO x3.gh hp)) (xx.hh.none hp) (x3.gh.none hp) upd_same ((DtAll.ex (x2.tr x3).gg a1).cut lo hi)
/-- a slice of the script -/
theorem el_slS {tl th : TO} {i : Nat} {ns : List Int} {lo hi : Option Int} (h : τ[i]? = some (.scr ns)) (h1 : EO K tl τ lo) (h2 : EO K th τ hi) : EL K (tSl (rSlL K) (tVar i) tl th) τ (cutD (ns.map PyData.int) lo hi) := fun G0 H0 G H σ R Q q => by
  obtain ⟨ov, f1, a, f2, f3⟩ := R.at_ i _ h
  refine ⟨.ref a, by rw [f1, f2], ?_⟩
  refine h1 G0 H0 G H σ R _ fun G2 H2 x2 => h2 G0 H0 G2 H2 σ (R.step x2) _ fun G3 H3 x3 => ?_
  have xx := x2.tr x3
  refine ⟨a, ns.map V.int, rfl, xx.gh.sqL (xx.gg.sqL f3), fun p hp => ?_⟩
  exact q p _ G3 _ (xx.tr (Ext.newO x3.gh hp)) (xx.hh.none hp) (x3.gh.none hp) upd_same ((dtAll_ints ns).cut lo hi)
/-! displays, arguments -/
theorem ea_nil : EA K tNil τ [] := fun G0 H0 G H σ R Q q => q [] G H (Ext.rfl R.gh) .nil
theorem ea_cons {as : List Sl} (h : ED K te τ d) (hr : EA K tr τ as) : EA K (tCons te tr) τ (.dat d :: as) := fun G0 H0 G H σ R Q q =>
  h G0 H0 G H σ R _ fun v G1 H1 x1 d1 => hr G0 H0 G1 H1 σ (R.step x1) _ fun vs G2 H2 x2 d2 => q _ G2 H2 (x1.tr x2) (.cons (Dt.ex x2.gg d1) d2)
theorem ea_scr {as : List Sl} {i : Nat} {ns : List Int} (h : τ[i]? = some (.scr ns)) (hr : EA K tr τ as) : EA K (tCons (tVar i) tr) τ (.scr ns :: as) := fun G0 H0 G H σ R Q q => by
  obtain ⟨ov, f1, a, f2, f3⟩ := R.at_ i _ h
  exact ⟨.ref a, by rw [f1, f2], hr G0 H0 G H σ R _ fun vs G2 H2 x2 d2 => q _ G2 H2 x2 (.cons ⟨a, rfl, x2.gg.sqL f3⟩ d2)⟩
def datL (ds : List PyData) : List Sl := ds.map .dat
theorem ArgsOk.dat {G : Hp} : ∀ {ds : List PyData} {vs : List V}, ArgsOk K G vs (datL ds) → DtAll G vs ds
  | [], _, .nil => .nil
  | _ :: _, _, .cons h t => .cons h (ArgsOk.dat t)
theorem ArgsOk.of {G : Hp} : ∀ {ds : List PyData} {vs : List V}, DtAll G vs ds → ArgsOk K G vs (datL ds)
  | _, _, .nil => .nil
  | _, _, .cons h t => .cons h (ArgsOk.of t)
theorem ed_tup {ta : TA} {ds : List PyData} (h : EA K ta τ (datL ds)) (hl : ds.length ≤ 100000) : ED K (tTup ta) τ (.tuple ds) := fun G0 H0 G H σ R Q q =>
  h G0 H0 G H σ R _ fun vs G1 H1 x1 d1 => ⟨sz (by rw [d1.dat.len]; exact hl), fun p hp => q _ _ _ (x1.tr (Ext.new x1.gh hp)) (.tup upd_same (DtAll.ex (Ex.upd (x1.gh.none hp)) d1.dat))⟩
theorem el_lst {ta : TA} {ds : List PyData} (h : EA K ta τ (datL ds)) (hl : ds.length ≤ 100000) : EL K (tLst ta) τ ds := fun G0 H0 G H σ R Q q =>
  h G0 H0 G H σ R _ fun vs G1 H1 x1 d1 => ⟨sz (by rw [d1.dat.len]; exact hl), fun p hp => q _ _ G1 _ (x1.tr (Ext.newO x1.gh hp)) (x1.hh.none hp) (x1.gh.none hp) upd_same d1.dat⟩
/-! tests -/
theorem et_test {b : Bool} (h : ED K te τ (.bool b)) : ET K (tTest te) τ b := fun G0 H0 G H σ R Q q => h G0 H0 G H σ R _ fun v G1 H1 x1 d1 => ⟨b, Dt.bl_of d1, q G1 H1 x1⟩
theorem et_B {b : Bool} (h : ED K te τ (.bool b)) : ET K (tB te) τ b := fun G0 H0 G H σ R Q q => h G0 H0 G H σ R _ fun v G1 H1 x1 d1 => ⟨b, Dt.bl_of d1, q G1 H1 x1⟩
theorem et_and {a b : Bool} (h1 : ET K t τ a) (h2 : a = true → ET K u τ b) : ET K (tAnd t u) τ (a && b) := fun G0 H0 G H σ R Q q => h1 G0 H0 G H σ R _ fun G1 H1 x1 => by
  cases a with
  | true => rw [if_pos rfl]; exact h2 rfl G0 H0 G1 H1 σ (R.step x1) Q fun G2 H2 x2 => q G2 H2 (x1.tr x2)
  | false => rw [if_neg Bool.false_ne_true]; exact q G1 H1 x1
theorem et_or {a b : Bool} (h1 : ET K t τ a) (h2 : a = false → ET K u τ b) : ET K (tOr t u) τ (a || b) := fun G0 H0 G H σ R Q q => h1 G0 H0 G H σ R _ fun G1 H1 x1 => by
  cases a with
  | true => rw [if_pos rfl]; exact q G1 H1 x1
  | false => rw [if_neg Bool.false_ne_true]; exact h2 rfl G0 H0 G1 H1 σ (R.step x1) Q fun G2 H2 x2 => q G2 H2 (x1.tr x2)
theorem et_not {a : Bool} (h1 : ET K t τ a) : ET K (tNot t) τ (!a) := fun G0 H0 G H σ R Q q => h1 G0 H0 G H σ R _ fun G1 H1 x1 => q G1 H1 x1
theorem ed_andV {a b : Bool} (h1 : ED K ta τ (.bool a)) (h2 : a = true → ED K tb τ (.bool b)) : ED K (tAndV ta tb) τ (.bool (a && b)) := fun G0 H0 G H σ R Q q => h1 G0 H0 G H σ R _ fun v G1 H1 x1 d1 => ⟨a, Dt.bl_of d1, by
  cases a with
  | true => rw [if_pos rfl]; exact h2 rfl G0 H0 G1 H1 σ (R.step x1) Q fun w G2 H2 x2 => q w G2 H2 (x1.tr x2)
  | false => rw [if_neg Bool.false_ne_true]; exact q _ G1 H1 x1 (.bl _)⟩
theorem ed_orV {a b : Bool} (h1 : ED K ta τ (.bool a)) (h2 : a = false → ED K tb τ (.bool b)) : ED K (tOrV ta tb) τ (.bool (a || b)) := fun G0 H0 G H σ R Q q => h1 G0 H0 G H σ R _ fun v G1 H1 x1 d1 => ⟨a, Dt.bl_of d1, by
  cases a with
  | true => rw [if_pos rfl]; exact q _ G1 H1 x1 (.bl _)
  | false => rw [if_neg Bool.false_ne_true]; exact h2 rfl G0 H0 G1 H1 σ (R.step x1) Q fun w G2 H2 x2 => q w G2 H2 (x1.tr x2)⟩
theorem ed_notV {a : Bool} (h1 : ED K ta τ (.bool a)) : ED K (tNotV ta) τ (.bool (!a)) := fun G0 H0 G H σ R Q q => h1 G0 H0 G H σ R _ fun v G1 H1 x1 d1 => ⟨a, Dt.bl_of d1, q _ G1 H1 x1 (.bl _)⟩
theorem ed_if {b : Bool} (h : ET K t τ b) (h1 : b = true → ED K ta τ d) (h2 : b = false → ED K tb τ d) : ED K (tIf t ta tb) τ d := fun G0 H0 G H σ R Q q => h G0 H0 G H σ R _ fun G1 H1 x1 => by
  cases b with
  | true => rw [if_pos rfl]; exact h1 rfl G0 H0 G1 H1 σ (R.step x1) Q fun w G2 H2 x2 => q w G2 H2 (x1.tr x2)
  | false => rw [if_neg Bool.false_ne_true]; exact h2 rfl G0 H0 G1 H1 σ (R.step x1) Q fun w G2 H2 x2 => q w G2 H2 (x1.tr x2)
theorem el_if {b : Bool} {ds : List PyData} (h : ET K t τ b) (h1 : b = true → EL K ta τ ds) (h2 : b = false → EL K tb τ ds) : EL K (tIf t ta tb) τ ds := fun G0 H0 G H σ R Q q => h G0 H0 G H σ R _ fun G1 H1 x1 => by
  cases b with
  | true => rw [if_pos rfl]; exact h1 rfl G0 H0 G1 H1 σ (R.step x1) Q fun p vs G2 H2 x2 hp => q p vs G2 H2 (x1.tr x2) (x1.hh.none hp)
  | false => rw [if_neg Bool.false_ne_true]; exact h2 rfl G0 H0 G1 H1 σ (R.step x1) Q fun p vs G2 H2 x2 hp => q p vs G2 H2 (x1.tr x2) (x1.hh.none hp)
theorem ed_chain {b c : Bool} {g : PyData} (ha : ED K ta τ d) (hb : ED K tb τ e) (h1 : RD r d e (.bool b)) (hc : b = true → ED K tc τ f) (h2 : b = true → RD r' e f (.bool c)) : ED K (tChain r r' ta tb tc) τ (.bool (b && c)) := fun G0 H0 G H σ R Q q =>
  ha G0 H0 G H σ R _ fun v G1 H1 x1 d1 => hb G0 H0 G1 H1 σ (R.step x1) _ fun w G2 H2 x2 d2 => h1 G2 H2 v w x2.gh (Dt.ex x2.gg d1) d2 _ fun z G3 H3 x3 d3 => ⟨b, Dt.bl_of d3, by
    have xx := (x1.tr x2).tr x3
    cases b with
    | false => rw [if_neg Bool.false_ne_true]; exact q _ G3 H3 xx (.bl _)
    | true =>
      rw [if_pos rfl]
      exact hc rfl G0 H0 G3 H3 σ (R.step xx) _ fun y G4 H4 x4 d4 => h2 rfl G4 H4 w y x4.gh (Dt.ex (x3.tr x4).gg d2) d4 Q fun z' G5 H5 x5 d5 => q z' G5 H5 ((xx.tr x4).tr x5) d5⟩
theorem ed_chain3 {b c b' : Bool} {g : PyData} (ha : ED K ta τ d) (hb : ED K tb τ e) (h1 : RD r d e (.bool b)) (hc : b = true → ED K tc τ f) (h2 : b = true → RD r' e f (.bool c)) (hd : b = true → c = true → ED K td τ g) (h3 : b = true → c = true → RD r'' f g (.bool b')) :
    ED K (tChain3 r r' r'' ta tb tc td) τ (.bool (b && (c && b'))) := fun G0 H0 G H σ R Q q =>
  ha G0 H0 G H σ R _ fun v G1 H1 x1 d1 => hb G0 H0 G1 H1 σ (R.step x1) _ fun w G2 H2 x2 d2 => h1 G2 H2 v w x2.gh (Dt.ex x2.gg d1) d2 _ fun z G3 H3 x3 d3 => ⟨b, Dt.bl_of d3, by
    have xx := (x1.tr x2).tr x3
    cases b with
    | false => rw [if_neg Bool.false_ne_true]; exact q _ G3 H3 xx (.bl _)
    | true =>
      rw [if_pos rfl]
      refine hc rfl G0 H0 G3 H3 σ (R.step xx) _ fun y G4 H4 x4 d4 => h2 rfl G4 H4 w y x4.gh (Dt.ex (x3.tr x4).gg d2) d4 _ fun z' G5 H5 x5 d5 => ⟨c, Dt.bl_of d5, ?_⟩
      have x6 := (xx.tr x4).tr x5
      cases c with
      | false => rw [if_neg Bool.false_ne_true]; exact q _ G5 H5 x6 (.bl _)
      | true =>
        rw [if_pos rfl]
        exact hd rfl rfl G0 H0 G5 H5 σ (R.step x6) _ fun y' G7 H7 x7 d7 => h3 rfl rfl G7 H7 y y' x7.gh (Dt.ex (x5.tr x7).gg d4) d7 Q fun z'' G8 H8 x8 d8 => q z'' G8 H8 ((x6.tr x7).tr x8) d8⟩
/-! == of data -/
theorem shaped_lay {d : PyData} (h : SeqAt.shaped d = true) : PyData.canLay0 d = true := by
  unfold SeqAt.shaped at h
  rw [Bool.and_eq_true] at h
  exact h.1
theorem ed_eq (ha : ED K ta τ d) (hb : ED K tb τ e) (h1 : SeqAt.shaped d = true) (h2 : SeqAt.shaped e = true) : ED K (tOp (rEqD K) ta tb) τ (.bool (PyData.eqv d e)) := ed_op ha hb fun G H v u x f1 f2 Q q => ⟨d, e, Dt.dp (Dt.ex x f1) (shaped_lay h1), Dt.dp (Dt.ex x f2) (shaped_lay h2), h1, h2, q _ G H (Ext.rfl x) (.bl _)⟩
theorem ed_ne (ha : ED K ta τ d) (hb : ED K tb τ e) (h1 : SeqAt.shaped d = true) (h2 : SeqAt.shaped e = true) : ED K (tOp (rNeD K) ta tb) τ (.bool (!PyData.eqv d e)) := ed_op ha hb fun G H v u x f1 f2 Q q => ⟨d, e, Dt.dp (Dt.ex x f1) (shaped_lay h1), Dt.dp (Dt.ex x f2) (shaped_lay h2), h1, h2, q _ G H (Ext.rfl x) (.bl _)⟩
/-! calls of built-ins -/
theorem ed_cb {r : List V → Hp → VK → Prop} {ta : TA} {as : List Sl} (h : EA K ta τ as) (hr : RC K r as f) : ED K (tCB r ta) τ f := fun G0 H0 G H σ R Q q =>
  h G0 H0 G H σ R _ fun vs G1 H1 x1 d1 => hr G1 H1 vs x1.gh d1 Q fun w G2 H2 x2 d2 => q w G2 H2 (x1.tr x2) d2
theorem el_cb {r : List V → Hp → VK → Prop} {ta : TA} {as : List Sl} {fs : List PyData} (h : EA K ta τ as) (hr : RCL K r as fs) : EL K (tCB r ta) τ fs := fun G0 H0 G H σ R Q q =>
  h G0 H0 G H σ R _ fun vs G1 H1 x1 d1 => hr G1 H1 vs x1.gh d1 Q fun p ws G2 H2 x2 hp gp hh d2 => q p ws G2 H2 (x1.tr x2) (x1.hh.none hp) gp hh d2
end
end Ab

namespace Ab
open PySem L2 PySem.Spec PyProof.Rows
variable [LamTab]

/-! ### built-ins -/
def rLenA (K : PySem.W.Frag) : List V → Hp → VK → Prop := fun xs H Q => ∃ p ys, xs = [.ref p] ∧ (SqL K H p ys ∨ SqT K H p ys) ∧ Q (.int ys.length) H
def rAbs : List V → Hp → VK → Prop := fun xs H Q => ∃ i, xs = [.int i] ∧ Q (.int (if i < 0 then -i else i)) H
def rMx2 : List V → Hp → VK → Prop := fun xs H Q => ∃ i j, xs = [.int i, .int j] ∧ Q (.int (if j > i then j else i)) H
def rMn2 : List V → Hp → VK → Prop := fun xs H Q => ∃ i j, xs = [.int i, .int j] ∧ Q (.int (if j < i then j else i)) H
def rLst (K : PySem.W.Frag) : List V → Hp → VK → Prop := fun xs H Q => ∃ p ys, xs = [.ref p] ∧ (SqL K H p ys ∨ SqT K H p ys) ∧ ∀ l, H l = none → Q (.ref l) (upd H l (.lst ys))
section
variable {X : Cx}
theorem cr_lenA : CallR X (.builtin "len") (rLenA X.K) := call_len_seq
theorem cr_abs : CallR X (.builtin "abs") rAbs := call_abs
theorem cr_mx2 (hc : X.calm = true) : CallR X (.builtin "max") rMx2 := call_max2 hc
theorem cr_mn2 (hc : X.calm = true) : CallR X (.builtin "min") rMn2 := call_min2 hc
theorem cr_lst : CallR X (.type "list") (rLst X.K) := call_list_of
end
section
variable {K : PySem.W.Frag} {τ : Sls} {ta tb tc td te : TE} {d e f : PyData} {r r' r'' : R2} {t u : TT} {tr : TA}
theorem args1 {G : Hp} {vs : List V} {s : Sl} (h : ArgsOk K G vs [s]) : ∃ v, vs = [v] ∧ ArgOk K G v s := by
  cases h with
  | cons h t => cases t; exact ⟨_, rfl, h⟩
theorem args2 {G : Hp} {vs : List V} {s s' : Sl} (h : ArgsOk K G vs [s, s']) : ∃ v v', vs = [v, v'] ∧ ArgOk K G v s ∧ ArgOk K G v' s' := by
  cases h with
  | cons h t => obtain ⟨v', rfl, h'⟩ := args1 t; exact ⟨_, _, rfl, h, h'⟩
theorem rc_lenL {ds : List PyData} : RC K (rLenA K) [.dat (.list ds)] (.int ds.length) := fun G H vs x a Q q => by
  obtain ⟨v, rfl, h⟩ := args1 a
  obtain ⟨p, us, rfl, e1, a1⟩ := Dt.lst_of h
  exact ⟨p, us, rfl, .inl (.inl (.inl (x _ _ e1))), by rw [a1.len]; exact q _ G H (Ext.rfl x) (.int _)⟩
theorem rc_lenT {ds : List PyData} : RC K (rLenA K) [.dat (.tuple ds)] (.int ds.length) := fun G H vs x a Q q => by
  obtain ⟨v, rfl, h⟩ := args1 a
  obtain ⟨p, us, rfl, e1, a1⟩ := Dt.tup_of h
  exact ⟨p, us, rfl, .inr (.inl (.inl (x _ _ e1))), by rw [a1.len]; exact q _ G H (Ext.rfl x) (.int _)⟩
theorem rc_lenS {ns : List Int} : RC K (rLenA K) [.scr ns] (.int ns.length) := fun G H vs x a Q q => by
  obtain ⟨v, rfl, p, rfl, h⟩ := args1 a
  exact ⟨p, _, rfl, .inl (x.sqL h), by rw [List.length_map]; exact q _ G H (Ext.rfl x) (.int _)⟩
theorem rc_abs {i : Int} : RC K rAbs [.dat (.int i)] (.int i.natAbs) := fun G H vs x a Q q => by
  obtain ⟨v, rfl, h⟩ := args1 a
  refine ⟨i, by rw [Dt.int_of h], ?_⟩
  have e : (if i < 0 then -i else i) = (i.natAbs : Int) := by split <;> omega
  rw [e]
  exact q _ G H (Ext.rfl x) (.int _)
theorem rc_max {i j : Int} : RC K rMx2 [.dat (.int i), .dat (.int j)] (.int (max i j)) := fun G H vs x a Q q => by
  obtain ⟨v, w, rfl, h1, h2⟩ := args2 a
  refine ⟨i, j, by rw [Dt.int_of h1, Dt.int_of h2], ?_⟩
  have e : (if j > i then j else i) = max i j := by split <;> omega
  rw [e]
  exact q _ G H (Ext.rfl x) (.int _)
theorem rc_min {i j : Int} : RC K rMn2 [.dat (.int i), .dat (.int j)] (.int (min i j)) := fun G H vs x a Q q => by
  obtain ⟨v, w, rfl, h1, h2⟩ := args2 a
  refine ⟨i, j, by rw [Dt.int_of h1, Dt.int_of h2], ?_⟩
  have e : (if j < i then j else i) = min i j := by split <;> omega
  rw [e]
  exact q _ G H (Ext.rfl x) (.int _)
theorem rc_sum {ns : List Int} : RC K (rSum K) [.dat (.list (ns.map PyData.int))] (.int ns.sum) := fun G H vs x a Q q => by
  obtain ⟨v, rfl, h⟩ := args1 a
  obtain ⟨p, us, rfl, e1, a1⟩ := Dt.lst_of h
  rw [DtAll.ints a1] at e1
  exact ⟨p, ns, rfl, .inl (.inl (x _ _ e1)), q _ G H (Ext.rfl x) (.int _)⟩
theorem rc_all {bs : List Bool} : RC K (rAll K) [.dat (.list (bs.map PyData.bool))] (.bool (bs.all id)) := fun G H vs x a Q q => by
  obtain ⟨v, rfl, h⟩ := args1 a
  obtain ⟨p, us, rfl, e1, a1⟩ := Dt.lst_of h
  rw [DtAll.bools a1] at e1
  exact ⟨p, bs, rfl, .inl (.inl (x _ _ e1)), q _ G H (Ext.rfl x) (.bl _)⟩
theorem rc_any {bs : List Bool} : RC K (rAny K) [.dat (.list (bs.map PyData.bool))] (.bool (bs.any id)) := fun G H vs x a Q q => by
  obtain ⟨v, rfl, h⟩ := args1 a
  obtain ⟨p, us, rfl, e1, a1⟩ := Dt.lst_of h
  rw [DtAll.bools a1] at e1
  exact ⟨p, bs, rfl, .inl (.inl (x _ _ e1)), q _ G H (Ext.rfl x) (.bl _)⟩
theorem rcl_list {ds : List PyData} : RCL K (rLst K) [.dat (.list ds)] ds := fun G H vs x a Q q => by
  obtain ⟨v, rfl, h⟩ := args1 a
  obtain ⟨p, us, rfl, e1, a1⟩ := Dt.lst_of h
  exact ⟨p, us, rfl, .inl (.inl (.inl (x _ _ e1))), fun l hl => q l us G _ (Ext.newO x hl) hl (x.none hl) upd_same a1⟩
/-! own lists read for a scalar -/
def scalar : PyData → Bool
  | .none => true
  | .bool _ => true
  | .int _ => true
  | .str _ => true
  | _ => false
theorem Dt.scal {G G' : Hp} {v : V} (hs : scalar d = true) (h : Dt G v d) : Dt G' v d := by
  cases h with
  | non => exact .non
  | bl b => exact .bl b
  | int i => exact .int i
  | str x => exact .str x
  | lst _ _ => cases hs
  | tup _ _ => cases hs
  | ins _ _ => cases hs
  | tag _ => cases hs
  | fn _ _ => cases hs
  | dct _ => cases hs
  | bes _ _ => cases hs
  | see _ _ _ => cases hs
theorem ed_frz (i : Nat) {ds : List PyData} (ht : τ[i]? = some (.own ds)) (h : ED K te (τ.set i (.dat (.list ds))) d) (hs : scalar d = true := by rfl) : ED K te τ d := fun G0 H0 G H σ R Q q => by
  obtain ⟨G1, x, R1⟩ := R.frz ht
  exact h G0 H0 G1 H σ R1 Q fun v G' H' xx dd => q v G H' (Ext.grow R.gh xx.hh) (Dt.scal hs dd)
theorem et_frz (i : Nat) {ds : List PyData} {b : Bool} (ht : τ[i]? = some (.own ds)) (h : ET K t (τ.set i (.dat (.list ds))) b) : ET K t τ b := fun G0 H0 G H σ R Q q => by
  obtain ⟨G1, x, R1⟩ := R.frz ht
  exact h G0 H0 G1 H σ R1 Q fun G' H' xx => q G H' (Ext.grow R.gh xx.hh)
end

/-! ### what is walked -/
section
variable (K : PySem.W.Frag)
def JD (G : Hp) (J : It) (its : List PyData) : Prop := ∀ G1 H1, Ex G G1 → Ex G1 H1 → ∀ i : Nat, (∀ d, its[i]? = some d → J.go i H1 ∧ ∀ x H2, J.yld i H1 x H2 → ∃ G2, Ext G1 H1 G2 H2 ∧ Dt G2 x d) ∧ (its.length ≤ i → J.stop i H1)
def EI (wi : TI) (τ : Sls) (its : List PyData) : Prop := ∀ G0 H0 G H σ, Rel K G0 H0 G H σ τ → ∀ R : It → Hp → Prop, (∀ J G' H', Ext G H G' H' → JD G' J its → R J H') → wi σ H R
def TGD (g : TG) (js : List Nat) (d : PyData) (τ τ2 : Sls) : Prop := ∀ G0 H0 G H σ v, Rel K G0 H0 G H σ τ → Dt G v d → ∀ Q : L2.St → Hp → Prop, (∀ σ2, Rel K G0 H0 G H σ2 τ2 → (∀ k, k ∉ js → σ2[k]? = σ[k]?) → σ2.length = σ.length → Q σ2 H) → g v σ H Q
def TGsD (g : TGs) (js : List Nat) (ds : List PyData) (τ τ2 : Sls) : Prop := ∀ G0 H0 G H σ vs, Rel K G0 H0 G H σ τ → DtAll G vs ds → ∀ Q : L2.St → Hp → Prop, (∀ σ2, Rel K G0 H0 G H σ2 τ2 → (∀ k, k ∉ js → σ2[k]? = σ[k]?) → σ2.length = σ.length → Q σ2 H) → g vs σ H Q
end
section
variable {K : PySem.W.Frag} {τ : Sls} {ta tb tc td te : TE} {d e f : PyData} {t u : TT} {tr : TA}
theorem SqL.one {G H : Hp} {a : Addr} {xs ys : List V} (e : H a = some (.lst xs)) (h : ∀ zs, SqL K H a zs → zs = ys) : xs = ys := h xs (.inl (.inl e))
theorem ei_list {ds : List PyData} (h : ED K te τ (.list ds)) : EI K (iList K te) τ ds := fun G0 H0 G H σ R Q q => h G0 H0 G H σ R _ fun v G1 H1 x1 d1 => by
  obtain ⟨a, vs, rfl, e1, a1⟩ := Dt.lst_of d1
  refine ⟨a, rfl, ⟨vs, .inl (.inl (x1.gh _ _ e1))⟩, q _ G1 H1 x1 fun G2 H2 y1 y2 i => ⟨fun d hd => ?_, fun hi => ?_⟩⟩
  · obtain ⟨w, f1, f2⟩ := a1.at hd
    have e2 := y2 _ _ (y1 _ _ e1)
    refine ⟨⟨vs, w, .inl (.inl e2), f1⟩, fun x H3 y => ?_⟩
    obtain ⟨rfl, y⟩ := y
    have z := y vs (.inl (.inl e2))
    rw [f1] at z
    cases z
    exact ⟨G2, Ext.rfl y2, Dt.ex y1 f2⟩
  · exact ⟨vs, .inl (.inl (y2 _ _ (y1 _ _ e1))), by rw [a1.len]; exact hi⟩
theorem ei_tup {ds : List PyData} (h : ED K te τ (.tuple ds)) : EI K (iTup K te) τ ds := fun G0 H0 G H σ R Q q => h G0 H0 G H σ R _ fun v G1 H1 x1 d1 => by
  obtain ⟨a, vs, rfl, e1, a1⟩ := Dt.tup_of d1
  refine ⟨a, rfl, ⟨vs, .inl (.inl (x1.gh _ _ e1))⟩, q _ G1 H1 x1 fun G2 H2 y1 y2 i => ⟨fun d hd => ?_, fun hi => ?_⟩⟩
  · obtain ⟨w, f1, f2⟩ := a1.at hd
    have e2 := y2 _ _ (y1 _ _ e1)
    refine ⟨⟨vs, w, .inl (.inl e2), f1⟩, fun x H3 y => ?_⟩
    obtain ⟨rfl, y⟩ := y
    have z := y vs (.inl (.inl e2))
    rw [f1] at z
    cases z
    exact ⟨G2, Ext.rfl y2, Dt.ex y1 f2⟩
  · exact ⟨vs, .inl (.inl (y2 _ _ (y1 _ _ e1))), by rw [a1.len]; exact hi⟩
/-- range's ints -/
def rngD (lo : Int) (n : Nat) : List PyData := (List.range n).map fun i => .int (lo + (i : Nat))
theorem rngD_at {lo : Int} {n i : Nat} : (rngD lo n)[i]? = if i < n then some (.int (lo + (i : Nat))) else none := by
  unfold rngD
  rw [List.getElem?_map]
  by_cases h : i < n
  · rw [List.getElem?_range h, if_pos h]; rfl
  · rw [List.getElem?_eq_none (by rw [List.length_range]; omega), if_neg h]; rfl
theorem rngD_len {lo : Int} {n : Nat} : (rngD lo n).length = n := by simp [rngD]
theorem jd_rng {G : Hp} {lo : Int} {n : Nat} : JD G (Itr lo n) (rngD lo n) := fun G2 H2 y1 y2 i => by
  refine ⟨fun d hd => ?_, fun hi => ?_⟩
  · rw [rngD_at] at hd
    by_cases h : i < n
    · rw [if_pos h] at hd
      cases hd
      refine ⟨h, fun x H3 y => ?_⟩
      obtain ⟨rfl, rfl⟩ := y
      exact ⟨G2, Ext.rfl y2, .int _⟩
    · rw [if_neg h] at hd
      cases hd
  · rw [rngD_len] at hi
    exact hi
theorem ei_rng1 {ta : TA} {j : Int} (h : EA K ta τ [.dat (.int j)]) (h0 : -1000000 ≤ j) (h1 : j ≤ 1000000) : EI K (iRng1 ta) τ (rngD 0 j.toNat) := fun G0 H0 G H σ R Q q => h G0 H0 G H σ R _ fun vs G1 H1 x1 a1 => by
  obtain ⟨v, rfl, h⟩ := args1 a1
  exact ⟨j, by rw [Dt.int_of h], by omega, by omega, q _ G1 H1 x1 jd_rng⟩
theorem ei_rng2 {ta : TA} {i j : Int} (h : EA K ta τ [.dat (.int i), .dat (.int j)]) (h0 : -1000000 ≤ i) (h1 : i ≤ 1000000) (h2 : -1000000 ≤ j) (h3 : j ≤ 1000000) : EI K (iRng2 ta) τ (rngD i (j - i).toNat) := fun G0 H0 G H σ R Q q => h G0 H0 G H σ R _ fun vs G1 H1 x1 a1 => by
  obtain ⟨v, w, rfl, h, h'⟩ := args2 a1
  exact ⟨i, j, by rw [Dt.int_of h, Dt.int_of h'], ⟨by omega, by omega, by omega, by omega⟩, q _ G1 H1 x1 jd_rng⟩
def enumD (ds : List PyData) : List PyData := ds.mapIdx fun i d => .tuple [.int (i : Nat), d]
theorem ei_enum {ta : TA} {ds : List PyData} (h : EA K ta τ [.dat (.list ds)]) : EI K (iEnum K ta) τ (enumD ds) := fun G0 H0 G H σ R Q q => h G0 H0 G H σ R _ fun vs G1 H1 x1 a1 => by
  obtain ⟨v, rfl, h⟩ := args1 a1
  obtain ⟨a, vs, rfl, e1, a1⟩ := Dt.lst_of h
  refine ⟨a, vs, rfl, .inl (.inl (x1.gh _ _ e1)), q _ G1 H1 x1 fun G2 H2 y1 y2 i => ⟨fun d hd => ?_, fun hi => ?_⟩⟩
  · unfold enumD at hd
    rw [List.getElem?_mapIdx] at hd
    cases hq : ds[i]? with
    | none => rw [hq] at hd; cases hd
    | some d' =>
      rw [hq] at hd
      cases hd
      obtain ⟨w, f1, f2⟩ := a1.at hq
      have e2 := y2 _ _ (y1 _ _ e1)
      refine ⟨⟨vs, w, .inl (.inl e2), f1⟩, fun x H3 y => ?_⟩
      obtain ⟨T, w', rfl, hT, rfl, y⟩ := y
      have z := y vs (.inl (.inl e2))
      rw [f1] at z
      cases z
      exact ⟨_, Ext.new y2 hT, .tup upd_same (.cons (.int _) (.cons (Dt.ex (y1.tr (Ex.upd (y2.none hT))) f2) .nil))⟩
  · refine ⟨vs, .inl (.inl (y2 _ _ (y1 _ _ e1))), ?_⟩
    unfold enumD at hi
    rw [List.length_mapIdx] at hi
    rw [a1.len]; exact hi
theorem ei_zip {ta : TA} {ds es : List PyData} (h : EA K ta τ [.dat (.list ds), .dat (.list es)]) : EI K (iZip K ta) τ (List.zipWith (fun d e => PyData.tuple [d, e]) ds es) := fun G0 H0 G H σ R Q q => h G0 H0 G H σ R _ fun vs G1 H1 x1 a0 => by
  obtain ⟨v, w, ev, h, h'⟩ := args2 a0
  obtain ⟨a, vs, ea, e1, a1⟩ := Dt.lst_of h
  obtain ⟨b, us, eb, e2, a2⟩ := Dt.lst_of h'
  subst ea eb ev
  refine ⟨a, b, vs, us, rfl, .inl (.inl (x1.gh _ _ e1)), .inl (.inl (x1.gh _ _ e2)), q _ G1 H1 x1 fun G2 H2 y1 y2 i => ⟨fun d hd => ?_, fun hi => ?_⟩⟩
  · rw [List.getElem?_zipWith] at hd
    cases hq : ds[i]? with
    | none => rw [hq] at hd; cases hd
    | some d' =>
      cases hq' : es[i]? with
      | none => rw [hq, hq'] at hd; cases hd
      | some e' =>
        rw [hq, hq'] at hd
        cases hd
        obtain ⟨w, f1, f2⟩ := a1.at hq
        obtain ⟨w', g1, g2⟩ := a2.at hq'
        have k1 := y2 _ _ (y1 _ _ e1)
        have k2 := y2 _ _ (y1 _ _ e2)
        refine ⟨⟨vs, us, w, w', .inl (.inl k1), .inl (.inl k2), f1, g1⟩, fun x H3 y => ?_⟩
        obtain ⟨T, z, z', rfl, hT, rfl, y, y'⟩ := y
        have z1 := y vs (.inl (.inl k1))
        have z2 := y' us (.inl (.inl k2))
        rw [f1] at z1
        rw [g1] at z2
        cases z1
        cases z2
        have xx := y1.tr (Ex.upd (o := HO.tup [w, w']) (y2.none hT))
        exact ⟨_, Ext.new y2 hT, .tup upd_same (.cons (Dt.ex xx f2) (.cons (Dt.ex xx g2) .nil))⟩
  · refine ⟨vs, us, .inl (.inl (y2 _ _ (y1 _ _ e1))), .inl (.inl (y2 _ _ (y1 _ _ e2))), ?_⟩
    rw [List.length_zipWith] at hi
    rw [a1.len, a2.len]; omega
/-! targets -/
theorem tg_name (j : Nat) : TGD K (gName j) [j] d τ (τ.set j (.dat d)) := fun G0 H0 G H σ v R h Q q => q _ (R.set j h) (fun k hk => List.getElem?_set_ne (fun z => hk (by simp [z]))) List.length_set
theorem tgs_nil : TGsD K gNil [] [] τ τ := fun G0 H0 G H σ vs R h Q q => by
  cases h
  exact ⟨rfl, q σ R (fun k _ => rfl) rfl⟩
theorem tgs_cons {g : TG} {gs : TGs} {js ks : List Nat} {ds : List PyData} {τ1 τ2 : Sls} (h1 : TGD K g js d τ τ1) (h2 : TGsD K gs ks ds τ1 τ2) : TGsD K (gCons g gs) (js ++ ks) (d :: ds) τ τ2 := fun G0 H0 G H σ vs R h Q q => by
  cases h with
  | cons h t =>
    refine ⟨_, _, rfl, h1 G0 H0 G H σ _ R h _ fun σ1 R1 k1 l1 => h2 G0 H0 G H σ1 _ R1 t Q fun σ2 R2 k2 l2 => q σ2 R2 (fun k hk => ?_) (l2.trans l1)⟩
    rw [List.mem_append, not_or] at hk
    rw [k2 k hk.2, k1 k hk.1]
theorem tg_tup {gs : TGs} {n : Nat} {js : List Nat} {ds : List PyData} {τ2 : Sls} (h : TGsD K gs js ds τ τ2) (hn : ds.length = n) : TGD K (gTup K n gs) js (.tuple ds) τ τ2 := fun G0 H0 G H σ v R hv Q q => by
  obtain ⟨a, vs, rfl, e1, a1⟩ := Dt.tup_of hv
  exact ⟨a, vs, rfl, .inl (.inl (R.gh _ _ e1)), by rw [a1.len]; exact hn, h G0 H0 G H σ vs R a1 Q q⟩
/-! wiped slots -/
def wipeS (τ : Sls) : List Nat → Sls
  | [] => τ
  | v :: vs => (wipeS τ vs).set v .unk
theorem Rel.wipe {G0 H0 G H : Hp} {σ : L2.St} (r : Rel K G0 H0 G H σ τ) : ∀ vs : List Nat, Rel K G0 H0 G H (L2.wipe σ vs) (wipeS τ vs)
  | [] => r
  | v :: vs => (r.wipe vs).unk v
theorem wipe_at {σ : L2.St} {i : Nat} : ∀ {vs : List Nat}, (L2.wipe σ vs)[i]? = if i ∈ vs ∧ i < σ.length then some none else σ[i]?
  | [] => by simp [L2.wipe]
  | v :: vs => by
    unfold L2.wipe
    by_cases h : v = i
    · subst h
      by_cases hl : v < σ.length
      · rw [List.getElem?_set_self (by rw [wipe_length]; exact hl), if_pos ⟨by simp, hl⟩]
      · rw [List.getElem?_eq_none (by rw [List.length_set, wipe_length]; omega), if_neg (fun z => hl z.2), List.getElem?_eq_none (by omega)]
    · rw [List.getElem?_set_ne h, wipe_at]
      have e : i ∈ v :: vs ↔ i ∈ vs := by rw [List.mem_cons]; exact ⟨fun z => z.resolve_left fun q => h q.symm, .inr⟩
      simp only [e]
theorem wipe_agree {σ σ2 : L2.St} {vs js : List Nat} (hl : σ2.length = σ.length) (hj : ∀ j ∈ js, j ∈ vs) (h : ∀ k : Nat, k ∉ js → σ2[k]? = (L2.wipe σ vs)[k]?) : L2.wipe σ2 vs = L2.wipe σ vs := by
  apply List.ext_getElem?
  intro i
  rw [wipe_at, wipe_at, hl]
  by_cases c : i ∈ vs ∧ i < σ.length
  · rw [if_pos c, if_pos c]
  · rw [if_neg c, if_neg c]
    by_cases m : i ∈ vs
    · have : ¬ i < σ.length := fun z => c ⟨m, z⟩
      rw [List.getElem?_eq_none (by omega), List.getElem?_eq_none (by omega)]
    · rw [h i fun z => m (hj i z), wipe_at, if_neg fun z => m z.1]
/-! comprehensions -/
theorem et_yes : ET K tYes τ true := fun G0 H0 G H σ R Q q => q G H (Ext.rfl R.gh)
theorem el_lc {α : Type} (xs : List α) (q : α → PyData) (F : α → Option PyData) {wi : TI} {g : TG} {tt : TT} {vs js : List Nat} (hi : EI K wi τ (xs.map q)) (hj : ∀ j ∈ js, j ∈ vs) (hn : xs.length ≤ 100000)
    (h : ∀ x ∈ xs, ∃ τ2, TGD K g js (q x) (wipeS τ vs) τ2 ∧ ((F x = none ∧ ET K tt τ2 false) ∨ ∃ y, F x = some y ∧ ET K tt τ2 true ∧ ED K te τ2 y)) : EL K (tLc wi g tt te vs) τ (xs.filterMap F) := by
  intro G0 H0 G H σ R Q k
  refine hi G0 H0 G H σ R _ fun J G1 H1 x1 jd D hD => ?_
  refine ⟨fun i m Hc => m = xs.length - i ∧ i ≤ xs.length ∧ ∃ G2 ws, Ext G1 H1 G2 Hc ∧ Hc D = some (.lst ws) ∧ G2 D = none ∧ DtAll G2 ws ((xs.take i).filterMap F) ∧ ((xs.take i).filterMap F).length ≤ i, ⟨xs.length, by simp, Nat.zero_le _, G1, [], Ext.newO x1.gh hD, upd_same, x1.gh.none hD, .nil, by simp⟩, ?_⟩
  rintro i m Hc ⟨rfl, hin, G2, ws, y1, y2, y3, y4, y5⟩
  obtain ⟨jgo, jst⟩ := jd G2 Hc y1.gg y1.gh i
  by_cases hlt : i < xs.length
  · obtain ⟨x, hx⟩ : ∃ x, xs[i]? = some x := ⟨xs[i], List.getElem?_eq_getElem hlt⟩
    obtain ⟨go, yl⟩ := jgo (q x) (by rw [List.getElem?_map, hx]; rfl)
    refine .inr ⟨go, fun H' => ∃ G3 ws', Ext G1 H1 G3 H' ∧ H' D = some (.lst ws') ∧ G3 D = none ∧ DtAll G3 ws' ((xs.take (i + 1)).filterMap F) ∧ ((xs.take (i + 1)).filterMap F).length ≤ i + 1, fun H' hN => ⟨xs.length - (i + 1), by omega, rfl, hlt, hN⟩, fun v H' yv => ?_⟩
    obtain ⟨G3, z1, z2⟩ := yl v H' yv
    obtain ⟨τ2, tg, alt⟩ := h x (List.mem_of_getElem? hx)
    have zz : Ext G H G3 H' := (x1.tr y1).tr z1
    have RW := (R.step zz).wipe vs
    have tk : (xs.take (i + 1)) = xs.take i ++ [x] := by rw [List.take_add_one, hx]; rfl
    have fmE : F x = none → (xs.take (i + 1)).filterMap F = (xs.take i).filterMap F := fun e => by
      rw [tk, List.filterMap_append, List.filterMap_cons_none e, List.filterMap_nil, List.append_nil]
    have fmY : ∀ y, F x = some y → (xs.take (i + 1)).filterMap F = (xs.take i).filterMap F ++ [y] := fun y e => by
      rw [tk, List.filterMap_append, List.filterMap_cons_some e, List.filterMap_nil]
    refine tg G0 H0 G3 H' _ v RW z2 _ fun σ2 R2 ag ln => ⟨wipe_agree (ln.trans (wipe_length σ vs)) hj ag, ?_⟩
    have hDne : Hc D ≠ none := by rw [y2]; exact fun z => nomatch z
    rcases alt with ⟨hF, ht⟩ | ⟨y, hF, ht, hy⟩
    · refine ht G0 H0 G3 H' σ2 R2 _ fun G4 H4 x4 => ?_
      rw [if_neg Bool.false_ne_true]
      have w := z1.tr x4
      exact ⟨G4, ws, y1.tr w, w.hh _ _ y2, w.ap D y3 hDne, by rw [fmE hF]; exact DtAll.ex w.gg y4, by rw [fmE hF]; omega⟩
    · refine ht G0 H0 G3 H' σ2 R2 _ fun G4 H4 x4 => ?_
      rw [if_pos rfl]
      refine hy G0 H0 G4 H4 σ2 (R2.step x4) _ fun v5 G5 H5 x5 d5 => ?_
      have w := (z1.tr x4).tr x5
      have g5 := w.ap D y3 hDne
      have l5 : ws.length = ((xs.take i).filterMap F).length := y4.len
      refine ⟨ws, w.hh _ _ y2, szl (by omega), G5, ws ++ [v5], (y1.tr w).mut hD g5, upd_same, g5, ?_, ?_⟩
      · rw [fmY y hF]
        exact (DtAll.ex w.gg y4).app (.cons d5 .nil)
      · rw [fmY y hF, List.length_append]
        simp only [List.length_cons, List.length_nil]
        omega
  · have e : i = xs.length := by omega
    subst e
    refine .inl ⟨jst (by rw [List.length_map]; exact Nat.le_refl _), ?_⟩
    rw [List.take_length] at y4
    exact k D ws G2 Hc (x1.tr y1) (x1.hh.none hD) y3 y2 y4
end
end Ab

namespace Ab
open PySem L2 PySem.Spec PyProof.Rows
variable [LamTab]

/-- what is handed back -/
def RtOk (H0 G H : Hp) (v : V) : Sl → Prop
  | .dat d => Dt G v d
  | .own ds => ∃ p vs, v = .ref p ∧ H p = some (.lst vs) ∧ G p = none ∧ H0 p = none ∧ DtAll G vs ds
  | .obj x C dx fs => v = .ref x ∧ ObOk H0 G H x C dx fs
  | _ => False
theorem ObOk.back {H0 H1 G H : Hp} {x C dx : Addr} {fs : List (Str × Addr × List PyData)} (x1 : Ex H0 H1) (h : ObOk H1 G H x C dx fs) : ObOk H0 G H x C dx fs := by
  obtain ⟨h1, h2, h3, h4, h5⟩ := h
  refine ⟨h1, h2, x1.none h3, h4, fun f hf => ?_⟩
  obtain ⟨vs, k1, k2, k3, k4⟩ := h5 f hf
  exact ⟨vs, k1, k2, x1.none k3, k4⟩
section
variable (K : PySem.W.Frag)
def SD (t : TS) (τ : Sls) (N : Sls → Prop) (R : Sl → Prop) : Prop := ∀ G0 H0 G H σ, Rel K G0 H0 G H σ τ → ∀ D : Ends, (∀ τ' G' H' σ', N τ' → Rel K G0 H0 G' H' σ' τ' → Ex G G' → D.nx σ' H') →
  (∀ s v G' H', R s → Ext G0 H0 G' H' → RtOk H0 G' H' v s → D.rt v H') → t D σ H
/-- a def's promise, by data -/
def spF (P : List Sl → (Sl → Prop) → Prop) : Sp := fun vs H Q _ => ∃ G as R, Ex G H ∧ ArgsOk K G vs as ∧ P as R ∧ ∀ s v G' H', R s → Ext G H G' H' → RtOk H G' H' v s → Q v H'
def startS (N : List Str) (as : List Sl) : Sls := as ++ List.replicate (N.length - as.length) .unk
end
section
variable {K : PySem.W.Frag} {τ : Sls} {ta tb tc td te : TE} {d e f : PyData} {t u : TS} {N N' : Sls → Prop} {R R' : Sl → Prop}
theorem sd_mono (h : SD K t τ N R) (hn : ∀ τ', N τ' → N' τ') (hr : ∀ s, R s → R' s) : SD K t τ N' R' := fun G0 H0 G H σ r D kn kr => h G0 H0 G H σ r D (fun τ' G' H' σ' n => kn τ' G' H' σ' (hn τ' n)) fun s v G' H' z => kr s v G' H' (hr s z)
theorem sd_next (h : N τ) : SD K tNext τ N R := fun G0 H0 G H σ r D kn kr => kn τ G H σ h r (Ex.rfl G)
theorem sd_seq {M : Sls → Prop} (h1 : SD K t τ M R) (h2 : ∀ τ1, M τ1 → SD K u τ1 N R) : SD K (tSeq t u) τ N R := fun G0 H0 G H σ r D kn kr =>
  h1 G0 H0 G H σ r { D with nx := u D } (fun τ1 G1 H1 σ1 m r1 x1 => h2 τ1 m G0 H0 G1 H1 σ1 r1 D (fun τ2 G2 H2 σ2 n r2 x2 => kn τ2 G2 H2 σ2 n r2 (x1.tr x2)) kr) kr
theorem sd_seq1 {τ1 : Sls} (h1 : SD K t τ (· = τ1) R) (h2 : SD K u τ1 N R) : SD K (tSeq t u) τ N R := sd_seq h1 fun _ e => e ▸ h2
theorem sd_asg {i : Nat} (h : ED K te τ d) (hn : N (τ.set i (.dat d))) : SD K (tAsg te (gName i)) τ N R := fun G0 H0 G H σ r D kn kr => h G0 H0 G H σ r _ fun v G1 H1 x1 d1 => kn _ G1 H1 _ hn ((r.step x1).set i d1) x1.gg
theorem sd_asgL {i : Nat} {ds : List PyData} (h : EL K te τ ds) (hn : N (τ.set i (.own ds))) : SD K (tAsg te (gName i)) τ N R := fun G0 H0 G H σ r D kn kr => h G0 H0 G H σ r _ fun p vs G1 H1 x1 hp gp hh d1 => kn _ G1 H1 _ hn (r.setOwn x1 i hp gp hh d1) x1.gg
theorem sd_asgT {g : TG} {js : List Nat} {τ2 : Sls} (h : ED K te τ d) (hg : TGD K g js d τ τ2) (hn : N τ2) : SD K (tAsg te g) τ N R := fun G0 H0 G H σ r D kn kr => h G0 H0 G H σ r _ fun v G1 H1 x1 d1 => hg G0 H0 G1 H1 σ v (r.step x1) d1 _ fun σ2 r2 _ _ => kn _ G1 H1 σ2 hn r2 x1.gg
theorem sd_ret (h : ED K te τ d) (hr : R (.dat d)) : SD K (tRet te) τ N R := fun G0 H0 G H σ r D kn kr => h G0 H0 G H σ r _ fun v G1 H1 x1 d1 => kr _ v G1 H1 hr (r.ext.tr x1) d1
theorem sd_retL {ds : List PyData} (h : EL K te τ ds) (hr : R (.own ds)) : SD K (tRet te) τ N R := fun G0 H0 G H σ r D kn kr => h G0 H0 G H σ r _ fun p vs G1 H1 x1 hp gp hh d1 => kr _ _ G1 H1 hr (r.ext.tr x1) ⟨p, vs, rfl, hh, gp, r.ext.hh.none hp, d1⟩
theorem sd_retO {i : Nat} {ds : List PyData} (ht : τ[i]? = some (.own ds)) (hr : R (.own ds)) : SD K (tRet (tVar i)) τ N R := fun G0 H0 G H σ r D kn kr => by
  obtain ⟨p, vs, h1, h2, h3, h4, h5⟩ := r.ownAt ht
  exact ⟨_, h1, kr _ _ G H hr r.ext ⟨p, vs, rfl, h2, h3, h4, h5⟩⟩
theorem sd_if {c : TT} {b : Bool} (hc : ET K c τ b) (h1 : b = true → SD K t τ N R) (h2 : b = false → SD K u τ N R) : SD K (tIfS c t u) τ N R := fun G0 H0 G H σ r D kn kr => hc G0 H0 G H σ r _ fun G1 H1 x1 => by
  cases b with
  | true => rw [if_pos rfl]; exact h1 rfl G0 H0 G1 H1 σ (r.step x1) D (fun τ2 G2 H2 σ2 n r2 x2 => kn τ2 G2 H2 σ2 n r2 (x1.gg.tr x2)) kr
  | false => rw [if_neg Bool.false_ne_true]; exact h2 rfl G0 H0 G1 H1 σ (r.step x1) D (fun τ2 G2 H2 σ2 n r2 x2 => kn τ2 G2 H2 σ2 n r2 (x1.gg.tr x2)) kr
theorem sd_drop (h : ED K te τ d) (hn : N τ) : SD K (tDrop te) τ N R := fun G0 H0 G H σ r D kn kr => h G0 H0 G H σ r _ fun v G1 H1 x1 d1 => kn _ G1 H1 σ hn (r.step x1) x1.gg
theorem sd_frz {i : Nat} {ds : List PyData} (ht : τ[i]? = some (.own ds)) (h : SD K t (τ.set i (.dat (.list ds))) N R) : SD K t τ N R := fun G0 H0 G H σ r D kn kr => by
  obtain ⟨G1, x, r1⟩ := r.frz ht
  exact h G0 H0 G1 H σ r1 D (fun τ2 G2 H2 σ2 n r2 x2 => kn τ2 G2 H2 σ2 n r2 (x.tr x2)) kr
theorem sd_append {i : Nat} {ds : List PyData} (ht : τ[i]? = some (.own ds)) (h : ED K te τ d) (hl : ds.length < 100000) (hn : N (τ.set i (.own (ds ++ [d])))) : SD K (tDrop (tBM K "list" rAppend (tVar i) (tCons te tNil))) τ N R := fun G0 H0 G H σ r D kn kr => by
  obtain ⟨p, vs, h1, h2, h3, h4, h5⟩ := r.ownAt ht
  refine ⟨_, h1, .inl ⟨rfl, vs, .inl (.inl h2)⟩, h G0 H0 G H σ r _ fun v G1 H1 x1 d1 => ?_⟩
  have r1 := r.step x1
  obtain ⟨p', vs', k1, k2, k3, k4, k5⟩ := r1.ownAt ht
  rw [h1] at k1
  cases k1
  refine ⟨p, vs', v, rfl, rfl, k2, szl (by rw [k5.len]; exact hl), ?_⟩
  exact kn _ G1 _ σ hn (r1.mut ht h1 (k5.app (.cons d1 .nil))) x1.gg
theorem sd_extend {i : Nat} {ds es : List PyData} (ht : τ[i]? = some (.own ds)) (h : ED K te τ (.list es)) (hl : ds.length + es.length ≤ 100000) (hn : N (τ.set i (.own (ds ++ es)))) : SD K (tDrop (tBM K "list" rExtend (tVar i) (tCons te tNil))) τ N R := fun G0 H0 G H σ r D kn kr => by
  obtain ⟨p, vs, h1, h2, h3, h4, h5⟩ := r.ownAt ht
  refine ⟨_, h1, .inl ⟨rfl, vs, .inl (.inl h2)⟩, h G0 H0 G H σ r _ fun v G1 H1 x1 d1 => ?_⟩
  have r1 := r.step x1
  obtain ⟨p', vs', k1, k2, k3, k4, k5⟩ := r1.ownAt ht
  rw [h1] at k1
  cases k1
  obtain ⟨b, us, rfl, e1, a1⟩ := Dt.lst_of d1
  refine ⟨p, b, vs', us, rfl, rfl, k2, x1.gh _ _ e1, sz (by rw [k5.len, a1.len]; exact hl), ?_⟩
  exact kn _ G1 _ σ hn (r1.mut ht h1 (k5.app a1)) x1.gg
theorem ixN_len {n : Nat} {k : Int} {j : Nat} (h : ixN n k = some j) : j < n := (ixN_seq h).2.1
/-- xs[k] = e, xs an own list -/
theorem sd_put {i j : Nat} {k : Int} {ds : List PyData} (ht : τ[i]? = some (.own ds)) (h : ED K te τ d) (hk : ED K tb τ (.int k)) (hj : ixN ds.length k = some j) (hn : N (τ.set i (.own (ds.set j d)))) : SD K (tAsg te (gSub (tVar i) tb rSetL)) τ N R := fun G0 H0 G H σ r D kn kr =>
  h G0 H0 G H σ r _ fun v G1 H1 x1 d1 => by
    have r1 := r.step x1
    obtain ⟨p, vs, h1, h2, h3, h4, h5⟩ := r1.ownAt ht
    refine ⟨_, h1, hk G0 H0 G1 H1 σ r1 _ fun w G2 H2 x2 d2 => ?_⟩
    have r2 := r1.step x2
    obtain ⟨p', vs', k1, k2, k3, k4, k5⟩ := r2.ownAt ht
    rw [h1] at k1
    cases k1
    refine ⟨p, vs', k, j, rfl, Dt.int_of d2, k2, by rw [k5.len]; exact hj, ?_⟩
    exact kn _ G2 _ σ hn (r2.mut ht h1 (DtAll.set (Dt.ex x2.gg d1) j k5)) (x1.gg.tr x2.gg)
theorem sd_for {wi : TI} {g : TG} {its : List PyData} (I : Nat → Sls → Prop) (hi : EI K wi τ its) (h0 : I 0 τ) (hb : ∀ i d τ1, its[i]? = some d → I i τ1 → ∃ js τ2, TGD K g js d τ1 τ2 ∧ SD K t τ2 (I (i + 1)) R) (hn : ∀ τ1, I its.length τ1 → N τ1) : SD K (tFor wi g t) τ N R := by
  intro G0 H0 G H σ r D kn kr
  refine hi G0 H0 G H σ r _ fun J G1 H1 x1 jd => ?_
  refine ⟨fun i m σc Hc => m = its.length - i ∧ i ≤ its.length ∧ ∃ τ1 G2, I i τ1 ∧ Rel K G0 H0 G2 Hc σc τ1 ∧ Ex G1 G2, ⟨its.length, by simp, Nat.zero_le _, τ, G1, h0, r.step x1, Ex.rfl G1⟩, ?_⟩
  rintro i m σc Hc ⟨rfl, hin, τ1, G2, hI, rc, y1⟩
  obtain ⟨jgo, jst⟩ := jd G2 Hc y1 rc.gh i
  by_cases hlt : i < its.length
  · obtain ⟨x, hx⟩ : ∃ x, its[i]? = some x := ⟨its[i], List.getElem?_eq_getElem hlt⟩
    obtain ⟨go, yl⟩ := jgo x hx
    refine .inr ⟨go, fun σ' H' => ∃ τ1 G2, I (i + 1) τ1 ∧ Rel K G0 H0 G2 H' σ' τ1 ∧ Ex G1 G2, fun σ' H' hN => ⟨its.length - (i + 1), by omega, rfl, hlt, hN⟩, fun v H' yv => ?_⟩
    obtain ⟨G3, z1, z2⟩ := yl v H' yv
    obtain ⟨js, τ2, tg, sd⟩ := hb i x τ1 hx hI
    refine tg G0 H0 G3 H' σc v (rc.step z1) z2 _ fun σ2 R2 _ _ => ?_
    exact sd G0 H0 G3 H' σ2 R2 _ (fun τ' G' H' σ' n r' x' => ⟨τ', G', n, r', (y1.tr z1.gg).tr x'⟩) kr
  · have e : i = its.length := by omega
    subst e
    exact .inl ⟨jst (Nat.le_refl _), kn τ1 G2 Hc σc (hn τ1 hI) rc (x1.gg.tr y1)⟩
theorem sd_while {c : TT} (I : Nat → Sls → Prop) (h0 : ∃ m, I m τ) (hc : ∀ m τ1, I m τ1 → ∃ b, ET K c τ1 b ∧ (b = true → SD K t τ1 (fun τ2 => ∃ m', m' < m ∧ I m' τ2) R) ∧ (b = false → N τ1)) : SD K (tWhile c t) τ N R := by
  intro G0 H0 G H σ r D kn kr
  obtain ⟨m0, h0⟩ := h0
  refine ⟨fun m σc Hc => ∃ τ1 G2, I m τ1 ∧ Rel K G0 H0 G2 Hc σc τ1 ∧ Ex G G2, ⟨m0, τ, G, h0, r, Ex.rfl G⟩, ?_⟩
  rintro m σc Hc ⟨τ1, G2, hI, rc, y1⟩
  obtain ⟨b, ht, hT, hF⟩ := hc m τ1 hI
  refine ht G0 H0 G2 Hc σc rc _ fun G3 H3 x3 => ?_
  cases b with
  | true =>
    rw [if_pos rfl]
    refine ⟨fun σ' H' => ∃ m', m' < m ∧ ∃ τ1 G2, I m' τ1 ∧ Rel K G0 H0 G2 H' σ' τ1 ∧ Ex G G2, fun σ' H' hN => hN, ?_⟩
    exact hT rfl G0 H0 G3 H3 σc (rc.step x3) _ (fun τ' G' H' σ' ⟨m', hm, n⟩ r' x' => ⟨m', hm, τ', G', n, r', (y1.tr x3.gg).tr x'⟩) kr
  | false =>
    rw [if_neg Bool.false_ne_true]
    exact kn τ1 G3 H3 σc (hF rfl) (rc.step x3) (y1.tr x3.gg)
/-- a, b = x, y: each data or a new list -/
inductive EX (K : PySem.W.Frag) (te : TE) (τ : Sls) : Sl → Prop
  | dat {d : PyData} : ED K te τ d → EX K te τ (.dat d)
  | own {ds : List PyData} : EL K te τ ds → EX K te τ (.own ds)
theorem EX.run {s : Sl} (h : EX K te τ s) {G0 H0 G H : Hp} {σ : L2.St} (r : Rel K G0 H0 G H σ τ) {Q : VK} (q : ∀ v G' H', Ext G H G' H' → RtOk H G' H' v s → Q v H') : te σ H Q := by
  cases h with
  | dat h => exact h G0 H0 G H σ r Q fun v G' H' x d => q v G' H' x d
  | own h => exact h G0 H0 G H σ r Q fun p vs G' H' x hp gp hh d => q _ G' H' x ⟨p, vs, rfl, hh, gp, hp, d⟩
theorem RtOk.step {H0 G H G' H' : Hp} {v : V} {s : Sl} (h : RtOk H0 G H v s) (x : Ext G H G' H') : RtOk H0 G' H' v s := by
  cases s with
  | unk => exact h
  | scr ns => exact h
  | at_ p => exact h
  | dat d => exact Dt.ex x.gg h
  | own ds => obtain ⟨p, vs, h1, h2, h3, h4, h5⟩ := h; exact ⟨p, vs, h1, x.hh _ _ h2, x.ap p h3 (by rw [h2]; exact fun z => nomatch z), h4, DtAll.ex x.gg h5⟩
  | obj y C dx fs => exact ⟨h.1, h.2.step x⟩
theorem RtOk.slot {H0 Ha G H : Hp} {v : V} {s : Sl} (h : RtOk Ha G H v s) (h0 : Ex H0 Ha) : SlOk K H0 G H (some v) s ∧ ∀ p, Ow (some v) s p → Ha p = none := by
  cases s with
  | unk => exact h.elim
  | scr ns => exact h.elim
  | at_ p => exact h.elim
  | dat d => exact ⟨⟨v, rfl, h⟩, fun p o => o.elim⟩
  | own ds =>
    obtain ⟨p, vs, rfl, h2, h3, h4, h5⟩ := h
    exact ⟨⟨p, vs, rfl, h2, h3, h0.none h4, h5⟩, fun q o => by cases (show some (V.ref p) = some (V.ref q) from o); exact h4⟩
  | obj x C dx fs =>
    obtain ⟨rfl, h⟩ := h
    refine ⟨⟨rfl, h.back h0⟩, fun q o => ?_⟩
    obtain ⟨h1, h2, h3, h4, h5⟩ := h
    rcases List.mem_cons.mp (show q ∈ x :: fs.map (fun f => f.2.1) from o) with rfl | o
    · exact h3
    · obtain ⟨f, hf, rfl⟩ := List.mem_map.mp o
      obtain ⟨vs, k1, k2, k3, k4⟩ := h5 f hf
      exact k3
theorem Rel.setR {G0 H0 G H Ga Ha : Hp} {σ : L2.St} (r : Rel K G0 H0 G H σ τ) (xa : Ext Ga Ha G H) (fr : OwnIn Ha σ τ) (h0 : Ex H0 Ha) (i : Nat) {v : V} {s : Sl} (h : RtOk Ha G H v s) : Rel K G0 H0 G H (σ.set i (some v)) (τ.set i s) :=
  r.setNew (Ha := Ha) i (h.slot h0).1 (h.slot (K := K) h0).2 fr
end
end Ab

namespace Ab
open PySem L2 PySem.Spec PyProof.Rows
variable [LamTab]
section
variable {K : PySem.W.Frag} {τ : Sls} {ta tb tc td te : TE} {d e f : PyData} {t u : TS} {N N' : Sls → Prop} {R R' : Sl → Prop}
theorem OwnIn.set {H0 G H : Hp} {σ : L2.St} (h : OwnIn H σ τ) (i : Nat) {v : V} {s : Sl} (hv : RtOk H0 G H v s) : OwnIn H (σ.set i (some v)) (τ.set i s) := fun a da ov p h1 h2 w => by
  rcases set_cases h1 with ⟨rfl, rfl, hl⟩ | ⟨z, h1⟩
  · have hl2 : a < σ.length := by
      by_cases q : a < σ.length
      · exact q
      · rw [List.getElem?_eq_none (by rw [List.length_set]; omega)] at h2; cases h2
    rw [List.getElem?_set_self hl2] at h2
    cases h2
    cases da with
    | unk => exact w.elim
    | scr ns => exact w.elim
    | at_ p => exact w.elim
    | dat d => exact w.elim
    | own ds =>
      obtain ⟨q, vs, e1, e2, _⟩ := hv
      have w : some v = some (.ref p) := w
      rw [e1] at w
      cases w
      rw [e2]
      exact fun z => nomatch z
    | obj x C dx fs =>
      obtain ⟨_, e1, _, _, _, e5⟩ := hv
      rcases List.mem_cons.mp (show p ∈ x :: fs.map (fun f => f.2.1) from w) with rfl | o
      · rw [e1]
        exact fun z => nomatch z
      · obtain ⟨f, hf, rfl⟩ := List.mem_map.mp o
        obtain ⟨vs, k1, _⟩ := e5 f hf
        rw [k1]
        exact fun z => nomatch z
  · rw [List.getElem?_set_ne fun e => z e.symm] at h2
    exact h a da ov p h1 h2 w
theorem sd_par {i j : Nat} {s1 s2 : Sl} (h1 : EX K ta τ s1) (h2 : EX K tb τ s2) (hn : N ((τ.set i s1).set j s2)) : SD K (tPar i j (tCons ta (tCons tb tNil))) τ N R := fun G0 H0 G H σ r D kn kr => by
  refine h1.run r fun v G1 H1 x1 d1 => ?_
  refine h2.run (r.step x1) fun w G2 H2 x2 d2 => ?_
  refine ⟨v, w, rfl, kn _ G2 H2 _ hn ?_ (x1.gg.tr x2.gg)⟩
  have ra := ((r.step x1).step x2).setR (x1.tr x2) r.ownIn r.ext.hh i (d1.step x2)
  exact ra.setR x2 ((r.ownIn.ex x1.hh).set i d1) (r.ext.hh.tr x1.hh) j d2
theorem sd_par3 {i j l : Nat} {s1 s2 s3 : Sl} (h1 : EX K ta τ s1) (h2 : EX K tb τ s2) (h3 : EX K tc τ s3) (hn : N (((τ.set i s1).set j s2).set l s3)) : SD K (tPar3 i j l (tCons ta (tCons tb (tCons tc tNil)))) τ N R := fun G0 H0 G H σ r D kn kr => by
  refine h1.run r fun v G1 H1 x1 d1 => ?_
  refine h2.run (r.step x1) fun w G2 H2 x2 d2 => ?_
  refine h3.run ((r.step x1).step x2) fun z G3 H3 x3 d3 => ?_
  refine ⟨v, w, z, rfl, kn _ G3 H3 _ hn ?_ ((x1.gg.tr x2.gg).tr x3.gg)⟩
  have ra := (((r.step x1).step x2).step x3).setR ((x1.tr x2).tr x3) r.ownIn r.ext.hh i ((d1.step x2).step x3)
  have rb := ra.setR (x2.tr x3) ((r.ownIn.ex x1.hh).set i d1) (r.ext.hh.tr x1.hh) j (d2.step x3)
  exact rb.setR x3 (((r.ownIn.ex (x1.hh.tr x2.hh)).set i (d1.step x2)).set j d2) ((r.ext.hh.tr x1.hh).tr x2.hh) l d3
/-! promises -/
theorem args_at {G : Hp} : ∀ {vs : List V} {as : List Sl} {i : Nat} {s : Sl}, ArgsOk K G vs as → as[i]? = some s → ∃ v, vs[i]? = some v ∧ ArgOk K G v s
  | _, _, _, _, .nil, e => by simp at e
  | _, _, 0, _, .cons h _, e => by simp at e; subst e; exact ⟨_, rfl, h⟩
  | _, _, i + 1, d, .cons _ t, e => by
    obtain ⟨v, h1, h2⟩ := args_at (i := i) (s := d) t (by simpa using e)
    exact ⟨v, by simpa using h1, h2⟩
theorem rel_start {G H : Hp} {vs : List V} {as : List Sl} {M : List Str} (x : Ex G H) (h : ArgsOk K G vs as) : Rel K G H G H (start M vs) (startS M as) where
  base := x
  ext := Ext.rfl x
  len := by unfold L2.start startS; rw [List.length_append, List.length_append, List.length_map, List.length_replicate, List.length_replicate, h.len]
  at_ := fun i s hs => by
    unfold startS at hs
    unfold L2.start
    by_cases c : i < as.length
    · rw [List.getElem?_append_left c] at hs
      obtain ⟨v, h1, h2⟩ := args_at h hs
      refine ⟨some v, ?_, ?_⟩
      · rw [List.getElem?_append_left (by rw [List.length_map, h.len]; exact c), List.getElem?_map, h1]; rfl
      · cases s with
        | unk => trivial
        | dat d => exact ⟨v, rfl, h2⟩
        | own ds => exact h2.elim
        | obj _ _ _ _ => exact h2.elim
        | at_ _ => exact h2.elim
        | scr ns => obtain ⟨a, e1, e2⟩ := h2; exact ⟨a, by rw [e1], e2⟩
    · rw [List.getElem?_append_right (by omega)] at hs
      rw [List.getElem?_append_right (by rw [List.length_map, h.len]; omega), List.length_map, h.len]
      have hm := List.mem_of_getElem? hs
      have e : s = .unk := List.eq_of_mem_replicate hm
      subst e
      have hlt : i - as.length < M.length - as.length := by
        by_cases q : i - as.length < M.length - as.length
        · exact q
        · rw [List.getElem?_eq_none (by rw [List.length_replicate]; omega)] at hs; cases hs
      exact ⟨none, by rw [List.getElem?_replicate, if_pos hlt], trivial⟩
  sep := fun i j di dj _ _ p hi hj _ _ w _ => by
    unfold startS at hi
    have hm := List.mem_of_getElem? hi
    rw [List.mem_append] at hm
    rcases hm with hm | hm
    · obtain ⟨n, hn⟩ := List.getElem?_of_mem hm
      obtain ⟨v, _, h2⟩ := args_at h hn
      cases di with
      | unk => exact w.elim
      | dat d => exact w.elim
      | scr ns => exact w.elim
      | at_ p => exact w.elim
      | own ds => exact h2.elim
      | obj _ _ _ _ => exact h2.elim
    · have := List.eq_of_mem_replicate hm
      subst this
      exact w.elim
theorem body_of {P : List Sl → (Sl → Prop) → Prop} {M : List Str} (h : ∀ as R, P as R → SD K t (startS M as) (fun _ => R (.dat .none)) R) (vs : List V) (H : Hp) (Q : VK) (E : XK) (hp : spF K P vs H Q E) : t { nx := fun _ H' => Q .non H', rt := Q } (start M vs) H := by
  obtain ⟨G, as, R, x, ha, hP, k⟩ := hp
  exact h as R hP G H G H (start M vs) (rel_start x ha) _ (fun τ' G' H' σ' n r' _ => k _ .non G' H' n r'.ext .non) fun s v G' H' => k s v G' H'
theorem ed_call {P : List Sl → (Sl → Prop) → Prop} {E : XK} {tr : TA} {as : List Sl} (h : EA K tr τ as) (hp : P as (· = .dat d)) : ED K (tCall (spF K P) [] E tr) τ d := fun G0 H0 G H σ r Q q => h G0 H0 G H σ r _ fun vs G1 H1 x1 a1 => by
  rw [List.append_nil]
  refine ⟨G1, as, _, x1.gh, a1, hp, fun s v G' H' hs x hv => ?_⟩
  subst hs
  exact q v G' H' (x1.tr x) hv
theorem el_call {P : List Sl → (Sl → Prop) → Prop} {E : XK} {tr : TA} {as : List Sl} {ds : List PyData} (h : EA K tr τ as) (hp : P as (· = .own ds)) : EL K (tCall (spF K P) [] E tr) τ ds := fun G0 H0 G H σ r Q q => h G0 H0 G H σ r _ fun vs G1 H1 x1 a1 => by
  rw [List.append_nil]
  refine ⟨G1, as, _, x1.gh, a1, hp, fun s v G' H' hs x hv => ?_⟩
  subst hs
  obtain ⟨p, us, rfl, h2, h3, h4, h5⟩ := hv
  exact q p us G' H' (x1.tr x) (x1.hh.none h4) h3 h2 h5
theorem spF_len {P : List Sl → (Sl → Prop) → Prop} {n : Nat} (h : ∀ as R, P as R → as.length = n) (vs : List V) (H : Hp) (Q : VK) (E : XK) (hp : spF K P vs H Q E) : vs.length = n := by
  obtain ⟨G, as, R, x, ha, hP, k⟩ := hp
  rw [ha.len]; exact h as R hP
/-- the law's own end -/
theorem spF_end {P : List Sl → (Sl → Prop) → Prop} {H : Hp} {a : Addr} {ns : List Int} {E : XK} (hs : SqL K H a (ns.map V.int)) (hp : P [.scr ns] (· = .dat (.bool true))) : spF K P [.ref a] H (fun v _ => v = .bl true) E :=
  ⟨H, [.scr ns], _, Ex.rfl H, .cons ⟨a, rfl, hs⟩ .nil, hp, fun s v G' H' e x hv => by subst e; exact Dt.bl_of hv⟩
end
end Ab

namespace Ab
open PySem L2 PySem.Spec PyProof.Rows
variable [LamTab]

/-! ### further rules of the layer -/
def iAny (K : PySem.W.Frag) (te : TE) : TI := fun σ H R => iList K te σ H R ∨ iTup K te σ H R
def rIsNn : R2 := fun x y H Q => y = .non ∧ Q (.bl (decide (x = .non))) H
def rNoNn : R2 := fun x y H Q => y = .non ∧ Q (.bl (!decide (x = .non))) H
/-- sorted of a list of data -/
def rSortD (K : PySem.W.Frag) : List V → Hp → VK → Prop := fun vs H Q => ∃ (a : Addr) (xs : List V) (ds : List PyData), vs = [.ref a] ∧ SqL K H a xs ∧ DpAll K H xs ds ∧ PySem.W.AllAlike ds ∧ PySem.W.Sortable ds ∧ (∀ d ∈ ds, d.depth ≤ 8) ∧
  ∀ (p : Addr) (ys : List V), H p = none → (∀ R : V → PyData → Prop, PySem.W.EachIs R xs ds → PySem.W.EachIs R ys (ds.mergeSort (PySem.W.dataLe false id))) → Q (.ref p) (upd H p (.lst ys))
/-- set of a list of ints -/
def rSetL (K : PySem.W.Frag) (w : World) : List V → Hp → VK → Prop := fun vs H Q => ∃ (a : Addr) (ns : List Int), vs = [.ref a] ∧ SqL K H a (ns.map V.int) ∧ ns.length ≤ 1000 ∧
  ∀ p c, H p = none → c ≤ ns.length → Q (.ref p) (upd H p (SetO w p (fun j => decide (j ∈ ns)) c))
section
variable {X : Cx}
theorem pi_any {tg e : Expr} {te : TE} (h : PE X e te) (hs : PI X tg e (iList X.K te)) (ht : PI X tg e (iTup X.K te)) : PI X tg e (iAny X.K te) := ⟨fun pins s σ H R I hw => by
  rcases hw with hw | hw
  · exact hs.run pins s σ H R I hw
  · exact ht.run pins s σ H R I hw⟩
theorem pi_seq {tg e : Expr} {te : TE} (h : PE X e te) : PI X tg e (iAny X.K te) := pi_any h (pi_list h) (pi_tup h)
theorem op_isNn : OpR X (compareOp .Is) rIsNn := op_isN
theorem op_noNn : OpR X (compareOp .IsNot) rNoNn := op_notN
theorem each_vals {K : PySem.W.Frag} {H : Hp} : ∀ {xs : List V} {us : List Value} {ds : List PyData}, Vals xs us → DpAll K H xs ds → PySem.W.EachIs (fun (v : Value) (b : PyData × V) => RelV b.2 v) us (ds.zip xs) ∧ ds.length = us.length
  | _, _, _, .nil, .nil => ⟨.nil, rfl⟩
  | _, _, _, .cons r t, .cons h s => by
    obtain ⟨a, b⟩ := each_vals t s
    exact ⟨.cons r a, by simp [b]⟩
theorem each_reads {pins : List (Addr × Obj)} {σ : L2.St} {H : Hp} {s : Shared} (I : Inv X pins σ H s) : ∀ {xs : List V} {us : List Value} {ds : List PyData}, Vals xs us → DpAll X.K H xs ds → PySem.W.EachIs (fun (v : Value) (b : PyData × V) => ∃ as, Reads s.heap v b.1 as) us (ds.zip xs)
  | _, _, _, .nil, .nil => .nil
  | _, _, _, .cons r t, .cons h q => .cons (Dp.reads I _ _ _ h r) (each_reads I t q)
theorem map_fst_zip {α β : Type} : ∀ (l : List α) (m : List β), l.length = m.length → (l.zip m).map Prod.fst = l
  | [], [], _ => rfl
  | a :: l, b :: m, h => by rw [List.zip_cons_cons, List.map_cons, map_fst_zip l m (by simpa using h)]
theorem DpAll.len {K : PySem.W.Frag} {H : Hp} : ∀ {vs : List V} {ds : List PyData}, DpAll K H vs ds → vs.length = ds.length
  | _, _, .nil => rfl
  | _, _, .cons _ t => by simp [DpAll.len t]
theorem vals_snd : ∀ {out : List Value} {zs : List (PyData × V)}, PySem.W.EachIs (fun (v : Value) (b : PyData × V) => RelV b.2 v) out zs → Vals (zs.map Prod.snd) out
  | _, _, .nil => .nil
  | _, _, .cons r t => .cons r (vals_snd t)
theorem each_pair {R : V → PyData → Prop} : ∀ {zs : List (PyData × V)}, (∀ p ∈ zs, R p.2 p.1) → PySem.W.EachIs R (zs.map Prod.snd) (zs.map Prod.fst)
  | [], _ => .nil
  | p :: zs, h => .cons (h p (by simp)) (each_pair fun q hq => h q (List.mem_cons_of_mem _ hq))
theorem each_mem {R : V → PyData → Prop} : ∀ {xs : List V} {ds : List PyData}, PySem.W.EachIs R xs ds → ∀ p ∈ ds.zip xs, R p.2 p.1
  | _, _, .nil, p, h => by simp at h
  | _, _, .cons r t, p, h => by
    rw [List.zip_cons_cons, List.mem_cons] at h
    rcases h with rfl | h
    · exact r
    · exact each_mem t p h
theorem cr_sortD {k : Nat} (hc : X.calm = true) (hr : Room k X.A) : CallR X (.builtin "sorted") (rSortD X.K) := by
  intro pins s σ H vs us Q I r h
  obtain ⟨a, xs, ds, rfl, hl, hd, hal, hsr, hdp, q⟩ := h
  rw [Vals.ref1 r]
  obtain ⟨its, rv, pl, hz⟩ := I.list hl
  have hlen := DpAll.len hd
  obtain ⟨e1, e2⟩ := each_vals rv hd
  have zl : (ds.zip xs).map Prod.fst = ds := map_fst_zip ds xs hlen.symm
  refine PySem.W.sorted_data (enc := Prod.fst) (bs := ds.zip xs) (R := fun (v : Value) (b : PyData × V) => RelV b.2 v) pl.isList e1 (each_reads I rv hd) (by rw [zl]; exact hal) (by rw [zl]; exact hsr) ?_ ?_ fun out ol hout => ?_
  · rw [List.length_zip, hlen, Nat.min_self, ← hlen]; exact hz
  · intro b hb
    have m : b.1 ∈ ds := by rw [← zl]; exact List.mem_map.mpr ⟨b, hb, rfl⟩
    have := hdp b.1 m
    have := hr.units
    omega
  · have vo := vals_snd hout
    have hn : H (s.heap.objs.size + 1) = none := I.hok.fresh (Nat.le_succ _)
    obtain ⟨e, he⟩ := PyProof.Rows.sortedAll_at s.heap its out.toArray
    have lo : ((List.mergeSort (ds.zip xs) (PySem.W.dataLe false Prod.fst)).map Prod.snd).length ≤ sizeLine := by
      rw [List.length_map, List.length_mergeSort, List.length_zip, hlen, Nat.min_self, ← hlen]; exact hz
    refine ⟨.ref (s.heap.objs.size + 1), _, I.laid (t' := s.toks) (o := .lst ((List.mergeSort (ds.zip xs) (PySem.W.dataLe false Prod.fst)).map Prod.snd)) (fun b u k => PyProof.Rows.sortedAll_old k) (Nat.le_succ _) ⟨lo, out, e, vo, he⟩, rfl, q _ _ hn fun R hR => ?_⟩
    have key : (List.mergeSort (ds.zip xs) (PySem.W.dataLe false Prod.fst)).map Prod.fst = ds.mergeSort (PySem.W.dataLe false id) := by
      rw [PySem.W.sort_maps (r := PySem.W.dataLe false (Prod.fst (α := PyData) (β := V))) (s := PySem.W.dataLe false id) Prod.fst (fun a _ b _ => rfl), zl]
    rw [← key]
    refine each_pair fun p hp => ?_
    have hp' : p ∈ ds.zip xs := (List.mergeSort_perm _ _).mem_iff.mp hp
    exact each_mem hR p hp'

/-! set(xs) of a list of ints, its table told -/
def nS (w : World) : Obj := { cls := .type "set", dict := none, data := .set #[] 0 (.fresh 0 0 (!w.params.followText "set-order")) }
end
section
variable {P : Program} {w : World} {A : Around} {E : Value → Shared → Prop} {s : Shared}
theorem call_setL {l : Addr} {its : Array Value} (ns : List Int) {Q : Value → Shared → Prop} (hh : A.handled = none) (hl : s.heap.IsList l its) (hit : IntsAre its.toList ns) (hb : ns.length + 1 < scanBound)
    (h : ∀ (h' : Heap) (tk c : Nat), SetR w h' s.heap.objs.size (fun j => decide (j ∈ ns)) c → c ≤ ns.length → (∀ b o, s.heap.get? b = some o → h'.get? b = some o) → Q (.ref s.heap.objs.size) { s with heap := h', toks := tk }) :
    wpAny (model P w) A (call (.type "set") [.ref l]) Q E s := by
  have hsz : its.size = ns.length := by
    have q := IntsAre.length hit
    rw [Array.length_toList] at q
    exact q
  obtain ⟨c0, tl, hmro⟩ := F.called_set.mro
  have f1 := F.called_set.made
  have f2 := F.called_set.sub
  refine wpAny_call (codeAny_of_tree ?_)
  show wpAny _ _ (callAny (.type "set") _) _ _ _
  refine wpAny_pure ⟨Code.quiet_builtin _ (by decide +kernel), codeAny_builtin F.entry_type_call ?_⟩
  rw [Around.under_plain (weight_type_call_type "set" [.ref l] []) rfl]
  have f3 := F.called_set.notType
  have f4 := F.called_set.canCreate
  have f5 := F.typeCall_set_1 (.ref l)
  repeat (any_goals (first | assumption | (wp_step)))
  refine codeAny_mono (code_set_led1 (.ref l) (E := E) (Q₁ := fun obj s₁ => obj = .ref s.heap.objs.size ∧ s₁ = { s with heap := s.heap.push (nS w) }) ⟨rfl, rfl⟩) fun r s₁ hr => ?_
  cases r with
  | error e => exact hr
  | ok fl =>
    cases fl with
    | ret obj =>
      obtain ⟨rfl, rfl⟩ := hr
      have hS : (s.heap.push (nS w)).get? s.heap.objs.size = some (nS w) := Heap.get?_push_size _ rfl
      have hT : Shared.TypeIs { s with heap := s.heap.push (nS w) } (.ref s.heap.objs.size) "set" := ⟨_, hS, rfl⟩
      have f6 := F.called_set.init.lookup
      have f7 := F.called_set.init.bind (.ref s.heap.objs.size)
      repeat (any_goals (first | assumption | (wp_step)))
      refine codeAny_mono (codeAny_call_builtin (R := wants (fun r s₂ => r = .none ∧ ∃ h' tk c, s₂ = { s with heap := h', toks := tk } ∧ SetR w h' s.heap.objs.size (fun j => decide (j ∈ ns)) c ∧ c ≤ ns.length ∧ (∀ b o, s.heap.get? b = some o → h'.get? b = some o)) E)
        F.called_set.init.plain F.entry_set_init (check_set_init_1 hT ?_)) fun r₂ s₂ hr₂ => ?_
      · obtain ⟨ol, hol, hcl, nl, hdl⟩ := hl
        obtain ⟨ocls, odict, odata, oslots⟩ := ol
        simp only at hcl hdl
        subst hcl hdl
        have hol1 : (s.heap.push (nS w)).get? l = some { cls := .type "list", dict := odict, data := .seq its nl, slots := oslots } := Heap.get?_push_of_some _ hol
        have g1 := F.sub_list_set
        have g2 := F.sub_list_frozenset
        have g3 : (Value.type "list" == Value.type "dict") = false := by decide
        have hl1 : (s.heap.push (nS w)).IsList l its := ⟨_, hol1, rfl, nl, rfl⟩
        unfold Builtin.«set.__init__» noKeywords Builtin.Frozenset.updateFrom
        generalize hPI : pyIter = PI
        wp_walk
        subst hPI
        refine wpAny_pyIter_list hl1 ?_
        refine wpAny_bind (wpAny_runValue ?_)
        have hlS : l < s.heap.objs.size := Heap.lt_size hol
        have hh3 : A.in1.in1.in1.handled = none := by simp [hh]
        have n1 : l ≠ (s.heap.push (nS w)).objs.size := by rw [Heap.size_push]; exact Nat.ne_of_lt (Nat.lt_succ_of_lt hlS)
        have n2 : s.heap.objs.size ∉ [(s.heap.push (nS w)).objs.size, l] := by
          rw [Heap.size_push]
          simp only [List.mem_cons, List.mem_singleton, List.not_mem_nil, or_false, not_or]
          exact ⟨Nat.ne_of_lt (Nat.lt_succ_self _), Nat.ne_of_gt hlS⟩
        have hval : ∀ (i : Nat) (v : Value), its[i]? = some v → ∃ k t, ns[i]? = some k ∧ v = .int k t := fun i v hv => by
          have hi : i < ns.length := by rw [← hsz]; exact (Array.getElem?_eq_some_iff.mp hv).1
          obtain ⟨t, e⟩ := PyProof.Rows.IntsAre.int_at hit i v (by rw [Array.getElem?_toList]; exact hv)
          refine ⟨ns[i], t, List.getElem?_eq_getElem hi, ?_⟩
          rw [e, List.getD_eq_getElem?_getD, List.getElem?_eq_getElem hi]
          rfl
        refine set_update_ints ((Walks.list hh3 _ l n1 its).toS) s.heap.objs.size n2 ns hsz hb hval (its.size - 0) 0 _ (by omega) (Nat.zero_le _) ⟨⟨_, Heap.get?_push_size _ rfl, rfl, rfl⟩, (hl1.push _)⟩ ?a1 ?a2
        case a1 =>
          have hg : ((s.heap.push (nS w)).push { cls := .type "list_iterator", data := .fields #[.ref l, .int 0 0] }).get? s.heap.objs.size = some (nS w) := Heap.get?_push_of_some _ hS
          exact ⟨0, Nat.le_refl 0, setR_new_at hg⟩
        case a2 =>
          intro s' c' hm hc' hS'
          obtain ⟨h', g2, d', tk', os'⟩ := s'
          obtain rfl : g2 = s.gens := hm.gens
          obtain rfl : d' = s.drawn := hm.drawn
          obtain rfl : os' = s.os := hm.os
          show wpAny _ _ _ _ _ _
          refine wpAny_pure ?_
          show wpAny _ _ (ret Value.none) _ _ _
          rw [hsz] at hc'
          refine wpAny_pure ⟨rfl, h', tk', c', rfl, hS', hc', fun b o e => ?_⟩
          have b0 : b < s.heap.objs.size := Heap.lt_size e
          have b2 : b ≠ (s.heap.push (nS w)).objs.size := by rw [Heap.size_push]; exact Nat.ne_of_lt (Nat.lt_succ_of_lt b0)
          refine hm.heap b o ?_ (Heap.get?_push_of_some _ (Heap.get?_push_of_some _ e))
          simp only [List.mem_cons, List.mem_singleton, List.not_mem_nil, or_false, not_or]
          exact ⟨Nat.ne_of_lt b0, b2⟩
      · cases r₂ with
        | error e => exact hr₂
        | ok fl₂ =>
          cases fl₂ with
          | ret r =>
            obtain ⟨rfl, h', tk, c', rfl, hS', hc', hk'⟩ := hr₂
            repeat (any_goals (first | assumption | (wp_step)))
            exact h _ _ _ hS' hc' hk'
          | _ => exact hr₂.elim
    | _ => exact hr.elim
end
section
variable {X : Cx}
theorem cr_setL (hc : X.calm = true) : CallR X (.type "set") (rSetL X.K X.w) := by
  intro pins s σ H vs us Q I r h
  obtain ⟨l, ns, rfl, hl, hn, q⟩ := h
  rw [Vals.ref1 r]
  obtain ⟨its, rv, pl, hz⟩ := I.list hl
  have hn0 : H s.heap.objs.size = none := I.hok.fresh (Nat.le_refl _)
  refine call_setL (P := X.prog) ns (I.ok.hd hc) pl.isList (by simpa using Vals.ints rv) (by unfold scanBound; omega) fun h' tk c R hc' k => ?_
  exact ⟨.ref s.heap.objs.size, _, I.laid (t' := tk) k (Nat.le_refl _) (setO_new R), rfl, q _ c hn0 hc'⟩
end
end Ab

namespace Ab
open PySem L2 PySem.Spec PyProof.Rows
variable [LamTab]
section
variable {K : PySem.W.Frag} {τ : Sls} {ta tb tc td te : TE} {d e f : PyData} {t u : TS} {N N' : Sls → Prop} {R R' : Sl → Prop} {tr : TA}
theorem ei_any {ds : List PyData} (h : ED K te τ (.list ds)) : EI K (iAny K te) τ ds := fun G0 H0 G H σ R Q q => .inl (ei_list h G0 H0 G H σ R Q q)
theorem ei_anyT {ds : List PyData} (h : ED K te τ (.tuple ds)) : EI K (iAny K te) τ ds := fun G0 H0 G H σ R Q q => .inr (ei_tup h G0 H0 G H σ R Q q)
theorem ei_is {wi : TI} {a b : List PyData} (h : EI K wi τ a) (x : a = b) : EI K wi τ b := x ▸ h
/-- a, b = x, y where the pair is made: each data or a new list -/
theorem sd_mk2 {i j : Nat} {s1 s2 : Sl} (h1 : EX K ta τ s1) (h2 : EX K tb τ s2) (hn : N ((τ.set i s1).set j s2)) : SD K (tAsg (tTup (tCons ta (tCons tb tNil))) (gTup K 2 (gCons (gName i) (gCons (gName j) gNil)))) τ N R := fun G0 H0 G H σ r D kn kr => by
  refine h1.run r fun v G1 H1 x1 d1 => ?_
  refine h2.run (r.step x1) fun w G2 H2 x2 d2 => ?_
  refine ⟨sz (by simp), fun p hp => ⟨p, [v, w], rfl, .inl (.inl upd_same), rfl, v, [w], rfl, w, [], rfl, rfl, ?_⟩⟩
  have x3 : Ext G2 H2 G2 (upd H2 p (.tup [v, w])) := Ext.newO x2.gh hp
  refine kn _ G2 _ _ hn ?_ (x1.gg.tr x2.gg)
  have ra := (((r.step x1).step x2).step x3).setR ((x1.tr x2).tr x3) r.ownIn r.ext.hh i ((d1.step x2).step x3)
  exact ra.setR (x2.tr x3) ((r.ownIn.ex x1.hh).set i d1) (r.ext.hh.tr x1.hh) j (d2.step x3)
theorem sd_mk3 {i j l : Nat} {s1 s2 s3 : Sl} (h1 : EX K ta τ s1) (h2 : EX K tb τ s2) (h3 : EX K tc τ s3) (hn : N (((τ.set i s1).set j s2).set l s3)) : SD K (tAsg (tTup (tCons ta (tCons tb (tCons tc tNil)))) (gTup K 3 (gCons (gName i) (gCons (gName j) (gCons (gName l) gNil))))) τ N R := fun G0 H0 G H σ r D kn kr => by
  refine h1.run r fun v G1 H1 x1 d1 => ?_
  refine h2.run (r.step x1) fun w G2 H2 x2 d2 => ?_
  refine h3.run ((r.step x1).step x2) fun z G3 H3 x3 d3 => ?_
  refine ⟨sz (by simp), fun p hp => ⟨p, [v, w, z], rfl, .inl (.inl upd_same), rfl, v, [w, z], rfl, w, [z], rfl, z, [], rfl, rfl, ?_⟩⟩
  have x4 : Ext G3 H3 G3 (upd H3 p (.tup [v, w, z])) := Ext.newO x3.gh hp
  refine kn _ G3 _ _ hn ?_ ((x1.gg.tr x2.gg).tr x3.gg)
  have ra := ((((r.step x1).step x2).step x3).step x4).setR (((x1.tr x2).tr x3).tr x4) r.ownIn r.ext.hh i (((d1.step x2).step x3).step x4)
  have rb := ra.setR ((x2.tr x3).tr x4) ((r.ownIn.ex x1.hh).set i d1) (r.ext.hh.tr x1.hh) j ((d2.step x3).step x4)
  exact rb.setR (x3.tr x4) (((r.ownIn.ex (x1.hh.tr x2.hh)).set i (d1.step x2)).set j d2) ((r.ext.hh.tr x1.hh).tr x2.hh) l (d3.step x4)
/-! is None -/
def isNone : PyData → Bool
  | .none => true
  | _ => false
theorem Dt.isN {G : Hp} {v : V} (h : Dt G v d) : decide (v = .non) = isNone d := by cases h <;> rfl
theorem ed_isN (ha : ED K ta τ d) : ED K (tOp rIsNn ta (tC .non)) τ (.bool (isNone d)) := fun G0 H0 G H σ R Q q => ha G0 H0 G H σ R _ fun v G1 H1 x1 d1 => ⟨rfl, by rw [Dt.isN d1]; exact q _ G1 H1 x1 (.bl _)⟩
theorem ed_noN (ha : ED K ta τ d) : ED K (tOp rNoNn ta (tC .non)) τ (.bool (!isNone d)) := fun G0 H0 G H σ R Q q => ha G0 H0 G H σ R _ fun v G1 H1 x1 d1 => ⟨rfl, by rw [Dt.isN d1]; exact q _ G1 H1 x1 (.bl _)⟩
theorem ed_isB {a b : Bool} (ha : ED K ta τ (.bool a)) (hb : ED K tb τ (.bool b)) : ED K (tOp rIsB ta tb) τ (.bool (decide (a = b))) := ed_op ha hb fun G H v u x h1 h2 Q q => ⟨a, b, Dt.bl_of h1, Dt.bl_of h2, q _ G H (Ext.rfl x) (.bl _)⟩
theorem ed_noB {a b : Bool} (ha : ED K ta τ (.bool a)) (hb : ED K tb τ (.bool b)) : ED K (tOp rNotB ta tb) τ (.bool (!decide (a = b))) := ed_op ha hb fun G H v u x h1 h2 Q q => ⟨a, b, Dt.bl_of h1, Dt.bl_of h2, q _ G H (Ext.rfl x) (.bl _)⟩
/-! in, ints -/
theorem inV_ints (k : Int) : ∀ ns : List Int, inV (.int k) (ns.map V.int) = ns.contains k
  | [] => rfl
  | n :: ns => by
    have ih := inV_ints k ns
    unfold inV at ih ⊢
    rw [List.map_cons, List.any_cons, ih, List.contains_cons]
    have e : eqV (.int n) (.int k) = (k == n) := by
      show (n == k) = (k == n)
      rw [Bool.eq_iff_iff]
      simp only [beq_iff_eq]
      exact ⟨Eq.symm, Eq.symm⟩
    rw [e]
theorem flat_ints : ∀ ns : List Int, (ns.map V.int).all flatV = true
  | [] => rfl
  | n :: ns => by rw [List.map_cons, List.all_cons, flat_ints ns]; rfl
theorem ed_in {k : Int} {ns : List Int} (ha : ED K ta τ (.int k)) (hb : ED K tb τ (.list (ns.map PyData.int))) : ED K (tOp (rIn K false) ta tb) τ (.bool (ns.contains k)) := ed_op ha hb fun G H v u x h1 h2 Q q => by
  obtain ⟨p, us, rfl, e1, a1⟩ := Dt.lst_of h2
  rw [DtAll.ints a1] at e1
  rw [Dt.int_of h1]
  refine ⟨p, ns.map V.int, rfl, .inl (.inl (.inl (x _ _ e1))), rfl, flat_ints ns, ?_⟩
  rw [if_neg Bool.false_ne_true, inV_ints]
  exact q _ G H (Ext.rfl x) (.bl _)
theorem ed_nin {k : Int} {ns : List Int} (ha : ED K ta τ (.int k)) (hb : ED K tb τ (.list (ns.map PyData.int))) : ED K (tOp (rIn K true) ta tb) τ (.bool (!ns.contains k)) := ed_op ha hb fun G H v u x h1 h2 Q q => by
  obtain ⟨p, us, rfl, e1, a1⟩ := Dt.lst_of h2
  rw [DtAll.ints a1] at e1
  rw [Dt.int_of h1]
  refine ⟨p, ns.map V.int, rfl, .inl (.inl (.inl (x _ _ e1))), rfl, flat_ints ns, ?_⟩
  rw [if_pos rfl, inV_ints]
  exact q _ G H (Ext.rfl x) (.bl _)
/-! further arithmetic -/
theorem ed_pow {i j : Int} (ha : ED K ta τ (.int i)) (hb : ED K tb τ (.int j)) (hc : CPow i j) : ED K (tOp (rI CPow fun i j => .int (i ^ j.toNat)) ta tb) τ (.int (i ^ j.toNat)) := ed_op ha hb (rd_I hc fun _ => .int _)
theorem ed_shl {i j : Int} (ha : ED K ta τ (.int i)) (hb : ED K tb τ (.int j)) (hc : CPow i j) : ED K (tOp (rI CPow fun i j => .int (i * 2 ^ j.toNat)) ta tb) τ (.int (i * 2 ^ j.toNat)) := ed_op ha hb (rd_I hc fun _ => .int _)
theorem ed_shr {i j : Int} (ha : ED K ta τ (.int i)) (hb : ED K tb τ (.int j)) (hc : 0 ≤ j) : ED K (tOp (rI (fun _ j => 0 ≤ j) fun i j => .int (i / 2 ^ j.toNat)) ta tb) τ (.int (i / 2 ^ j.toNat)) := ed_op ha hb (rd_I hc fun _ => .int _)
theorem ed_band {i j : Int} (ha : ED K ta τ (.int i)) (hb : ED K tb τ (.int j)) : ED K (tOp (rI0 fun i j => .int (Builtin.bitAnd i j)) ta tb) τ (.int (Builtin.bitAnd i j)) := ed_op ha hb (rd_I0 fun _ => .int _)
theorem ed_gt {i j : Int} (ha : ED K ta τ (.int i)) (hb : ED K tb τ (.int j)) : ED K (tOp (rI0 fun i j => .bl (decide (j < i))) ta tb) τ (.bool (decide (j < i))) := ed_op ha hb (rd_I0 fun _ => .bl _)
theorem ed_ge {i j : Int} (ha : ED K ta τ (.int i)) (hb : ED K tb τ (.int j)) : ED K (tOp (rI0 fun i j => .bl (decide (j ≤ i))) ta tb) τ (.bool (decide (j ≤ i))) := ed_op ha hb (rd_I0 fun _ => .bl _)
theorem rd_lt {i j : Int} : RD (rI0 fun i j => .bl (decide (i < j))) (.int i) (.int j) (.bool (decide (i < j))) := rd_I0 fun _ => .bl _
theorem rd_le {i j : Int} : RD (rI0 fun i j => .bl (decide (i ≤ j))) (.int i) (.int j) (.bool (decide (i ≤ j))) := rd_I0 fun _ => .bl _
/-- lo <= x < hi -/
theorem ed_leLt {i j k : Int} (ha : ED K ta τ (.int i)) (hb : ED K tb τ (.int j)) (hc : ED K tc τ (.int k)) : ED K (tChain (rI0 fun i j => .bl (decide (i ≤ j))) (rI0 fun i j => .bl (decide (i < j))) ta tb tc) τ (.bool (decide (i ≤ j ∧ j < k))) :=
  ed_is (ed_chain (g := .none) ha hb rd_le (fun _ => hc) fun _ => rd_lt) (by rw [Bool.decide_and])
theorem ed_leLe {i j k : Int} (ha : ED K ta τ (.int i)) (hb : ED K tb τ (.int j)) (hc : ED K tc τ (.int k)) : ED K (tChain (rI0 fun i j => .bl (decide (i ≤ j))) (rI0 fun i j => .bl (decide (i ≤ j))) ta tb tc) τ (.bool (decide (i ≤ j ∧ j ≤ k))) :=
  ed_is (ed_chain (g := .none) ha hb rd_le (fun _ => hc) fun _ => rd_le) (by rw [Bool.decide_and])
theorem ed_leLtLe {i j k l : Int} (ha : ED K ta τ (.int i)) (hb : ED K tb τ (.int j)) (hc : ED K tc τ (.int k)) (hd : ED K td τ (.int l)) : ED K (tChain3 (rI0 fun i j => .bl (decide (i ≤ j))) (rI0 fun i j => .bl (decide (i < j))) (rI0 fun i j => .bl (decide (i ≤ j))) ta tb tc td) τ (.bool (decide (i ≤ j ∧ j < k ∧ k ≤ l))) :=
  ed_is (ed_chain3 ha hb rd_le (fun _ => hc) (fun _ => rd_lt) (fun _ _ => hd) fun _ _ => rd_le) (by rw [Bool.decide_and, Bool.decide_and])
/-! calls, short -/
theorem ea1 {d : PyData} (h : ED K ta τ d) : EA K (tCons ta tNil) τ [.dat d] := ea_cons h ea_nil
theorem ea2 {d e : PyData} (h : ED K ta τ d) (h' : ED K tb τ e) : EA K (tCons ta (tCons tb tNil)) τ [.dat d, .dat e] := ea_cons h (ea1 h')
theorem ed_max {i j : Int} (ha : ED K ta τ (.int i)) (hb : ED K tb τ (.int j)) : ED K (tCB rMx2 (tCons ta (tCons tb tNil))) τ (.int (max i j)) := ed_cb (ea2 ha hb) rc_max
theorem ed_min {i j : Int} (ha : ED K ta τ (.int i)) (hb : ED K tb τ (.int j)) : ED K (tCB rMn2 (tCons ta (tCons tb tNil))) τ (.int (min i j)) := ed_cb (ea2 ha hb) rc_min
theorem ed_len {ds : List PyData} (ha : ED K ta τ (.list ds)) : ED K (tCB (rLenA K) (tCons ta tNil)) τ (.int ds.length) := ed_cb (ea1 ha) rc_lenL
theorem ed_lenT {ds : List PyData} (ha : ED K ta τ (.tuple ds)) : ED K (tCB (rLenA K) (tCons ta tNil)) τ (.int ds.length) := ed_cb (ea1 ha) rc_lenT
theorem ed_lenS {i : Nat} {ns : List Int} (h : τ[i]? = some (.scr ns)) : ED K (tCB (rLenA K) (tCons (tVar i) tNil)) τ (.int ns.length) := ed_cb (ea_scr h ea_nil) rc_lenS
theorem ed_abs {i : Int} (ha : ED K ta τ (.int i)) : ED K (tCB rAbs (tCons ta tNil)) τ (.int i.natAbs) := ed_cb (ea1 ha) rc_abs
theorem ed_sum {ns : List Int} (ha : ED K ta τ (.list (ns.map PyData.int))) : ED K (tCB (rSum K) (tCons ta tNil)) τ (.int ns.sum) := ed_cb (ea1 ha) rc_sum
theorem ed_all {bs : List Bool} (ha : ED K ta τ (.list (bs.map PyData.bool))) : ED K (tCB (rAll K) (tCons ta tNil)) τ (.bool (bs.all id)) := ed_cb (ea1 ha) rc_all
theorem ed_any {bs : List Bool} (ha : ED K ta τ (.list (bs.map PyData.bool))) : ED K (tCB (rAny K) (tCons ta tNil)) τ (.bool (bs.any id)) := ed_cb (ea1 ha) rc_any
theorem el_list {ds : List PyData} (ha : ED K ta τ (.list ds)) : EL K (tCB (rLst K) (tCons ta tNil)) τ ds := el_cb (ea1 ha) rcl_list
/-- all([.. for ..]) as one -/
theorem ed_allF {α : Type} (xs : List α) (p : α → Bool) (ha : EL K ta τ (xs.map fun x => PyData.bool (p x))) : ED K (tCB (rAll K) (tCons ta tNil)) τ (.bool (xs.all p)) := by
  have e : (xs.map fun x => PyData.bool (p x)) = (xs.map p).map PyData.bool := by rw [List.map_map]; rfl
  rw [e] at ha
  exact ed_is (ed_all ha.ed) (by rw [List.all_map]; rfl)
theorem ed_anyF {α : Type} (xs : List α) (p : α → Bool) (ha : EL K ta τ (xs.map fun x => PyData.bool (p x))) : ED K (tCB (rAny K) (tCons ta tNil)) τ (.bool (xs.any p)) := by
  have e : (xs.map fun x => PyData.bool (p x)) = (xs.map p).map PyData.bool := by rw [List.map_map]; rfl
  rw [e] at ha
  exact ed_is (ed_any ha.ed) (by rw [List.any_map]; rfl)
/-- a comprehension without a test -/
theorem el_map {α : Type} (xs : List α) (q g' : α → PyData) {wi : TI} {g : TG} {vs js : List Nat} (hi : EI K wi τ (xs.map q)) (hj : ∀ j ∈ js, j ∈ vs) (hn : xs.length ≤ 100000)
    (h : ∀ x ∈ xs, ∃ τ2, TGD K g js (q x) (wipeS τ vs) τ2 ∧ ED K te τ2 (g' x)) : EL K (tLc wi g tYes te vs) τ (xs.map g') := by
  have z := el_lc (te := te) (tt := tYes) xs q (fun x => some (g' x)) hi hj hn fun x hx => by
    obtain ⟨τ2, h1, h2⟩ := h x hx
    exact ⟨τ2, h1, .inr ⟨_, rfl, et_yes, h2⟩⟩
  rw [List.filterMap_eq_map'] at z
  exact z
/-- with a test, the item itself -/
theorem el_filt {α : Type} (xs : List α) (q g' : α → PyData) (p : α → Bool) {wi : TI} {g : TG} {tt : TT} {vs js : List Nat} (hi : EI K wi τ (xs.map q)) (hj : ∀ j ∈ js, j ∈ vs) (hn : xs.length ≤ 100000)
    (h : ∀ x ∈ xs, ∃ τ2, TGD K g js (q x) (wipeS τ vs) τ2 ∧ ET K tt τ2 (p x) ∧ (p x = true → ED K te τ2 (g' x))) : EL K (tLc wi g tt te vs) τ ((xs.filter p).map g') := by
  have z := el_lc (te := te) (tt := tt) xs q (fun x => if p x = true then some (g' x) else none) hi hj hn fun x hx => by
    obtain ⟨τ2, h1, h2, h3⟩ := h x hx
    refine ⟨τ2, h1, ?_⟩
    by_cases c : p x = true
    · rw [c] at h2
      exact .inr ⟨g' x, if_pos c, h2, h3 c⟩
    · have c' : p x = false := by simpa using c
      rw [c'] at h2
      exact .inl ⟨if_neg c, h2⟩
  have e : ∀ l : List α, l.filterMap (fun x => if p x = true then some (g' x) else none) = (l.filter p).map g' := fun l => by
    induction l with
    | nil => rfl
    | cons a l ih =>
      by_cases c : p a = true
      · rw [List.filterMap_cons_some (f := fun x => if p x = true then some (g' x) else none) (b := g' a) (if_pos c), List.filter_cons_of_pos c, List.map_cons, ih]
      · rw [List.filterMap_cons_none (f := fun x => if p x = true then some (g' x) else none) (if_neg c), List.filter_cons_of_neg c, ih]
  rw [e] at z
  exact z
/-! isinstance of data -/
def tyN : PyData → String
  | .none => "NoneType"
  | .bool _ => "bool"
  | .int _ => "int"
  | .str _ => "str"
  | .list _ => "list"
  | .tuple _ => "tuple"
  | .dict _ => "dict"
/-- no instance -/
def notD : PyData → Bool
  | .dict [] => true
  | .dict (_ :: _) => false
  | _ => true
theorem notD_of (h : PyData.canLay0 d = true) : notD d = true := by cases d <;> first | rfl | cases h
theorem lay_mem : ∀ {ds : List PyData}, PyData.canLayAll0 ds = true → ∀ x ∈ ds, PyData.canLay0 x = true
  | [], _, x, hx => by cases hx
  | d :: ds, h, x, hx => by
    rw [PyData.canLayAll0, Bool.and_eq_true] at h
    rcases List.mem_cons.mp hx with rfl | hx
    · exact h.1
    · exact lay_mem h.2 x hx
mutual
def layD : PyData → Bool
  | .list ds => layDs ds
  | .tuple ds => layDs ds
  | .dict [] => true
  | .dict (_ :: _) => false
  | _ => true
def layDs : List PyData → Bool
  | [] => true
  | d :: ds => layD d && layDs ds
end
theorem layD_not (h : layD d = true) : notD d = true := by
  cases d with
  | dict l =>
    cases l with
    | nil => rfl
    | cons x l => simp [layD] at h
  | _ => rfl
theorem layDs_mem : ∀ {ds : List PyData}, layDs ds = true → ∀ x ∈ ds, layD x = true
  | [], _, x, hx => by cases hx
  | d :: ds, h, x, hx => by
    rw [layDs, Bool.and_eq_true] at h
    rcases List.mem_cons.mp hx with rfl | hx
    · exact h.1
    · exact layDs_mem h.2 x hx
theorem layDs_of : ∀ {ds : List PyData}, (∀ x ∈ ds, layD x = true) → layDs ds = true
  | [], _ => rfl
  | d :: ds, h => by rw [layDs, h d List.mem_cons_self, layDs_of fun x hx => h x (List.mem_cons_of_mem _ hx)]; rfl
theorem layD_list {ds : List PyData} (h : layD (.list ds) = true) : ∀ x ∈ ds, layD x = true := layDs_mem (by rw [layD] at h; exact h)
theorem layD_tup {ds : List PyData} (h : layD (.tuple ds) = true) : ∀ x ∈ ds, layD x = true := layDs_mem (by rw [layD] at h; exact h)
theorem ed_isi {n : String} {b : Bool} (ha : ED K ta τ d) (hd : notD d = true) (hk : PySem.W.kitOne K (.type (tyN d)) (.type n) = some b) : ED K (tCB (rIsi K) (tCons ta (tCons (tC (.ty n)) tNil))) τ (.bool b) := fun G0 H0 G H σ R Q q => ha G0 H0 G H σ R _ fun v G1 H1 x1 d1 => by
  refine ⟨v, .ty n, .type (tyN d), .type n, b, rfl, .ty n, ?_, hk, q _ G1 H1 x1 (.bl b)⟩
  cases d1 with
  | non => exact .base .non
  | bl b => exact .base (.bl b)
  | int i => exact .base (.int i)
  | str x => exact .base (.str x)
  | lst h _ => exact .base (.lst (x1.gh _ _ h))
  | tup h _ => exact .base (.tup (x1.gh _ _ h))
  | dct h => exact .base (.dK (x1.gh _ _ h))
  | bes _ _ => cases hd
  | ins _ _ => cases hd
  | tag _ => cases hd
  | fn _ _ => cases hd
  | see _ _ _ => cases hd
/-! sorted, set, list(range), reversed slices -/
theorem EachIs.dt {G : Hp} : ∀ {vs : List V} {ds : List PyData}, PySem.W.EachIs (Dt G) vs ds → DtAll G vs ds
  | _, _, .nil => .nil
  | _, _, .cons h t => .cons h (EachIs.dt t)
theorem DtAll.each {G : Hp} : ∀ {vs : List V} {ds : List PyData}, DtAll G vs ds → PySem.W.EachIs (Dt G) vs ds
  | _, _, .nil => .nil
  | _, _, .cons h t => .cons h (DtAll.each t)
theorem el_sort {ds : List PyData} (ha : ED K ta τ (.list ds)) (hal : PySem.W.AllAlike ds) (hs : PySem.W.Sortable ds) (hd : ∀ d ∈ ds, d.depth ≤ 8) (hc : PyData.canLayAll0 ds = true) : EL K (tCB (rSortD K) (tCons ta tNil)) τ (ds.mergeSort (PySem.W.dataLe false id)) := el_cb (ea1 ha) fun G H vs x a Q q => by
  obtain ⟨v, rfl, h⟩ := args1 a
  obtain ⟨p, us, rfl, e1, a1⟩ := Dt.lst_of h
  refine ⟨p, us, ds, rfl, .inl (.inl (x _ _ e1)), DtAll.dp (DtAll.ex x a1) hc, hal, hs, hd, fun p' ys hp hR => ?_⟩
  exact q p' ys G _ (Ext.newO x hp) hp (x.none hp) upd_same (EachIs.dt (hR _ a1.each))
theorem rising_one : ∀ {a b : List Int}, a.Pairwise (· < ·) → b.Pairwise (· < ·) → (∀ k, k ∈ a ↔ k ∈ b) → a = b
  | [], [], _, _, _ => rfl
  | [], y :: ys, _, _, h => absurd ((h y).mpr (by simp)) (by simp)
  | x :: xs, [], _, _, h => absurd ((h x).mp (by simp)) (by simp)
  | x :: xs, y :: ys, ha, hb, h => by
    have pa := List.pairwise_cons.mp ha
    have pb := List.pairwise_cons.mp hb
    have e : x = y := by
      have h1 := (h x).mp (by simp)
      have h2 := (h y).mpr (by simp)
      rw [List.mem_cons] at h1 h2
      rcases h1 with h1 | h1
      · exact h1
      · rcases h2 with h2 | h2
        · exact h2.symm
        · have := pa.1 y h2
          have := pb.1 x h1
          omega
    subst e
    rw [rising_one pa.2 pb.2 fun k => ?_]
    have hk := h k
    rw [List.mem_cons, List.mem_cons] at hk
    constructor
    · intro m
      rcases hk.mp (.inr m) with z | z
      · subst z; exact absurd (pa.1 k m) (Int.lt_irrefl _)
      · exact z
    · intro m
      rcases hk.mpr (.inr m) with z | z
      · subst z; exact absurd (pb.1 k m) (Int.lt_irrefl _)
      · exact z
/-- sorted(set(xs)) -/
theorem el_sortSet {w : World} {ns ms : List Int} (ha : ED K ta τ (.list (ns.map PyData.int))) (hn : ns.length ≤ 60) (hm : ms.Pairwise (· < ·)) (hk : ∀ k, k ∈ ms ↔ k ∈ ns) : EL K (tCB (rSortedSet w) (tCons (tCB (rSetL K w) (tCons ta tNil)) tNil)) τ (ms.map PyData.int) := fun G0 H0 G H σ R Q q => ha G0 H0 G H σ R _ fun v G1 H1 x1 d1 => by
  obtain ⟨p, us, rfl, e1, a1⟩ := Dt.lst_of d1
  rw [DtAll.ints a1] at e1
  refine ⟨p, ns, rfl, .inl (.inl (x1.gh _ _ e1)), by omega, fun s c hs hc => ?_⟩
  refine ⟨s, _, c, rfl, upd_same, by omega, fun out o hout hmem hlen ho => ?_⟩
  have e : out = ms := rising_one hout hm fun k => by rw [hmem k, hk k]; simp
  subst e
  have x2 : Ext G1 H1 G1 (upd H1 s (SetO w s (fun j => decide (j ∈ ns)) c)) := Ext.newO x1.gh hs
  have x3 := x2.tr (Ext.newO (p := o) (o := .lst (out.map V.int)) x2.gh ho)
  exact q o (out.map V.int) G1 _ (x1.tr x3) ((x1.tr x2).hh.none ho) (x2.gh.none ho) upd_same (dtAll_ints out)
theorem el_listRg {n : Int} (ha : ED K ta τ (.int n)) (h0 : 0 ≤ n) (h1 : n ≤ 100000) : EL K (tLstRg (tRg1 ta)) τ (rngD 0 n.toNat) := fun G0 H0 G H σ R Q q => ha G0 H0 G H σ R _ fun v G1 H1 x1 d1 => by
  refine ⟨n, Dt.int_of d1, ⟨by omega, by omega, by omega, by omega, by omega⟩, fun p hp => ?_⟩
  refine q p _ G1 _ (x1.tr (Ext.newO x1.gh hp)) (x1.hh.none hp) (x1.gh.none hp) upd_same ?_
  have e : rgV 0 n = ((List.range n.toNat).map fun i => (0 + (i : Nat) : Int)).map V.int := by
    unfold rgV
    rw [List.map_map, Int.sub_zero]
    rfl
  have e2 : rngD 0 n.toNat = ((List.range n.toNat).map fun i => (0 + (i : Nat) : Int)).map PyData.int := by
    unfold rngD
    rw [List.map_map]
    rfl
  rw [e, e2]
  exact dtAll_ints _
theorem el_listRg2 {m n : Int} (ha : ED K ta τ (.int m)) (hb : ED K tb τ (.int n)) (h0 : -100000 ≤ m) (h1 : m ≤ 100000) (h2 : -100000 ≤ n) (h3 : n ≤ 100000) : EL K (tLstRg (tRg2 ta tb)) τ (rngD m (n - m).toNat) := fun G0 H0 G H σ R Q q => ha G0 H0 G H σ R _ fun v G1 H1 x1 d1 => hb G0 H0 G1 H1 σ (R.step x1) _ fun w G2 H2 x2 d2 => by
  have xx := x1.tr x2
  refine ⟨m, n, Dt.int_of d1, Dt.int_of d2, ⟨by omega, by omega, by omega, by omega, by omega⟩, fun p hp => ?_⟩
  refine q p _ G2 _ (xx.tr (Ext.newO x2.gh hp)) (xx.hh.none hp) (x2.gh.none hp) upd_same ?_
  have e : rgV m n = ((List.range (n - m).toNat).map fun i => (m + (i : Nat) : Int)).map V.int := by
    unfold rgV
    rw [List.map_map]
    rfl
  have e2 : rngD m (n - m).toNat = ((List.range (n - m).toNat).map fun i => (m + (i : Nat) : Int)).map PyData.int := by
    unfold rngD
    rw [List.map_map]
    rfl
  rw [e, e2]
  exact dtAll_ints _
theorem el_rev {ds : List PyData} (ha : ED K ta τ (.list ds)) : EL K (tRevL K ta) τ ds.reverse := fun G0 H0 G H σ R Q q => ha G0 H0 G H σ R _ fun v G1 H1 x1 d1 => by
  obtain ⟨p, us, rfl, e1, a1⟩ := Dt.lst_of d1
  exact ⟨p, us, rfl, .inl (.inl (x1.gh _ _ e1)), fun p' hp => q p' _ G1 _ (x1.tr (Ext.newO x1.gh hp)) (x1.hh.none hp) (x1.gh.none hp) upd_same a1.rev⟩
end
end Ab

namespace Ab
open PySem L2 PySem.Spec PyProof.Rows
variable [LamTab]
/-- it comes to one of S -/
def EN (K : PySem.W.Frag) (te : TE) (τ : Sls) (S : Sl → Prop) : Prop := ∀ G0 H0 G H σ, Rel K G0 H0 G H σ τ → ∀ Q : VK, (∀ v s G' H', S s → Ext G H G' H' → RtOk H G' H' v s → Q v H') → te σ H Q
section
variable {K : PySem.W.Frag} {τ : Sls} {ta tb tc td te : TE} {d e f : PyData} {t u : TS} {N N' : Sls → Prop} {R R' : Sl → Prop} {tr : TA} {S S1 S2 S3 : Sl → Prop}
theorem en_ed (h : ED K te τ d) (hs : S (.dat d)) : EN K te τ S := fun G0 H0 G H σ r Q q => h G0 H0 G H σ r Q fun v G' H' x dd => q v _ G' H' hs x dd
theorem en_el {ds : List PyData} (h : EL K te τ ds) (hs : S (.own ds)) : EN K te τ S := fun G0 H0 G H σ r Q q => h G0 H0 G H σ r Q fun p vs G' H' x hp gp hh dd => q _ _ G' H' hs x ⟨p, vs, rfl, hh, gp, hp, dd⟩
theorem RtOk.back {H0 H1 G H : Hp} {v : V} {s : Sl} (x : Ex H0 H1) (h : RtOk H1 G H v s) : RtOk H0 G H v s := by
  cases s with
  | unk => exact h
  | scr ns => exact h
  | at_ p => exact h
  | dat d => exact h
  | own ds => obtain ⟨p, vs, h1, h2, h3, h4, h5⟩ := h; exact ⟨p, vs, h1, h2, h3, x.none h4, h5⟩
  | obj y C dx fs => exact ⟨h.1, h.2.back x⟩
theorem en_call {P : List Sl → (Sl → Prop) → Prop} {E : XK} {as : List Sl} (h : EA K tr τ as) (hp : P as S) : EN K (tCall (spF K P) [] E tr) τ S := fun G0 H0 G H σ r Q q => h G0 H0 G H σ r _ fun vs G1 H1 x1 a1 => by
  rw [List.append_nil]
  exact ⟨G1, as, S, x1.gh, a1, hp, fun s v G' H' hs x hv => q v s G' H' hs (x1.tr x) (hv.back x1.hh)⟩
theorem sd_asgN {i : Nat} (h : EN K te τ fun s => N (τ.set i s)) : SD K (tAsg te (gName i)) τ N R := fun G0 H0 G H σ r D kn kr => h G0 H0 G H σ r _ fun v s G1 H1 hs x1 d1 => kn _ G1 H1 _ hs ((r.step x1).setR x1 r.ownIn r.ext.hh i d1) x1.gg
theorem sd_retN (h : EN K te τ R) : SD K (tRet te) τ N R := fun G0 H0 G H σ r D kn kr => h G0 H0 G H σ r _ fun v s G1 H1 hs x1 d1 => kr s v G1 H1 hs (r.ext.tr x1) (d1.back r.ext.hh)
theorem sd_parN {i j : Nat} (h1 : EN K ta τ S1) (h2 : EN K tb τ S2) (hn : ∀ s1 s2, S1 s1 → S2 s2 → N ((τ.set i s1).set j s2)) : SD K (tPar i j (tCons ta (tCons tb tNil))) τ N R := fun G0 H0 G H σ r D kn kr => by
  refine h1 G0 H0 G H σ r _ fun v s1 G1 H1 hs1 x1 d1 => ?_
  refine h2 G0 H0 G1 H1 σ (r.step x1) _ fun w s2 G2 H2 hs2 x2 d2 => ?_
  refine ⟨v, w, rfl, kn _ G2 H2 _ (hn s1 s2 hs1 hs2) ?_ (x1.gg.tr x2.gg)⟩
  have ra := ((r.step x1).step x2).setR (x1.tr x2) r.ownIn r.ext.hh i (d1.step x2)
  exact ra.setR x2 ((r.ownIn.ex x1.hh).set i d1) (r.ext.hh.tr x1.hh) j d2
theorem sd_par3N {i j l : Nat} (h1 : EN K ta τ S1) (h2 : EN K tb τ S2) (h3 : EN K tc τ S3) (hn : ∀ s1 s2 s3, S1 s1 → S2 s2 → S3 s3 → N (((τ.set i s1).set j s2).set l s3)) : SD K (tPar3 i j l (tCons ta (tCons tb (tCons tc tNil)))) τ N R := fun G0 H0 G H σ r D kn kr => by
  refine h1 G0 H0 G H σ r _ fun v s1 G1 H1 hs1 x1 d1 => ?_
  refine h2 G0 H0 G1 H1 σ (r.step x1) _ fun w s2 G2 H2 hs2 x2 d2 => ?_
  refine h3 G0 H0 G2 H2 σ ((r.step x1).step x2) _ fun z s3 G3 H3 hs3 x3 d3 => ?_
  refine ⟨v, w, z, rfl, kn _ G3 H3 _ (hn s1 s2 s3 hs1 hs2 hs3) ?_ ((x1.gg.tr x2.gg).tr x3.gg)⟩
  have ra := (((r.step x1).step x2).step x3).setR ((x1.tr x2).tr x3) r.ownIn r.ext.hh i ((d1.step x2).step x3)
  have rb := ra.setR (x2.tr x3) ((r.ownIn.ex x1.hh).set i d1) (r.ext.hh.tr x1.hh) j (d2.step x3)
  exact rb.setR x3 (((r.ownIn.ex (x1.hh.tr x2.hh)).set i (d1.step x2)).set j d2) ((r.ext.hh.tr x1.hh).tr x2.hh) l d3
theorem sd_mk2N {i j : Nat} (h1 : EN K ta τ S1) (h2 : EN K tb τ S2) (hn : ∀ s1 s2, S1 s1 → S2 s2 → N ((τ.set i s1).set j s2)) : SD K (tAsg (tTup (tCons ta (tCons tb tNil))) (gTup K 2 (gCons (gName i) (gCons (gName j) gNil)))) τ N R := fun G0 H0 G H σ r D kn kr => by
  refine h1 G0 H0 G H σ r _ fun v s1 G1 H1 hs1 x1 d1 => ?_
  refine h2 G0 H0 G1 H1 σ (r.step x1) _ fun w s2 G2 H2 hs2 x2 d2 => ?_
  refine ⟨sz (by simp), fun p hp => ⟨p, [v, w], rfl, .inl (.inl upd_same), rfl, v, [w], rfl, w, [], rfl, rfl, ?_⟩⟩
  have x3 : Ext G2 H2 G2 (upd H2 p (.tup [v, w])) := Ext.newO x2.gh hp
  refine kn _ G2 _ _ (hn s1 s2 hs1 hs2) ?_ (x1.gg.tr x2.gg)
  have ra := (((r.step x1).step x2).step x3).setR ((x1.tr x2).tr x3) r.ownIn r.ext.hh i ((d1.step x2).step x3)
  exact ra.setR (x2.tr x3) ((r.ownIn.ex x1.hh).set i d1) (r.ext.hh.tr x1.hh) j (d2.step x3)
theorem sd_mk3N {i j l : Nat} (h1 : EN K ta τ S1) (h2 : EN K tb τ S2) (h3 : EN K tc τ S3) (hn : ∀ s1 s2 s3, S1 s1 → S2 s2 → S3 s3 → N (((τ.set i s1).set j s2).set l s3)) : SD K (tAsg (tTup (tCons ta (tCons tb (tCons tc tNil)))) (gTup K 3 (gCons (gName i) (gCons (gName j) (gCons (gName l) gNil))))) τ N R := fun G0 H0 G H σ r D kn kr => by
  refine h1 G0 H0 G H σ r _ fun v s1 G1 H1 hs1 x1 d1 => ?_
  refine h2 G0 H0 G1 H1 σ (r.step x1) _ fun w s2 G2 H2 hs2 x2 d2 => ?_
  refine h3 G0 H0 G2 H2 σ ((r.step x1).step x2) _ fun z s3 G3 H3 hs3 x3 d3 => ?_
  refine ⟨sz (by simp), fun p hp => ⟨p, [v, w, z], rfl, .inl (.inl upd_same), rfl, v, [w, z], rfl, w, [z], rfl, z, [], rfl, rfl, ?_⟩⟩
  have x4 : Ext G3 H3 G3 (upd H3 p (.tup [v, w, z])) := Ext.newO x3.gh hp
  refine kn _ G3 _ _ (hn s1 s2 s3 hs1 hs2 hs3) ?_ ((x1.gg.tr x2.gg).tr x3.gg)
  have ra := ((((r.step x1).step x2).step x3).step x4).setR (((x1.tr x2).tr x3).tr x4) r.ownIn r.ext.hh i (((d1.step x2).step x3).step x4)
  have rb := ra.setR ((x2.tr x3).tr x4) ((r.ownIn.ex x1.hh).set i d1) (r.ext.hh.tr x1.hh) j ((d2.step x3).step x4)
  exact rb.setR (x3.tr x4) (((r.ownIn.ex (x1.hh.tr x2.hh)).set i (d1.step x2)).set j d2) ((r.ext.hh.tr x1.hh).tr x2.hh) l (d3.step x4)
/-- a comprehension whose elements come to one of a set -/
theorem en_lc {α : Type} (xs : List α) (q : α → PyData) (T : α → PyData → Prop) {wi : TI} {g : TG} {vs js : List Nat} (hi : EI K wi τ (xs.map q)) (hj : ∀ j ∈ js, j ∈ vs) (hn : xs.length ≤ 100000)
    (h : ∀ x ∈ xs, ∃ τ2, TGD K g js (q x) (wipeS τ vs) τ2 ∧ EN K te τ2 fun s => ∃ d, s = .dat d ∧ T x d) (hs : ∀ ds, PySem.W.EachIs T xs ds → S (.own ds)) : EN K (tLc wi g tYes te vs) τ S := by
  intro G0 H0 G H σ R Q k
  refine hi G0 H0 G H σ R _ fun J G1 H1 x1 jd D hD => ?_
  refine ⟨fun i m Hc => m = xs.length - i ∧ i ≤ xs.length ∧ ∃ G2 ws ds, Ext G1 H1 G2 Hc ∧ Hc D = some (.lst ws) ∧ G2 D = none ∧ DtAll G2 ws ds ∧ PySem.W.EachIs T (xs.take i) ds, ⟨xs.length, by simp, Nat.zero_le _, G1, [], [], Ext.newO x1.gh hD, upd_same, x1.gh.none hD, .nil, by simpa using .nil⟩, ?_⟩
  rintro i m Hc ⟨rfl, hin, G2, ws, ds, y1, y2, y3, y4, y5⟩
  obtain ⟨jgo, jst⟩ := jd G2 Hc y1.gg y1.gh i
  by_cases hlt : i < xs.length
  · obtain ⟨x, hx⟩ : ∃ x, xs[i]? = some x := ⟨xs[i], List.getElem?_eq_getElem hlt⟩
    obtain ⟨go, yl⟩ := jgo (q x) (by rw [List.getElem?_map, hx]; rfl)
    refine .inr ⟨go, fun H' => ∃ G3 ws' ds', Ext G1 H1 G3 H' ∧ H' D = some (.lst ws') ∧ G3 D = none ∧ DtAll G3 ws' ds' ∧ PySem.W.EachIs T (xs.take (i + 1)) ds', fun H' hN => ⟨xs.length - (i + 1), by omega, rfl, hlt, hN⟩, fun v H' yv => ?_⟩
    obtain ⟨G3, z1, z2⟩ := yl v H' yv
    obtain ⟨τ2, tg, hy⟩ := h x (List.mem_of_getElem? hx)
    have RW := (R.step ((x1.tr y1).tr z1)).wipe vs
    have tk : (xs.take (i + 1)) = xs.take i ++ [x] := by rw [List.take_add_one, hx]; rfl
    refine tg G0 H0 G3 H' _ v RW z2 _ fun σ2 R2 ag ln => ⟨wipe_agree (ln.trans (wipe_length σ vs)) hj ag, ?_⟩
    have hDne : Hc D ≠ none := by rw [y2]; exact fun z => nomatch z
    refine hy G0 H0 G3 H' σ2 R2 _ fun v5 s5 G5 H5 hs5 x5 d5 => ?_
    obtain ⟨d, rfl, hT⟩ := hs5
    have w := z1.tr x5
    have g5 := w.ap D y3 hDne
    have l5 : ws.length = ds.length := y4.len
    have l6 := y5.length
    rw [List.length_take] at l6
    refine ⟨ws, w.hh _ _ y2, szl (by omega), G5, ws ++ [v5], ds ++ [d], (y1.tr w).mut hD g5, upd_same, g5, (DtAll.ex w.gg y4).app (.cons d5 .nil), ?_⟩
    rw [tk]
    have app : ∀ {a : List α} {b : List PyData}, PySem.W.EachIs T a b → PySem.W.EachIs T (a ++ [x]) (b ++ [d]) := fun {a b} hh => by
      induction hh with
      | nil => exact .cons hT .nil
      | cons r t ih => exact .cons r ih
    exact app y5
  · have e : i = xs.length := by omega
    subst e
    refine .inl ⟨jst (by rw [List.length_map]; exact Nat.le_refl _), ?_⟩
    rw [List.take_length] at y5
    exact k _ _ G2 Hc (hs ds y5) (x1.tr y1) ⟨D, ws, rfl, y2, y3, x1.hh.none hD, y4⟩
end
end Ab

/-! ### the rules with the written part told -/
namespace Ab
open PySem L2 PySem.Spec PyProof.Rows
variable [LamTab]
section
variable {X : Cx} {K : PySem.W.Frag} {w : World}
theorem ixK (h : X.K = K) : IxR X (rIxA K) := by subst h; exact ix_A
theorem lenK (h : X.K = K) : CallR X (.builtin "len") (rLenA K) := by subst h; exact cr_lenA
theorem lstK (h : X.K = K) : CallR X (.type "list") (rLst K) := by subst h; exact cr_lst
theorem eqK {k : Nat} (hr : Room k X.A) (h : X.K = K) : OpR X (compareOp .Eq) (rEqD K) := by subst h; exact op_eqD hr.units
theorem neK {k : Nat} (hr : Room k X.A) (h : X.K = K) : OpR X (compareOp .NotEq) (rNeD K) := by subst h; exact op_neD hr.units
theorem inK (h : X.K = K) : OpR X (compareOp .In) (rIn K false) := by subst h; exact op_in_seq
theorem ninK (h : X.K = K) : OpR X (compareOp .NotIn) (rIn K true) := by subst h; exact op_notIn_seq
theorem sumK (hc : X.calm = true) (h : X.K = K) : CallR X (.builtin "sum") (rSum K) := by subst h; exact cr_sum hc
theorem allK (hc : X.calm = true) (h : X.K = K) : CallR X (.builtin "all") (rAll K) := by subst h; exact cr_all hc
theorem anyK (hc : X.calm = true) (h : X.K = K) : CallR X (.builtin "any") (rAny K) := by subst h; exact cr_any hc
theorem maxK (hc : X.calm = true) (h : X.K = K) : CallR X (.builtin "max") (rMax K) := by subst h; exact cr_max hc
theorem minK (hc : X.calm = true) (h : X.K = K) : CallR X (.builtin "min") (rMin K) := by subst h; exact cr_min hc
theorem isiK (h : X.K = K) : CallR X (.builtin "isinstance") (rIsi K) := by subst h; exact call_isi
theorem sortK {k : Nat} (hc : X.calm = true) (hr : Room k X.A) (h : X.K = K) : CallR X (.builtin "sorted") (rSortD K) := by subst h; exact cr_sortD hc hr
theorem setLK (hc : X.calm = true) (h : X.K = K) (hw : X.w = w) : CallR X (.type "set") (rSetL K w) := by subst h hw; exact cr_setL hc
theorem sortSetK (hc : X.calm = true) (hw : X.w = w) : CallR X (.builtin "sorted") (rSortedSet w) := by subst hw; exact cr_sortedSet hc
theorem slK (h : X.K = K) : SlR X (rSlL K) := by subst h; exact sl_list
theorem revK {e : Expr} {te : TE} {k : Nat} {p1 p2 p3 pos : Pos} (h : X.K = K) (he : PE X e te) : PE X (.Subscript e (.Slice none none (some (.UnaryOp .USub (.Constant (.int 1) k p1) p2)) p3) pos) (tRevL K te) := by subst h; exact pe_revL he
theorem tupK {es : List Expr} {k : Nat} {t : TGs} {n : Nat} {pos : Pos} (h : X.K = K) (hc : X.calm = true) (hg : PGs X es t) (hn : (assignEach es X.env).length = n := by rfl) (hst : (assignEach es X.env).findIdx? (·.1) = none := by rfl) : PG X (.Tuple es k pos) (gTup K n t) := by subst h; exact pg_tup hc hg hn hst
theorem seqK {tg e : Expr} {te : TE} (h : X.K = K) (he : PE X e te) : PI X tg e (iAny K te) := by subst h; exact pi_seq he
theorem enumK {e : Expr} {ta : TA} {p pos tpos : Pos} {elts : List Expr} {kk : Nat} (h : X.K = K) (hg : Gl X "enumerate") (hm : X.mg "enumerate" = none) (ha : PA X [e] ta) (hs : starEach [e] X.env = [(false, eval e X.env)] := by rfl) :
    PI X (.Tuple elts kk tpos) (.Call (.Name "enumerate" p) [e] [] pos) (iEnum K ta) := by subst h; exact pi_enum hg hm ha hs
theorem zipK {e e2 : Expr} {ta : TA} {p pos tpos : Pos} {elts : List Expr} {kk : Nat} (h : X.K = K) (hg : Gl X "zip") (hm : X.mg "zip" = none) (ha : PA X [e, e2] ta)
    (hs : starEach [e, e2] X.env = (false, eval e X.env) :: starEach [e2] X.env := by rfl) (hpl : (backTo pos (starEach [e2] X.env)).any (·.1) = false := by rfl) :
    PI X (.Tuple elts kk tpos) (.Call (.Name "zip" p) [e, e2] [] pos) (iZip K ta) := by subst h; exact pi_zip hg hm ha hs hpl
theorem bmK {o e : Expr} {es : List Expr} {to : TE} {t : TA} {name : Str} {apos cpos : Pos} {T id : String} {r : V → List V → Hp → VK → Prop} (h : X.K = K) (pa : PlainAttrs T) (slot : Slot T name id) (hty : typeOf (.builtin id) = pure (.type "method_descriptor")) (hm : MtR X id r) (ho : PE X o to) (ha : PA X (e :: es) t)
    (h1 : attributeBase o name X.env (eval o X.env) = eval o X.env := by rfl)
    (h2 : ((backTo cpos (starEach (e :: es) X.env)).all (fun x => !x.1) && (backToKw cpos (keywordEach [] X.env)).all (fun x => x.1.isSome) && decide ((e :: es).length + ([] : List Keyword).length + (if ([] : List Keyword).isEmpty then 0 else 1) < 30)) = true := by rfl)
    (h3 : (apos.endLine == cpos.line) = true := by rfl) (h4 : starEach (e :: es) X.env = (false, eval e X.env) :: starEach es X.env := by rfl) (h5 : (backTo cpos (starEach es X.env)).any (·.1) = false := by rfl) :
    PE X (.Call (.Attribute o name apos) (e :: es) [] cpos) (tBM K T r to t) := by subst h; exact pe_bm pa slot hty hm ho ha h1 h2 h3 h4 h5
theorem bm0K {o : Expr} {to : TE} {name : Str} {apos cpos : Pos} {T id : String} {r : V → List V → Hp → VK → Prop} (h : X.K = K) (pa : PlainAttrs T) (slot : Slot T name id) (hty : typeOf (.builtin id) = pure (.type "method_descriptor")) (hm : MtR X id r) (ho : PE X o to)
    (h1 : attributeBase o name X.env (eval o X.env) = eval o X.env := by rfl) (h3 : (apos.endLine == cpos.line) = true := by rfl) : PE X (.Call (.Attribute o name apos) [] [] cpos) (tBM0 K T r to) := by subst h; exact pe_bm0 pa slot hty hm ho h1 h3
end
end Ab

namespace Ab
open PySem L2 PySem.Spec PyProof.Rows
variable [LamTab]
section
variable {K : PySem.W.Frag} {τ : Sls} {ta tb tc td te : TE} {d e f : PyData} {t u : TS} {N N' : Sls → Prop} {R R' : Sl → Prop} {tr : TA} {S S1 S2 S3 : Sl → Prop}
theorem DtAll.scal {G G' : Hp} : ∀ {vs : List V} {ds : List PyData}, (∀ d ∈ ds, scalar d = true) → DtAll G vs ds → DtAll G' vs ds
  | _, _, _, .nil => .nil
  | _, _, hs, .cons h t => .cons (Dt.scal (hs _ (by simp)) h) (DtAll.scal (fun d hd => hs d (List.mem_cons_of_mem _ hd)) t)
/-- an own list read for a new list of scalars -/
theorem el_frz (i : Nat) {ds es : List PyData} (ht : τ[i]? = some (.own ds)) (h : EL K te (τ.set i (.dat (.list ds))) es) (hs : ∀ d ∈ es, scalar d = true) : EL K te τ es := fun G0 H0 G H σ r Q q => by
  obtain ⟨G1, x, r1⟩ := r.frz ht
  refine h G0 H0 G1 H σ r1 Q fun p vs G' H' xx hp gp hh dd => ?_
  exact q p vs G H' (Ext.grow r.gh xx.hh) hp (r.gh.none hp) hh (DtAll.scal hs dd)
/-- the turns of a for over what is walked -/
theorem for_run {J : It} {g : TG} {its : List PyData} {G0 H0 G G1 H1 : Hp} {σ : L2.St} {D : Ends} (I : Nat → Sls → Prop) (r : Rel K G0 H0 G1 H1 σ τ) (x1 : Ex G G1) (jd : JD G1 J its) (h0 : I 0 τ) (hb : ∀ i d τ1, its[i]? = some d → I i τ1 → ∃ js τ2, TGD K g js d τ1 τ2 ∧ SD K t τ2 (I (i + 1)) R) (hn : ∀ τ1, I its.length τ1 → N τ1)
    (kn : ∀ τ' G' H' σ', N τ' → Rel K G0 H0 G' H' σ' τ' → Ex G G' → D.nx σ' H') (kr : ∀ s v G' H', R s → Ext G0 H0 G' H' → RtOk H0 G' H' v s → D.rt v H') :
    ∃ W : Nat → Nat → L2.St → Hp → Prop, (∃ m, W 0 m σ H1) ∧ ∀ i m σ H, W i m σ H → (J.stop i H ∧ D.nx σ H) ∨ (J.go i H ∧ ∃ M : L2.St → Hp → Prop, (∀ σ' H', M σ' H' → ∃ m', m' < m ∧ W (i + 1) m' σ' H') ∧ ∀ x H', J.yld i H x H' → g x σ H' fun σ2 H2 => t { D with nx := M, ct := M, bk := D.nx } σ2 H2) := by
  refine ⟨fun i m σc Hc => m = its.length - i ∧ i ≤ its.length ∧ ∃ τ1 G2, I i τ1 ∧ Rel K G0 H0 G2 Hc σc τ1 ∧ Ex G1 G2, ⟨its.length, by simp, Nat.zero_le _, τ, G1, h0, r, Ex.rfl G1⟩, ?_⟩
  rintro i m σc Hc ⟨rfl, hin, τ1, G2, hI, rc, y1⟩
  obtain ⟨jgo, jst⟩ := jd G2 Hc y1 rc.gh i
  by_cases hlt : i < its.length
  · obtain ⟨x, hx⟩ : ∃ x, its[i]? = some x := ⟨its[i], List.getElem?_eq_getElem hlt⟩
    obtain ⟨go, yl⟩ := jgo x hx
    refine .inr ⟨go, fun σ' H' => ∃ τ1 G2, I (i + 1) τ1 ∧ Rel K G0 H0 G2 H' σ' τ1 ∧ Ex G1 G2, fun σ' H' hN => ⟨its.length - (i + 1), by omega, rfl, hlt, hN⟩, fun v H' yv => ?_⟩
    obtain ⟨G3, z1, z2⟩ := yl v H' yv
    obtain ⟨js, τ2, tg, sd⟩ := hb i x τ1 hx hI
    refine tg G0 H0 G3 H' σc v (rc.step z1) z2 _ fun σ2 R2 _ _ => ?_
    exact sd G0 H0 G3 H' σ2 R2 _ (fun τ' G' H' σ' n r' x' => ⟨τ', G', n, r', (y1.tr z1.gg).tr x'⟩) kr
  · have e : i = its.length := by omega
    subst e
    exact .inl ⟨jst (Nat.le_refl _), kn τ1 G2 Hc σc (hn τ1 hI) rc (x1.tr y1)⟩
/-- for x in f(..), the list one of a set -/
theorem sd_forN {g : TG} (h : EN K te τ S) (hs : ∀ s, S s → ∃ ds, s = .own ds ∧ ∃ I : Nat → Sls → Prop, I 0 τ ∧ (∀ i d τ1, ds[i]? = some d → I i τ1 → ∃ js τ2, TGD K g js d τ1 τ2 ∧ SD K t τ2 (I (i + 1)) R) ∧ ∀ τ1, I ds.length τ1 → N τ1) : SD K (tFor (iAny K te) g t) τ N R := by
  intro G0 H0 G H σ r D kn kr
  refine .inl (h G0 H0 G H σ r _ fun v s G1 H1 hS x1 d1 => ?_)
  obtain ⟨ds, rfl, I, h0, hb, hn⟩ := hs s hS
  obtain ⟨p, vs, rfl, e1, e2, e3, e4⟩ := d1
  have x2 : Ext G H (upd G1 p (.lst vs)) H1 := x1.frz e3 e1 e2
  have hp : (upd G1 p (HO.lst vs)) p = some (.lst vs) := upd_same
  have dt : Dt (upd G1 p (.lst vs)) (.ref p) (.list ds) := .lst hp (DtAll.ex (Ex.upd e2) e4)
  refine ⟨p, rfl, ⟨vs, .inl (.inl e1)⟩, ?_⟩
  refine for_run I (r.step x2) x2.gg ?_ h0 hb hn kn kr
  intro G2 H2 y1 y2 i
  have a1 : DtAll (upd G1 p (.lst vs)) vs ds := DtAll.ex (Ex.upd e2) e4
  have k2 := y2 _ _ (y1 _ _ hp)
  refine ⟨fun d hd => ?_, fun hi => ?_⟩
  · obtain ⟨w, f1, f2⟩ := a1.at hd
    refine ⟨⟨vs, w, .inl (.inl k2), f1⟩, fun x H3 y => ?_⟩
    obtain ⟨rfl, y⟩ := y
    have z := y vs (.inl (.inl k2))
    rw [f1] at z
    cases z
    exact ⟨G2, Ext.rfl y2, Dt.ex y1 f2⟩
  · exact ⟨vs, .inl (.inl k2), by rw [a1.len]; exact hi⟩
end
end Ab

namespace Ab
open PySem L2 PySem.Spec PyProof.Rows
variable [LamTab]
section
variable {K : PySem.W.Frag} {τ : Sls} {ta tb tc td te : TE} {d e f : PyData} {t u : TS} {N N' : Sls → Prop} {R R' : Sl → Prop} {tr : TA} {S S1 S2 S3 : Sl → Prop}
/-- xs[k], ys[l] = a, b: own lists -/
theorem sd_put2 {i j a b : Nat} {k l : Int} {ds es : List PyData} (hij : i ≠ j) (hti : τ[i]? = some (.own ds)) (htj : τ[j]? = some (.own es)) (h1 : ED K ta τ d) (h2 : ED K tb τ e) (hk : ED K tc τ (.int k)) (hl : ED K td (τ.set i (.own (ds.set a d))) (.int l)) (ha : ixN ds.length k = some a) (hb : ixN es.length l = some b)
    (hn : N ((τ.set i (.own (ds.set a d))).set j (.own (es.set b e)))) : SD K (tAsg (tTup (tCons ta (tCons tb tNil))) (gTup K 2 (gCons (gSub (tVar i) tc L2.rSetL) (gCons (gSub (tVar j) td L2.rSetL) gNil)))) τ N R := fun G0 H0 G H σ r D kn kr => by
  refine h1 G0 H0 G H σ r _ fun v G1 H1 x1 d1 => h2 G0 H0 G1 H1 σ (r.step x1) _ fun w G2 H2 x2 d2 => ?_
  refine ⟨sz (by simp), fun p hp => ⟨p, [v, w], rfl, .inl (.inl upd_same), rfl, v, [w], rfl, ?_⟩⟩
  have x3 : Ext G2 H2 G2 (upd H2 p (.tup [v, w])) := Ext.newO x2.gh hp
  have r3 := ((r.step x1).step x2).step x3
  obtain ⟨q, vs, e1, e2, e3, e4, e5⟩ := r3.ownAt hti
  refine ⟨_, e1, hk G0 H0 G2 _ σ r3 _ fun y G4 H4 x4 d4 => ?_⟩
  have r4 := r3.step x4
  obtain ⟨q', vs', f1, f2, f3, f4, f5⟩ := r4.ownAt hti
  rw [e1] at f1
  cases f1
  have d1' : Dt G4 v d := Dt.ex x4.gg (Dt.ex x2.gg d1)
  refine ⟨q, vs', k, a, rfl, Dt.int_of d4, f2, by rw [f5.len]; exact ha, w, [], rfl, ?_⟩
  have r5 := r4.mut hti e1 (DtAll.set d1' a f5)
  have htj' : (τ.set i (.own (ds.set a d)))[j]? = some (.own es) := by rw [List.getElem?_set_ne hij]; exact htj
  obtain ⟨q2, us, g1, g2, g3, g4, g5⟩ := r5.ownAt htj'
  refine ⟨_, g1, hl G0 H0 G4 _ σ r5 _ fun y' G6 H6 x6 d6 => ?_⟩
  have r6 := r5.step x6
  obtain ⟨q3, us', k1, k2, k3, k4, k5⟩ := r6.ownAt htj'
  rw [g1] at k1
  cases k1
  refine ⟨q2, us', l, b, rfl, Dt.int_of d6, k2, by rw [k5.len]; exact hb, rfl, ?_⟩
  exact kn _ G6 _ σ hn (r6.mut htj' g1 (DtAll.set (Dt.ex x6.gg (Dt.ex x4.gg d2)) b k5)) (((x1.gg.tr x2.gg).tr x4.gg).tr x6.gg)
end
end Ab

namespace Ab
open PySem L2 PySem.Spec PyProof.Rows
variable [LamTab]
/-! instances -/
def lookD (f : Str) : List (PyData × PyData) → Option PyData
  | [] => none
  | (.str n, d) :: r => if f = n then some d else lookD f r
  | _ :: r => lookD f r
theorem DtF.look {G : Hp} {f : Str} : ∀ {fs : List (Str × V)} {ds : List (PyData × PyData)}, DtF G fs ds → (∀ d, lookD f ds = some d → ∃ v, fs.lookup f = some v ∧ Dt G v d) ∧ (lookD f ds = none → fs.lookup f = none)
  | _, _, .nil => ⟨fun d h => (by cases h), fun _ => rfl⟩
  | _, _, .cons (n := n) (v := v) (fs := fs) (d := d) (ds := ds) h t => by
    obtain ⟨a, b⟩ := DtF.look (f := f) t
    have e : lookD f ((.str n, d) :: ds) = if f = n then some d else lookD f ds := rfl
    rw [e, List.lookup_cons]
    by_cases c : f = n
    · rw [if_pos c]
      have c' : (f == n) = true := by simpa using c
      rw [c']
      exact ⟨fun d' hd => (by cases hd; exact ⟨v, rfl, h⟩), fun hd => (by cases hd)⟩
    · rw [if_neg c]
      have c' : (f == n) = false := by simpa using c
      rw [c']
      exact ⟨a, b⟩
theorem Dt.obj_of {G : Hp} {v : V} {C : Addr} {ds : List (PyData × PyData)} (h : Dt G v (dObj C ds)) : ∃ a dx fs, v = .ref a ∧ G a = some (.ins C dx fs) ∧ DtF G fs ds := by
  generalize hd : dObj C ds = d at h
  cases h with
  | ins h1 h2 =>
    unfold dObj at hd
    injection hd with hd
    injection hd with h3 h4
    injection h3 with h3 _
    injection h3 with h3
    have h5 := Int.ofNat.inj h3
    subst h5
    subst h4
    exact ⟨_, _, _, rfl, h1, h2⟩
  | _ => cases hd
section
variable {K : PySem.W.Frag} {τ : Sls} {ta tb tc td te : TE} {d e f : PyData} {t u : TS} {N N' : Sls → Prop} {R R' : Sl → Prop} {tr : TA} {S S1 S2 S3 : Sl → Prop} {C : Addr} {ds : List (PyData × PyData)}
theorem ed_fld {n : Str} (h : ED K ta τ (dObj C ds)) (cl : Cls K C) (na : NoAttr K C n) (hl : lookD n ds = some d) : ED K (tFld K ta n) τ d := fun G0 H0 G H σ r Q q => h G0 H0 G H σ r _ fun v G1 H1 x1 d1 => by
  obtain ⟨a, dx, fs, rfl, h1, h2⟩ := Dt.obj_of d1
  obtain ⟨w, k1, k2⟩ := h2.look.1 d hl
  exact ⟨a, C, dx, fs, w, rfl, x1.gh _ _ h1, cl, na, k1, q w G1 H1 x1 k2⟩
theorem ed_meth {m : Str} {P : List Sl → (Sl → Prop) → Prop} {E : XK} {as : List Sl} (h : ED K ta τ (dObj C ds)) (hm : lookD m ds = none) (ha : EA K tr τ as) (hp : P (.dat (dObj C ds) :: as) (· = .dat d)) : ED K (tMeth C m (spF K P) [] E ta tr) τ d := fun G0 H0 G H σ r Q q => h G0 H0 G H σ r _ fun v G1 H1 x1 d1 => by
  obtain ⟨a, dx, fs, rfl, h1, h2⟩ := Dt.obj_of d1
  refine ⟨a, dx, fs, rfl, x1.gh _ _ h1, h2.look.2 hm, ha G0 H0 G1 H1 σ (r.step x1) _ fun vs G2 H2 x2 a2 => ?_⟩
  rw [List.append_nil]
  refine ⟨G2, .dat (dObj C ds) :: as, _, x2.gh, .cons (s := .dat (dObj C ds)) (Dt.ex x2.gg d1) a2, hp, fun s v G' H' hs x hv => ?_⟩
  subst hs
  exact q v G' H' ((x1.tr x2).tr x) hv
/-- what is known of a class for isinstance -/
structure IsC (K : PySem.W.Frag) (C : Addr) : Prop where
  cl : Cls K C
  ha : PySem.W.findIn K (.ref C) "__class__" = some (some (.builtin "object.__class__"))
  hn : PySem.W.specialIn K (.builtin "object.__class__") "__get__" = some (some (.builtin "getset_descriptor.__get__"))
  htk : PySem.W.takesIn K (.builtin "object.__class__") = some true
  hm : PySem.W.mroIn K C (.type "object") = some true
theorem ed_isiC {C' : Addr} {b : Bool} (h : ED K ta τ (dObj C ds)) (c : IsC K C) (hk : PySem.W.kitOne K (.ref C) (.ref C') = some b) : ED K (tCB (rIsi K) (tCons ta (tCons (tC (.ref C')) tNil))) τ (.bool b) := fun G0 H0 G H σ r Q q => h G0 H0 G H σ r _ fun v G1 H1 x1 d1 => by
  obtain ⟨a, dx, fs, rfl, h1, h2⟩ := Dt.obj_of d1
  exact ⟨_, _, .ref C, .ref C', b, rfl, .own C', .base (.ins (x1.gh _ _ h1) c.cl c.ha c.hn c.htk c.hm), hk, q _ G1 H1 x1 (.bl b)⟩
/-! a list that can be copied -/
def ES (K : PySem.W.Frag) (te : TE) (τ : Sls) (ds : List PyData) : Prop := ∀ G0 H0 G H σ, Rel K G0 H0 G H σ τ → ∀ Q : VK, (∀ a vs G' H', Ext G H G' H' → H' a = some (.lst vs) → DtAll G' vs ds → Q (.ref a) H') → te σ H Q
theorem es_ed {es : List PyData} (h : ED K te τ (.list es)) : ES K te τ es := fun G0 H0 G H σ r Q q => h G0 H0 G H σ r _ fun v G1 H1 x1 d1 => by
  obtain ⟨a, vs, rfl, h1, h2⟩ := Dt.lst_of d1
  exact q a vs G1 H1 x1 (x1.gh _ _ h1) h2
theorem es_own {i : Nat} {es : List PyData} (h : τ[i]? = some (.own es)) : ES K (tVar i) τ es := fun G0 H0 G H σ r Q q => by
  obtain ⟨p, vs, h1, h2, h3, h4, h5⟩ := r.ownAt h
  exact ⟨_, h1, q p vs G H (Ext.rfl r.gh) h2 h5⟩
/-! making -/
def spI1 (C : Addr) (f : Str) : Sp := fun vs H Q _ => ∃ x dx a ys, vs = [.ref x, .ref a] ∧ H x = some (.ins C dx []) ∧ H a = some (.lst ys) ∧ ∀ p, H p = none → Q .non (upd (upd H p (.lst ys)) x (.ins C dx [(f, .ref p)]))
def spI2 (C : Addr) (f g : Str) : Sp := fun vs H Q _ => ∃ x dx a b ys zs, vs = [.ref x, .ref a, .ref b] ∧ H x = some (.ins C dx []) ∧ H a = some (.lst ys) ∧ H b = some (.lst zs) ∧
  ∀ p q, H p = none → H q = none → q ≠ p → Q .non (upd (upd (upd (upd H p (.lst ys)) x (.ins C dx [(f, .ref p)])) q (.lst zs)) x (.ins C dx [(f, .ref p), (g, .ref q)]))
def spIV (C : Addr) (f : Str) : Sp := fun vs H Q _ => ∃ x dx v, vs = [.ref x, v] ∧ H x = some (.ins C dx []) ∧ Q .non (upd H x (.ins C dx [(f, v)]))
theorem en_mk1 {f : Str} {es : List PyData} {E : XK} (h : ES K ta τ es) (hs : ∀ x dx p, S (.obj x C dx [(f, p, es)])) : EN K (tMake C (spI1 C f) [] E (tCons ta tNil)) τ S := fun G0 H0 G H σ r Q q => h G0 H0 G H σ r _ fun a vs G1 H1 x1 ha da => by
  intro x dx hx hdx ne
  have n1 : a ≠ x := ne_of_none ha hx
  have n2 : a ≠ dx := ne_of_none ha hdx
  refine ⟨x, dx, a, vs, rfl, upd_same, by rw [upd_ne n1, upd_ne n2]; exact ha, fun p hp => ⟨rfl, ?_⟩⟩
  have px : p ≠ x := fun z => by subst z; rw [upd_same] at hp; cases hp
  have hp1 : H1 p = none := by
    rw [upd_ne px] at hp
    by_cases z : p = dx
    · subst z; exact hdx
    · rw [upd_ne z] at hp; exact hp
  have ex : Ex H1 (upd (upd (upd (upd H1 dx (.own x)) x (.ins C dx [])) p (.lst vs)) x (.ins C dx [(f, .ref p)])) := fun b o hb => by
    rw [upd_ne (ne_of_none hb hx), upd_ne (ne_of_none hb hp1), upd_ne (ne_of_none hb hx), upd_ne (ne_of_none hb hdx)]
    exact hb
  refine q _ _ G1 _ (hs x dx p) (x1.tr (Ext.grow x1.gh ex)) ⟨rfl, upd_same, x1.gh.none hx, x1.hh.none hx, ?_, fun g hg => ?_⟩
  · simp [foot]
    exact fun z => px z.symm
  · have : g = (f, p, es) := by simpa using hg
    subst this
    exact ⟨vs, by rw [upd_ne px, upd_same], x1.gh.none hp1, x1.hh.none hp1, da⟩
theorem en_mk2 {f g : Str} {es fs : List PyData} {E : XK} (h : ES K ta τ es) (h' : ES K tb τ fs) (hs : ∀ x dx p q, S (.obj x C dx [(f, p, es), (g, q, fs)])) : EN K (tMake C (spI2 C f g) [] E (tCons ta (tCons tb tNil))) τ S := fun G0 H0 G H σ r Q q => h G0 H0 G H σ r _ fun a vs G1 H1 x1 ha da => h' G0 H0 G1 H1 σ (r.step x1) _ fun b us G2 H2 x2 hb db => by
  intro x dx hx hdx ne
  have ha2 := x2.hh _ _ ha
  have xx := x1.tr x2
  refine ⟨x, dx, a, b, vs, us, rfl, upd_same, by rw [upd_ne (ne_of_none ha2 hx), upd_ne (ne_of_none ha2 hdx)]; exact ha2, by rw [upd_ne (ne_of_none hb hx), upd_ne (ne_of_none hb hdx)]; exact hb, fun p p' hp hp' npp => ⟨rfl, ?_⟩⟩
  have fr : ∀ p, (upd (upd H2 dx (.own x)) x (.ins C dx [])) p = none → p ≠ x ∧ H2 p = none := fun p hp => by
    have px : p ≠ x := fun z => by subst z; rw [upd_same] at hp; cases hp
    refine ⟨px, ?_⟩
    rw [upd_ne px] at hp
    by_cases z : p = dx
    · subst z; exact hdx
    · rw [upd_ne z] at hp; exact hp
  obtain ⟨px, hp1⟩ := fr p hp
  obtain ⟨px', hp1'⟩ := fr p' hp'
  have ex : Ex H2 (upd (upd (upd (upd (upd (upd H2 dx (.own x)) x (.ins C dx [])) p (.lst vs)) x (.ins C dx [(f, .ref p)])) p' (.lst us)) x (.ins C dx [(f, .ref p), (g, .ref p')])) := fun b o hb => by
    rw [upd_ne (ne_of_none hb hx), upd_ne (ne_of_none hb hp1'), upd_ne (ne_of_none hb hx), upd_ne (ne_of_none hb hp1), upd_ne (ne_of_none hb hx), upd_ne (ne_of_none hb hdx)]
    exact hb
  refine q _ _ G2 _ (hs x dx p p') (xx.tr (Ext.grow x2.gh ex)) ⟨rfl, upd_same, x2.gh.none hx, xx.hh.none hx, ?_, fun g' hg => ?_⟩
  · simp [foot]
    exact ⟨⟨fun z => px z.symm, fun z => px' z.symm⟩, fun z => npp z.symm⟩
  · rcases List.mem_cons.mp hg with rfl | hg
    · exact ⟨vs, by rw [upd_ne px, upd_ne npp.symm, upd_ne px, upd_same], x2.gh.none hp1, xx.hh.none hp1, DtAll.ex x2.gg da⟩
    · have : g' = (g, p', fs) := by simpa using hg
      subst this
      exact ⟨us, by rw [upd_ne px', upd_same], x2.gh.none hp1', xx.hh.none hp1', db⟩
/-- a new instance with a value, frozen -/
theorem ed_mkV {f : Str} {E : XK} (h : ED K ta τ d) : ED K (tMake C (spIV C f) [] E (tCons ta tNil)) τ (dObj C [(.str f, d)]) := fun G0 H0 G H σ r Q q => h G0 H0 G H σ r _ fun v G1 H1 x1 d1 => by
  intro x dx hx hdx ne
  refine ⟨x, dx, v, rfl, upd_same, rfl, ?_⟩
  have ex : Ex H1 (upd (upd (upd H1 dx (.own x)) x (.ins C dx [])) x (.ins C dx [(f, v)])) := fun b o hb => by
    rw [upd_ne (ne_of_none hb hx), upd_ne (ne_of_none hb hx), upd_ne (ne_of_none hb hdx)]
    exact hb
  have gx := x1.gh.none hx
  have y : Ext G H (upd G1 x (.ins C dx [(f, v)])) _ := (x1.tr (Ext.grow x1.gh ex)).frz (p := x) (x1.hh.none hx) upd_same gx
  exact q _ _ _ y (.ins upd_same (.cons (Dt.ex (Ex.upd gx) d1) .nil))
/-- a new instance, frozen -/
theorem ed_ofN {ds : List (PyData × PyData)} (h : EN K te τ fun s => ∃ x dx fs, s = .obj x C dx fs ∧ fldD fs = ds) : ED K te τ (dObj C ds) := fun G0 H0 G H σ r Q q => h G0 H0 G H σ r _ fun v s G1 H1 hs x1 d1 => by
  obtain ⟨x, dx, fs, rfl, rfl⟩ := hs
  obtain ⟨rfl, h1, h2, h3, h4, h5⟩ := d1
  have nd := List.nodup_cons.mp h4
  obtain ⟨G2, y1, y2, y3, y4⟩ := freeze_fields fs nd.2 x1 h5
  have g1 : G2 x = none := by
    cases q : G2 x with
    | none => rfl
    | some o => exact absurd (y4 x (by rw [q]; exact fun z => nomatch z) h2) nd.1
  exact q _ _ _ (y2.frz h3 h1 g1) (.ins upd_same (DtF.ex (Ex.upd g1) y3))
theorem ed_mk1 {f : Str} {es : List PyData} {E : XK} (h : ES K ta τ es) : ED K (tMake C (spI1 C f) [] E (tCons ta tNil)) τ (dObj C [(.str f, .list es)]) := ed_ofN (en_mk1 h fun x dx p => ⟨x, dx, _, rfl, rfl⟩)
theorem ed_mk2 {f g : Str} {es fs : List PyData} {E : XK} (h : ES K ta τ es) (h' : ES K tb τ fs) : ED K (tMake C (spI2 C f g) [] E (tCons ta (tCons tb tNil))) τ (dObj C [(.str f, .list es), (.str g, .list fs)]) := ed_ofN (en_mk2 h h' fun x dx p q => ⟨x, dx, _, rfl, rfl⟩)
end
/-! the makers' own walks -/
section
variable {P : Program} {w : World} {K : PySem.W.Frag} {mg : Str → Option Value} {base : Heap} {C : Addr}
theorem init1 {M : List Str} {f : Str} (cl : Cls K C) (na : NoAttr K C f) {vs : List V} {H : Hp} {Q : VK} {E : XK} (h : spI1 C f vs H Q E) {D : Ends} (hD : ∀ σ H', Q .non H' → D.nx σ H') : (sFld K (tVar 0) (tCB (rLst K) (tCons (tVar 1) tNil)) f) D (start M vs) H := by
  obtain ⟨x, dx, a, ys, rfl, h1, h2, k⟩ := h
  refine ⟨_, rfl, a, ys, rfl, .inl (.inl (.inl h2)), fun p hp => ?_⟩
  have px : x ≠ p := ne_of_none h1 hp
  exact ⟨_, rfl, x, C, dx, [], rfl, by rw [upd_ne px]; exact h1, cl, na, by simp, hD _ _ (k p hp)⟩
theorem init2 {M : List Str} {f g : Str} (hfg : ¬ f = g) (cl : Cls K C) (na : NoAttr K C f) (na' : NoAttr K C g) {vs : List V} {H : Hp} {Q : VK} {E : XK} (h : spI2 C f g vs H Q E) {D : Ends} (hD : ∀ σ H', Q .non H' → D.nx σ H') : (tSeq (sFld K (tVar 0) (tCB (rLst K) (tCons (tVar 1) tNil)) f) (sFld K (tVar 0) (tCB (rLst K) (tCons (tVar 2) tNil)) g)) D (start M vs) H := by
  obtain ⟨x, dx, a, b, ys, zs, rfl, h1, h2, h3, k⟩ := h
  refine ⟨_, rfl, a, ys, rfl, .inl (.inl (.inl h2)), fun p hp => ?_⟩
  have px : x ≠ p := ne_of_none h1 hp
  refine ⟨_, rfl, x, C, dx, [], rfl, by rw [upd_ne px]; exact h1, cl, na, by simp, ?_⟩
  have bx : b ≠ x := fun z => by subst z; rw [h1] at h3; cases h3
  have bp : b ≠ p := ne_of_none h3 hp
  refine ⟨_, rfl, b, zs, rfl, .inl (.inl (.inl (by rw [upd_ne bx, upd_ne bp]; exact h3))), fun q hq => ?_⟩
  have qx : q ≠ x := fun z => by subst z; rw [upd_same] at hq; cases hq
  have qp : q ≠ p := fun z => by subst z; rw [upd_ne px.symm, upd_same] at hq; cases hq
  have hq1 : H q = none := by rw [upd_ne qx, upd_ne qp] at hq; exact hq
  have e : putF g (V.ref q) [(f, V.ref p)] = [(f, .ref p), (g, .ref q)] := by
    show (if f = g then _ else _) = _
    rw [if_neg hfg]
    rfl
  refine ⟨_, rfl, x, C, dx, [(f, .ref p)], rfl, by rw [upd_ne qx.symm, upd_same]; rfl, cl, na', by simp, ?_⟩
  rw [e]
  exact hD _ _ (k p q hp hq1 qp)
theorem initV {M : List Str} {f : Str} (cl : Cls K C) (na : NoAttr K C f) {vs : List V} {H : Hp} {Q : VK} {E : XK} (h : spIV C f vs H Q E) {D : Ends} (hD : ∀ σ H', Q .non H' → D.nx σ H') : (sFld K (tVar 0) (tVar 1) f) D (start M vs) H := by
  obtain ⟨x, dx, v, rfl, h1, k⟩ := h
  exact ⟨_, rfl, _, rfl, x, C, dx, [], rfl, h1, cl, na, by simp, hD _ _ k⟩
end
end Ab
namespace Ab
open PySem L2 PySem.Spec PyProof.Rows
variable [LamTab]
section
variable {X : Cx} {K : PySem.W.Frag} {o e value : Expr} {f : Str} {pos pos' : Pos} {ta tv t1 t2 : TE}
theorem fldK (h : X.K = K) (he : PE X e ta) (hb : attributeBase e f X.env (eval e X.env) = eval e X.env) : PE X (.Attribute e f pos) (tFld K ta f) := by subst h; exact pe_fld he hb
theorem psfldK (h : X.K = K) (ha : PE X o ta) (hv : PE X value tv) (hs : swapsWith value (some (.Attribute o f pos')) pos.line X.env = pure false) : PS X (.Assign [.Attribute o f pos'] value pos) (sFld K ta tv f) := by subst h; exact ps_fld ha hv hs
theorem pe_or (h1 : PE X e t1) (h2 : PE X e t2) : PE X e (fun σ H Q => t1 σ H Q ∨ t2 σ H Q) := ⟨fun pins s σ H Q I h => by
  rcases h with h | h
  · exact h1.run pins s σ H Q I h
  · exact h2.run pins s σ H Q I h⟩
end
end Ab

namespace Ab
open PySem L2 PySem.Spec PyProof.Rows
variable [LamTab]
section
variable {K : PySem.W.Frag} {τ : Sls} {ta tb tc td te : TE} {d e f : PyData} {N N' : Sls → Prop} {R R' : Sl → Prop} {tr : TA} {S S1 S2 S3 : Sl → Prop}
/-- a test that comes to one or the other -/
def ETN (K : PySem.W.Frag) (tt : TT) (τ : Sls) : Prop := ∀ G0 H0 G H σ, Rel K G0 H0 G H σ τ → ∀ Q : Bool → Hp → Prop, (∀ b G' H', Ext G H G' H' → Q b H') → tt σ H Q
/-- a comprehension whose test is free: some of the items -/
theorem en_some {α : Type} (xs : List α) (q g' : α → PyData) {wi : TI} {g : TG} {tt : TT} {vs js : List Nat} (hi : EI K wi τ (xs.map q)) (hj : ∀ j ∈ js, j ∈ vs) (hn : xs.length ≤ 100000)
    (h : ∀ x ∈ xs, ∃ τ2, TGD K g js (q x) (wipeS τ vs) τ2 ∧ ETN K tt τ2 ∧ ED K te τ2 (g' x)) (hs : ∀ ys, List.Sublist ys xs → S (.own (ys.map g'))) : EN K (tLc wi g tt te vs) τ S := by
  intro G0 H0 G H σ R Q k
  refine hi G0 H0 G H σ R _ fun J G1 H1 x1 jd D hD => ?_
  refine ⟨fun i m Hc => m = xs.length - i ∧ i ≤ xs.length ∧ ∃ G2 ws ys, Ext G1 H1 G2 Hc ∧ Hc D = some (.lst ws) ∧ G2 D = none ∧ DtAll G2 ws (ys.map g') ∧ List.Sublist ys (xs.take i), ⟨xs.length, by simp, Nat.zero_le _, G1, [], [], Ext.newO x1.gh hD, upd_same, x1.gh.none hD, .nil, List.nil_sublist _⟩, ?_⟩
  rintro i m Hc ⟨rfl, hin, G2, ws, ys, y1, y2, y3, y4, y5⟩
  obtain ⟨jgo, jst⟩ := jd G2 Hc y1.gg y1.gh i
  by_cases hlt : i < xs.length
  · obtain ⟨x, hx⟩ : ∃ x, xs[i]? = some x := ⟨xs[i], List.getElem?_eq_getElem hlt⟩
    obtain ⟨go, yl⟩ := jgo (q x) (by rw [List.getElem?_map, hx]; rfl)
    refine .inr ⟨go, fun H' => ∃ G3 ws' ys', Ext G1 H1 G3 H' ∧ H' D = some (.lst ws') ∧ G3 D = none ∧ DtAll G3 ws' (ys'.map g') ∧ List.Sublist ys' (xs.take (i + 1)), fun H' hN => ⟨xs.length - (i + 1), by omega, rfl, hlt, hN⟩, fun v H' yv => ?_⟩
    obtain ⟨G3, z1, z2⟩ := yl v H' yv
    obtain ⟨τ2, tg, ht, hy⟩ := h x (List.mem_of_getElem? hx)
    have RW := (R.step ((x1.tr y1).tr z1)).wipe vs
    have tk : (xs.take (i + 1)) = xs.take i ++ [x] := by rw [List.take_add_one, hx]; rfl
    refine tg G0 H0 G3 H' _ v RW z2 _ fun σ2 R2 ag ln => ⟨wipe_agree (ln.trans (wipe_length σ vs)) hj ag, ?_⟩
    have hDne : Hc D ≠ none := by rw [y2]; exact fun z => nomatch z
    refine ht G0 H0 G3 H' σ2 R2 _ fun b G4 H4 x4 => ?_
    cases b with
    | false =>
      rw [if_neg Bool.false_ne_true]
      have w := z1.tr x4
      exact ⟨G4, ws, ys, y1.tr w, w.hh _ _ y2, w.ap D y3 hDne, DtAll.ex w.gg y4, by rw [tk]; exact y5.trans (List.sublist_append_left _ _)⟩
    | true =>
      rw [if_pos rfl]
      refine hy G0 H0 G4 H4 σ2 (R2.step x4) _ fun v5 G5 H5 x5 d5 => ?_
      have w := (z1.tr x4).tr x5
      have g5 := w.ap D y3 hDne
      have l5 : ws.length = ys.length := by rw [y4.len, List.length_map]
      have l6 := y5.length_le
      rw [List.length_take] at l6
      refine ⟨ws, w.hh _ _ y2, szl (by omega), G5, ws ++ [v5], ys ++ [x], (y1.tr w).mut hD g5, upd_same, g5, ?_, ?_⟩
      · rw [List.map_append]
        exact (DtAll.ex w.gg y4).app (.cons d5 .nil)
      · rw [tk]
        exact List.Sublist.append y5 (List.Sublist.refl _)
  · have e : i = xs.length := by omega
    subst e
    refine .inl ⟨jst (by rw [List.length_map]; exact Nat.le_refl _), ?_⟩
    rw [List.take_length] at y5
    exact k _ _ G2 Hc (hs ys y5) (x1.tr y1) ⟨D, ws, rfl, y2, y3, x1.hh.none hD, y4⟩
end
end Ab

namespace Ab
open PySem L2 PySem.Spec PyProof.Rows
variable [LamTab]
/-! an own instance, its lists by other names -/
section
variable {K : PySem.W.Frag} {G0 H0 G H : Hp} {σ : L2.St} {τ : Sls}
theorem Rel.view (r : Rel K G0 H0 G H σ τ) {j : Nat} {v : V} {d : PyData} (h : σ[j]? = some (some v)) (hd : Dt G v d) : Rel K G0 H0 G H σ (τ.set j (.dat d)) := by
  have e : σ.set j (some v) = σ := by
    apply List.ext_getElem?
    intro i
    by_cases c : j = i
    · subst c
      rw [List.getElem?_set_self (List.getElem?_eq_some_iff.mp h).1, h]
    · rw [List.getElem?_set_ne c]
  have := r.set j hd
  rw [e] at this
  exact this
end
section
variable {K : PySem.W.Frag} {τ : Sls} {ta tb tc td te : TE} {d e f : PyData} {t u : TS} {tt : TT} {N N' : Sls → Prop} {R R' : Sl → Prop} {tr : TA} {S S1 S2 S3 : Sl → Prop} {x C dx p q : Addr} {n m : Str} {ds es : List PyData}
theorem atOf {G0 H0 G H : Hp} {σ : L2.St} (r : Rel K G0 H0 G H σ τ) {j : Nat} (h : τ[j]? = some (.at_ p)) : σ[j]? = some (some (.ref p)) := by
  obtain ⟨ov, h1, h2⟩ := r.at_ j _ h
  have h2 : ov = some (.ref p) := h2
  rw [h1, h2]
/-- one list -/
theorem et_ob1 {b : Bool} (i : Nat) (hi : τ[i]? = some (.obj x C dx [(n, p, ds)])) (h : ET K tt (τ.set i (.dat (dObj C [(.str n, .list ds)]))) b) : ET K tt τ b := fun G0 H0 G H σ r Q q => by
  obtain ⟨G1, y, r1, _⟩ := r.frzO hi
  exact h G0 H0 G1 H σ r1 Q fun G' H' xx => q G H' (Ext.grow r.gh xx.hh)
theorem et_ob2 {b : Bool} (i : Nat) (hi : τ[i]? = some (.obj x C dx [(n, p, ds), (m, q, es)])) (h : ET K tt (τ.set i (.dat (dObj C [(.str n, .list ds), (.str m, .list es)]))) b) : ET K tt τ b := fun G0 H0 G H σ r Q k => by
  obtain ⟨G1, y, r1, _⟩ := r.frzO hi
  exact h G0 H0 G1 H σ r1 Q fun G' H' xx => k G H' (Ext.grow r.gh xx.hh)
/-- with other names for them -/
theorem et_ob1A {b : Bool} (i j : Nat) (hij : i ≠ j) (hi : τ[i]? = some (.obj x C dx [(n, p, ds)])) (hj : τ[j]? = some (.at_ p)) (h : ET K tt ((τ.set i (.dat (dObj C [(.str n, .list ds)]))).set j (.dat (.list ds))) b) : ET K tt τ b := fun G0 H0 G H σ r Q k => by
  obtain ⟨G1, y, r1, hf⟩ := r.frzO hi
  have r2 := r1.view (atOf r hj) (hf (n, p, ds) (by simp))
  exact h G0 H0 G1 H σ r2 Q fun G' H' xx => k G H' (Ext.grow r.gh xx.hh)
theorem et_ob2A {b : Bool} (i j l : Nat) (hi : τ[i]? = some (.obj x C dx [(n, p, ds), (m, q, es)])) (hj : τ[j]? = some (.at_ p)) (hl : τ[l]? = some (.at_ q)) (h : ET K tt (((τ.set i (.dat (dObj C [(.str n, .list ds), (.str m, .list es)]))).set j (.dat (.list ds))).set l (.dat (.list es))) b) : ET K tt τ b := fun G0 H0 G H σ r Q k => by
  obtain ⟨G1, y, r1, hf⟩ := r.frzO hi
  have r2 := r1.view (atOf r hj) (hf (n, p, ds) (by simp))
  have r3 := r2.view (atOf r hl) (hf (m, q, es) (by simp))
  exact h G0 H0 G1 H σ r3 Q fun G' H' xx => k G H' (Ext.grow r.gh xx.hh)
theorem lookF {f : Str} : ∀ (fs : List (Str × Addr × List PyData)) {p : Addr} {ds : List PyData}, (fs.find? fun g => decide (g.1 = f)) = some (f, p, ds) → (fs.map fun g => (g.1, V.ref g.2.1)).lookup f = some (.ref p)
  | [], _, _, h => by cases h
  | g :: fs, p, ds, h => by
    rw [List.map_cons, List.lookup_cons]
    by_cases c : g.1 = f
    · rw [List.find?_cons_of_pos (by simpa using c)] at h
      have := Option.some.inj h
      subst this
      simp
    · rw [List.find?_cons_of_neg (by simpa using c)] at h
      have c' : (f == g.1) = false := by
        simp
        exact fun z => c z.symm
      rw [c']
      exact lookF fs h
theorem Rel.setAt {G0 H0 G H : Hp} {σ : L2.St} (r : Rel K G0 H0 G H σ τ) (j : Nat) : Rel K G0 H0 G H (σ.set j (some (.ref p))) (τ.set j (.at_ p)) := r.setX j (s := .at_ p) rfl fun _ o => o.elim
/-- a name for its list -/
theorem sd_ali {i j : Nat} {fs : List (Str × Addr × List PyData)} (hi : τ[i]? = some (.obj x C dx fs)) (cl : Cls K C) (na : NoAttr K C n) (hf : (fs.find? fun g => decide (g.1 = n)) = some (n, p, ds)) (hn : N (τ.set j (.at_ p))) : SD K (tAsg (tFld K (tVar i) n) (gName j)) τ N R := fun G0 H0 G H σ r D kn kr => by
  obtain ⟨e1, h1, _⟩ := r.obAt hi
  exact ⟨_, e1, x, C, dx, _, _, rfl, h1, cl, na, lookF fs hf, kn _ G H _ hn (r.setAt j) (Ex.rfl G)⟩
/-- a, b = o.f, o.g -/
theorem sd_ali2 {i j l : Nat} (hi : τ[i]? = some (.obj x C dx [(n, p, ds), (m, q, es)])) (nm : ¬ m = n) (cl : Cls K C) (na : NoAttr K C n) (na' : NoAttr K C m) (hn : N ((τ.set j (.at_ p)).set l (.at_ q))) : SD K (tAsg (tTup (tCons (tFld K (tVar i) n) (tCons (tFld K (tVar i) m) tNil))) (gTup K 2 (gCons (gName j) (gCons (gName l) gNil)))) τ N R := fun G0 H0 G H σ r D kn kr => by
  obtain ⟨e1, h1, _⟩ := r.obAt hi
  have l1 : (([(n, p, ds), (m, q, es)] : List (Str × Addr × List PyData)).map fun g => (g.1, V.ref g.2.1)).lookup n = some (.ref p) := lookF (ds := ds) _ (by simp)
  have l2 : (([(n, p, ds), (m, q, es)] : List (Str × Addr × List PyData)).map fun g => (g.1, V.ref g.2.1)).lookup m = some (.ref q) := lookF (ds := es) _ (by simp; exact .inr fun z => nm z.symm)
  refine ⟨_, e1, x, C, dx, _, _, rfl, h1, cl, na, l1, _, e1, x, C, dx, _, _, rfl, h1, cl, na', l2, sz (by simp), fun w hw => ⟨w, [.ref p, .ref q], rfl, .inl (.inl upd_same), rfl, _, _, rfl, _, _, rfl, rfl, ?_⟩⟩
  have x3 : Ext G H G (upd H w (.tup [.ref p, .ref q])) := Ext.newO r.gh hw
  exact kn _ G _ _ hn (((r.step x3).setAt j).setAt l) (Ex.rfl G)
theorem sd_par2A {i j l : Nat} (hi : τ[i]? = some (.obj x C dx [(n, p, ds), (m, q, es)])) (nm : ¬ m = n) (cl : Cls K C) (na : NoAttr K C n) (na' : NoAttr K C m) (hn : N ((τ.set j (.at_ p)).set l (.at_ q))) : SD K (tPar j l (tCons (tFld K (tVar i) n) (tCons (tFld K (tVar i) m) tNil))) τ N R := fun G0 H0 G H σ r D kn kr => by
  obtain ⟨e1, h1, _⟩ := r.obAt hi
  have l1 : (([(n, p, ds), (m, q, es)] : List (Str × Addr × List PyData)).map fun g => (g.1, V.ref g.2.1)).lookup n = some (.ref p) := lookF (ds := ds) _ (by simp)
  have l2 : (([(n, p, ds), (m, q, es)] : List (Str × Addr × List PyData)).map fun g => (g.1, V.ref g.2.1)).lookup m = some (.ref q) := lookF (ds := es) _ (by simp; exact .inr fun z => nm z.symm)
  refine ⟨_, e1, x, C, dx, _, _, rfl, h1, cl, na, l1, _, e1, x, C, dx, _, _, rfl, h1, cl, na', l2, _, _, rfl, ?_⟩
  exact kn _ G _ _ hn ((r.setAt j).setAt l) (Ex.rfl G)
/-- an instance's own list changes -/
theorem ObOk.mut {H0 G H : Hp} {fs gs hs : List (Str × Addr × List PyData)} {us : List V} (h : ObOk H0 G H x C dx (fs ++ (n, p, ds) :: gs)) (hd : DtAll G us es) : ObOk H0 G (upd H p (.lst us)) x C dx (fs ++ (n, p, es) :: gs) := by
  obtain ⟨h1, h2, h3, h4, h5⟩ := h
  have ef : foot x (fs ++ (n, p, es) :: gs) = foot x (fs ++ (n, p, ds) :: gs) := by simp [foot]
  have nd := List.nodup_cons.mp h4
  have px : x ≠ p := fun z => nd.1 (by rw [z]; simp)
  have em : (fs ++ (n, p, es) :: gs).map (fun g => (g.1, V.ref g.2.1)) = (fs ++ (n, p, ds) :: gs).map fun g => (g.1, V.ref g.2.1) := by simp
  refine ⟨by rw [upd_ne px, em]; exact h1, h2, h3, by rw [ef]; exact h4, fun g hg => ?_⟩
  obtain ⟨vs0, k1, k2, k3, k4⟩ := h5 (n, p, ds) (by simp)
  have nd2 := nd.2
  rw [List.map_append, List.map_cons] at nd2
  have nd3 := List.nodup_append.mp nd2
  rcases List.mem_append.mp hg with hg | hg
  · obtain ⟨vs, a1, a2, a3, a4⟩ := h5 g (List.mem_append_left _ hg)
    have ne : g.2.1 ≠ p := fun z => nd3.2.2 g.2.1 (List.mem_map.mpr ⟨g, hg, rfl⟩) p (by simp) z
    exact ⟨vs, by rw [upd_ne ne]; exact a1, a2, a3, a4⟩
  · rcases List.mem_cons.mp hg with rfl | hg
    · exact ⟨us, upd_same, k2, k3, hd⟩
    · obtain ⟨vs, a1, a2, a3, a4⟩ := h5 g (List.mem_append_right _ (List.mem_cons_of_mem _ hg))
      have ne : g.2.1 ≠ p := fun z => (List.nodup_cons.mp nd3.2.1).1 (by
        show p ∈ _
        rw [← z]
        exact List.mem_map.mpr ⟨g, hg, rfl⟩)
      exact ⟨vs, by rw [upd_ne ne]; exact a1, a2, a3, a4⟩
theorem Rel.mutO {G0 H0 G H : Hp} {σ : L2.St} (r : Rel K G0 H0 G H σ τ) {i : Nat} {fs gs : List (Str × Addr × List PyData)} {us : List V} (hi : τ[i]? = some (.obj x C dx (fs ++ (n, p, ds) :: gs))) (hd : DtAll G us es) : Rel K G0 H0 G (upd H p (.lst us)) σ (τ.set i (.obj x C dx (fs ++ (n, p, es) :: gs))) := by
  obtain ⟨e1, h⟩ := r.obAt hi
  have ef : foot x (fs ++ (n, p, es) :: gs) = foot x (fs ++ (n, p, ds) :: gs) := by simp [foot]
  refine r.mutX (s2 := .obj x C dx (fs ++ (n, p, es) :: gs)) hi e1 (show p ∈ foot x (fs ++ (n, p, ds) :: gs) by simp [foot]) (fun z hz => ?_) ⟨rfl, ObOk.mut (hs := []) h hd⟩
  show z ∈ foot x (fs ++ (n, p, ds) :: gs)
  rw [← ef]
  exact hz
/-- append by its other name -/
theorem sd_appA {i j : Nat} {fs gs : List (Str × Addr × List PyData)} (hi : τ[i]? = some (.obj x C dx (fs ++ (n, p, ds) :: gs))) (hj : τ[j]? = some (.at_ p)) (h : ED K te τ d) (hl : ds.length < 100000) (hn : N (τ.set i (.obj x C dx (fs ++ (n, p, ds ++ [d]) :: gs)))) : SD K (tDrop (tBM K "list" rAppend (tVar j) (tCons te tNil))) τ N R := fun G0 H0 G H σ r D kn kr => by
  have hv := atOf r hj
  obtain ⟨e1, h1, h2, h3, h4, h5⟩ := r.obAt hi
  obtain ⟨vs, k1, k2, k3, k4⟩ := h5 (n, p, ds) (by simp)
  refine ⟨_, hv, .inl ⟨rfl, vs, .inl (.inl k1)⟩, h G0 H0 G H σ r _ fun v G1 H1 x1 d1 => ?_⟩
  have r1 := r.step x1
  obtain ⟨_, _, _, _, _, f5⟩ := r1.obAt hi
  obtain ⟨vs', a1, a2, a3, a4⟩ := f5 (n, p, ds) (by simp)
  refine ⟨p, vs', v, rfl, rfl, a1, szl (by rw [a4.len]; exact hl), ?_⟩
  exact kn _ G1 _ σ hn (r1.mutO hi (a4.app (.cons d1 .nil))) x1.gg
end
end Ab

namespace Ab
open PySem L2 PySem.Spec PyProof.Rows
variable [LamTab]
/-! a pair turned: t[::-1] -/
section
variable {prog : Program} {w : World} {A : Around} {E : Value → Shared → Prop} {s : Shared}
theorem sliceApplied_turn {sl : Addr} {vl vu vs : Value} {Q : Int × Int × Nat → Shared → Prop} (hs : s.heap.IsSliceOf sl vl vu vs) (pl : IsPart vl none) (pu : IsPart vu none) (ps : IsPart vs (some (-1)))
    (h : Q (1, -1, 2) s) : wpAny (model prog w) A (Builtin.Slice.sliceApplied (.ref sl) (pure ((2 : Nat) : Int))) Q E s := by
  obtain ⟨os, hos, hcs, hds⟩ := id hs
  unfold Builtin.Slice.sliceApplied Builtin.Slice.sliceFields
  refine wpAny_bind (wpAny_bind (wpAny_field hos hds (x := vl) rfl (wpAny_bind (wpAny_field hos hds (x := vu) rfl (wpAny_bind (wpAny_field hos hds (x := vs) rfl (wpAny_pure ?_)))))))
  refine wpAny_bind (HT.slicePart_ ps ?_)
  show wpAny _ _ (if ((-1 : Int) == 0) = true then _ else _) _ _ s
  rw [if_neg (by decide)]
  refine wpAny_bind (HT.slicePart_ pl (wpAny_bind (HT.slicePart_ pu (wpAny_bind (wpAny_pure ?_)))))
  exact wpAny_pure h
theorem getItem_turn {t sl : Addr} {x y : Value} {vl vu vs : Value} {Q : Value → Shared → Prop} (ht : IsTup s.heap t #[x, y]) (hs : s.heap.IsSliceOf sl vl vu vs) (pl : IsPart vl none) (pu : IsPart vu none) (ps : IsPart vs (some (-1)))
    (h : Q (.ref s.heap.objs.size) { s with heap := s.heap.push { cls := .type "tuple", data := .seq #[y, x] } }) : wpAny (model prog w) A (getItem (.ref t) (.ref sl)) Q E s := by
  obtain ⟨os, hos, hcs, hds⟩ := id hs
  have hTs : s.TypeIs (.ref sl) "slice" := ⟨os, hos, hcs⟩
  have ok : sizeOk (.seq #[y, x]) := by show (2 : Nat) ≤ sizeLine; decide
  unfold getItem
  try with_reducible refine wpAny_holding ?_
  first | refine wpAny_bind (wpAny_pure ?_) | skip
  refine wpAny_bind (wpAny_sequenceKey ht.typeIs (by decide) ?_)
  refine wpAny_bind (wpAny_callSpecial?_slot (name := Str.ofString "__getitem__") ht.typeIs PyProof.Rows.slot_tuple_getitem
    (wpAny_call_entry PyProof.Rows.slot_tuple_getitem ht.typeIs entry_tuple_getitem ?_ (args_tuple_getitem _ _)))
  show wpAny _ _ (Builtin.Tuple.tupleItemsOf (.ref t) >>= _) _ _ s
  refine wpAny_bind (tupleItemsOf_ ht ?_)
  refine wpAny_bind (wpAny_typeOf hTs ?_)
  rw [if_pos (by decide)]
  refine wpAny_bind (sliceApplied_turn hs pl pu ps ?_)
  show wpAny _ _ (if ((1 : Int) == 0 && (-1 : Int) == 1 && (2 : Nat) == 2) = true then _ else _) _ _ s
  rw [if_neg (by decide)]
  first
    | exact wpAny_bind (m := Builtin.Tuple.tupleExact _) (wpAny_newObj_type (wpAny_pure ⟨_, rfl, wpAny_pure h⟩) ok)
    | exact wpAny_bind (m := Builtin.Tuple.tupleExact _) (wpAny_newObj_type (wpAny_bind (wpAny_pure (wpAny_pure ⟨_, rfl, wpAny_pure h⟩))) ok)
    | exact wpAny_bind (wpAny_bind (m := Builtin.Tuple.tupleExact _) (wpAny_newObj_type (wpAny_pure (wpAny_pure ⟨_, rfl, wpAny_pure h⟩)) ok))
    | exact wpAny_bind (wpAny_bind (m := Builtin.Tuple.tupleExact _) (wpAny_newObj_type (wpAny_pure ⟨_, rfl, wpAny_pure h⟩) ok))
end
end Ab
namespace Ab
open PySem L2 PySem.Spec PyProof.Rows
variable [LamTab]
/-- t[::-1], t a pair -/
def tTurn (K : PySem.W.Frag) (te : TE) : TE := fun σ H Q => te σ H fun x H1 => ∃ a u v, x = .ref a ∧ SqT K H1 a [u, v] ∧ ∀ p, H1 p = none → Q (.ref p) (upd H1 p (.tup [v, u]))
section
variable {X : Cx}
theorem pe_turn {e : Expr} {te : TE} {k : Nat} {p1 p2 p3 pos : Pos} (he : PE X e te) : PE X (.Subscript e (.Slice none none (some (.UnaryOp .USub (.Constant (.int 1) k p1) p2)) p3) pos) (tTurn X.K te) := by
  have hst : PO X (some (.UnaryOp .USub (.Constant (.int 1) k p1) p2)) (tPart (tUn (rU fun i => .int (-i)) (tC (.int 1)))) := po_some (pe_un un_neg pe_int)
  refine ⟨fun pins s σ H Q I h => Subscript_ (thn (he.run pins s σ H _ I h) fun v s1 ⟨x, H1, I1, r1, a, y, z, ex, hx, q⟩ => ?_)⟩
  subst ex
  cases r1
  refine wpAny_Slice (thn (po_none.run pins s1 σ H1 (fun o H2 => o = none ∧ H2 = H1) I1 ⟨rfl, rfl⟩) fun vl s2 ⟨_, _, I2, pl, el, e2⟩ => ?_)
  subst el e2
  refine thn (po_none.run pins s2 σ _ (fun o H3 => o = none ∧ H3 = _) I2 ⟨rfl, rfl⟩) fun vu s3 ⟨_, _, I3, pu, eu, e3⟩ => ?_
  subst eu e3
  refine thn (hst.run pins s3 σ _ (fun o H4 => o = some (-1) ∧ H4 = _) I3 ⟨1, rfl, -1, rfl, rfl, rfl⟩) fun vs s4 ⟨_, _, I4, ps, eo, e4⟩ => ?_
  subst eo e4
  have I5 : Inv X pins σ _ { s4 with heap := s4.heap.push { cls := .type "slice", data := .fields #[vl, vu, vs] } } := I4.kept (t' := s4.toks) fun b ob q => Heap.get?_push_of_some _ q
  obtain ⟨its, r, ht, hz⟩ := I5.tuple hx
  obtain ⟨y', z', rfl, ry, rz⟩ := vals2 r
  show wpAny (model X.prog X.w) X.A (subscriptTail e (.Slice none none (some (.UnaryOp .USub (.Constant (.int 1) k p1) p2)) p3) (.ref a) (.ref s4.heap.objs.size)) (EP X pins σ Q) X.xe { s4 with heap := s4.heap.push { cls := .type "slice", data := .fields #[vl, vu, vs] } }
  refine tail_any (ops := [.ref a, .ref s4.heap.objs.size]) ht.typeIs (PyProof.Rows.slot_tuple_getitem.lookup) ?_ (by with_unfolding_all rfl)
  refine getItem_turn ht (Heap.IsSliceOf.new _ vl vu vs) pl pu ps ?_
  refine ⟨.ref _, _, I5.laid (t' := s4.toks) (o := .tup [z, y]) (fun b ob q => Heap.get?_push_of_some _ q) (Nat.le_refl _) ?_, rfl, q _ (I5.hok.fresh (Nat.le_refl _))⟩
  exact ⟨by show (2 : Nat) ≤ sizeLine; decide, _, .cons rz (.cons ry .nil), IsTup.new _ _⟩
theorem turnK {K : PySem.W.Frag} {e : Expr} {te : TE} {k : Nat} {p1 p2 p3 pos : Pos} (h : X.K = K) (he : PE X e te) : PE X (.Subscript e (.Slice none none (some (.UnaryOp .USub (.Constant (.int 1) k p1) p2)) p3) pos) (tTurn K te) := by subst h; exact pe_turn he
end
section
variable {K : PySem.W.Frag} {τ : Sls} {ta : TE} {d e : PyData}
theorem ed_turn (h : ED K ta τ (.tuple [d, e])) : ED K (tTurn K ta) τ (.tuple [e, d]) := fun G0 H0 G H σ R Q q => h G0 H0 G H σ R _ fun v G1 H1 x1 d1 => by
  obtain ⟨a, vs, rfl, e1, a1⟩ := Dt.tup_of d1
  cases a1 with
  | cons b1 a1 =>
    cases a1 with
    | cons b2 a1 =>
      cases a1
      refine ⟨a, _, _, rfl, .inl (.inl (x1.gh _ _ e1)), fun p hp => ?_⟩
      exact q _ _ _ (x1.tr (Ext.new x1.gh hp)) (.tup upd_same (.cons (Dt.ex (Ex.upd (x1.gh.none hp)) b2) (.cons (Dt.ex (Ex.upd (x1.gh.none hp)) b1) .nil)))
end
end Ab

namespace Ab
open PySem L2 PySem.Spec PyProof.Rows PySem.W
variable [LamTab]
/-! min of a list of data; ways that part -/
def rMinD (K : PySem.W.Frag) : List V → Hp → VK → Prop := fun vs H Q => ∃ (a : Addr) (xs : List V) (d : PyData) (ds : List PyData), vs = [.ref a] ∧ SqL K H a xs ∧ DpAll K H xs (d :: ds) ∧ AlikeAll (d :: ds) ∧ PyData.depthAll (d :: ds) ≤ 8 ∧
  ∀ (i : Nat) (v : V), xs[i]? = some v → (d :: ds)[i]? = some (minD d ds) → Q v H
theorem vals_at : ∀ {xs : List V} {us : List Value} {i : Nat} {v : Value}, Vals xs us → us[i]? = some v → ∃ x, xs[i]? = some x ∧ RelV x v
  | _, _, _, _, .nil, e => by simp at e
  | _, _, 0, _, .cons r _, e => by simp at e; subst e; exact ⟨_, rfl, r⟩
  | _, _, i + 1, v, .cons _ t, e => by
    obtain ⟨x, h1, h2⟩ := vals_at (i := i) (v := v) t (by simpa using e)
    exact ⟨x, by simpa using h1, h2⟩
theorem readsAll_at' {h : Heap} : ∀ {us : List Value} {ds : List PyData} {as : List Addr} {i : Nat} {v : Value}, ReadsAll h us ds as → us[i]? = some v → ∃ d bs, ds[i]? = some d ∧ Reads h v d bs
  | _, _, _, _, _, .nil, e => by simp at e
  | _, _, _, 0, _, .cons r _, e => by simp at e; subst e; exact ⟨_, _, rfl, r⟩
  | _, _, _, i + 1, v, .cons _ t, e => by
    obtain ⟨d, bs, h1, h2⟩ := readsAll_at' (i := i) (v := v) t (by simpa using e)
    exact ⟨d, bs, by simpa using h1, h2⟩
section
variable {X : Cx}
theorem all_reads {pins : List (Addr × Obj)} {σ : L2.St} {H : Hp} {s : Shared} (I : Inv X pins σ H s) : ∀ {xs : List V} {us : List Value} {ds : List PyData}, Vals xs us → DpAll X.K H xs ds → ∃ as, ReadsAll s.heap us ds as
  | _, _, _, .nil, .nil => ⟨[], .nil⟩
  | _, _, _, .cons r t, .cons h q => by
    obtain ⟨a, ha⟩ := Dp.reads I _ _ _ h r
    obtain ⟨b, hb⟩ := all_reads I t q
    exact ⟨_, .cons ha hb⟩
theorem cr_minD {k : Nat} (hc : X.calm = true) (hr : Room k X.A) : CallR X (.builtin "min") (rMinD X.K) := by
  intro pins s σ H vs us Q I r h
  obtain ⟨a, xs, d, ds, rfl, hl, hd, hal, hdp, q⟩ := h
  rw [Vals.ref1 r]
  obtain ⟨its, rv, pl, hz⟩ := I.list hl
  obtain ⟨as, hra⟩ := all_reads I rv hd
  have hu := hr.units
  refine min_list_data (I.ok.hd hc) pl.isList (by simpa using hra) hal (by omega) fun i v h' tk bs hv hr' hk => ?_
  have hv' : its[i]? = some v := by simpa using hv
  obtain ⟨x, h1, h2⟩ := vals_at rv hv'
  obtain ⟨e, cs, h3, h4⟩ := readsAll_at' hra hv'
  have h5 := (reads_det (h := s.heap) (h' := h') (fun b o e _ => hk b o e) h4 hr').1
  rw [← h5] at h3
  exact ⟨x, H, I.kept (t' := tk) hk, h2, q i x h1 h3⟩
theorem minDK {K : PySem.W.Frag} {k : Nat} (hc : X.calm = true) (hr : Room k X.A) (h : X.K = K) : CallR X (.builtin "min") (rMinD K) := by subst h; exact cr_minD hc hr
end
section
variable {K : PySem.W.Frag} {τ : Sls} {ta tb tc td te : TE} {d e f : PyData} {t u : TT} {tr : TA} {S S' : Sl → Prop}
theorem ed_minD {ds : List PyData} (ha : ED K ta τ (.list (d :: ds))) (hal : AlikeAll (d :: ds)) (hdp : PyData.depthAll (d :: ds) ≤ 8) (hc : PyData.canLayAll0 (d :: ds) = true) : ED K (tCB (rMinD K) (tCons ta tNil)) τ (minD d ds) := ed_cb (ea1 ha) fun G H vs x a Q q => by
  obtain ⟨v, rfl, h⟩ := args1 a
  obtain ⟨p, us, rfl, e1, a1⟩ := Dt.lst_of h
  refine ⟨p, us, d, ds, rfl, .inl (.inl (x _ _ e1)), DtAll.dp (DtAll.ex x a1) hc, hal, hdp, fun i v hv hd => ?_⟩
  obtain ⟨w, k1, k2⟩ := a1.at hd
  rw [hv] at k1
  cases k1
  exact q _ G H (Ext.rfl x) k2
theorem en_if {b : Bool} (h : ET K t τ b) (h1 : b = true → EN K ta τ S) (h2 : b = false → EN K tb τ S) : EN K (tIf t ta tb) τ S := fun G0 H0 G H σ R Q q => h G0 H0 G H σ R _ fun G1 H1 x1 => by
  cases b with
  | true => rw [if_pos rfl]; exact h1 rfl G0 H0 G1 H1 σ (R.step x1) Q fun v s G2 H2 hs x2 d2 => q v s G2 H2 hs (x1.tr x2) (d2.back x1.hh)
  | false => rw [if_neg Bool.false_ne_true]; exact h2 rfl G0 H0 G1 H1 σ (R.step x1) Q fun v s G2 H2 hs x2 d2 => q v s G2 H2 hs (x1.tr x2) (d2.back x1.hh)
end
end Ab

/-! plain: the laying by rising begins, crowds -/
namespace Pl
abbrev Show := Int × Int × Int
def held (e : Int × Int) (s : Show) : Int × Int := (max 0 (s.1 - e.1), min 24 (s.2.1 + e.2))
def shAt (day : List Show) (p : Int) : Show := day.getD p.toNat (0, 0, 0)
/-- begins, ends, worths -/
def okS (s : Show) : Prop := 0 ≤ s.1 ∧ s.1 < s.2.1 ∧ s.2.1 ≤ 24 ∧ 0 ≤ s.2.2 ∧ s.2.2 ≤ 60
def okE (e : Int × Int) : Prop := 0 ≤ e.1 ∧ e.1 ≤ 2 ∧ 0 ≤ e.2 ∧ e.2 ≤ 2
def okDay (day : List Show) : Prop := day.length ≤ 10 ∧ ∀ s ∈ day, okS s
def okP (n : Nat) (ps : List Int) : Prop := ∀ p ∈ ps, 0 ≤ p ∧ p < n
/-- it holds a tuner at t -/
def inH (h : Int × Int) (t : Int) : Bool := decide (h.1 ≤ t ∧ t < h.2)
abbrev Ln := (Int × Int) × Int
def leL (a b : Ln) : Bool := if a.1.1 = b.1.1 then (if a.1.2 = b.1.2 then decide (a.2 ≤ b.2) else decide (a.1.2 ≤ b.1.2)) else decide (a.1.1 ≤ b.1.1)
def lineOf (e : Int × Int) (day : List Show) (ps : List Int) : List Ln := ps.mapIdx fun i p => (held e (shAt day p), (i : Int))
def getI (l : List Int) (i : Nat) : Int := l.getD i 0
/-- the tuners that are free at f -/
def opens (m : Nat) (free : List Int) (f : Int) : List Nat := (List.range m).filter fun o => decide (getI free o ≤ f)
def laidGo (m : Nat) : List Ln → List Int → List Int → List Int × Option Int
  | [], _, found => (found, none)
  | x :: r, free, found => match opens m free x.1.1 with
    | [] => (found, some x.1.1)
    | o :: _ => laidGo m r (free.set o x.1.2) (found.set x.2.toNat (o : Int))
def laidOf (m : Nat) (e : Int × Int) (day : List Show) (ps : List Int) : List Int × Option Int :=
  laidGo m ((lineOf e day ps).mergeSort leL) (List.replicate m 0) (List.replicate ps.length 0)
/-- how many of them hold t -/
def cntL (l : List Ln) (t : Int) : Nat := (l.filter fun x => inH x.1 t).length
def cnt (e : Int × Int) (day : List Show) (ps : List Int) (t : Int) : Nat := (ps.filter fun p => inH (held e (shAt day p)) t).length

/-! ### lists -/
theorem len_sub {α : Type} [DecidableEq α] : ∀ {a b : List α}, a.Nodup → (∀ x ∈ a, x ∈ b) → a.length ≤ b.length
  | [], _, _, _ => Nat.zero_le _
  | x :: a, b, hn, hs => by
    have hx := hs x (by simp)
    have hn' := List.nodup_cons.mp hn
    have h := len_sub (a := a) (b := b.erase x) hn'.2 fun y hy => by
      have hy' := hs y (List.mem_cons_of_mem _ hy)
      have ne : y ≠ x := fun e => hn'.1 (e ▸ hy)
      exact (List.mem_erase_of_ne ne).mpr hy'
    rw [List.length_erase_of_mem hx] at h
    have : 0 < b.length := List.length_pos_of_mem hx
    simp only [List.length_cons]
    omega

/-! ### what stands behind some turns -/
structure Dn where
  h : Int × Int
  o : Nat
def cntD (l : List Dn) (t : Int) : Nat := (l.filter fun x => inH x.h t).length
structure InvG (m : Nat) (dn : List Dn) (free : List Int) (f : Int) : Prop where
  fl : free.length = m
  lo : ∀ x ∈ dn, x.o < m ∧ x.h.2 ≤ getI free x.o ∧ x.h.1 ≤ f ∧ 0 ≤ x.h.1
  pw : dn.Pairwise fun x y => x.o = y.o → x.h.2 ≤ y.h.1
  src : ∀ o, o < m → getI free o ≤ 0 ∨ ∃ x ∈ dn, x.o = o ∧ x.h.2 = getI free o
theorem getI_set {l : List Int} {o p : Nat} {v : Int} (h : o < l.length) : getI (l.set o v) p = if p = o then v else getI l p := by
  unfold getI
  rw [List.getD_eq_getElem?_getD, List.getD_eq_getElem?_getD]
  by_cases c : p = o
  · subst c; rw [if_pos rfl, List.getElem?_set_self h]; rfl
  · rw [if_neg c, List.getElem?_set_ne (fun e => c e.symm)]
theorem mem_opens {m o : Nat} {free : List Int} {f : Int} : o ∈ opens m free f ↔ o < m ∧ getI free o ≤ f := by
  unfold opens
  rw [List.mem_filter, List.mem_range]
  simp
theorem invG_turn {m : Nat} {dn : List Dn} {free : List Int} {f : Int} {h : Int × Int} {o : Nat} (g : InvG m dn free f) (hf : f ≤ h.1) (h0 : 0 ≤ h.1) (hh : h.1 < h.2) (ho : o ∈ opens m free h.1) : InvG m (dn ++ [⟨h, o⟩]) (free.set o h.2) h.1 := by
  obtain ⟨o1, o2⟩ := mem_opens.mp ho
  have ol : o < free.length := by rw [g.fl]; exact o1
  refine ⟨by rw [List.length_set]; exact g.fl, fun x hx => ?_, ?_, fun p hp => ?_⟩
  · rw [getI_set ol]
    rcases List.mem_append.mp hx with hx | hx
    · obtain ⟨a, b, c, d⟩ := g.lo x hx
      refine ⟨a, ?_, by omega, d⟩
      by_cases e : x.o = o
      · rw [if_pos e]
        rw [e] at b
        omega
      · rw [if_neg e]; exact b
    · have e : x = ⟨h, o⟩ := by simpa using hx
      subst e
      exact ⟨o1, by rw [if_pos rfl]; exact Int.le_refl _, Int.le_refl _, h0⟩
  · rw [List.pairwise_append]
    refine ⟨g.pw, List.pairwise_singleton _ _, fun x hx y hy e => ?_⟩
    have ey : y = ⟨h, o⟩ := by simpa using hy
    subst ey
    obtain ⟨a, b, c, d⟩ := g.lo x hx
    have e' : x.o = o := e
    rw [e'] at b
    show x.h.2 ≤ h.1
    omega
  · rw [getI_set ol]
    by_cases e : p = o
    · rw [if_pos e]
      exact .inr ⟨⟨h, o⟩, by simp, e.symm, rfl⟩
    · rw [if_neg e]
      rcases g.src p hp with s | ⟨x, hx, h1, h2⟩
      · exact .inl s
      · exact .inr ⟨x, List.mem_append_left _ hx, h1, h2⟩
theorem nodup_tuners {l : List Dn} {t : Int} (pw : l.Pairwise fun x y => x.o = y.o → x.h.2 ≤ y.h.1) : ((l.filter fun x => inH x.h t).map Dn.o).Nodup := by
  have p2 := pw.filter (fun x => inH x.h t)
  rw [List.Nodup, List.pairwise_map]
  refine List.Pairwise.imp_of_mem (fun {x y} hx hy h e => ?_) p2
  have h1 := (List.mem_filter.mp hx).2
  have h2 := (List.mem_filter.mp hy).2
  unfold inH at h1 h2
  simp only [decide_eq_true_eq] at h1 h2
  have := h e
  omega
theorem cnt_le {m : Nat} {dn : List Dn} {free : List Int} {f t : Int} (g : InvG m dn free f) : cntD dn t ≤ m := by
  have nd := nodup_tuners (t := t) g.pw
  have h := len_sub nd (b := List.range m) fun o ho => by
    obtain ⟨x, hx, rfl⟩ := List.mem_map.mp ho
    exact List.mem_range.mpr (g.lo x (List.mem_filter.mp hx).1).1
  rw [List.length_map, List.length_range] at h
  exact h
theorem cnt_full {m : Nat} {dn : List Dn} {free : List Int} {f g' : Int} (g : InvG m dn free f) (hf : f ≤ g') (h0 : 0 ≤ g') (ho : opens m free g' = []) : m ≤ cntD dn g' := by
  have h := len_sub (a := List.range m) (b := (dn.filter fun x => inH x.h g').map Dn.o) List.nodup_range fun o ho' => by
    have om := List.mem_range.mp ho'
    have no : ¬ getI free o ≤ g' := fun z => by
      have : o ∈ opens m free g' := mem_opens.mpr ⟨om, z⟩
      rw [ho] at this
      cases this
    rcases g.src o om with s | ⟨x, hx, h1, h2⟩
    · omega
    · obtain ⟨a, b, c, d⟩ := g.lo x hx
      refine List.mem_map.mpr ⟨x, List.mem_filter.mpr ⟨hx, ?_⟩, h1⟩
      unfold inH
      simp only [decide_eq_true_eq]
      omega
  rw [List.length_range, List.length_map] at h
  exact h

/-! ### the whole go -/
def dnOf (x : Ln) (o : Nat) : Dn := ⟨x.1, o⟩
/-- the tuners are found, or a moment that is too full -/
theorem laidGo_none {m : Nat} : ∀ (l : List Ln) (dn : List Dn) (free found : List Int) (f : Int), InvG m dn free f → (∀ x ∈ l, f ≤ x.1.1 ∧ 0 ≤ x.1.1 ∧ x.1.1 < x.1.2) → (l.Pairwise fun a b => a.1.1 ≤ b.1.1) →
    match (laidGo m l free found).2 with
    | none => ∀ t, cntD dn t + cntL l t ≤ m
    | some g => m < cntD dn g + cntL l g ∧ ∃ x ∈ l, g = x.1.1
  | [], dn, free, found, f, g, _, _ => fun t => by
    have := cnt_le (t := t) g
    show cntD dn t + cntL [] t ≤ m
    unfold cntL
    simpa using this
  | x :: r, dn, free, found, f, g, hx, pw => by
    have px := List.pairwise_cons.mp pw
    obtain ⟨x1, x2, x3⟩ := hx x (by simp)
    unfold laidGo
    cases ho : opens m free x.1.1 with
    | nil =>
      have h := cnt_full g x1 x2 ho
      refine ⟨?_, x, by simp, rfl⟩
      have : inH x.1 x.1.1 = true := by unfold inH; simp only [decide_eq_true_eq]; omega
      unfold cntL
      rw [List.filter_cons_of_pos (p := fun y : Ln => inH y.1 x.1.1) this, List.length_cons]
      omega
    | cons o os =>
      have hm : o ∈ opens m free x.1.1 := by rw [ho]; simp
      have g' := invG_turn g x1 x2 x3 hm
      have ih := laidGo_none r (dn ++ [⟨x.1, o⟩]) (free.set o x.1.2) (found.set x.2.toNat (o : Int)) x.1.1 g' (fun y hy => ⟨px.1 y hy, (hx y (List.mem_cons_of_mem _ hy)).2⟩) px.2
      have ct : ∀ t, cntD (dn ++ [⟨x.1, o⟩]) t + cntL r t = cntD dn t + cntL (x :: r) t := fun t => by
        unfold cntD cntL
        rw [List.filter_append, List.length_append]
        by_cases c : inH x.1 t = true
        · rw [List.filter_cons_of_pos (p := fun x : Dn => inH x.h t) (a := ⟨x.1, o⟩) c, List.filter_cons_of_pos (p := fun x : Ln => inH x.1 t) c]
          simp only [List.filter_nil, List.length_cons, List.length_nil]
          omega
        · rw [List.filter_cons_of_neg (p := fun x : Dn => inH x.h t) (a := ⟨x.1, o⟩) c, List.filter_cons_of_neg (p := fun x : Ln => inH x.1 t) c]
          simp only [List.filter_nil, List.length_nil]
          omega
      dsimp only
      cases hq : (laidGo m r (free.set o x.1.2) (found.set x.2.toNat (o : Int))).2 with
      | none =>
        rw [hq] at ih
        intro t
        have := ih t
        rw [ct] at this
        exact this
      | some q =>
        rw [hq] at ih
        obtain ⟨a, y, hy, e⟩ := ih
        rw [ct] at a
        exact ⟨a, y, List.mem_cons_of_mem _ hy, e⟩

/-! ### sorted -/
theorem leL_trans (a b c : Ln) (h1 : leL a b = true) (h2 : leL b c = true) : leL a c = true := by
  obtain ⟨⟨a1, a2⟩, a3⟩ := a
  obtain ⟨⟨b1, b2⟩, b3⟩ := b
  obtain ⟨⟨c1, c2⟩, c3⟩ := c
  unfold leL at *
  dsimp only at *
  repeat' split at h1
  all_goals repeat' split at h2
  all_goals repeat' split
  all_goals simp only [decide_eq_true_eq] at *
  all_goals omega
theorem leL_total (a b : Ln) : (leL a b || leL b a) = true := by
  obtain ⟨⟨a1, a2⟩, a3⟩ := a
  obtain ⟨⟨b1, b2⟩, b3⟩ := b
  unfold leL
  dsimp only
  rw [Bool.or_eq_true]
  repeat' split
  all_goals simp only [decide_eq_true_eq]
  all_goals omega
theorem leL_fst {a b : Ln} (h : leL a b = true) : a.1.1 ≤ b.1.1 := by
  unfold leL at h
  repeat' split at h
  all_goals simp only [decide_eq_true_eq] at h
  all_goals omega
theorem sorted_line (l : List Ln) : (l.mergeSort leL).Pairwise fun a b => a.1.1 ≤ b.1.1 :=
  (List.pairwise_mergeSort leL_trans leL_total l).imp leL_fst
theorem inv0 (m : Nat) : InvG m [] (List.replicate m 0) 0 := by
  refine ⟨by simp, (fun x hx => by cases hx), List.Pairwise.nil, fun o ho => .inl ?_⟩
  unfold getI
  rw [List.getD_eq_getElem?_getD, List.getElem?_replicate, if_pos ho]
  exact Int.le_refl _
theorem line_mem {e : Int × Int} {day : List Show} {ps : List Int} {x : Ln} (h : x ∈ lineOf e day ps) : ∃ p ∈ ps, x.1 = held e (shAt day p) := by
  unfold lineOf at h
  obtain ⟨i, hi, e⟩ := List.mem_mapIdx.mp h
  exact ⟨ps[i], List.getElem_mem hi, by rw [← e]⟩
theorem cnt_line (e : Int × Int) (day : List Show) (t : Int) (ps : List Int) : cntL (lineOf e day ps) t = cnt e day ps t := by
  unfold cntL cnt lineOf
  suffices h : ∀ (f : Nat → Int → Ln), (∀ i p, (f i p).1 = held e (shAt day p)) → ((ps.mapIdx f).filter fun x => inH x.1 t).length = (ps.filter fun p => inH (held e (shAt day p)) t).length from h _ fun _ _ => rfl
  induction ps with
  | nil => intro f _; simp
  | cons p ps ih =>
    intro f hf
    rw [List.mapIdx_cons]
    have ih' := ih (fun i => f (i + 1)) fun i p => hf (i + 1) p
    by_cases c : inH (held e (shAt day p)) t = true
    · rw [List.filter_cons_of_pos (p := fun x : Ln => inH x.1 t) (by rw [hf]; exact c), List.filter_cons_of_pos (p := fun p => inH (held e (shAt day p)) t) c, List.length_cons, List.length_cons, ih']
    · rw [List.filter_cons_of_neg (p := fun x : Ln => inH x.1 t) (by rw [hf]; exact c), List.filter_cons_of_neg (p := fun p => inH (held e (shAt day p)) t) c, ih']
theorem cntL_perm {a b : List Ln} (h : a.Perm b) (t : Int) : cntL a t = cntL b t := (h.filter _).length_eq
theorem shAt_mem {day : List Show} {p : Int} (h0 : 0 ≤ p) (h1 : p < day.length) : shAt day p ∈ day := by
  unfold shAt
  have hl : p.toNat < day.length := by omega
  rw [List.getD_eq_getElem?_getD, List.getElem?_eq_getElem hl]
  exact List.getElem_mem hl
theorem held_ok {e : Int × Int} {s : Show} (he : okE e) (hs : okS s) : 0 ≤ (held e s).1 ∧ (held e s).1 < (held e s).2 ∧ (held e s).1 < 24 ∧ (held e s).2 ≤ 24 := by
  obtain ⟨a, b, c, d⟩ := he
  obtain ⟨f, g, h, i, j⟩ := hs
  unfold held
  dsimp only
  omega
theorem laid_spec {m : Nat} {e : Int × Int} {day : List Show} {ps : List Int} (he : okE e) (hd : ∀ s ∈ day, okS s) (hp : okP day.length ps) :
    match (laidOf m e day ps).2 with
    | none => ∀ t, cnt e day ps t ≤ m
    | some g => m < cnt e day ps g ∧ 0 ≤ g ∧ g < 24 := by
  have pm : ((lineOf e day ps).mergeSort leL).Perm (lineOf e day ps) := List.mergeSort_perm _ _
  have ok : ∀ x ∈ (lineOf e day ps).mergeSort leL, 0 ≤ x.1.1 ∧ x.1.1 < x.1.2 ∧ x.1.1 < 24 := fun x hx => by
    obtain ⟨p, hp', ex⟩ := line_mem (pm.mem_iff.mp hx)
    obtain ⟨p0, p1⟩ := hp p hp'
    obtain ⟨a, b, c, d⟩ := held_ok he (hd _ (shAt_mem p0 p1))
    rw [ex]
    exact ⟨a, b, c⟩
  have h := laidGo_none (m := m) ((lineOf e day ps).mergeSort leL) [] (List.replicate m 0) (List.replicate ps.length 0) 0 (inv0 m) (fun x hx => ⟨(ok x hx).1, (ok x hx).1, (ok x hx).2.1⟩) (sorted_line _)
  unfold laidOf
  have c0 : ∀ t, cntD [] t = 0 := fun t => rfl
  cases hq : (laidGo m ((lineOf e day ps).mergeSort leL) (List.replicate m 0) (List.replicate ps.length 0)).2 with
  | none =>
    rw [hq] at h
    intro t
    have := h t
    rw [cntL_perm pm, cnt_line, c0] at this
    omega
  | some g =>
    rw [hq] at h
    obtain ⟨a, x, hx, rfl⟩ := h
    rw [cntL_perm pm, cnt_line, c0] at a
    exact ⟨by omega, (ok x hx).1, (ok x hx).2.2⟩
theorem laid_none {m : Nat} {e : Int × Int} {day : List Show} {ps : List Int} (he : okE e) (hd : ∀ s ∈ day, okS s) (hp : okP day.length ps) : (laidOf m e day ps).2 = none ↔ ∀ t, 0 ≤ t → t < 24 → cnt e day ps t ≤ m := by
  have h := laid_spec (m := m) he hd hp
  constructor
  · intro z
    rw [z] at h
    exact fun t _ _ => h t
  · intro z
    cases hq : (laidOf m e day ps).2 with
    | none => rfl
    | some g =>
      rw [hq] at h
      obtain ⟨a, b, c⟩ := h
      have := z g b c
      omega
end Pl

namespace Ab
open PySem L2 PySem.Spec PyProof.Rows
variable [LamTab]
/-! sets of pairs: to 76 of them (a table of 128 places), out of a list of any length -/
section
variable {P : Program} {w : World} {A : Around} {E : Value → Shared → Prop} {s : Shared} {a : Addr} {L : List (Addr × List Int)} {es : Array (Int × Value)} {ep : Nat} {t : SetTable}
structure TupSet (P : Program) (w : World) (h : Heap) (a : Addr) (L : List (Addr × List Int)) (es : Array (Int × Value)) (ep : Nat) (t : SetTable) : Prop where
  thing : ∃ o, h.get? a = some o ∧ o.ExactSet ∧ o.data = .set es ep t
  lines : es.toList = rowsOf P w L
  table : TabOk t (L.map fun p => thash P w p.2)
  once : (L.map (·.2)).Nodup
  each : ∀ p ∈ L, IsT P w h p.2 p.1
  quiet : t.plain = true
  lead : w.params.followText "set-order" = true ∨ t.led = true
  low : L.length * 5 < t.mask * 3
theorem TupSet.len (T : TupSet P w s.heap a L es ep t) : es.size = L.length := by
  rw [← Array.length_toList, T.lines]
  exact List.length_map ..
theorem TupSet.holds (T : TupSet P w s.heap a L es ep t) : t.fits es.size = true := by
  have z1 := T.table.sz
  rw [List.length_map] at z1
  have z2 := T.len
  have z3 := T.low
  have z4 : t.fill = t.place.size := by
    unfold SetTable.fill
    rw [T.table.dm]
    rfl
  unfold SetTable.fits
  rw [z4, z1, z2]
  simp
  omega
theorem TupSet.line (T : TupSet P w s.heap a L es ep t) {i : Nat} {p : Addr × List Int} (h : L[i]? = some p) : es[i]? = some (thash P w p.2, Value.ref p.1) := by
  have : es.toList[i]? = some (thash P w p.2, Value.ref p.1) := by
    rw [T.lines]
    show (L.map _)[i]? = _
    rw [List.getElem?_map, h]
    rfl
  rwa [Array.getElem?_toList] at this
theorem TupSet.stands (T : TupSet P w s.heap a L es ep t) : t.gaveWay ≠ true := by
  intro z
  unfold SetTable.gaveWay at z
  rw [mask_odd T.table.mok] at z
  cases z
theorem nth_calm {m : Nat} : ∀ (n : Nat) {p : SetTable.Probe}, p.dummy = none → (nth m p n).dummy = none
  | 0, p, h => h
  | n + 1, p, h => by
    have : (adv m p).dummy = none := by
      unfold adv
      split <;> exact h
    exact nth_calm n this
/-- a candidate looked at -/
theorem TupSet.met (T : TupSet P w s.heap a L es ep t) {x : Addr} {k : List Int} (hx : IsT P w s.heap k x) (hu : A.units < cLine) {i j n : Nat} {p : Addr × List Int} (hp : L[i]? = some p) (hj : t.place.toList[i]? = some j) {g : Int} {nx : SetTable.Probe} {Q : SetFound → Shared → Prop}
    (yes : p.2 = k → Q (.there none) s) (no : p.2 ≠ k → wpAny (model P w) A (setSearchFrom a (.ref x) g true n (some nx)) Q E s) : wpAny (model P w) A (searchRest a (.ref x) g true n es t j i nx) Q E s := by
  obtain ⟨o, ho, _, hd⟩ := T.thing
  have hl := slot_live T.table.ris hj
  have he := T.line hp
  have hq := T.each p (List.mem_of_getElem? hp)
  have hh := T.holds
  unfold searchRest
  simp only [he]
  refine wpAny_bind (wpAny_holding (wpAny_eqBool_tuple hu hq hx (wpAny_bind (wpAny_setState_of ho hd hh ?_))))
  dsimp only
  by_cases c : p.2 = k
  · exact wp_if_pos (by simp [c]) (wpAny_pure (yes c))
  · refine wp_if_neg (by simp [c]) ?_
    try refine wpAny_bind (wpAny_pure ?_)
    simp only [sameMem, if_true, hl, he]
    refine wpAny_bind (wpAny_isSame_ref_self (wpAny_bind (wpAny_pure ?_)))
    simp only [if_true]
    exact wp_if_neg (by simp [c]) (no c)
/-- sought from a step of its way on -/
theorem TupSet.seek (T : TupSet P w s.heap a L es ep t) {x : Addr} {k : List Int} (hx : IsT P w s.heap k x) (hu : A.units < cLine) {M : Nat} (m0 : M < 10 * SetTable.turns t.mask) (m1 : way t.mask (thash P w k) M ∉ t.place.toList) (m2 : ∀ c, c < M → way t.mask (thash P w k) c ∈ t.place.toList)
    {Q : SetFound → Shared → Prop} (yes : k ∈ L.map (·.2) → Q (.there none) s) (no : k ∉ L.map (·.2) → Q (.free (way t.mask (thash P w k) M) false) s) (n : Nat) : ∀ (c : Nat) (z : Option SetTable.Probe),
      z.getD (t.probeStart (thash P w k)) = nth t.mask (runAt t.mask (SetTable.bits (thash P w k) % (t.mask + 1)) (SetTable.bits (thash P w k))) c → c ≤ M → M - c < n → (∀ (i : Nat) p, L[i]? = some p → p.2 = k → ∃ c', c ≤ c' ∧ c' < M ∧ t.place.toList[i]? = some (way t.mask (thash P w k) c')) →
      wpAny (model P w) A (setSearchFrom a (.ref x) (thash P w k) true n z) Q E s := by
  have step : ∀ c q, nth t.mask (nth t.mask (runAt t.mask (SetTable.bits (thash P w k) % (t.mask + 1)) (SetTable.bits (thash P w k))) c) q = nth t.mask (runAt t.mask (SetTable.bits (thash P w k) % (t.mask + 1)) (SetTable.bits (thash P w k))) (c + q) := fun c q => (nth_add t.mask c _ q).symm
  have stepj : ∀ c q, (nth t.mask (nth t.mask (runAt t.mask (SetTable.bits (thash P w k) % (t.mask + 1)) (SetTable.bits (thash P w k))) c) q).j = way t.mask (thash P w k) (c + q) := fun c q => by rw [step]
  have hash_of : ∀ (i : Nat) p, L[i]? = some p → (es[i]?.map (·.1)).getD 0 = thash P w p.2 := fun i p hp => by rw [T.line hp]; rfl
  have sizes : t.place.toList.length = L.length := by
    have := T.table.sz
    rw [List.length_map] at this
    simpa using this
  induction n with
  | zero => intro c z _ _ h _; omega
  | succ n ih =>
    intro c z hz hc hn hre
    obtain ⟨o, ho, _, hd⟩ := T.thing
    rw [setSearchFrom_succ]
    refine wpAny_bind (wpAny_setState_of ho hd T.holds ?_)
    dsimp only
    refine wp_if_neg T.stands ?_
    try refine wpAny_bind (wpAny_pure ?_)
    have found := go_spec t T.table.ris T.table.dm (fun i => (es[i]?.map (·.1)).getD 0) (thash P w k) (10 * SetTable.turns t.mask) (M - c) (nth t.mask (runAt t.mask (SetTable.bits (thash P w k) % (t.mask + 1)) (SetTable.bits (thash P w k))) c) (nth_calm c rfl) (by omega)
      (fun q hq => by rw [stepj]; exact m2 _ (by omega)) (by rw [stepj, show c + (M - c) = M by omega]; exact m1)
    rcases found with ⟨q, i, hq, hi, hh, none_before, res⟩ | ⟨none_there, res⟩
    · rw [stepj] at hi
      rw [stepj, step] at res
      have res' : t.probe (fun i => (es[i]?.map (·.1)).getD 0) (thash P w k) (z.getD (t.probeStart (thash P w k))) = some (.candidate (way t.mask (thash P w k) (c + q)) i (nth t.mask (runAt t.mask (SetTable.bits (thash P w k) % (t.mask + 1)) (SetTable.bits (thash P w k))) (c + (q + 1)))) := by
        rw [hz]
        exact res
      rw [res']
      dsimp only
      have hil : i < L.length := by
        rw [← sizes]
        exact (List.getElem?_eq_some_iff.mp hi).1
      have hp : L[i]? = some L[i] := List.getElem?_eq_getElem hil
      have go : wpAny (model P w) A (searchRest a (.ref x) (thash P w k) true n es t (way t.mask (thash P w k) (c + q)) i (nth t.mask (runAt t.mask (SetTable.bits (thash P w k) % (t.mask + 1)) (SetTable.bits (thash P w k))) (c + (q + 1)))) Q E s := by
        refine T.met hx hu hp hi (fun e => yes (List.mem_map.mpr ⟨_, List.getElem_mem hil, e⟩)) fun ne => ih (c + (q + 1)) _ rfl (by omega) (by omega) fun i' p' hp' hk' => ?_
        obtain ⟨c', u1, u2, u3⟩ := hre i' p' hp' hk'
        refine ⟨c', ?_, u2, u3⟩
        rcases Nat.lt_trichotomy c' (c + q) with lt | eq | gt
        · refine absurd ?_ (none_before (c' - c) i' (by omega) (by rw [stepj, show c + (c' - c) = c' by omega]; exact u3))
          show (es[i']?.map (·.1)).getD 0 = _
          rw [hash_of i' p' hp', hk']
        · subst eq
          have w1 := slot_live T.table.ris u3
          rw [slot_live T.table.ris hi] at w1
          injection w1 with w1
          subst w1
          rw [hp] at hp'
          have := Option.some.inj hp'
          rw [← this] at hk'
          exact absurd hk' ne
        · omega
      by_cases ld : t.led = true
      · refine wp_if_neg (by simp [ld]) ?_
        try refine wpAny_bind (wpAny_pure ?_)
        exact go
      · refine wp_if_pos (by simp [ld]) (wpAny_bind (seen_tup hx (fun y hy => ?_) (wp_if_neg (by decide) ?_)))
        · obtain ⟨r, hr, er⟩ := List.mem_map.mp hy
          have hr' : r ∈ es.toList := by
            have := (show r ∈ es ∧ r.1 = thash P w k by simpa using hr).1
            simpa using this
          rw [T.lines] at hr'
          obtain ⟨p', hp', e'⟩ := List.mem_map.mp hr'
          subst e'
          exact ⟨p'.2, p'.1, er.symm, T.each p' hp'⟩
        · try refine wpAny_bind (wpAny_pure ?_)
          exact go
    · rw [stepj, show c + (M - c) = M by omega] at res
      have res' : t.probe (fun i => (es[i]?.map (·.1)).getD 0) (thash P w k) (z.getD (t.probeStart (thash P w k))) = some (.empty (way t.mask (thash P w k) M) none) := by
        rw [hz]
        exact res
      rw [res']
      dsimp only
      refine wpAny_pure (no fun hk => ?_)
      obtain ⟨p', hp', hk'⟩ := List.mem_map.mp hk
      obtain ⟨i', hi'⟩ := List.mem_iff_getElem?.mp hp'
      obtain ⟨c', u1, u2, u3⟩ := hre i' p' hi' hk'
      refine absurd ?_ (none_there (c' - c) i' (by omega) (by rw [stepj, show c + (c' - c) = c' by omega]; exact u3))
      show (es[i']?.map (·.1)).getD 0 = _
      rw [hash_of i' p' hi', hk']
theorem TupSet.sought (T : TupSet P w s.heap a L es ep t) {x : Addr} {k : List Int} (hx : IsT P w s.heap k x) (hu : A.units < cLine) {Q : SetFound → Shared → Prop} (yes : k ∈ L.map (·.2) → Q (.there none) s)
    (no : ∀ M, k ∉ L.map (·.2) → way t.mask (thash P w k) M ∉ t.place.toList → (∀ c, c < M → way t.mask (thash P w k) c ∈ t.place.toList) → Q (.free (way t.mask (thash P w k) M) false) s) : wpAny (model P w) A (setSearch a (.ref x) (thash P w k) true) Q E s := by
  have lw := T.low
  obtain ⟨M, m0, m1, m2⟩ := T.table.first (by rw [List.length_map]; omega) (thash P w k)
  have few : 10 * SetTable.turns t.mask < 100000 := by
    unfold SetTable.turns
    rcases T.table.mok with z | z | z <;> rw [z] <;> decide
  refine T.seek hx hu m0 m1 m2 yes (fun h => no M h m1 m2) 100000 0 none rfl (Nat.zero_le _) (by omega) fun i p hp hk => ?_
  have hil : i < t.place.toList.length := by
    have := T.table.sz
    rw [List.length_map] at this
    have := (List.getElem?_eq_some_iff.mp hp).1
    rw [Array.length_toList]
    omega
  have hj := List.getElem?_eq_getElem hil
  obtain ⟨c, c1, c2⟩ := T.table.before m1 (i := i) (by rw [List.getElem?_map, hp, ← hk]; rfl) hj
  exact ⟨c, Nat.zero_le _, c1, by rw [c2]; exact hj⟩
end
end Ab

namespace Ab
open PySem L2 PySem.Spec PyProof.Rows
variable [LamTab]
section
variable {P : Program} {w : World} {A : Around} {E : Value → Shared → Prop} {s : Shared} {a : Addr} {L : List (Addr × List Int)} {es : Array (Int × Value)} {ep : Nat} {t : SetTable}
theorem lines_len (h : es.toList = rowsOf P w L) : es.size = L.length := by
  rw [← Array.length_toList, h]
  exact List.length_map ..
/-- the table laid anew with n + 1 places -/
theorem set_relaid {o : Obj} (ho : s.heap.get? a = some o) (hx : o.ExactSet) (hd : o.data = .set es ep t) (hl : es.toList = rowsOf P w L) (hs : t.place.size = es.size) (dm : t.dummies = #[]) (hf : es.size ≤ t.mask) (nd : (L.map (·.2)).Nodup) (ea : ∀ p ∈ L, IsT P w s.heap p.2 p.1) (qt : t.plain = true)
    (ld : w.params.followText "set-order" = true ∨ t.led = true) {g n : Nat} (hn : MaskOk n) (hg : SetTable.sizeAbove g = n + 1) (lw : L.length * 5 < n * 3) {Q : Unit → Shared → Prop}
    (hQ : ∀ h' L' es' ep' t', Heap.SameBut a s.heap h' → TupSet P w h' a L' es' ep' t' → L'.Perm L → Q () { s with heap := h' }) : wpAny (model P w) A (setRelay a g) Q E s := by
  have hn' : n ≤ 127 := by rcases hn with z | z | z <;> omega
  have hlen := lines_len hl
  have fit : t.fits es.size = true := by
    have z4 : t.fill = t.place.size := by
      unfold SetTable.fill
      rw [dm]
      rfl
    unfold SetTable.fits
    rw [z4, hs]
    simpa using hf
  obtain ⟨t', ord, e1, e2, e3, e4, e5, e6, e7⟩ := relaid_ok t (hs := es.map (·.1)) (wanted := g) (M := n) (by omega) hn (by rw [Array.size_map]; omega)
  rw [Array.size_map, hlen] at e2
  obtain ⟨L', r1, r2, r3⟩ := order_rows L es ord hl e2
  rw [← r3] at e3
  have hz : (ord.filterMap (es[·]?)).size = es.size := by rw [lines_len r1, r2.length_eq, hlen]
  rw [setRelay_eq]
  refine wpAny_bind (wpAny_setState_of ho hd fit ?_)
  dsimp only
  have big : ¬ SetTable.sizeAbove g > sizeLine := by
    rw [hg, sizeLine_eq]
    omega
  refine wp_if_neg big ?_
  try refine wpAny_bind (wpAny_pure ?_)
  simp only [e1]
  refine wpAny_bind (wp_if_neg (by simp [hz]) ?_)
  try refine wpAny_bind (wpAny_pure ?_)
  refine wpAny_pure ?_
  dsimp only
  have room : (ord.filterMap (es[·]?)).size ≤ sizeLine := by
    rw [hz, hlen, sizeLine_eq]
    omega
  refine wpAny_storeSet_of ho hd ?_ room
  have same : Heap.SameBut a s.heap (s.heap.update a (Obj.putSet (ord.filterMap (es[·]?)) t')) := Heap.SameBut.update ..
  refine hQ _ L' (ord.filterMap (es[·]?)) (ep + 1) t' same ?_ r2
  constructor
  · exact ⟨_, store_at ho hd, hx, rfl⟩
  · exact r1
  · exact e3
  · exact (r2.map _).nodup_iff.mpr nd
  · exact fun p hp => isT_same (ea p (r2.mem_iff.mp hp)) ho hd same
  · rw [e6]; exact qt
  · rw [e5]; exact ld
  · rw [r2.length_eq, e4]; exact lw
/-- one more -/
theorem TupSet.add (T : TupSet P w s.heap a L es ep t) {x : Addr} {k : List Int} (hx : IsT P w s.heap k x) (hu : A.units < cLine) (few : k ∉ L.map (·.2) → L.length < 76) {Q : Bool → Shared → Prop}
    (hQ : ∀ b h' L' es' ep' t', Heap.SameBut a s.heap h' → TupSet P w h' a L' es' ep' t' → (k ∈ L.map (·.2) → L' = L) → (k ∉ L.map (·.2) → L'.Perm ((x, k) :: L)) → Q b { s with heap := h' }) : wpAny (model P w) A (setAddHashed a (.ref x) (thash P w k)) Q E s := by
  obtain ⟨o, ho, hex, hd⟩ := T.thing
  have hlen := T.len
  have lw := T.low
  have start : setAddHashedIn a (.ref x) (thash P w k) 100000 = setAddHashedIn a (.ref x) (thash P w k) (99999 + 1) := rfl
  unfold setAddHashed
  refine wpAny_holding ?_
  rw [start, setAddHashedIn_succ]
  refine wpAny_bind (wpAny_setState_of ho hd T.holds ?_)
  dsimp only
  have nscan : ¬ byScan (.ref x) es = true := by simp [byScan, Value.scannable]
  refine wp_if_neg nscan ?_
  try refine wpAny_bind (wpAny_pure ?_)
  refine wpAny_bind (T.sought hx hu (fun hm => wpAny_pure (hQ false s.heap L es ep t (Heap.SameBut.refl a s.heap) T (fun _ => rfl) fun z => absurd hm z)) fun M hm m1 m2 => ?_)
  have few := few hm
  dsimp only
  refine wpAny_bind (wpAny_setState_of ho hd T.holds ?_)
  dsimp only
  obtain ⟨u1, u2, u3, u4, u5, u6, u7, u8, u9⟩ := T.table.put m1 m2
  generalize hb : SetTable.below t.place (way t.mask (thash P w k) M) = b at *
  generalize t.put (way t.mask (thash P w k) M) = tp at *
  obtain ⟨t1, b'⟩ := tp
  dsimp only at *
  subst u1
  have pl1 : t1.plain = true := u6.trans T.quiet
  have ld1 : w.params.followText "set-order" = true ∨ t1.led = true := by rw [u5]; exact T.lead
  first
    | (refine wpAny_bind (wp_if_pos pl1 (hashBy_tup hx ?_)))
    | refine wp_if_pos pl1 (wpAny_bind (hashBy_tup hx ?_))
  simp only [if_true]
  have lin : (SetTable.insertAt es b' (thash P w k, Value.ref x)).toList = rowsOf P w (L.take b' ++ (x, k) :: L.drop b') := by
    rw [rows_put, ← T.lines]
    exact SetTable.toList_insertAt ..
  have tab1 : TabOk t1 ((L.take b' ++ (x, k) :: L.drop b').map fun p => thash P w p.2) := by
    rw [List.map_append, List.map_cons, List.map_take, List.map_drop]
    exact u3
  have pm := put_perm L b' (x, k)
  have once1 : ((L.take b' ++ (x, k) :: L.drop b').map (·.2)).Nodup := (pm.map _).nodup_iff.mpr (List.nodup_cons.mpr ⟨hm, T.once⟩)
  have len1 : (L.take b' ++ (x, k) :: L.drop b').length = L.length + 1 := pm.length_eq
  rw [List.length_map] at u9
  generalize L.take b' ++ (x, k) :: L.drop b' = L1 at *
  generalize SetTable.insertAt es b' (thash P w k, Value.ref x) = es1 at *
  have size1 := lines_len lin
  have room1 : es1.size ≤ sizeLine := by
    rw [size1, len1, sizeLine_eq]
    omega
  refine wpAny_bind (wpAny_storeSet_of ho hd ?_ room1)
  have same : Heap.SameBut a s.heap (s.heap.update a (Obj.putSet es1 t1)) := Heap.SameBut.update ..
  have there := store_at (es' := es1) (t' := t1) ho hd
  generalize s.heap.update a (Obj.putSet es1 t1) = h1 at *
  have each1 : ∀ p ∈ L1, IsT P w h1 p.2 p.1 := fun p hp => by
    rcases List.mem_cons.mp (pm.mem_iff.mp hp) with z | z
    · subst z; exact isT_same hx ho hd same
    · exact isT_same (T.each p z) ho hd same
  by_cases hf : t1.tooFull = true
  · have full : t1.mask * 3 ≤ (L.length + 1) * 5 := by
      unfold SetTable.tooFull at hf
      rw [u9] at hf
      simpa using hf
    rw [u4] at full
    have places : t1.place.size = es1.size := by
      have := tab1.sz
      rw [List.length_map] at this
      rw [this, size1]
    have laid : ∀ n, MaskOk n → SetTable.sizeAbove (SetTable.grown (es.size + 1)) = n + 1 → L1.length * 5 < n * 3 → L1.length ≤ t.mask → wpAny (model P w) A (setRelay a (SetTable.grown (es.size + 1))) (fun _ s' => wpAny (model P w) A (pure true) Q E s') E { s with heap := h1 } := fun n n1 n2 n3 n4 => by
      refine set_relaid (s := { s with heap := h1 }) there hex rfl lin places tab1.dm (by rw [size1, u4]; exact n4) once1 each1 pl1 ld1 n1 n2 n3 fun h2 L2 es2 ep2 t2 same2 T2 pm2 => ?_
      exact wpAny_pure (hQ true h2 L2 es2 ep2 t2 (same.trans same2) T2 (fun z => absurd z hm) fun _ => pm2.trans pm)
    first
      | refine wpAny_bind (wp_if_pos (by simp [hf]) ?_)
      | refine wp_if_pos (by simp [hf]) (wpAny_bind ?_)
    rw [hlen] at *
    rcases T.table.mok with z | z | z
    · have : L.length = 4 := by omega
      exact laid 31 (.inr (.inl rfl)) (by rw [this]; exact size_20) (by omega) (by omega)
    · have : L.length = 18 := by omega
      exact laid 127 (.inr (.inr rfl)) (by rw [this]; exact size_76) (by omega) (by omega)
    · omega
  · have nfull : ¬ t1.mask * 3 ≤ (L.length + 1) * 5 := fun z => hf (by
      unfold SetTable.tooFull
      rw [u9]
      simpa using z)
    have T1 : TupSet P w h1 a L1 es1 (ep + 1) t1 := ⟨⟨_, there, hex, rfl⟩, lin, tab1, once1, each1, pl1, ld1, by rw [len1]; omega⟩
    have fin : wpAny (model P w) A (pure true) Q E { s with heap := h1 } := wpAny_pure (hQ true h1 L1 es1 (ep + 1) t1 same T1 (fun z => absurd z hm) fun _ => pm)
    first
      | refine wp_if_neg (by simp [hf]) ?_
      | (refine wpAny_bind ?_; refine wp_if_neg (by simp [hf]) ?_; refine wpAny_pure ?_)
    exact fin
end
end Ab

namespace Ab
open PySem L2 PySem.Spec PyProof.Rows
variable [LamTab]
section
variable {P : Program} {w : World} {A : Around} {E : Value → Shared → Prop} {s : Shared}
theorem TupSet.moved {h h' : Heap} {a : Addr} {L : List (Addr × List Int)} {es : Array (Int × Value)} {ep : Nat} {t : SetTable} (T : TupSet P w h a L es ep t) (k1 : ∀ o, h.get? a = some o → h'.get? a = some o) (k2 : ∀ p ∈ L, IsT P w h' p.2 p.1) : TupSet P w h' a L es ep t := by
  obtain ⟨⟨o, ho, r⟩, b, c, d, _, f, g, l⟩ := T
  exact ⟨⟨o, k1 o ho, r⟩, b, c, d, k2, f, g, l⟩
theorem tupSet_new {h : Heap} {a : Addr} (ho : h.get? a = some (nS w)) : TupSet P w h a [] #[] 0 (.fresh 0 0 (!w.params.followText "set-order")) := by
  constructor
  · exact ⟨_, ho, ⟨rfl, rfl, rfl⟩, rfl⟩
  · rfl
  · constructor
    · exact List.Pairwise.nil
    · rfl
    · rfl
    · exact .inl rfl
    · intro x hx; cases hx
    · intro i g j hi; simp at hi
  · exact List.nodup_nil
  · intro p hp; cases hp
  · rfl
  · cases q : w.params.followText "set-order" with
    | true => exact .inl rfl
    | false => exact .inr rfl
  · show 0 * 5 < 7 * 3
    decide
/-- the items of a walk put in, one behind the other -/
theorem set_fill {I : Addr} {fp wr : List Addr} {G : Array GenState → Array GenState → Prop} {n : Nat} {Pv : Nat → Value → Prop} {St : Nat → Shared → Prop} {R : Result → Shared → Prop} (W : WalksS P w A.in1 I fp wr G n Pv St) (S : Addr) (nS : S ∉ fp) (ks : List (Addr × List Int)) (hn : n = ks.length)
    (D : List (List Int)) (hD : D.length ≤ 76) (hin : ∀ p ∈ ks, p.2 ∈ D) (vals : ∀ i v, Pv i v → ∃ p, ks[i]? = some p ∧ v = .ref p.1) (h0 : Heap) (hk : ∀ p ∈ ks, IsT P w h0 p.2 p.1) (s0 : h0.get? S = none) (w0 : ∀ b ∈ wr, h0.get? b = none) (hu : A.in1.units < cLine)
    (sB : Shared) (fin : ∀ s' L es ep t, TupSet P w s'.heap S L es ep t → Got ks n L → (∀ b o, h0.get? b = some o → s'.heap.get? b = some o) → Moved (S :: wr) G sB s' → R (.ok (.ret .none)) s') :
    ∀ (d i : Nat) (s1 : Shared), i + d = n → (∀ s2, Moved (S :: wr) G s1 s2 → Moved (S :: wr) G sB s2) → St i s1 → (∀ b o, h0.get? b = some o → s1.heap.get? b = some o) → (∃ L es ep t, TupSet P w s1.heap S L es ep t ∧ Got ks i L) → codeAny (model P w) A (.builtin "set.update.loop" ⟨[.ref S, .ref I], []⟩) R s1 := by
  have nW : S ∉ wr := fun z => nS (W.sub S z)
  have sb : ∀ b ∈ wr, b ∈ S :: wr := fun b z => List.mem_cons_of_mem _ z
  have stay : ∀ {u u' : Shared}, Moved wr G u u' → (∀ b o, h0.get? b = some o → u.heap.get? b = some o) → ∀ b o, h0.get? b = some o → u'.heap.get? b = some o := fun m kp b o e => m.heap b o (fun z => by rw [w0 b z] at e; cases e) (kp b o e)
  have carry : ∀ {u u' : Shared} {i : Nat} {L : List (Addr × List Int)} {es : Array (Int × Value)} {ep : Nat} {t : SetTable}, Moved wr G u u' → (∀ b o, h0.get? b = some o → u'.heap.get? b = some o) → Got ks i L → TupSet P w u.heap S L es ep t → TupSet P w u'.heap S L es ep t := fun m kp g T =>
    T.moved (fun o e => m.heap S o nW e) fun p hp => isT_keep (hk p (List.mem_of_mem_take (g.sub p hp))) kp
  intro d
  induction d with
  | zero =>
    rintro i s1 hi m1 st kp ⟨L, es, ep, t, T, g⟩
    have : i = n := by omega
    subst this
    refine codeAny_builtin F.entry_set_update_loop ?_
    rw [Around.under_plainId F.plain_set_update_loop _]
    show wpAny _ A.in1 (pyNext (.ref I) >>= _) _ _ s1
    refine wpAny_bind (W.done s1 _ _ st fun s2 m2 => ?_)
    have kp2 := stay m2 kp
    show wpAny _ A.in1 (ret Value.none) _ _ s2
    exact wpAny_pure (fin s2 L es ep t (carry m2 kp2 g T) g kp2 (m1 _ (m2.mono sb)))
  | succ d ih =>
    rintro i s1 hi m1 st kp ⟨L, es, ep, t, T, g⟩
    refine codeAny_builtin F.entry_set_update_loop ?_
    rw [Around.under_plainId F.plain_set_update_loop _]
    show wpAny _ A.in1 (pyNext (.ref I) >>= _) _ _ s1
    refine wpAny_bind (W.item i s1 _ _ (by omega) st fun v s2 hv st2 m2 => ?_)
    obtain ⟨p, hp, rfl⟩ := vals i v hv
    have kp2 := stay m2 kp
    have T2 := carry m2 kp2 g T
    have hx := isT_keep (hk p (List.mem_of_getElem? hp)) kp2
    have few : p.2 ∉ L.map (·.2) → L.length < 76 := fun z => by
      have : (p.2 :: L.map (·.2)).length ≤ D.length := Pl.len_sub (List.nodup_cons.mpr ⟨z, T.once⟩) fun y hy => by
        rcases List.mem_cons.mp hy with rfl | hy
        · exact hin p (List.mem_of_getElem? hp)
        · obtain ⟨q, hq, rfl⟩ := List.mem_map.mp hy
          exact hin q (List.mem_of_mem_take (g.sub q hq))
      rw [List.length_cons, List.length_map] at this
      omega
    show wpAny _ A.in1 (holding [Value.ref p.1] (setAdd S (.ref p.1)) >>= _) _ _ s2
    refine wpAny_bind (wpAny_holding ?_)
    unfold setAdd
    refine wpAny_holding (wpAny_bind (wpAny_pyHash_tuple hu hx ?_))
    refine TupSet.add (s := { s2 with toks := s2.toks + (p.2.length + 1) }) T2 hx hu few fun b h3 L3 es3 ep3 t3 same T3 c1 c2 => ?_
    have g3 : Got ks (i + 1) L3 := by
      by_cases c : p.2 ∈ L.map (·.2)
      · rw [c1 c]; exact g.same hp c
      · exact g.more hp (c2 c)
    have kp3 : ∀ b o, h0.get? b = some o → h3.get? b = some o := fun b o e => by
      rw [same.2 b (fun z => by rw [z, s0] at e; cases e)]
      exact kp2 b o e
    have m3 : Moved (S :: wr) G s1 { s2 with heap := h3, toks := s2.toks + (p.2.length + 1) } := (m2.mono sb).then_heap (Nat.le_add_right _ _) fun b o hb e => by
      rw [same.2 b (fun z => hb (by rw [z]; exact List.mem_cons_self))]
      exact e
    refine wpAny_pure ⟨plainId_quiet F.plain_set_update_loop _, ih (i + 1) _ (by omega) (fun s5 m5 => m1 s5 (Moved.trans W.gtrans m3 m5)) (W.frame _ s2 _ _ st2 (Nat.le_add_right _ _) fun b hb o e => ?_) kp3 ⟨L3, es3, ep3, t3, T3, g3⟩⟩
    rw [same.2 b (fun z => nS (by rw [← z]; exact hb))]
    exact e
theorem call_setT {l : Addr} {its : Array Value} (ks : List (Addr × List Int)) {Q : Value → Shared → Prop} (hh : A.handled = none) (hl : s.heap.IsList l its) (hit : its.toList = ks.map fun p => Value.ref p.1) (hk : ∀ p ∈ ks, IsT P w s.heap p.2 p.1) (D : List (List Int)) (hD : D.length ≤ 76) (hin : ∀ p ∈ ks, p.2 ∈ D) (hu : A.units + 3 < cLine)
    (h : ∀ (h' : Heap) (tk : Nat) L es ep t, TupSet P w h' s.heap.objs.size L es ep t → Got ks ks.length L → (∀ b o, s.heap.get? b = some o → h'.get? b = some o) → Q (.ref s.heap.objs.size) { s with heap := h', toks := tk }) :
    wpAny (model P w) A (call (.type "set") [.ref l]) Q E s := by
  have hsz : its.size = ks.length := by
    rw [← Array.length_toList, hit, List.length_map]
  obtain ⟨c0, tl, hmro⟩ := F.called_set.mro
  have f1 := F.called_set.made
  have f2 := F.called_set.sub
  refine wpAny_call (codeAny_of_tree ?_)
  show wpAny _ _ (callAny (.type "set") _) _ _ _
  refine wpAny_pure ⟨Code.quiet_builtin _ (by decide +kernel), codeAny_builtin F.entry_type_call ?_⟩
  rw [Around.under_plain (weight_type_call_type "set" [.ref l] []) rfl]
  have f3 := F.called_set.notType
  have f4 := F.called_set.canCreate
  have f5 := F.typeCall_set_1 (.ref l)
  repeat (any_goals (first | assumption | (wp_step)))
  refine codeAny_mono (code_set_led1 (.ref l) (E := E) (Q₁ := fun obj s₁ => obj = .ref s.heap.objs.size ∧ s₁ = { s with heap := s.heap.push (nS w) }) ⟨rfl, rfl⟩) fun r s₁ hr => ?_
  cases r with
  | error e => exact hr
  | ok fl =>
    cases fl with
    | ret obj =>
      obtain ⟨rfl, rfl⟩ := hr
      have hS : (s.heap.push (nS w)).get? s.heap.objs.size = some (nS w) := Heap.get?_push_size _ rfl
      have hT : Shared.TypeIs { s with heap := s.heap.push (nS w) } (.ref s.heap.objs.size) "set" := ⟨_, hS, rfl⟩
      have f6 := F.called_set.init.lookup
      have f7 := F.called_set.init.bind (.ref s.heap.objs.size)
      repeat (any_goals (first | assumption | (wp_step)))
      refine codeAny_mono (codeAny_call_builtin (R := wants (fun r s₂ => r = .none ∧ ∃ h' tk L es ep t, s₂ = { s with heap := h', toks := tk } ∧ TupSet P w h' s.heap.objs.size L es ep t ∧ Got ks ks.length L ∧ (∀ b o, s.heap.get? b = some o → h'.get? b = some o)) E)
        F.called_set.init.plain F.entry_set_init (check_set_init_1 hT ?_)) fun r₂ s₂ hr₂ => ?_
      · obtain ⟨ol, hol, hcl, nl, hdl⟩ := hl
        obtain ⟨ocls, odict, odata, oslots⟩ := ol
        simp only at hcl hdl
        subst hcl hdl
        have hol1 : (s.heap.push (nS w)).get? l = some { cls := .type "list", dict := odict, data := .seq its nl, slots := oslots } := Heap.get?_push_of_some _ hol
        have g1 := F.sub_list_set
        have g2 := F.sub_list_frozenset
        have g3 : (Value.type "list" == Value.type "dict") = false := by decide
        have hl1 : (s.heap.push (nS w)).IsList l its := ⟨_, hol1, rfl, nl, rfl⟩
        unfold Builtin.«set.__init__» noKeywords Builtin.Frozenset.updateFrom
        generalize hPI : pyIter = PI
        wp_walk
        subst hPI
        refine wpAny_pyIter_list hl1 ?_
        refine wpAny_bind (wpAny_runValue ?_)
        have hlS : l < s.heap.objs.size := Heap.lt_size hol
        have hh3 : A.in1.in1.in1.handled = none := by simp [hh]
        have n1 : l ≠ (s.heap.push (nS w)).objs.size := by rw [Heap.size_push]; exact Nat.ne_of_lt (Nat.lt_succ_of_lt hlS)
        have n2 : s.heap.objs.size ∉ [(s.heap.push (nS w)).objs.size, l] := by
          rw [Heap.size_push]
          simp only [List.mem_cons, List.mem_singleton, List.not_mem_nil, or_false, not_or]
          exact ⟨Nat.ne_of_lt (Nat.lt_succ_self _), Nat.ne_of_gt hlS⟩
        have hval : ∀ (i : Nat) (v : Value), its[i]? = some v → ∃ p, ks[i]? = some p ∧ v = .ref p.1 := fun i v hv => by
          rw [← Array.getElem?_toList, hit, List.getElem?_map] at hv
          cases q : ks[i]? with
          | none => rw [q] at hv; cases hv
          | some p => rw [q] at hv; exact ⟨p, rfl, (Option.some.inj hv).symm⟩
        have fresh : ∀ b, s.heap.objs.size ≤ b → s.heap.get? b = none := fun b hb => by
          cases q : s.heap.get? b with
          | none => rfl
          | some o => exact (Nat.not_lt.mpr hb (Heap.lt_size q)).elim
        refine set_fill ((Walks.list hh3 _ l n1 its).toS) s.heap.objs.size n2 ks hsz D hD hin hval s.heap hk (fresh _ (Nat.le_refl _)) (fun b hb => fresh b ?_) hu _ ?a2 its.size 0 _ (by omega) (fun _ m => m) ⟨⟨_, Heap.get?_push_size _ rfl, rfl, rfl⟩, (hl1.push _)⟩ (fun b o e => Heap.get?_push_of_some _ (Heap.get?_push_of_some _ e)) ?a1
        · rw [List.mem_singleton.mp hb, Heap.size_push]
          exact Nat.le_succ _
        case a1 =>
          have hg : ((s.heap.push (nS w)).push { cls := .type "list_iterator", data := .fields #[.ref l, .int 0 0] }).get? s.heap.objs.size = some (nS w) := Heap.get?_push_of_some _ hS
          exact ⟨[], #[], 0, _, tupSet_new hg, Got.zero ks⟩
        case a2 =>
          intro s' L es ep t hT' g' kp hm
          obtain ⟨h', gn, dr, tk', os'⟩ := s'
          obtain rfl : gn = s.gens := hm.gens
          obtain rfl : dr = s.drawn := hm.drawn
          obtain rfl : os' = s.os := hm.os
          show wpAny _ _ _ _ _ _
          refine wpAny_pure ?_
          show wpAny _ _ (ret Value.none) _ _ _
          rw [hsz] at g'
          exact wpAny_pure ⟨rfl, h', tk', L, es, ep, t, rfl, hT', g', kp⟩
      · cases r₂ with
        | error e => exact hr₂
        | ok fl₂ =>
          cases fl₂ with
          | ret r =>
            obtain ⟨rfl, h', tk, L, es, ep, t, rfl, hT', g', hk'⟩ := hr₂
            repeat (any_goals (first | assumption | (wp_step)))
            exact h _ _ _ _ _ _ hT' g' hk'
          | _ => exact hr₂.elim
    | _ => exact hr.elim
end
end Ab

namespace Ab
open PySem L2 PySem.Spec PyProof.Rows
variable [LamTab]
/-! len(set(pairs)) -/
def encP (k : Int × Int) : List Int := [k.1, k.2]
theorem encP_inj {a b : Int × Int} (h : encP a = encP b) : a = b := by
  unfold encP at h
  injection h with h1 h2
  injection h2 with h2 _
  exact Prod.ext h1 h2
theorem enc_back : ∀ (l : List (List Int)), (∀ x ∈ l, ∃ k, x = encP k) → ∃ M : List (Int × Int), l = M.map encP
  | [], _ => ⟨[], rfl⟩
  | x :: l, h => by
    obtain ⟨k, rfl⟩ := h x (by simp)
    obtain ⟨M, rfl⟩ := enc_back l fun y hy => h y (List.mem_cons_of_mem _ hy)
    exact ⟨k :: M, rfl⟩
def PairAt (K : PySem.W.Frag) (H : Hp) (v : V) (k : Int × Int) : Prop := ∃ p, v = .ref p ∧ SqT K H p [.int k.1, .int k.2]
def tLenSetT (K : PySem.W.Frag) (ta : TE) : TE := fun σ H Q => ta σ H fun x H1 => ∃ (l : Addr) (xs : List V) (ks : List (Int × Int)), x = .ref l ∧ SqL K H1 l xs ∧ PySem.W.EachIs (PairAt K H1) xs ks ∧ (∃ D : List (Int × Int), D.length ≤ 76 ∧ ∀ k ∈ ks, k ∈ D) ∧
  ∀ n : Nat, (∃ M : List (Int × Int), M.Nodup ∧ M.length = n ∧ ∀ k, k ∈ M ↔ k ∈ ks) → Q (.int (n : Int)) H1
section
variable {X : Cx}
theorem pair_keys {pins : List (Addr × Obj)} {σ : L2.St} {H : Hp} {s : Shared} (I : Inv X pins σ H s) : ∀ {xs : List V} {us : List Value} {ks : List (Int × Int)}, Vals xs us → PySem.W.EachIs (PairAt X.K H) xs ks → ∃ KS : List (Addr × List Int), us = KS.map (fun p => Value.ref p.1) ∧ KS.map (·.2) = ks.map encP ∧ ∀ p ∈ KS, IsT X.prog X.w s.heap p.2 p.1
  | _, _, _, .nil, .nil => ⟨[], rfl, rfl, fun p hp => by cases hp⟩
  | _, _, _, .cons r t, .cons h q => by
    obtain ⟨KS, h1, h2, h3⟩ := pair_keys I t q
    obtain ⟨p, rfl, hp⟩ := h
    cases r
    obtain ⟨its, rv, ht, hz⟩ := I.tuple hp
    obtain ⟨y, z, rfl, ry, rz⟩ := vals2 rv
    obtain ⟨ty, rfl⟩ := ry
    obtain ⟨tz, rfl⟩ := rz
    obtain ⟨o, ho, hc, n, hd⟩ := ht
    refine ⟨(p, encP _) :: KS, by rw [h1]; rfl, by rw [List.map_cons, List.map_cons, h2], fun q' hq' => ?_⟩
    rcases List.mem_cons.mp hq' with rfl | hq'
    · exact ⟨o, _, n, ho, hc, hd, .cons (by simp [PySem.intKind, Value.isInt]) (.cons (by simp [PySem.intKind, Value.isInt]) .nil)⟩
    · exact h3 q' hq'
theorem pe_lenSetT {a : Expr} {ta : TE} {p p2 q pos : Pos} {k : Nat} (hg : Gl X "len") (hm : X.mg "len" = none) (hg2 : Gl X "set") (hm2 : X.mg "set" = none) (ha : PE X a ta) (hr : Room k X.A) (hc : X.calm = true := by rfl)
    (na : starEach [a] X.env = (false, eval a X.env) :: starEach [] X.env := by rfl) : PE X (.Call (.Name "len" p) [.Call (.Name "set" p2) [a] [] q] [] pos) (tLenSetT X.K ta) := by
  refine ⟨fun pins s σ H Q I h => Call_ (ld_blt I hg hm boot_len (callWith_builtin1 (args_cons (Call_ (ld_blt I hg2 hm2 boot_set (callWith_type1 (args_cons (thn (ha.run pins s σ H _ I h) fun v s1 ⟨x, H1, I1, r1, q1⟩ => args_nil ?_) na) na rfl))) rfl) rfl rfl))⟩
  obtain ⟨l, xs, ks, rfl, hl, he, ⟨D, hD, hin⟩, q1⟩ := q1
  cases r1
  obtain ⟨its, rv, pl, hz⟩ := I1.list hl
  obtain ⟨KS, k1, k2, k3⟩ := pair_keys I1 rv he
  have hu := hr.units
  refine call_setT KS (I1.ok.hd hc) pl.isList (by simpa using k1) k3 (D.map encP) (by simpa using hD) (fun p hp => ?_) (by omega) fun h' tk L es ep t T g kp => args_nil ?_
  · have : p.2 ∈ ks.map encP := by
      rw [← k2]
      exact List.mem_map.mpr ⟨p, hp, rfl⟩
    obtain ⟨y, hy, ey⟩ := List.mem_map.mp this
    exact List.mem_map.mpr ⟨y, hin y hy, ey⟩
  · have I2 : Inv X pins σ H1 { s1 with heap := h', toks := tk } := I1.kept kp
    obtain ⟨o, ho, hex, hd⟩ := T.thing
    have len := lines_len T.lines
    have sub : ∀ x ∈ L.map (·.2), x ∈ ks.map encP := fun x hx => by
      obtain ⟨p, hp, rfl⟩ := List.mem_map.mp hx
      rw [← k2]
      exact List.mem_map.mpr ⟨p, List.mem_of_mem_take (g.sub p hp), rfl⟩
    have all : ∀ x ∈ ks.map encP, x ∈ L.map (·.2) := fun x hx => by
      rw [← k2] at hx
      obtain ⟨p, hp, rfl⟩ := List.mem_map.mp hx
      exact g.all p (by rw [List.take_length]; exact hp)
    obtain ⟨M, hM⟩ := enc_back (L.map (·.2)) fun x hx => by
      obtain ⟨y, _, rfl⟩ := List.mem_map.mp (sub x hx)
      exact ⟨y, rfl⟩
    have hML : M.length = es.size := by
      have := congrArg List.length hM
      rw [List.length_map, List.length_map] at this
      omega
    have nd : M.Nodup := by
      have := T.once
      rw [hM] at this
      exact L2.nodup_of_map this
    have key : ∃ M : List (Int × Int), M.Nodup ∧ M.length = es.size ∧ ∀ k, k ∈ M ↔ k ∈ ks := by
      refine ⟨M, nd, hML, fun k => ⟨fun h => ?_, fun h => ?_⟩⟩
      · have := sub (encP k) (by rw [hM]; exact List.mem_map.mpr ⟨k, h, rfl⟩)
        obtain ⟨y, hy, ey⟩ := List.mem_map.mp this
        rw [← encP_inj ey]; exact hy
      · have := all (encP k) (List.mem_map.mpr ⟨k, h, rfl⟩)
        rw [hM] at this
        obtain ⟨y, hy, ey⟩ := List.mem_map.mp this
        rw [← encP_inj ey]; exact hy
    have few : (es.size : Int) < 2 ^ 63 := by
      have lw := T.low
      have : t.mask ≤ 127 := by rcases T.table.mok with z | z | z <;> omega
      rw [len]
      omega
    exact call_len_set ho hex hd (TupSet.holds (s := { s1 with heap := h', toks := tk }) T) few ⟨.int (es.size : Int), H1, I2.tok _, ⟨_, rfl⟩, q1 es.size key⟩
theorem lenSetK {K : PySem.W.Frag} {a : Expr} {ta : TE} {p p2 q pos : Pos} {k : Nat} (h : X.K = K) (hg : Gl X "len") (hm : X.mg "len" = none) (hg2 : Gl X "set") (hm2 : X.mg "set" = none) (ha : PE X a ta) (hr : Room k X.A) (hc : X.calm = true)
    (na : starEach [a] X.env = (false, eval a X.env) :: starEach [] X.env := by rfl) : PE X (.Call (.Name "len" p) [.Call (.Name "set" p2) [a] [] q] [] pos) (tLenSetT K ta) := by subst h; exact pe_lenSetT hg hm hg2 hm2 ha hr hc na
end
/-- how many are unlike -/
def distL : List (Int × Int) → List (Int × Int)
  | [] => []
  | k :: ks => if k ∈ distL ks then distL ks else k :: distL ks
theorem distL_mem {k : Int × Int} : ∀ {ks : List (Int × Int)}, k ∈ distL ks ↔ k ∈ ks
  | [] => Iff.rfl
  | x :: ks => by
    unfold distL
    have ih := distL_mem (k := k) (ks := ks)
    by_cases c : x ∈ distL ks
    · rw [if_pos c, ih, List.mem_cons]
      refine ⟨.inr, fun h => ?_⟩
      rcases h with rfl | h
      · exact distL_mem.mp c
      · exact h
    · rw [if_neg c, List.mem_cons, List.mem_cons, ih]
theorem distL_nodup : ∀ ks : List (Int × Int), (distL ks).Nodup
  | [] => List.nodup_nil
  | x :: ks => by
    unfold distL
    by_cases c : x ∈ distL ks
    · rw [if_pos c]; exact distL_nodup ks
    · rw [if_neg c]; exact List.nodup_cons.mpr ⟨c, distL_nodup ks⟩
theorem distL_le : ∀ ks : List (Int × Int), (distL ks).length ≤ ks.length
  | [] => Nat.le_refl _
  | x :: ks => by
    unfold distL
    have := distL_le ks
    by_cases c : x ∈ distL ks
    · rw [if_pos c, List.length_cons]; omega
    · rw [if_neg c, List.length_cons, List.length_cons]; omega
theorem distL_len : ∀ {ks : List (Int × Int)}, (distL ks).length = ks.length ↔ ks.Nodup
  | [] => ⟨fun _ => List.nodup_nil, fun _ => rfl⟩
  | x :: ks => by
    have le := distL_le ks
    have ih := distL_len (ks := ks)
    have e : distL (x :: ks) = if x ∈ distL ks then distL ks else x :: distL ks := rfl
    rw [List.nodup_cons, ← ih, e]
    by_cases c : x ∈ distL ks
    · rw [if_pos c, List.length_cons]
      exact ⟨fun h => by omega, fun h => absurd (distL_mem.mp c) h.1⟩
    · rw [if_neg c, List.length_cons, List.length_cons]
      exact ⟨fun h => ⟨fun z => c (distL_mem.mpr z), by omega⟩, fun h => by omega⟩
section
variable {K : PySem.W.Frag} {τ : Sls} {ta tb : TE}
theorem dt_pairs {G H : Hp} (x : Ex G H) : ∀ {xs : List V} {ks : List (Int × Int)}, DtAll G xs (ks.map fun k => PyData.tuple [.int k.1, .int k.2]) → PySem.W.EachIs (PairAt K H) xs ks
  | _, [], .nil => .nil
  | _, k :: ks, .cons h t => by
    refine .cons ?_ (dt_pairs x t)
    obtain ⟨p, vs, rfl, e1, a1⟩ := Dt.tup_of h
    cases a1 with
    | cons b1 a1 =>
      cases a1 with
      | cons b2 a1 =>
        cases a1
        cases Dt.int_of b1
        cases Dt.int_of b2
        exact ⟨p, rfl, .inl (.inl (x _ _ e1))⟩
theorem ed_lenSetT {ks : List (Int × Int)} (h : ED K ta τ (.list (ks.map fun k => PyData.tuple [.int k.1, .int k.2]))) {D : List (Int × Int)} (hD : D.length ≤ 76) (hin : ∀ k ∈ ks, k ∈ D) : ED K (tLenSetT K ta) τ (.int ((distL ks).length : Int)) := fun G0 H0 G H σ R Q q => h G0 H0 G H σ R _ fun v G1 H1 x1 d1 => by
  obtain ⟨a, vs, rfl, e1, a1⟩ := Dt.lst_of d1
  refine ⟨a, vs, ks, rfl, .inl (.inl (x1.gh _ _ e1)), dt_pairs x1.gh a1, ⟨D, hD, hin⟩, fun n hn => ?_⟩
  obtain ⟨M, m1, m2, m3⟩ := hn
  have : (distL ks).length = n := by
    rw [← m2]
    exact ((List.perm_ext_iff_of_nodup (distL_nodup ks) m1).mpr fun k => by rw [distL_mem, m3]).length_eq
  rw [← this]
  exact q _ G1 H1 x1 (.int _)
end
end Ab

namespace Ab
open PySem L2 PySem.Spec PyProof.Rows
variable [LamTab]
section
variable {X : Cx} {e : Expr} {t1 t2 : TE}
/-- one or the other reading -/
def tAlt (t1 t2 : TE) : TE := fun σ H Q => t1 σ H Q ∨ t2 σ H Q
theorem pe_alt (h1 : PE X e t1) (h2 : PE X e t2) : PE X e (tAlt t1 t2) := ⟨fun pins s σ H Q I h => by
  rcases h with h | h
  · exact h1.run pins s σ H Q I h
  · exact h2.run pins s σ H Q I h⟩
end
section
variable {K : PySem.W.Frag} {τ : Sls} {t1 t2 te : TE} {d : PyData} {S : Sl → Prop} {N : Sls → Prop} {R : Sl → Prop} {t : TS}
theorem ed_altL (h : ED K t1 τ d) : ED K (tAlt t1 t2) τ d := fun G0 H0 G H σ r Q q => .inl (h G0 H0 G H σ r Q q)
theorem ed_altR (h : ED K t2 τ d) : ED K (tAlt t1 t2) τ d := fun G0 H0 G H σ r Q q => .inr (h G0 H0 G H σ r Q q)
/-- an own instance read for a scalar -/
theorem sd_frzO {i : Nat} {x C dx : Addr} {fs : List (Str × Addr × List PyData)} (ht : τ[i]? = some (.obj x C dx fs)) (h : SD K t (τ.set i (.dat (dObj C (fldD fs)))) N R) : SD K t τ N R := fun G0 H0 G H σ r D kn kr => by
  obtain ⟨G1, y, r1, _⟩ := r.frzO ht
  exact h G0 H0 G1 H σ r1 D (fun τ2 G2 H2 σ2 n r2 x2 => kn τ2 G2 H2 σ2 n r2 (y.tr x2)) kr
end
end Ab

namespace Ab
open PySem L2 PySem.Spec PyProof.Rows
variable [LamTab]
/-! data that comes to one of some -/
def EDN (K : PySem.W.Frag) (te : TE) (τ : Sls) (P : PyData → Prop) : Prop := ∀ G0 H0 G H σ, Rel K G0 H0 G H σ τ → ∀ Q : VK, (∀ v d G' H', P d → Ext G H G' H' → Dt G' v d → Q v H') → te σ H Q
def EAN (K : PySem.W.Frag) (ta : TA) (τ : Sls) (P : List PyData → Prop) : Prop := ∀ G0 H0 G H σ, Rel K G0 H0 G H σ τ → ∀ Q : List V → Hp → Prop, (∀ vs ds G' H', P ds → Ext G H G' H' → DtAll G' vs ds → Q vs H') → ta σ H Q
section
variable {K : PySem.W.Frag} {τ : Sls} {ta tb tc td te : TE} {d e f : PyData} {tr : TA} {S : Sl → Prop} {P P1 P2 : PyData → Prop} {N : Sls → Prop} {R : Sl → Prop}
theorem edn_ed (h : ED K te τ d) (hp : P d) : EDN K te τ P := fun G0 H0 G H σ r Q q => h G0 H0 G H σ r Q fun v G' H' x dd => q v d G' H' hp x dd
theorem edn_en (h : EN K te τ S) (hs : ∀ s, S s → ∃ d, P d ∧ (s = .dat d ∨ ∃ ds, s = .own ds ∧ d = .list ds)) : EDN K te τ P := fun G0 H0 G H σ r Q q => h G0 H0 G H σ r Q fun v s G' H' hS x dd => by
  obtain ⟨d, hd, rfl | ⟨ds, rfl, rfl⟩⟩ := hs s hS
  · exact q v d G' H' hd x dd
  · obtain ⟨p, vs, rfl, h2, h3, h4, h5⟩ := dd
    exact q _ _ _ _ hd (x.frz h4 h2 h3) (.lst upd_same (DtAll.ex (Ex.upd h3) h5))
theorem edn_mono {P' : PyData → Prop} (h : EDN K te τ P) (hp : ∀ d, P d → P' d) : EDN K te τ P' := fun G0 H0 G H σ r Q q => h G0 H0 G H σ r Q fun v d G' H' hd => q v d G' H' (hp d hd)
theorem en_edn (h : EDN K te τ P) (hs : ∀ d, P d → S (.dat d)) : EN K te τ S := fun G0 H0 G H σ r Q q => h G0 H0 G H σ r Q fun v d G' H' hd x dd => q v _ G' H' (hs d hd) x dd
theorem ean_nil : EAN K tNil τ (· = []) := fun G0 H0 G H σ r Q q => q [] [] G H rfl (Ext.rfl r.gh) .nil
theorem ean_cons {T : List PyData → Prop} (h : EDN K te τ P) (hr : EAN K tr τ T) : EAN K (tCons te tr) τ fun l => ∃ d ds, l = d :: ds ∧ P d ∧ T ds := fun G0 H0 G H σ r Q q => h G0 H0 G H σ r _ fun v d G1 H1 hd x1 d1 => hr G0 H0 G1 H1 σ (r.step x1) _ fun vs ds G2 H2 hds x2 d2 => q _ _ G2 H2 ⟨d, ds, rfl, hd, hds⟩ (x1.tr x2) (.cons (Dt.ex x2.gg d1) d2)
theorem en_lstN {T : List PyData → Prop} (h : EAN K tr τ T) (hl : ∀ ds, T ds → ds.length ≤ 100000) (hs : ∀ ds, T ds → S (.own ds)) : EN K (tLst tr) τ S := fun G0 H0 G H σ r Q q => h G0 H0 G H σ r _ fun vs ds G1 H1 hds x1 d1 => ⟨sz (by rw [d1.len]; exact hl ds hds), fun p hp => q _ _ G1 _ (hs ds hds) (x1.tr (Ext.newO x1.gh hp)) ⟨p, vs, rfl, upd_same, x1.gh.none hp, x1.hh.none hp, d1⟩⟩
theorem en_tupN {T : List PyData → Prop} (h : EAN K tr τ T) (hl : ∀ ds, T ds → ds.length ≤ 100000) (hs : ∀ ds, T ds → P (.tuple ds)) : EDN K (tTup tr) τ P := fun G0 H0 G H σ r Q q => h G0 H0 G H σ r _ fun vs ds G1 H1 hds x1 d1 => ⟨sz (by rw [d1.len]; exact hl ds hds), fun p hp => q _ _ _ _ (hs ds hds) (x1.tr (Ext.new x1.gh hp)) (.tup upd_same (DtAll.ex (Ex.upd (x1.gh.none hp)) d1))⟩
theorem en_callN {P : List Sl → (Sl → Prop) → Prop} {E : XK} {T : List PyData → Prop} (h : EAN K tr τ T) (hp : ∀ ds, T ds → P (datL ds) S) : EN K (tCall (spF K P) [] E tr) τ S := fun G0 H0 G H σ r Q q => h G0 H0 G H σ r _ fun vs ds G1 H1 hds x1 a1 => by
  rw [List.append_nil]
  exact ⟨G1, datL ds, S, x1.gh, ArgsOk.of a1, hp ds hds, fun s v G' H' hs x hv => q v s G' H' hs (x1.tr x) (hv.back x1.hh)⟩
theorem ed_callN {P : List Sl → (Sl → Prop) → Prop} {E : XK} {T : List PyData → Prop} (h : EAN K tr τ T) (hp : ∀ ds, T ds → P (datL ds) (· = .dat d)) : ED K (tCall (spF K P) [] E tr) τ d := fun G0 H0 G H σ r Q q => h G0 H0 G H σ r _ fun vs ds G1 H1 hds x1 a1 => by
  rw [List.append_nil]
  refine ⟨G1, datL ds, _, x1.gh, ArgsOk.of a1, hp ds hds, fun s v G' H' hs x hv => ?_⟩
  subst hs
  exact q v G' H' (x1.tr x) hv
/-- a field, an isinstance of what comes to one of some -/
theorem edn_run {C : PyData → Prop} (h : EDN K te τ P) {G0 H0 G H : Hp} {σ : L2.St} (r : Rel K G0 H0 G H σ τ) {Q : VK} (q : ∀ v d G' H', P d → Ext G H G' H' → Dt G' v d → Q v H') : te σ H Q := h G0 H0 G H σ r Q q
end
end Ab
namespace Ab
open PySem L2 PySem.Spec PyProof.Rows
variable [LamTab]
theorem ean_mono {K : PySem.W.Frag} {τ : Sls} {tr : TA} {T T' : List PyData → Prop} (h : EAN K tr τ T) (ht : ∀ ds, T ds → T' ds) : EAN K tr τ T' := fun G0 H0 G H σ r Q q => h G0 H0 G H σ r Q fun vs ds G' H' hd => q vs ds G' H' (ht ds hd)
end Ab

namespace Ab
open PySem L2 PySem.Spec PyProof.Rows
variable [LamTab]
/-! walks over what comes to one of some lists -/
def EIN (K : PySem.W.Frag) (wi : TI) (τ : Sls) (C : List PyData → Prop) : Prop := ∀ G0 H0 G H σ, Rel K G0 H0 G H σ τ → ∀ R : It → Hp → Prop, (∀ J its G' H', C its → Ext G H G' H' → JD G' J its → R J H') → wi σ H R
section
variable {K : PySem.W.Frag} {τ : Sls} {te : TE} {S S0 : Sl → Prop} {C : List PyData → Prop}
theorem jd_list {G1 : Hp} {p : Addr} {vs : List V} {ds : List PyData} (hp : G1 p = some (.lst vs)) (a1 : DtAll G1 vs ds) : JD G1 (Itl K p) ds := fun G2 H2 y1 y2 i => by
  have k2 := y2 _ _ (y1 _ _ hp)
  refine ⟨fun d hd => ?_, fun hi => ?_⟩
  · obtain ⟨w, f1, f2⟩ := a1.at hd
    refine ⟨⟨vs, w, .inl (.inl k2), f1⟩, fun x H3 y => ?_⟩
    obtain ⟨rfl, y⟩ := y
    have z := y vs (.inl (.inl k2))
    rw [f1] at z
    cases z
    exact ⟨G2, Ext.rfl y2, Dt.ex y1 f2⟩
  · exact ⟨vs, .inl (.inl k2), by rw [a1.len]; exact hi⟩
theorem ein_en (h : EN K te τ S0) (hs : ∀ s, S0 s → ∃ ds, s = .own ds ∧ C ds) : EIN K (iAny K te) τ C := fun G0 H0 G H σ r R q => .inl (h G0 H0 G H σ r _ fun v s G1 H1 hS x1 d1 => by
  obtain ⟨ds, rfl, hc⟩ := hs s hS
  obtain ⟨p, vs, rfl, e1, e2, e3, e4⟩ := d1
  have x2 : Ext G H (upd G1 p (.lst vs)) H1 := x1.frz e3 e1 e2
  exact ⟨p, rfl, ⟨vs, .inl (.inl e1)⟩, q _ ds _ H1 hc x2 (jd_list upd_same (DtAll.ex (Ex.upd e2) e4))⟩)
theorem ein_ei {wi : TI} {its : List PyData} (h : EI K wi τ its) (hc : C its) : EIN K wi τ C := fun G0 H0 G H σ r R q => h G0 H0 G H σ r R fun J G' H' x j => q J its G' H' hc x j
theorem en_lcN {α : Type} (D : List α → Prop) (q : α → PyData) (T : α → PyData → Prop) {wi : TI} {g : TG} {vs js : List Nat} (hi : EIN K wi τ fun its => ∃ xs : List α, its = xs.map q ∧ D xs) (hj : ∀ j ∈ js, j ∈ vs) (hn : ∀ xs, D xs → xs.length ≤ 100000)
    (h : ∀ xs, D xs → ∀ x ∈ xs, ∃ τ2, TGD K g js (q x) (wipeS τ vs) τ2 ∧ EN K te τ2 fun s => ∃ d, s = .dat d ∧ T x d) (hs : ∀ xs ds, D xs → PySem.W.EachIs T xs ds → S (.own ds)) : EN K (tLc wi g tYes te vs) τ S := by
  intro G0 H0 G H σ R Q k
  refine hi G0 H0 G H σ R _ fun J its G1 H1 ⟨xs, hits, hD⟩ x1 jd L hL => ?_
  subst hits
  have hn := hn xs hD
  refine ⟨fun i m Hc => m = xs.length - i ∧ i ≤ xs.length ∧ ∃ G2 ws ds, Ext G1 H1 G2 Hc ∧ Hc L = some (.lst ws) ∧ G2 L = none ∧ DtAll G2 ws ds ∧ PySem.W.EachIs T (xs.take i) ds, ⟨xs.length, by simp, Nat.zero_le _, G1, [], [], Ext.newO x1.gh hL, upd_same, x1.gh.none hL, .nil, by simpa using .nil⟩, ?_⟩
  rintro i m Hc ⟨rfl, hin, G2, ws, ds, y1, y2, y3, y4, y5⟩
  obtain ⟨jgo, jst⟩ := jd G2 Hc y1.gg y1.gh i
  by_cases hlt : i < xs.length
  · obtain ⟨x, hx⟩ : ∃ x, xs[i]? = some x := ⟨xs[i], List.getElem?_eq_getElem hlt⟩
    obtain ⟨go, yl⟩ := jgo (q x) (by rw [List.getElem?_map, hx]; rfl)
    refine .inr ⟨go, fun H' => ∃ G3 ws' ds', Ext G1 H1 G3 H' ∧ H' L = some (.lst ws') ∧ G3 L = none ∧ DtAll G3 ws' ds' ∧ PySem.W.EachIs T (xs.take (i + 1)) ds', fun H' hN => ⟨xs.length - (i + 1), by omega, rfl, hlt, hN⟩, fun v H' yv => ?_⟩
    obtain ⟨G3, z1, z2⟩ := yl v H' yv
    obtain ⟨τ2, tg, hy⟩ := h xs hD x (List.mem_of_getElem? hx)
    have RW := (R.step ((x1.tr y1).tr z1)).wipe vs
    have tk : (xs.take (i + 1)) = xs.take i ++ [x] := by rw [List.take_add_one, hx]; rfl
    refine tg G0 H0 G3 H' _ v RW z2 _ fun σ2 R2 ag ln => ⟨wipe_agree (ln.trans (wipe_length σ vs)) hj ag, ?_⟩
    have hLne : Hc L ≠ none := by rw [y2]; exact fun z => nomatch z
    refine hy G0 H0 G3 H' σ2 R2 _ fun v5 s5 G5 H5 hs5 x5 d5 => ?_
    obtain ⟨d, rfl, hT⟩ := hs5
    have w := z1.tr x5
    have g5 := w.ap L y3 hLne
    have l5 : ws.length = ds.length := y4.len
    have l6 := y5.length
    rw [List.length_take] at l6
    refine ⟨ws, w.hh _ _ y2, szl (by omega), G5, ws ++ [v5], ds ++ [d], (y1.tr w).mut hL g5, upd_same, g5, (DtAll.ex w.gg y4).app (.cons d5 .nil), ?_⟩
    rw [tk]
    have app : ∀ {a : List α} {b : List PyData}, PySem.W.EachIs T a b → PySem.W.EachIs T (a ++ [x]) (b ++ [d]) := fun {a b} hh => by
      induction hh with
      | nil => exact .cons hT .nil
      | cons r t ih => exact .cons r ih
    exact app y5
  · have e : i = xs.length := by omega
    subst e
    refine .inl ⟨jst (by rw [List.length_map]; exact Nat.le_refl _), ?_⟩
    rw [List.take_length] at y5
    exact k _ _ G2 Hc (hs xs ds hD y5) (x1.tr y1) ⟨L, ws, rfl, y2, y3, x1.hh.none hL, y4⟩
theorem each_map {α : Type} {g : α → PyData} : ∀ {xs : List α} {ds : List PyData}, PySem.W.EachIs (fun x d => d = g x) xs ds → ds = xs.map g
  | _, _, .nil => rfl
  | _, _, .cons h t => by rw [h, each_map t]; rfl
end
end Ab

namespace Ab
open PySem L2 PySem.Spec PyProof.Rows
variable [LamTab]
/-! ### defs that refuse -/
/-- what a class that is raised must say -/
structure RfC (K : PySem.W.Frag) (mg : Str → Option Value) (x : Str) (C : Addr) : Prop where
  g : mg x = some (.ref C)
  q : PySem.W.excIn K C [.type "ValueError", .type "Exception", .type "BaseException", .type "object"] "ValueError.__new__" = true
  k : PySem.W.keepIn K (.ref C) = true
  s : PySem.W.subIn K (.ref C) (.type "BaseException") = some true
  t : PySem.W.typeIn K (.ref C) = some (.type "type")
section
variable (K : PySem.W.Frag)
/-- a def's promise: it refuses by the class C -/
def spR (P : List Sl → Addr → Prop) : Sp := fun vs H _ E => ∃ G as C, Ex G H ∧ ArgsOk K G vs as ∧ P as C ∧ ∀ H', Ex H H' → E (.ref C) none H'
/-- statements that end in a refusal by C -/
def RfD (E : XK) (t : TS) (τ : Sls) (C : Addr) : Prop := ∀ G0 H0 G H σ, Rel K G0 H0 G H σ τ → (∀ H', Ex H0 H' → E (.ref C) none H') → ∀ D : Ends, t D σ H
end
section
variable {K : PySem.W.Frag} {τ : Sls} {te t1 t2 : TE} {t u : TS} {E : XK} {C : Addr}
theorem rd_raise : RfD K E (fun _ _ H => E (.ref C) none H) τ C := fun G0 H0 G H σ r k D => k H r.ext.hh
theorem rd_here (h : RfD K E t τ C) : RfD K E (tSeq t u) τ C := fun G0 H0 G H σ r k D => h G0 H0 G H σ r k _
theorem rd_seq {M : Sls → Prop} (h1 : SD K t τ M (fun _ => False)) (h2 : ∀ τ1, M τ1 → RfD K E u τ1 C) : RfD K E (tSeq t u) τ C := fun G0 H0 G H σ r k D =>
  h1 G0 H0 G H σ r { D with nx := u D } (fun τ1 G1 H1 σ1 m r1 x1 => h2 τ1 m G0 H0 G1 H1 σ1 r1 k D) (fun _ _ _ _ z => z.elim)
theorem rd_next {τ1 : Sls} (h1 : SD K t τ (· = τ1) (fun _ => False)) (h2 : RfD K E u τ1 C) : RfD K E (tSeq t u) τ C := rd_seq h1 fun _ e => e ▸ h2
theorem rd_if {c : TT} (hc : ET K c τ true) (h : RfD K E t τ C) : RfD K E (tIfS c t u) τ C := fun G0 H0 G H σ r k D => hc G0 H0 G H σ r _ fun G1 H1 x1 => by
  rw [if_pos rfl]; exact h G0 H0 G1 H1 σ (r.step x1) k D
theorem rd_call {P : List Sl → Addr → Prop} {ta : TA} {as : List Sl} (h : EA K ta τ as) (hp : P as C) : RfD K E (tDrop (tCallS (spR K P) (WE fun cls d _ H => E cls d H) ta)) τ C := fun G0 H0 G H σ r k D => h G0 H0 G H σ r _ fun vs G1 H1 x1 a1 =>
  ⟨G1, as, C, x1.gh, a1, hp, fun H' x => k H' ((r.ext.hh.tr x1.hh).tr x)⟩
theorem rd_altL (h : RfD K E (tDrop t1) τ C) : RfD K E (tDrop (tAlt t1 t2)) τ C := fun G0 H0 G H σ r k D => .inl (h G0 H0 G H σ r k D)
theorem rd_altR (h : RfD K E (tDrop t2) τ C) : RfD K E (tDrop (tAlt t1 t2)) τ C := fun G0 H0 G H σ r k D => .inr (h G0 H0 G H σ r k D)
theorem body_ofR {P : List Sl → Addr → Prop} {M : List Str} (h : ∀ as C, P as C → RfD K E t (startS M as) C) (vs : List V) (H : Hp) (Q : VK) (hp : spR K P vs H Q E) : t { nx := fun _ H' => Q .non H', rt := Q } (start M vs) H := by
  obtain ⟨G, as, C, x, ha, hP, k⟩ := hp
  exact h as C hP G H G H (start M vs) (rel_start x ha) k _
theorem spR_len {P : List Sl → Addr → Prop} {n : Nat} (h : ∀ as C, P as C → as.length = n) (vs : List V) (H : Hp) (Q : VK) (E : XK) (hp : spR K P vs H Q E) : vs.length = n := by
  obtain ⟨G, as, C, x, ha, hP, k⟩ := hp
  rw [ha.len]; exact h as C hP
end
section
variable {P : Program} {w : World} {K : PySem.W.Frag} {mg : Str → Option Value} {base : Heap}
/-- a def that refuses: what its body may let out is taken -/
theorem okN {x qual : Str} {st : Stmt} {f : Addr} {fd : FuncData} {N ps : List Str} {k : Nat} {sp : Sp} (F : Fun K x qual st f fd) (S : FnScope N ps (defScope st)) (len : ∀ vs H Q E, sp vs H Q E → vs.length = ps.length)
    (hbody : ∀ (cdv : Value) (A : Around) (outer : List Env) (s : Shared) (H : Hp) (vs : List V) (Q : VK) (E : XK), Room k (A.deeper (envOfC qual (defScope st) s.heap.objs.size f cdv)) →
      L2N.Takes (cxOf (L2N.CX P w) P w K mg base N qual (defScope st) f cdv A outer s H E) (fun cls d _ H => E cls d H) → sp vs H Q E →
      ∃ t, PSs (cxOf (L2N.CX P w) P w K mg base N qual (defScope st) f cdv A outer s H E) (defBody st) t ∧ t { nx := fun _ H' => Q .non H', rt := Q } (start N vs) H) : FnOk P w K mg base (L2N.CX P w) (k + 1) f fd ps sp := by
  obtain ⟨oc, od, kV, doc, pm, an, cdv, ct, osl, rfl, lk, hcd⟩ := F.ex
  refine fn_of lk hcd S len fun A outer s H vs Q E hr hsp => hbody cdv A outer s H vs Q E hr ?_ hsp
  exact L2N.takes_of rfl rfl rfl rfl
end
section
variable {X : Cx} {W : WX} {x m : Str} {C : Addr} {j : Nat} {p p2 pos pos' : Pos}
theorem ps_refuse (hc : X.calm = true) (tk : L2N.Takes X W) (r : RfC X.K X.mg x C) (hg : Gl X x) (hdb : (x == ("__debug__" : Str)) = false := by decide) :
    PS X (.Raise (some (.Call (.Name x p) [.Constant (.str m) j p2] [] pos)) none pos') (fun _ σ H => W (.ref C) none σ H) :=
  L2N.ps_raise hc tk (L2N.pmk_own PySem.F.excBase_ValueError r.q r.g r.k (raises_own r.s r.t) hg hdb)
theorem pss_never {st : List Stmt} : PSs X st (fun _ _ _ => False) := ⟨fun _ _ _ _ _ _ h => h.elim⟩
end
end Ab

namespace Ab
open PySem PySem.Spec PyProof.Rows L2 HotX
variable [LamTab]
/-! ### walks while an exception is handled -/
section
variable {prog : Program} {w : World} {A : Around} {E : Value → Shared → Prop} {s : Shared}
theorem hot_ne {it l x1 : Addr} {i : Nat} {h : Heap} (hot : HotAt A x1 h) (hit : h.IsListIter it l i) : x1 ≠ it := fun e => by
  obtain ⟨_, o1, vs1, h1, d1, c1⟩ := hot
  obtain ⟨o, ho, _, hd⟩ := hit
  rw [e, ho] at h1
  cases h1
  rw [hd] at d1
  cases d1
  cases c1
theorem next_list_end_hot {it l x1 : Addr} {i : Nat} {items : Array Value} {Q : Option Value → Shared → Prop} (hot : HotAt A x1 s.heap) (hit : s.heap.IsListIter it l i) (hl : s.heap.IsList l items) (hx : items[i]? = none)
    (hQ : ∀ h', Heap.ExtBut it s.heap h' → Q none { s with heap := h' }) : wpAny (model prog w) A (pyNext (.ref it)) Q E s := by
  have hne := hot_ne hot hit
  obtain ⟨hh, o1, vs1, h1, d1, c1⟩ := hot
  obtain ⟨o, ho, hc, hd⟩ := id hit
  obtain ⟨ol, hol, _, nl, hdl⟩ := hl
  unfold pyNext
  refine wpAny_bind (wpAny_attempt (wpAny_callSpecial?_slot (name := Str.ofString "__next__") hit.typeIs slot_listiter_next
    (wpAny_call_entry slot_listiter_next hit.typeIs entry_listiter_next ?_ (args_listiter_next _))))
  show wpAny _ _ (field (.ref it) 0 >>= _) _ _ s
  refine wpAny_bind (wpAny_field ho hd (x := .ref l) rfl ?_)
  show wpAny _ _ (if (Value.ref l == Value.none) = true then _ else _) _ _ s
  rw [if_neg (show ¬ ((Value.ref l == Value.none) = true) from Bool.false_ne_true)]
  show wpAny _ _ (field (.ref it) 1 >>= _) _ _ s
  refine wpAny_bind (wpAny_field ho hd (x := .int i 0) rfl ?_)
  show wpAny _ _ (seqItems? (.ref l) >>= _) _ _ s
  refine wpAny_bind (wpAny_seqItems hol hdl ?_)
  simp only [Int.toNat_natCast, hx]
  refine wpAny_bind (wpAny_rule (wpAny_bind (wpAny_setField ho hd (by simp) ?_)))
  show wpAny _ _ (newExc (.type "StopIteration") [] >>= _) _ _ _
  refine wpAny_bind ?_
  simp only [newExc, newTuple]
  refine wpAny_bind (wpAny_newObj_type ?_ (by size_fits))
  refine wpAny_bind (m := firstArgMember _ _) (wpAny_of_eq (a := Value.none) (by first | rfl | (simp only [firstArgMember]; rfl)) ?_)
  refine wpAny_newObj_type ?_ (by size_fits)
  have h1' := (Heap.get?_update_other s.heap (Obj.mapFields (·.setIfInBounds 0 Value.none)) (Ne.symm hne)).trans h1
  refine raiseNew_hot ⟨hh, o1, vs1, Heap.get?_push_of_some _ (Heap.get?_push_of_some _ h1'), d1, c1⟩ (Nat.ne_of_lt (Heap.lt_size (Heap.get?_push_of_some _ h1'))) (Heap.get?_push_size _ rfl) rfl (by first | (simp; done) | (simp; omega) | (simp only [Array.size_append]; simp; omega)) ?_
  refine wpAny_bind (wpAny_isInstance (T := "StopIteration") (b := true) ⟨_, Heap.get?_update_self _ (Heap.get?_push_size _ rfl) rfl, rfl⟩ isSubtype_stop ?_)
  refine wpAny_pure (hQ _ fun b o hb e => ?_)
  have e' := (Heap.get?_update_other s.heap (Obj.mapFields (·.setIfInBounds 0 Value.none)) (Ne.symm hb)).trans e
  rw [Heap.get?_update_other _ _ (Nat.ne_of_gt (Heap.lt_size (Heap.get?_push_of_some _ e')))]
  exact Heap.get?_push_of_some _ (Heap.get?_push_of_some _ e')
theorem walks_list_hot {x1 : Addr} (I ax : Addr) (hne : ax ≠ I) (hx : x1 ≠ I) (items : Array Value) :
    Walks prog w A I [I, ax, x1] [I] items.size (fun i v => items[i]? = some v) (fun i h => (h.IsListIter I ax i ∧ h.IsList ax items) ∧ HotAt A x1 h) where
  sub := fun b hb => by simp at hb; simp [hb]
  frame := fun _ _ _ st hk => ⟨⟨st.1.1.at fun o e => hk I (by simp) o e, st.1.2.at fun o e => hk ax (by simp) o e⟩, by
    obtain ⟨hh, o1, vs1, h1, d1, c1⟩ := st.2
    exact ⟨hh, o1, vs1, hk x1 (by simp) _ h1, d1, c1⟩⟩
  item := fun i s Q E hi st hQ => by
    refine wpAny_pyNext_list_item st.1.1 st.1.2 (x := items[i]) (by simp [hi]) fun h' hit' hs' => ?_
    obtain ⟨hh, o1, vs1, h1, d1, c1⟩ := st.2
    exact hQ _ h' s.toks (by simp [hi]) ⟨⟨hit', st.1.2.extBut hs'.extBut hne⟩, hh, o1, vs1, hs'.extBut x1 _ hx h1, d1, c1⟩ fun b o hb e => hs'.extBut b o (fun h => hb (by simp [h])) e
  done := fun s Q E st hQ => next_list_end_hot st.2 st.1.1 st.1.2 (by simp) fun h' he' => hQ h' s.toks fun b o hb e => he' b o (fun h => hb (by simp [h])) e
  self := fun _ _ _ _ st hQ => wpAny_pyIter_listiter st.1.1 hQ
end
section
variable {X : Cx}
theorem cr_anyH (hc : L2H.HotC X) : CallR X (.builtin "any") (rAny X.K) := by
  intro pins s σ H vs us Q I r h
  obtain ⟨a, bs, rfl, hs, q⟩ := h
  obtain ⟨its, rv, hl, _⟩ := I.list hs
  rw [Vals.ref1 r]
  have hb := rv.bls
  obtain ⟨x1, hot⟩ := hc.at I
  refine call_any_walk (iter_any hl.isList fun s₂ e2 st hne => ?_)
  subst e2
  have hx : x1 ≠ s.heap.objs.size := by
    obtain ⟨_, o1, _, h1, _⟩ := hot
    exact Nat.ne_of_lt (Heap.lt_size h1)
  refine ⟨_, _, _, _, _, _, _, rfl, walks_list_hot (A := X.A.in1) (x1 := x1) _ a hne hx its.toArray, ⟨st, ?_⟩, truth_bools hb, fun h' tk hk => ?_⟩
  · obtain ⟨hh, o1, vs1, h1, d1, c1⟩ := hot
    exact ⟨hh, o1, vs1, Heap.get?_push_of_some _ h1, d1, c1⟩
  refine ⟨.bl _, H, I.kept fun b o eo => hk b o (fun hmem => ?_) (Heap.get?_push_of_some _ eo), ?_, q⟩
  · rcases List.mem_cons.mp hmem with e1 | hmem
    · exact absurd (e1 ▸ Heap.lt_size eo) (Nat.lt_irrefl _)
    · cases hmem
  · show Value.bool _ = Value.bool _
    rw [← L2.any_range, hb, List.size_toArray, List.length_map]
theorem hot_suite {a : Addr} {oe : Obj} {cls : Value} {d : Option Addr} {pn : List (Addr × Obj)} (hz : L2N.Zn cls d oe) (hf : ∃ vs, oe.data = .fields vs) : L2H.HotC (X.suite a ((a, oe) :: pn)) := by
  obtain ⟨vs, hv⟩ := hf
  exact ⟨(a, oe), ⟨rfl, vs, hv, hz.2.2 vs hv⟩, List.mem_cons_self⟩
theorem anyH {K : PySem.W.Frag} (hc : L2H.HotC X) (h : X.K = K) : CallR X (.builtin "any") (rAny K) := by subst h; exact cr_anyH hc
end
/-! ### isinstance of the error that a suite holds -/
section
variable {K : PySem.W.Frag} {τ : Sls} {D a : Addr} {i : Nat}
theorem ed_isE {C' : Addr} {b : Bool} (h : τ[i]? = some (.at_ a)) (hk : PySem.W.kitOne K (.ref D) (.ref C') = some b) : ED K (tCB (rIsE K D a) (tCons (tVar i) (tCons (tC (.ref C')) tNil))) τ (.bool b) := fun G0 H0 G H σ r Q q => by
  obtain ⟨ov, e1, e2⟩ := r.at_ i _ h
  have e2 : ov = some (V.ref a) := e2
  subst e2
  exact ⟨_, e1, .ref C', .ref C', b, rfl, fun u hu => hu, hk, q _ G H (Ext.rfl r.gh) (.bl b)⟩
/-- isinstance(e, ValueError) -/
theorem ed_isET {T : String} {b : Bool} (h : τ[i]? = some (.at_ a)) (hk : PySem.W.kitOne K (.ref D) (.type T) = some b) : ED K (tCB (rIsE K D a) (tCons (tVar i) (tCons (tC (.ty T)) tNil))) τ (.bool b) := fun G0 H0 G H σ r Q q => by
  obtain ⟨ov, e1, e2⟩ := r.at_ i _ h
  have e2 : ov = some (V.ref a) := e2
  subst e2
  exact ⟨_, e1, .ty T, .type T, b, rfl, fun u hu => hu, hk, q _ G H (Ext.rfl r.gh) (.bl b)⟩
end
/-! ### try: a call that is refused -/
section
variable {X : Cx}
theorem takesF : L2N.Takes X (fun _ _ _ _ => False) := fun u s' ⟨_, _, _, _, _, _, _, _, _, _, _, _, _, _, _, _, z⟩ => z.elim
theorem zc_of {cls : Value} {d : Option Addr} {oe : Obj} {D : Addr} (hz : L2N.Zn cls d oe) (e1 : cls = .ref D) (e2 : d = none) : Zc (.ref D) none oe := by subst e1 e2; exact hz.zc
/-- a suite, its error's class known -/
theorem pss_cls {st : List Stmt} {K : PySem.W.Frag} {cls : Value} {d : Option Addr} {t : Addr → TS} (h : ∀ D, cls = .ref D → d = none → ExcC K D → PSs X st (t D)) : PSs X st (fun Q σ H => ∃ D, cls = .ref D ∧ d = none ∧ ExcC K D ∧ t D Q σ H) :=
  ⟨fun pins s σ H Q I ⟨D, e1, e2, e3, k⟩ => (h D e1 e2 e3).run pins s σ H Q I k⟩
end
section
variable {K : PySem.W.Frag} {τ : Sls} {t1 : TE} {ta : TA} {as : List Sl} {C : Addr} {c : Value} {i : Nat} {t : Addr → Addr → TS} {N : Sls → Prop} {R : Sl → Prop}
/-- the body's call is refused by C: the suite follows, the slot i holds the error -/
theorem sd_try {P : List Sl → Addr → Prop} (h : EA K ta τ as) (hp : P as C) (hm : PySem.W.exmOne K (.ref C) c = some true) (ec : ExcC K C) (hs : ∀ a, SD K (t a C) (τ.set i (.at_ a)) (fun _ => False) R) :
    SD K (fun D σ H => tDrop (tAlt t1 (tCallS (spR K P) (WE (wAs K c i (fun a cls d => fun Q σ H => ∃ D, cls = .ref D ∧ d = none ∧ ExcC K D ∧ t a D Q σ H) (fun _ _ _ _ => False) D)) ta)) D σ H) τ N R := fun G0 H0 G H σ r D kn kr => by
  refine .inr (h G0 H0 G H σ r _ fun vs G1 H1 x1 a1 => ⟨G1, as, C, x1.gh, a1, hp, fun H' x => ⟨true, hm, fun _ a na => ⟨C, rfl, rfl, ec, ?_⟩, fun z => nomatch z⟩⟩)
  have r1 : Rel K G0 H0 G1 H' σ τ := (r.step x1).step (Ext.grow x1.gh x)
  have r2 : Rel K G0 H0 G1 H' (σ.set i (some (.ref a))) (τ.set i (.at_ a)) := r1.setX i (s := .at_ a) rfl fun p o => o.elim
  exact hs a G0 H0 G1 H' _ r2 _ (fun _ _ _ _ z => z.elim) kr
/-- the body's call goes through -/
theorem sd_tryN {t2 : Ends → TE} {d : PyData} (h : ED K t1 τ d) (hn : N τ) : SD K (fun D σ H => tDrop (tAlt t1 (t2 D)) D σ H) τ N R := fun G0 H0 G H σ r D kn kr => sd_drop (ed_altL (t2 := t2 D) h) hn G0 H0 G H σ r D kn kr
end
end Ab

namespace Ab
open PySem L2 PySem.Spec PyProof.Rows PySem.W
variable [LamTab]
/-- a comprehension within a comprehension -/
def env0 (sc : Scope) : Env := { scope := sc, locals := 0, globals := 0, cells := [] }
theorem blkOk_in {N : List Str} {sc0 osc scope : Scope} {own : List (Str × Nat)} {cl : List (Str × Addr)} {C : Addr} {env : Env} (he : env.scope = osc) (h : blkC N (relabel sc0 (env0 osc)) scope own = true) : BlkOk N (compEnvC sc0 cl C env).scope scope own := by
  subst he
  exact blkOk_by h
/-! ### data that tells its address; data beside which an address is known -/
def dTag (a : Addr) (d : PyData) : PyData := .dict [(.none, .int ((a : Nat) : Int)), (.none, d)]
def dSee (a : Addr) (d : PyData) : PyData := .dict [(.none, .none), (.int ((a : Nat) : Int), d)]
def dSees : List Addr → PyData → PyData
  | [], d => d
  | a :: L, d => dSee a (dSees L d)
theorem Dt.tag_of {G : Hp} {v : V} {a : Addr} {d : PyData} (h : Dt G v (dTag a d)) : v = .ref a ∧ Dt G v d := by
  generalize hd : dTag a d = e at h
  cases h with
  | tag h1 =>
    unfold dTag at hd
    injection hd with hd
    injection hd with h3 h4
    injection h3 with _ h3
    injection h3 with h3
    injection h4 with h4 _
    injection h4 with _ h4
    have h5 := Int.ofNat.inj h3
    subst h5
    subst h4
    exact ⟨rfl, h1⟩
  | _ => cases hd
/-- something that is no table stands there -/
def There (G : Hp) (a : Addr) : Prop := ∃ o, G a = some o ∧ ∀ ps, o ≠ .tbl ps
theorem There.ne {G : Hp} {a : Addr} (h : There G a) : G a ≠ none := by
  obtain ⟨o, e, _⟩ := h
  rw [e]
  exact fun z => nomatch z
theorem There.ex {G G' : Hp} {a : Addr} (x : Ex G G') (h : There G a) : There G' a := by
  obtain ⟨o, e, n⟩ := h
  exact ⟨o, x _ _ e, n⟩
theorem Dt.see_of {G : Hp} {v : V} {a : Addr} {d : PyData} (h : Dt G v (dSee a d)) : Dt G v d ∧ There G a := by
  generalize hd : dSee a d = e at h
  cases h with
  | see h1 h2 h9 =>
    unfold dSee at hd
    injection hd with hd
    injection hd with _ h3
    injection h3 with h3 _
    injection h3 with h3 h4
    injection h3 with h3
    have h5 := Int.ofNat.inj h3
    subst h5
    subst h4
    exact ⟨h1, _, h2, h9⟩
  | _ => cases hd
theorem Dt.sees_of {G : Hp} {v : V} {d : PyData} : ∀ {L : List Addr}, Dt G v (dSees L d) → Dt G v d ∧ ∀ a ∈ L, There G a
  | [], h => ⟨h, fun a ha => nomatch ha⟩
  | a :: L, h => by
    obtain ⟨h1, h2⟩ := Dt.see_of h
    obtain ⟨h3, h4⟩ := Dt.sees_of h1
    exact ⟨h3, fun b hb => by
      rcases List.mem_cons.mp hb with rfl | hb
      · exact h2
      · exact h4 b hb⟩
theorem Dt.ref_ne {G : Hp} {a : Addr} : ∀ {d : PyData}, Dt G (.ref a) d → There G a
  | _, .lst h _ => ⟨_, h, fun _ z => nomatch z⟩
  | _, .tup h _ => ⟨_, h, fun _ z => nomatch z⟩
  | _, .ins h _ => ⟨_, h, fun _ z => nomatch z⟩
  | _, .tag h => Dt.ref_ne h
  | _, .fn h _ => ⟨_, h, fun _ z => nomatch z⟩
  | _, .dct h => ⟨_, h, fun _ z => nomatch z⟩
  | _, .bes h _ => Dt.ref_ne h
/-- what the slots know of addresses -/
def Kn (τ : Sls) (L : List Addr) : Prop := ∀ a ∈ L, (∃ (j : Nat) (d : PyData), τ[j]? = some (.dat (dTag a d))) ∨ ∃ (j : Nat) (M : List Addr) (d : PyData), a ∈ M ∧ τ[j]? = some (.dat (dSees M d))
theorem Kn.ne {K : PySem.W.Frag} {τ : Sls} {L : List Addr} {G0 H0 G H : Hp} {σ : L2.St} (k : Kn τ L) (r : Rel K G0 H0 G H σ τ) : ∀ a ∈ L, There G a := fun a ha => by
  rcases k a ha with ⟨j, d, e⟩ | ⟨j, M, d, hM, e⟩
  · obtain ⟨v, _, h⟩ := r.var e
    obtain ⟨rfl, h⟩ := Dt.tag_of h
    exact Dt.ref_ne h
  · obtain ⟨v, _, h⟩ := r.var e
    exact (Dt.sees_of h).2 a hM
section
variable {K : PySem.W.Frag} {τ : Sls} {te ta tb : TE} {d e : PyData} {a p : Addr} {L : List Addr} {P P' : PyData → Prop} {N : Sls → Prop} {R S S0 : Sl → Prop}
theorem ED.imp (h : ED K te τ d) (hi : ∀ G v, Dt G v d → Dt G v e) : ED K te τ e := fun G0 H0 G H σ r Q q => h G0 H0 G H σ r Q fun v G' H' x dd => q v G' H' x (hi G' v dd)
theorem ED.untag (h : ED K te τ (dTag a d)) : ED K te τ d := h.imp fun _ _ z => (Dt.tag_of z).2
theorem ED.unsee (h : ED K te τ (dSees L d)) : ED K te τ d := h.imp fun _ _ z => (Dt.sees_of z).1
theorem ed_varT {i : Nat} (h : τ[i]? = some (.dat (dTag a d))) : ED K (tVar i) τ d := (ed_var h).untag
theorem ed_varS {i : Nat} (h : τ[i]? = some (.dat (dSees L d))) : ED K (tVar i) τ d := (ed_var h).unsee
theorem sees_dt {G : Hp} {i : Int} (h : Dt G (.int i) d) : ∀ {L : List Addr}, (∀ a ∈ L, There G a) → Dt G (.int i) (dSees L d)
  | [], _ => h
  | a :: L, k => by
    obtain ⟨o, q, n⟩ := k a List.mem_cons_self
    exact .see (sees_dt h fun b hb => k b (List.mem_cons_of_mem _ hb)) q n
theorem ed_sees {i : Int} (h : ED K te τ (.int i)) (k : Kn τ L) : ED K te τ (dSees L (.int i)) := fun G0 H0 G H σ r Q q => h G0 H0 G H σ r Q fun v G' H' x dd => q v G' H' x (by
  cases Dt.int_of dd
  exact sees_dt dd fun b hb => (k.ne r b hb).ex x.gg)
theorem DtAll.imp {α : Type} {G : Hp} {f g : α → PyData} (hi : ∀ v x, Dt G v (f x) → Dt G v (g x)) : ∀ {xs : List α} {vs : List V}, DtAll G vs (xs.map f) → DtAll G vs (xs.map g)
  | [], _, .nil => .nil
  | x :: xs, _, .cons h t => .cons (hi _ _ h) (DtAll.imp hi t)
theorem ED.impL {α : Type} {f g : α → PyData} {xs : List α} (h : ED K te τ (.list (xs.map f))) (hi : ∀ G v x, Dt G v (f x) → Dt G v (g x)) : ED K te τ (.list (xs.map g)) := h.imp fun G v z => by
  obtain ⟨b, vs, rfl, h1, h2⟩ := Dt.lst_of z
  exact .lst h1 (DtAll.imp (hi G) h2)
/-- a new list: its address is none that is known -/
theorem edn_tag {ds : List PyData} (h : EL K te τ ds) (k : Kn τ L) : EDN K te τ fun d => ∃ q, q ∉ L ∧ d = dTag q (.list ds) := fun G0 H0 G H σ r Q q => h G0 H0 G H σ r Q fun b vs G' H' x hb gb hh dd => by
  refine q _ _ _ _ ⟨b, fun hm => ?_, rfl⟩ (x.frz hb hh gb) (.tag (.lst upd_same (DtAll.ex (Ex.upd gb) dd)))
  exact (k.ne r b hm).ne (r.gh.none hb)
theorem sd_extendN {i : Nat} {ds : List PyData} (ht : τ[i]? = some (.own ds)) (h : EN K te τ S0) (hs : ∀ s, S0 s → ∃ es, s = .own es ∧ ds.length + es.length ≤ 100000 ∧ N (τ.set i (.own (ds ++ es)))) : SD K (tDrop (tBM K "list" rExtend (tVar i) (tCons te tNil))) τ N R := fun G0 H0 G H σ r D kn kr => by
  obtain ⟨b, vs, h1, h2, h3, h4, h5⟩ := r.ownAt ht
  refine ⟨_, h1, .inl ⟨rfl, vs, .inl (.inl h2)⟩, h G0 H0 G H σ r _ fun v s G1 H1 hS x1 d1 => ?_⟩
  obtain ⟨es, rfl, hl, hn⟩ := hs s hS
  have r1 := r.step x1
  obtain ⟨b', vs', k1, k2, k3, k4, k5⟩ := r1.ownAt ht
  rw [h1] at k1
  cases k1
  obtain ⟨c, us, rfl, e1, e2, e3, e4⟩ := d1
  refine ⟨b, c, vs', us, rfl, rfl, k2, e1, sz (by rw [k5.len, e4.len]; exact hl), ?_⟩
  exact kn _ G1 _ σ hn (r1.mut ht h1 (k5.app e4)) x1.gg
/-- freeze an own list, its address known -/
theorem sd_frzT {i : Nat} {t : TS} {ds : List PyData} (ht : τ[i]? = some (.own ds)) (h : ∀ p, SD K t (τ.set i (.dat (dTag p (.list ds)))) N R) : SD K t τ N R := fun G0 H0 G H σ r D kn kr => by
  obtain ⟨b, vs, h1, h2, h3, h4, h5⟩ := r.ownAt ht
  have hG : Ext G0 H0 (upd G b (.lst vs)) H := r.ext.frz h4 h2 h3
  obtain ⟨G1, x, r1⟩ : ∃ G1, Ex G G1 ∧ Rel K G0 H0 G1 H σ (τ.set i (.dat (dTag b (.list ds)))) := by
    obtain ⟨G1, x, r1⟩ := r.frz ht
    refine ⟨G1, x, ?_⟩
    obtain ⟨v, e1, e2⟩ := r1.var (i := i) (d := .list ds) (by
      have hl : i < τ.length := (List.getElem?_eq_some_iff.mp ht).1
      rw [List.getElem?_set_self hl])
    rw [h1] at e1
    cases e1
    have rr := r1.setX i (s := .dat (dTag b (.list ds))) (ov := some (.ref b)) ⟨_, rfl, .tag e2⟩ fun p o => o.elim
    have es : σ.set i (some (.ref b)) = σ := by
      refine List.ext_getElem? fun j => ?_
      by_cases c : i = j
      · subst c
        rw [h1, List.getElem?_set_self (List.getElem?_eq_some_iff.mp h1).1]
      · rw [List.getElem?_set_ne c]
    rw [es, List.set_set] at rr
    exact rr
  exact h b G0 H0 G1 H σ r1 D (fun τ2 G2 H2 σ2 n r2 x2 => kn τ2 G2 H2 σ2 n r2 (x.tr x2)) kr
/-- min of tagged data -/
theorem edn_minT {α : Type} {xs : List α} {f g : α → PyData} {ds : List PyData} (h : ED K ta τ (.list (xs.map f))) (hi : ∀ G v x, Dt G v (f x) → Dt G v (g x)) (hg : xs.map g = d :: ds) (hal : AlikeAll (d :: ds)) (hdp : PyData.depthAll (d :: ds) ≤ 8) (hc : PyData.canLayAll0 (d :: ds) = true) :
    EDN K (tCB (rMinD K) (tCons ta tNil)) τ fun e => ∃ x ∈ xs, g x = minD d ds ∧ e = f x := fun G0 H0 G H σ r Q q => h G0 H0 G H σ r _ fun v G1 H1 x1 d1 => by
  obtain ⟨b, us, rfl, e1, a1⟩ := Dt.lst_of d1
  have a2 : DtAll H1 us (d :: ds) := by rw [← hg]; exact DtAll.imp (hi H1) (DtAll.ex x1.gh a1)
  refine ⟨b, us, d, ds, rfl, .inl (.inl (x1.gh _ _ e1)), DtAll.dp a2 hc, hal, hdp, fun i v hv hd => ?_⟩
  rw [← hg, List.getElem?_map] at hd
  obtain ⟨x, hx, he⟩ := Option.map_eq_some_iff.mp hd
  obtain ⟨w, k1, k2⟩ := a1.at (i := i) (d := f x) (by rw [List.getElem?_map, hx]; rfl)
  rw [hv] at k1
  cases k1
  exact q _ _ G1 H1 ⟨x, List.mem_of_getElem? hx, he, rfl⟩ x1 k2
theorem edn_ix1 (h : EDN K ta τ P) (hp : ∀ d, P d → ∃ e1 e2, d = .tuple [e1, e2] ∧ P' e2) : EDN K (tOp (rIxA K) ta (tC (.int 1))) τ P' := fun G0 H0 G H σ r Q q => h G0 H0 G H σ r _ fun v d G1 H1 hd x1 d1 => by
  obtain ⟨e1, e2, rfl, h2⟩ := hp d hd
  obtain ⟨b, vs, rfl, k1, a1⟩ := Dt.tup_of d1
  cases a1 with
  | cons z1 t =>
    cases t with
    | cons z2 t =>
      cases t
      exact .inr ⟨b, _, 1, _, rfl, rfl, .inl (.inl (x1.gh _ _ k1)), rfl, q _ _ G1 H1 h2 x1 z2⟩
end
end Ab

namespace Ab
open PySem PySem.Spec PyProof.Rows L2
variable [LamTab]
/-! ### comprehensions whose block keeps the pins and knows something of the state at its start -/
/-- an iterator, usable in the contexts of which Cd is true -/
structure TurnC (Cd : Cx → Prop) (P : Program) (w : World) (K : PySem.W.Frag) (tg : Expr) (J : It) (fp : List Addr) (it : Addr) (tn : Nat → Heap → Prop) : Prop where
  obj : ∀ i h, tn i h → ∀ b ∈ fp, ∃ o, h.get? b = some o ∧ ∀ v, o.data ≠ .cell v
  keep : ∀ i h h', tn i h → (∀ b ∈ fp, ∀ o, h.get? b = some o → h'.get? b = some o) → tn i h'
  item : ∀ (X : Cx), X.prog = P → X.w = w → X.K = K → Cd X → ∀ (i : Nat) (pins : List (Addr × Obj)) (s : Shared) (σ : L2.St) (H : Hp) (E : Value → Shared → Prop), Inv X pins σ H s → (∀ b ∈ fp, FpOk X pins H b) → tn i s.heap → J.go i H →
    wpAny (model P w) X.A (pyNext (.ref it)) (fun r s1 => ∃ u, r = some u ∧
      wpAny (model P w) X.A (letOwnedTupleGo tg (.ref it) u) (fun _ s2 => ∃ x H', Inv X pins σ H' s2 ∧ RelV x u ∧ J.yld i H x H' ∧ tn (i + 1) s2.heap ∧ ∀ b ∈ fp, H' b = none) E s1) E s
  done : ∀ (X : Cx), X.prog = P → X.w = w → X.K = K → Cd X → ∀ (i : Nat) (pins : List (Addr × Obj)) (s : Shared) (σ : L2.St) (H : Hp) (E : Value → Shared → Prop), Inv X pins σ H s → (∀ b ∈ fp, FpOk X pins H b) → tn i s.heap → J.stop i H →
    wpAny (model P w) X.A (pyNext (.ref it)) (fun r s1 => r = none ∧ Inv X pins σ H s1) E s
  self : ∀ (A : Around) (i : Nat) (s : Shared) (Q : Value → Shared → Prop) (E : Value → Shared → Prop), tn i s.heap → Q (.ref it) s → wpAny (model P w) A (pyIter (.ref it)) Q E s
def PIC (Cd : Cx → Prop) (X : Cx) (tg iter : Expr) (wi : TI) : Prop := ∀ (pins : List (Addr × Obj)) (s : Shared) (σ : L2.St) (H : Hp) (R : It → Hp → Prop), Inv X pins σ H s → wi σ H R →
  wpAny (model X.prog X.w) X.A (eval iter X.env) (fun v s1 => wpAny (model X.prog X.w) X.A (pyIter v) (fun itv s2 => ∃ (it : Addr) (fp : List Addr) (tn : Nat → Heap → Prop) (J : It) (H' : Hp), itv = .ref it ∧ Inv X pins σ H' s2 ∧ TurnC Cd X.prog X.w X.K tg J fp it tn ∧ tn 0 s2.heap ∧ (∀ b ∈ fp, FpOk X pins H' b) ∧ R J H') X.xe s1) X.xe s
abbrev Calm (X : Cx) : Prop := X.calm = true
theorem pic_calm {X : Cx} {tg iter : Expr} {wi : TI} (h : PI X tg iter wi) : PIC Calm X tg iter wi := fun pins s σ H R I q => thn (h.run pins s σ H R I q) fun v s1 h1 => thn h1 fun itv s2 ⟨it, fp, tn, J, H', e, I2, T, st, f, r⟩ =>
  ⟨it, fp, tn, J, H', e, I2, ⟨T.obj, T.keep, T.item, T.done, T.self⟩, st, f, r⟩
theorem pic_hot {X : Cx} {tg iter : Expr} {wi : TI} (h : L2H.PIH X tg iter wi) : PIC L2H.HotC X tg iter wi := fun pins s σ H R I q => thn (h.run pins s σ H R I q) fun v s1 h1 => thn h1 fun itv s2 ⟨it, fp, tn, J, H', e, I2, T, st, f, r⟩ =>
  ⟨it, fp, tn, J, H', e, I2, ⟨T.obj, T.keep, T.item, T.done, T.self⟩, st, f, r⟩
abbrev blkP (X : Cx) (s : Shared) (H : Hp) (scope : Scope) (cenv : Env) (fp : List Addr) : Cx := { X.blk s H scope cenv fp with pn := X.pn }
theorem ok_blkP {X : Cx} {s : Shared} {H : Hp} {scope : Scope} {cenv : Env} {fp : List Addr} (ok : (X.blk s H scope cenv fp).Ok) : (blkP X s H scope cenv fp).Ok :=
  ⟨ok.mod, ok.kind, ok.glob, ok.blt, ok.above, ok.inj, ok.has, ok.cab, ok.hd, ok.frames, ok.stk, ok.exf, ok.bs, ok.bsz, ok.noex, ok.exfs, ok.funs, ok.frf⟩
section
variable {X : Cx}
theorem lcG_core {Cd : Cx → Prop} {Φ : Shared → Hp → List Addr → Prop} {pins : List (Addr × Obj)} {s : Shared} {σ : L2.St} {H : Hp} {Q : VK} {elt tg iter : Expr} {ifs : List Expr} {scope : Scope} {own : List (Str × Nat)} {pos pos' : Pos} {wi : TI} {g : TG} {tt : TT} {te : TE} {Qf : Value → Shared → Prop}
    (hcd : ∀ s H cenv fp, Cd (blkP X s H scope cenv fp)) (hΦ : ∀ H s fp, Inv X pins σ H s → (∀ b ∈ fp, FpOk X pins H b) → Φ s H fp) (hN : X.N.Nodup) (I : Inv X pins σ H s) (hi : PIC Cd X tg iter wi) (ok : BlkOk X.N X.env.scope scope own)
    (hg : ∀ (s : Shared) (H : Hp) (C : Addr) (cl : List (Str × Addr)) (fp : List Addr), Φ s H fp → PG (blkP X s H scope (compEnvC scope cl C X.env) fp) tg g) (ht : ∀ (s : Shared) (H : Hp) (C : Addr) (cl : List (Str × Addr)) (fp : List Addr), Φ s H fp → PTs (blkP X s H scope (compEnvC scope cl C X.env) fp) ifs tt)
    (he : ∀ (s : Shared) (H : Hp) (C : Addr) (cl : List (Str × Addr)) (fp : List Addr), Φ s H fp → PE (blkP X s H scope (compEnvC scope cl C X.env) fp) elt te) (hs : ∀ x, foldedSetIterable iter X.env x = pure x)
    (h : tLc wi g tt te (own.map (·.2)) σ H Q)
    (hRR : ∀ D C s' m H', Inv X pins σ H' s' → Q (.ref D) H' → s'.heap.Ns C m → FpOk X pins H' C → compPost (model X.prog X.w) X.A X.xe none Qf (.ref D) C (.ok .next) s') :
    wpAny (model X.prog X.w) X.A (comprehension (.ListComp elt [⟨tg, iter, ifs, 0⟩] scope pos) scope X.env pos' (newList []) false (eval iter X.env) none) Qf X.xe s := by
  have hfree : ∀ y ∈ scope.names, y.2 = .free → ∃ c, X.env.cells.lookup y.1 = some c := fun y hy e => by
    rcases ok.free y hy e with k | k
    · exact I.ok.has _ (.inl k)
    · exact I.ok.has _ (.inr k)
  refine wpAny_comprehension_free (use := none) rfl hs (closure_ok hfree) ok.kind (fun y hy e => by rw [ok.uniq y hy, e])
    (thn (hi pins s σ H _ I h) fun xv s1 hx => thn hx fun itv s2 h2 => ?_)
  obtain ⟨it, fp, tn, J, H2, e, I2, T, st2, f2, q⟩ := h2
  subst e
  refine wpAny_newObj_type (newEnv_comp ?_) (by show 0 ≤ sizeLine; decide)
  generalize hD : s2.heap.objs.size = D
  have hDn : H2 D = none := I2.hok.fresh (Nat.le_of_eq hD)
  obtain ⟨W, ⟨m0, w0⟩, turn⟩ := q D hDn
  generalize hs3 : ({ s2 with heap := s2.heap.push { cls := .type "list", data := .seq ([] : List Value).toArray } } : Shared) = s3
  have I3 : Inv X pins σ (upd H2 D (.lst [])) s3 := by
    rw [← hs3]
    refine I2.laid (t' := s2.toks) (fun b o e => Heap.get?_push_of_some _ e) (Nat.le_of_eq hD) ⟨Nat.zero_le _, [], 0, .nil, ?_⟩
    rw [← hD]
    exact Heap.get?_push_size _ rfl
  have h3 : s3.heap = s2.heap.push { cls := .type "list", data := .seq ([] : List Value).toArray } := by rw [← hs3]
  have sz : ∀ b ∈ fp, b < s2.heap.objs.size := fun b hb => by
    obtain ⟨o, e, _⟩ := T.obj _ _ st2 b hb
    exact Heap.lt_size e
  have f3 : ∀ b ∈ fp, FpOk X pins (upd H2 D (.lst [])) b ∧ b < s3.heap.objs.size := fun b hb => by
    have hlt := sz b hb
    refine ⟨⟨?_, (f2 b hb).2⟩, by rw [h3, Heap.size_push]; exact Nat.lt_succ_of_lt hlt⟩
    rw [upd_ne (by rw [← hD]; exact Nat.ne_of_lt hlt)]
    exact (f2 b hb).1
  have st3 : tn 0 s3.heap := T.keep _ _ _ st2 fun b _ o e => by rw [h3]; exact Heap.get?_push_of_some _ e
  have φ3 : Φ s3 (upd H2 D (.lst [])) fp := hΦ _ _ _ I3 fun b hb => (f3 b hb).1
  have I4 := block_start I3 ok hN f3
  have pg := hg s3 (upd H2 D (.lst [])) s3.heap.objs.size (cellsFrom (s3.heap.objs.size + 1) scope.names (cloFrom X.env.cells scope.names [])) fp φ3
  have pt := ht s3 (upd H2 D (.lst [])) s3.heap.objs.size (cellsFrom (s3.heap.objs.size + 1) scope.names (cloFrom X.env.cells scope.names [])) fp φ3
  have pe := he s3 (upd H2 D (.lst [])) s3.heap.objs.size (cellsFrom (s3.heap.objs.size + 1) scope.names (cloFrom X.env.cells scope.names [])) fp φ3
  show codeAny _ _ (.compStart (.ListComp elt [⟨tg, iter, ifs, 0⟩] scope pos) 0 (.ref it) (.ref D) (compEnvC scope (cellsFrom (s3.heap.objs.size + 1) scope.names (cloFrom X.env.cells scope.names [])) s3.heap.objs.size X.env)) (compPost (model X.prog X.w) X.A X.xe none Qf (.ref D) s3.heap.objs.size) { s3 with heap := pushCells (s3.heap.push { cls := .type "dict", data := .dict #[] }) scope.names }
  have nfp : ∀ b ∈ fp, (upd H2 D (.lst [])) b = none := fun b hb => (f3 b hb).1.1
  generalize hce : compEnvC scope (cellsFrom (s3.heap.objs.size + 1) scope.names (cloFrom X.env.cells scope.names [])) s3.heap.objs.size X.env = ce at I4 pg pt pe ⊢
  have cL : ce.locals = s3.heap.objs.size := by subst hce; rfl
  generalize hH3 : upd H2 D (.lst []) = H3 at I3 I4 pg pt pe w0 nfp f3
  generalize hs4 : ({ s3 with heap := pushCells (s3.heap.push { cls := .type "dict", data := .dict #[] }) scope.names } : Shared) = s4 at I4 ⊢
  have k4 : ∀ b o, s3.heap.get? b = some o → s4.heap.get? b = some o := fun b o e => by rw [← hs4]; exact pushCells_keeps _ _ _ _ (Heap.get?_push_of_some _ e)
  -- the pins in the block
  have p3 : ∀ p ∈ X.pn, s3.heap.get? p.1 = some p.2 ∧ H3 p.1 = none ∧ p.1 ≠ ce.locals ∧ p.1 ∉ frs X.stack ∧ p.1 ∉ fp ∧ ∀ v, p.2.data ≠ .cell v := fun p hp => by
    obtain ⟨a1, a2, a3, a4, a5⟩ := I3.pin p (List.mem_append_left _ hp)
    refine ⟨a1, a2, by rw [cL]; exact Nat.ne_of_lt (Heap.lt_size a1), fun hm => ?_, fun hm => ?_, a5⟩
    · rcases List.mem_cons.mp (I3.stkSub p.1 hm) with z | z
      · exact a3 z
      · exact a4 z
    · exact (f3 p.1 hm).1.2.2.2.2.2 p (List.mem_append_left _ hp) rfl
  have toP : ∀ {σ' : L2.St} {H' : Hp} {s' : Shared}, Inv (X.blk s3 H3 scope ce fp) [] σ' H' s' → Inv (blkP X s3 H3 scope ce fp) [] σ' H' s' := fun {σ' H' s'} I' =>
    ⟨ok_blkP I'.ok, I'.os, I'.bare, I'.base, I'.loc, I'.cell, I'.free, I'.freeC, fun p hp => by
      have hp : p ∈ X.pn := by simpa using (show p ∈ X.pn ++ ([] : List (Addr × Obj)) from hp)
      obtain ⟨a1, a2, a3, a4, a5, a6⟩ := p3 p hp
      exact ⟨I'.base.keep p.1 p.2 a1 a2 a4 a5, I'.base.free p.1 p.2 a1 a2 a5, a3, a4, a6⟩, I'.hok, I'.len⟩
  have I4P := toP I4
  have st4 : tn 0 s4.heap := T.keep _ _ _ st3 fun b _ o e => k4 b o e
  have stat : ∀ {σ' : L2.St} {H' : Hp} {s' : Shared}, Inv (blkP X s3 H3 scope ce fp) [] σ' H' s' → (∀ b ∈ fp, H' b = none) → ∀ b ∈ fp, FpOk (blkP X s3 H3 scope ce fp) [] H' b := fun {σ' H' s'} I' hn b hb =>
    ⟨hn b hb, (I'.ok.exf b hb).1, I'.ok.exfs b hb, .inl hb, fun x c e => (I'.ok.exf b hb).2 x c e, fun p hp z => by
      have hp : p ∈ X.pn := by simpa using (show p ∈ X.pn ++ ([] : List (Addr × Obj)) from hp)
      exact (p3 p hp).2.2.2.2.1 (by rw [z]; exact hb)⟩
  have loop : codeAny (model X.prog X.w) X.A (.compLoop (.ListComp elt [⟨tg, iter, ifs, 0⟩] scope pos) 0 (.ref it) (.ref D) ce) (compPost (model X.prog X.w) X.A X.xe none Qf (.ref D) s3.heap.objs.size) s4 := by
    refine compLoop_any (fun n s' => ∃ i H', Inv (blkP X s3 H3 scope ce fp) [] (wipe σ (own.map (·.2))) H' s' ∧ tn i s'.heap ∧ (∀ b ∈ fp, H' b = none) ∧ W i n H') ?_ m0 ⟨0, H3, I4P, st4, nfp, w0⟩
    rintro n s5 ⟨i, H5, I5, st5, n5, w5⟩
    rcases turn i n H5 w5 with ⟨stop, qq⟩ | ⟨go, Nx, hNx, step⟩
    · have td := T.done (blkP X s3 H3 scope ce fp) rfl rfl rfl (hcd _ _ _ _) i [] s5 _ H5 (fun _ _ => False) I5 (stat I5 n5) st5 stop
      refine thnF td fun r s6 ⟨hr, I6⟩ => ?_
      subst hr
      have I7 : Inv X pins σ H5 s6 := I3.call' (ch := fp) I6.os I6.base I6.hok I6.bare fun b hb => ⟨(f3 b hb).1.2.2.2.1, (f3 b hb).1.2.1, (f3 b hb).1.2.2.2.2.1, (f3 b hb).1.2.2.2.2.2⟩
      have nC : H5 s3.heap.objs.size = none := by
        have z : H5 ce.locals = none := I6.free
        rw [cL] at z
        exact z
      obtain ⟨m, hn, _⟩ := I6.loc
      have hn : s6.heap.Ns ce.locals m := hn
      rw [cL] at hn
      exact hRR D s3.heap.objs.size s6 m H5 I7 qq hn (I3.fpOk (Nat.le_refl _) nC)
    · have ti := T.item (blkP X s3 H3 scope ce fp) rfl rfl rfl (hcd _ _ _ _) i [] s5 _ H5 (fun _ _ => False) I5 (stat I5 n5) st5 go
      refine thnF ti fun r s6 ⟨u, hr, h6⟩ => ?_
      subst hr
      refine thnF h6 fun _ s7 ⟨x, H7, I7, r7, y7, st7, n7⟩ => ?_
      have I7' := I7.pinned (stat I7 n7) (T.obj _ _ st7)
      refine thnF (pg.run _ s7 _ H7 x u _ I7' r7 (step x H7 y7)) fun _ s8 ⟨σ8, H8, I8, hw8, q8⟩ => ?_
      refine thnF (pt.run _ s8 σ8 H8 _ I8 q8) fun b s9 ⟨H9, I9, q9⟩ => ?_
      have fin : ∀ {s' : Shared} {H' : Hp}, Inv (blkP X s3 H3 scope ce fp) ([] ++ pinsAt fp s7.heap) σ8 H' s' → Nx H' → ∃ m, m < n ∧ ∃ i H', Inv (blkP X s3 H3 scope ce fp) [] (wipe σ (own.map (·.2))) H' s' ∧ tn i s'.heap ∧ (∀ b ∈ fp, H' b = none) ∧ W i m H' := fun {s' H'} I' nx => by
        obtain ⟨m', hm, w'⟩ := hNx H' nx
        have pin' : ∀ b ∈ fp, ∀ o, s7.heap.get? b = some o → s'.heap.get? b = some o ∧ H' b = none := fun b hb o e =>
          let z := I'.pin (b, o) (List.mem_append_right _ (List.mem_append_right _ (mem_pinsAt hb e)))
          ⟨z.1, z.2.1⟩
        have hl : (wipe σ (own.map (·.2))).length = σ8.length := by rw [← hw8, wipe_length]
        refine ⟨m', hm, i + 1, H', (I'.unpinned (pins := [])).weak hl (fun j v e => ?_), T.keep _ _ _ st7 fun b hb o e => (pin' b hb o e).1, fun b hb => ?_, w'⟩
        · rw [← hw8] at e
          exact (wipe_some e).1
        · obtain ⟨o, e, _⟩ := T.obj _ _ st7 b hb
          exact (pin' b hb o e).2
      cases b with
      | false =>
        simp only [Bool.false_eq_true, if_false] at q9 ⊢
        exact fin I9 q9
      | true =>
        simp only [if_true] at q9 ⊢
        refine thnF (pe.run _ s9 σ8 H9 _ I9 q9) fun z s10 ⟨yv, H10, I10, r10, acc, hD10, hz10, nx⟩ => ?_
        exact app_ok (X := blkP X s3 H3 scope ce fp) I10 hD10 hz10 r10 fun s11 I11 => fin I11 nx
  exact codeAny_compStart_list loop (T.self X.A 0 _ _ _ st4 loop)
/-- the block may know what the slots' values at its start are -/
theorem pe_lcG {Cd : Cx → Prop} {Φ : L2.St → Shared → Hp → List Addr → Prop} {elt tg iter : Expr} {ifs : List Expr} {scope : Scope} {own : List (Str × Nat)} {pos : Pos} {wi : TI} {g : TG} {tt : L2.St → TT} {te : L2.St → TE}
    (hcd : ∀ s H cenv fp, Cd (blkP X s H scope cenv fp)) (hΦ : ∀ pins σ H s fp, Inv X pins σ H s → (∀ b ∈ fp, FpOk X pins H b) → Φ σ s H fp) (hN : X.N.Nodup) (hi : PIC Cd X tg iter wi) (ok : BlkOk X.N X.env.scope scope own)
    (hg : ∀ (s : Shared) (H : Hp) (C : Addr) (cl : List (Str × Addr)) (fp : List Addr), PG (blkP X s H scope (compEnvC scope cl C X.env) fp) tg g) (ht : ∀ (σ : L2.St) (s : Shared) (H : Hp) (C : Addr) (cl : List (Str × Addr)) (fp : List Addr), Φ σ s H fp → PTs (blkP X s H scope (compEnvC scope cl C X.env) fp) ifs (tt σ))
    (he : ∀ (σ : L2.St) (s : Shared) (H : Hp) (C : Addr) (cl : List (Str × Addr)) (fp : List Addr), Φ σ s H fp → PE (blkP X s H scope (compEnvC scope cl C X.env) fp) elt (te σ)) (hs : ∀ x, foldedSetIterable iter X.env x = pure x := by intro _; rfl) :
    PE X (.ListComp elt [⟨tg, iter, ifs, 0⟩] scope pos) (fun σ H Q => tLc wi g (tt σ) (te σ) (own.map (·.2)) σ H Q) := by
  refine ⟨fun pins s σ H Q I h => ?_⟩
  rw [eval_ListComp]
  refine lcG_core (Φ := Φ σ) hcd (fun H s fp I f => hΦ pins σ H s fp I f) hN I hi ok (fun s H C cl fp _ => hg s H C cl fp) (fun s H C cl fp q => ht σ s H C cl fp q) (fun s H C cl fp q => he σ s H C cl fp q) hs h fun D C s' m H' I' q hn f => ⟨m, hn, fun h'' sb => ?_⟩
  obtain ⟨f0, f1, f2, f3, f4, f5⟩ := f
  exact ⟨.ref D, H', I'.turned (t' := s'.toks) (fun b o hb e => (sb.2 b hb).trans e) f0 f1 f3 f4 f5, rfl, q⟩
/-- while an exception is handled -/
theorem pe_lcH {elt tg iter : Expr} {scope : Scope} {own : List (Str × Nat)} {pos : Pos} {wi : TI} {g : TG} {te : TE}
    (hc : L2H.HotC X) (hN : X.N.Nodup) (hi : L2H.PIH X tg iter wi) (ok : BlkOk X.N X.env.scope scope own)
    (hg : ∀ (s : Shared) (H : Hp) (C : Addr) (cl : List (Str × Addr)) (fp : List Addr), PG (blkP X s H scope (compEnvC scope cl C X.env) fp) tg g)
    (he : ∀ (s : Shared) (H : Hp) (C : Addr) (cl : List (Str × Addr)) (fp : List Addr), PE (blkP X s H scope (compEnvC scope cl C X.env) fp) elt te) (hs : ∀ x, foldedSetIterable iter X.env x = pure x := by intro _; rfl) :
    PE X (.ListComp elt [⟨tg, iter, [], 0⟩] scope pos) (tLc wi g tYes te (own.map (·.2))) :=
  pe_lcG (Φ := fun _ _ _ _ => True) (tt := fun _ => tYes) (te := fun _ => te) (fun s H cenv fp => hc) (fun _ _ _ _ _ _ _ => trivial) hN (pic_hot hi) ok hg (fun _ _ _ _ _ _ _ => pts_nil) (fun _ s H C cl fp _ => he s H C cl fp) hs
end
section
variable {X : Cx} {K : PySem.W.Frag}
theorem eqU (hu : X.A.units + 64 < cLine) (h : X.K = K) : OpR X (compareOp .Eq) (rEqD K) := by subst h; exact op_eqD hu
end
end Ab

namespace Ab
open PySem PySem.Spec PyProof.Rows L2 LamX NdefX
variable [LamTab]
/-! ### lambdas: objects that are known -/
theorem lamO_at {P : Program} {w : World} {H : Hp} {h : Heap} {f c : Addr} {L : LamI} {cl : List (Str × Addr)} (hok : HOk P w H h) (e : H f = some (LamO f L cl c)) : ∃ pm ctv : Value, h.get? f = some (PySem.W.kla_obj "<lambda>" L.q L.params L.body L.scope cl pm c ctv) := by
  obtain ⟨z, _, _⟩ := hok f _ e
  exact z
theorem lamO_ok {P : Program} {w : World} {H : Hp} {h : Heap} {f c : Addr} {L : LamI} {cl : List (Str × Addr)} {pm ctv : Value} (e : h.get? f = some (PySem.W.kla_obj "<lambda>" L.q L.params L.body L.scope cl pm c ctv)) : ObjOk P w H h f (LamO f L cl c) :=
  ⟨⟨pm, ctv, e⟩, ⟨_, e⟩, fun h1 h2 ⟨pm, ctv, z⟩ st => ⟨pm, ctv, st _ z⟩⟩
/-- the tables; the code objects that they tell are frozen -/
def TabG (T : List (Addr × Str)) (G H : Hp) : Prop := ∀ p ∈ T, ∃ ps : Array Value, H p.1 = some (.tbl ps) ∧ TriplesOk ps.toList ∧ ∀ (pos : Pos) (cv : Value), codeAmong pos ps.toList = some cv → ∃ c, cv = .ref c ∧ G c = some (CodeO c p.2)
theorem TabG.tabs {T : List (Addr × Str)} {G H : Hp} (t : TabG T G H) (x : Ex G H) : Tabs T H := fun p hp => by
  obtain ⟨ps, h1, h2, h3⟩ := t p hp
  refine ⟨ps, h1, h2, fun pos cv hc => ?_⟩
  obtain ⟨c, e1, e2⟩ := h3 pos cv hc
  exact ⟨c, e1, x _ _ e2⟩
/-- the tables tell the code objects that they told, and c' -/
def Told (T : List (Addr × Str)) (H H1 : Hp) (c' : Addr) : Prop := ∀ p ∈ T, ∀ ps, H p.1 = some (.tbl ps) → TriplesOk ps.toList → ∃ ps' : Array Value, H1 p.1 = some (.tbl ps') ∧ TriplesOk ps'.toList ∧ ∀ (pos : Pos) (cv : Value), codeAmong pos ps'.toList = some cv → codeAmong pos ps.toList = some cv ∨ (cv = .ref c' ∧ H1 c' = some (CodeO c' p.2))
theorem Told.ex {T : List (Addr × Str)} {H H1 H2 : Hp} {c' : Addr} (t : Told T H H1 c') (x : Ex H1 H2) : Told T H H2 c' := fun p hp ps h1 h2 => by
  obtain ⟨ps', a1, a2, a3⟩ := t p hp ps h1 h2
  exact ⟨ps', x _ _ a1, a2, fun pos cv hc => (a3 pos cv hc).imp id fun z => ⟨z.1, x _ _ z.2⟩⟩
section
variable {X : Cx} {pins : List (Addr × Obj)} {σ : L2.St} {H : Hp} {s : Shared}
theorem lam_makeT {T : List (Addr × Str)} {c P : Addr} {params : Arguments} {body : Expr} {scope : Scope} {pos : Pos} {E : Value → Shared → Prop} {Q : Value → Shared → Prop} (I : Inv X pins σ H s) (TB : TabB X.base X.mg c P) (hcode : X.env.code = .ref c)
    (hm : (P, X.env.qual ++ "<lambda>") ∈ T) (hu : ∀ p ∈ T, p.1 = P → p.2 = X.env.qual ++ "<lambda>") (hT : Tabs T H) (hdef : defaultsOf params X.env = ([], [])) (hfree : ∀ y ∈ scope.names, y.2 = .free → ∃ c, X.env.cells.lookup y.1 = some c)
    (h : ∀ (f c' : Addr) (H1 : Hp) (s' : Shared), Inv X pins σ H1 s' → ExtN H H1 → Told T H H1 c' → H f = none → (H c' = none ∨ ∃ ps pos, H P = some (.tbl ps) ∧ codeAmong pos ps.toList = some (.ref c')) →
      H1 f = some (LamO f ⟨X.env.qual ++ "<lambda>", params, body, scope⟩ (cloFrom X.env.cells scope.names []) c') → H1 c' = some (CodeO c' (X.env.qual ++ "<lambda>")) → Q (.ref f) s') :
    wpAny (model X.prog X.w) X.A (eval (.Lambda params body scope pos) X.env) Q E s := by
  obtain ⟨ps, hP, ht, ha⟩ := hT _ hm
  refine PySem.W.kla_eval hdef ?_
  have bP : s.heap.BuiltinsAt X.mg P := TB.bm.keeps I.bk
  have hP' : s.heap.get? P = some { cls := .none, data := .fields ps } := I.hok P _ hP
  have fin : ∀ {c' : Addr} {H1 : Hp} {h' : Heap} {tk : Nat} {ctv : Value}, Inv X pins σ H1 { s with heap := h', toks := tk } → ExtN H H1 → Told T H H1 c' → (H c' = none ∨ ∃ ps pos, H P = some (.tbl ps) ∧ codeAmong pos ps.toList = some (.ref c')) → s.heap.objs.size ≤ h'.objs.size → H1 c' = some (CodeO c' (X.env.qual ++ "<lambda>")) →
      Q (.ref h'.objs.size) { s with heap := h'.push (PySem.W.kla_obj "<lambda>" (X.env.qual ++ "<lambda>") params body scope (cloFrom X.env.cells scope.names []) ((X.mg "__name__").getD .none) c' ctv), toks := tk } := fun {c' H1 h' tk ctv} I1 hE T1 hn hsz hc => by
    have n1 : H1 h'.objs.size = none := I1.hok.fresh (Nat.le_refl _)
    have ex := Ex.upd (o := LamO h'.objs.size ⟨X.env.qual ++ "<lambda>", params, body, scope⟩ (cloFrom X.env.cells scope.names []) c') n1
    refine h h'.objs.size c' _ _ (I1.laid (t' := tk) (fun b o e => Heap.get?_push_of_some _ e) (Nat.le_refl _) (lamO_ok (L := ⟨X.env.qual ++ "<lambda>", params, body, scope⟩) (Heap.get?_push_size _ rfl))) (hE.trans (ExtN.of ex)) (T1.ex ex) (I.hok.fresh hsz) hn upd_same (ex _ _ hc)
  cases hc : codeAmong pos ps.toList with
  | none =>
    refine PySem.W.kla_makeFunction (mg := X.mg) (c := c) (P := P) (ps := ps) (closure_ok hfree) I.ok.glob (I.mod.glob.keeps I.bk) hcode (TB.code.keeps I.bk) hP' ht hc TB.gP bP fun c' ctv h' tk hx hge hlt hrec htb => ?_
    obtain ⟨c2, oc, vs, t, e2, hoc, hd, hv⟩ := hrec
    cases e2
    have hsz : s.heap.objs.size ≤ h'.objs.size := Nat.le_trans hge (Nat.le_of_lt hlt)
    have nC : H c' = none := I.hok.fresh hge
    have I1 := inv_table (t' := tk) (more := #[rawInt pos.line, rawInt pos.col, .ref c']) (h' := h') (q := X.env.qual ++ "<lambda>") I hP (fun b o hb e => hx b o hb e) htb hge ⟨oc, vs, t, hoc, hd, hv⟩
    have hE : ExtN H (upd (upd H P (.tbl (ps ++ #[rawInt pos.line, rawInt pos.col, .ref c']))) c' (CodeO c' (X.env.qual ++ "<lambda>"))) := fun b o e n => by
      rw [upd_ne (ne_of_none e nC), upd_ne (fun z => n ps (Option.some.inj (e.symm.trans (by rw [z]; exact hP))))]
      exact e
    have eL : (ps ++ #[rawInt pos.line, rawInt pos.col, .ref c']).toList = ps.toList ++ [rawInt pos.line, rawInt pos.col, .ref c'] := by simp
    refine fin I1 hE (fun p hp ps0 h1 h2 => ?_) (.inl nC) hsz upd_same
    by_cases hb : p.1 = P
    · rw [hb, hP] at h1
      cases h1
      rw [hu p hp hb, hb]
      refine ⟨_, by rw [upd_ne (ne_of_none hP nC), upd_same], by rw [eL]; exact PySem.TriplesOk_snoc _ _ _ _ ht, fun p' cv hcv => ?_⟩
      rw [eL] at hcv
      rcases among_app _ ht hcv with z | z
      · exact .inl z
      · exact .inr ⟨z, upd_same⟩
    · exact ⟨ps0, by rw [upd_ne (ne_of_none h1 nC), upd_ne hb]; exact h1, h2, fun p' cv hcv => .inl hcv⟩
  | some cv =>
    obtain ⟨c', e, hco⟩ := ha pos cv hc
    subst e
    refine PySem.W.kla_makeFunctionHit (mg := X.mg) (c := c) (P := P) (ps := ps) (closure_ok hfree) I.ok.glob (I.mod.glob.keeps I.bk) hcode (TB.code.keeps I.bk) hP' ht hc bP fun ctv h' tk hx hsz => ?_
    exact fin (I.kept (t' := tk) fun b o e => hx b o e) (ExtN.refl H) (fun p hp ps0 h1 h2 => ⟨ps0, h1, h2, fun p' cv hcv => .inl hcv⟩) (.inr ⟨ps, pos, hP, hc⟩) hsz hco
/-- a lambda as a value -/
def tLamE (T : List (Addr × Str)) (L : LamI) (cl : List (Str × Addr)) : TE := fun _ H Q => ∃ G, TabG T G H ∧ Ex G H ∧ ∀ (f c' : Addr) (H1 : Hp), ExtN H H1 → H f = none → (H c' = none ∨ G c' = some (CodeO c' L.q)) → H1 f = some (LamO f L cl c') → H1 c' = some (CodeO c' L.q) →
  (∀ G1, Ex G G1 → G1 c' = some (CodeO c' L.q) → TabG T G1 H1) → Q (.ref f) H1
theorem pe_lam {T : List (Addr × Str)} {c P : Addr} {params : Arguments} {body : Expr} {scope : Scope} {pos : Pos} (TB : TabB X.base X.mg c P) (hcode : X.env.code = .ref c) (hm : (P, X.env.qual ++ "<lambda>") ∈ T) (hu : ∀ p ∈ T, p.1 = P → p.2 = X.env.qual ++ "<lambda>") (hdef : defaultsOf params X.env = ([], []))
    (hfree : ∀ y ∈ scope.names, y.2 = .free → X.env.scope.names.lookup y.1 = some .cell ∨ X.env.scope.names.lookup y.1 = some .free) : PE X (.Lambda params body scope pos) (tLamE T ⟨X.env.qual ++ "<lambda>", params, body, scope⟩ (cloFrom X.env.cells scope.names [])) := by
  refine ⟨fun pins s σ H Q I h => ?_⟩
  obtain ⟨G, tg, xG, k⟩ := h
  refine lam_makeT I TB hcode hm hu (tg.tabs xG) hdef (fun y hy e => I.ok.has _ (hfree y hy e)) fun f c' H1 s' I1 e1 t1 n1 n2 h1 h2 => ⟨.ref f, H1, I1, rfl, k f c' H1 e1 n1 ?_ h1 h2 fun G1 x1 hc => fun p hp => ?_⟩
  · rcases n2 with z | ⟨ps, pos, z1, z2⟩
    · exact .inl z
    · obtain ⟨ps', a1, a2, a3⟩ := tg _ hm
      rw [z1] at a1
      cases a1
      obtain ⟨c2, e2, e3⟩ := a3 pos _ z2
      cases e2
      exact .inr e3
  · obtain ⟨ps, a1, a2, a3⟩ := tg p hp
    obtain ⟨ps', b1, b2, b3⟩ := t1 p hp ps a1 a2
    refine ⟨ps', b1, b2, fun pos cv hcv => ?_⟩
    rcases b3 pos cv hcv with z | ⟨z, z2⟩
    · obtain ⟨c2, e2, e3⟩ := a3 pos cv z
      exact ⟨c2, e2, x1 _ _ e3⟩
    · refine ⟨c', z, ?_⟩
      rw [h2] at z2
      rw [hc, z2]
end
/-! ### what is refused, whenever it is called behind a state -/
structure RefAt (P : Program) (w : World) (K : PySem.W.Frag) (mg : Str → Option Value) (base : Heap) (k : Nat) (fs : List Addr) (s : Shared) (H G : Hp) (f : Addr) (vs : List V) (C : Addr) : Prop where
  fn : ∀ (s2 : Shared) (H2 : Hp), HOk P w H2 s2.heap → Ex G H2 → PySem.W.FnAt f s2.heap
  run : ∀ (A : Around) (outer : List Env) (s2 : Shared) (H2 : Hp) (us : List Value) (Q : VK) (E : XK), Room k A → Env0 P w K mg base A outer s2 H2 → Un fs [] H H2 s.heap s2.heap → Ex G H2 → Vals vs us → (∀ H', Ex H2 H' → E (.ref C) none H') →
    codeAny (model P w) A (.call (.ref f) ⟨us, []⟩) (CR (L2N.CX P w) outer P w H2 s2 Q E) s2
theorem RefAt.later {P : Program} {w : World} {K : PySem.W.Frag} {mg : Str → Option Value} {base : Heap} {k : Nat} {fs : List Addr} {s s1 : Shared} {H H1 G : Hp} {f : Addr} {vs : List V} {C : Addr} (r : RefAt P w K mg base k fs s H G f vs C) (u : Un fs [] H H1 s.heap s1.heap) : RefAt P w K mg base k fs s1 H1 G f vs C :=
  ⟨r.fn, fun A outer s2 H2 us Q E hr e0 un ex v q => r.run A outer s2 H2 us Q E hr e0 (u.trans un) ex v q⟩
/-- an expression that is refused by C -/
def RfE (K : PySem.W.Frag) (E : XK) (te : TE) (τ : Sls) (C : Addr) : Prop := ∀ G0 H0 G H σ, Rel K G0 H0 G H σ τ → (∀ H', Ex H0 H' → E (.ref C) none H') → ∀ Q : VK, te σ H Q
theorem cells_un {cl : List (Str × Addr)} {fr : List Str} {ws : List (Option V)} {fs : List Addr} {H H2 : Hp} {h h2 : Heap} (C : CellsAt cl fr ws h H) (un : Un fs [] H H2 h h2) : CellsAt cl fr ws h2 H2 := by
  have ck : ∀ {c : Addr} {v : Option Value}, H c = none → h.IsCell c v → h2.IsCell c v := fun {c v} n ⟨o, ho, hd⟩ => by
    obtain ⟨sl, q⟩ := un.any ho n (by simp)
    exact ⟨_, q, hd⟩
  refine ⟨C.len, fun y c e => ?_, C.inj, fun i y e => ?_⟩
  · obtain ⟨n, v, z⟩ := C.all y c e
    obtain ⟨o, ho, hd⟩ := id z
    exact ⟨un.free c o ho n (by simp), v, ck n z⟩
  · obtain ⟨c, h1, h2'⟩ := C.has i y e
    refine ⟨c, h1, fun v hv => ?_⟩
    obtain ⟨u, r, z⟩ := h2' v hv
    exact ⟨u, r, ck (C.all y c h1).1 z⟩
theorem each_slots {G : Hp} {σ : L2.St} : ∀ {js : List Nat} {ds : List PyData}, PySem.W.EachIs (fun j d => ∃ v, σ[j]? = some (some v) ∧ Dt G v d) js ds → ∃ ws : List V, js.map (slotAt σ) = ws.map some ∧ DtAll G ws ds
  | _, _, .nil => ⟨[], rfl, .nil⟩
  | _, _, .cons ⟨v, h1, h2⟩ t => by
    obtain ⟨ws, e1, e2⟩ := each_slots t
    exact ⟨v :: ws, by rw [List.map_cons, List.map_cons, e1, slotAt_of h1], .cons h2 e2⟩
section
variable {P : Program} {w : World} {K : PySem.W.Frag} {mg : Str → Option Value} {base : Heap} {H : Hp} {s : Shared}
/-- a lambda that captures: ws what its cells hold; the body's reading is refused -/
theorem refAt_cells {L : LamI} {cl : List (Str × Addr)} {f c' C : Addr} {G : Hp} {N ps fr : List Str} {k : Nat} {tb : XK → TE} {vs ws : List V} {dv ds : List PyData} {fs : List Addr} (C0 : CellsAt cl fr (ws.map some) s.heap H) (S : NScope N ps fr L.scope)
    (hb : ∀ (pm ctv : Value) (us : List Value), us.length = ps.length → bindArgs (PySem.W.kla_fn "<lambda>" L.q L.params L.body L.scope cl pm (.ref c') ctv) ⟨us, []⟩ = pure (ps.zip us))
    (gf : G f = some (LamO f L cl c')) (gc : G c' = some (CodeO c' L.q)) (hv : DtAll G vs dv) (hws : DtAll G ws ds) (hl : dv.length = ps.length)
    (hbody : ∀ (A : Around) (outer : List Env) (s : Shared) (H : Hp) (E : XK), Room k (A.deeper (envF ⟨"<lambda>", L.q, L.params, [], L.scope, cl, c'⟩ f s.heap.objs.size)) →
      L2N.Takes (ncx (L2N.CX P w) P w K mg base N ⟨"<lambda>", L.q, L.params, [], L.scope, cl, c'⟩ f A outer s H E) (fun cls d _ H => E cls d H) → PE (ncx (L2N.CX P w) P w K mg base N ⟨"<lambda>", L.q, L.params, [], L.scope, cl, c'⟩ f A outer s H E) L.body (tb E))
    (hN : N.length = ps.length + fr.length) (hr : ∀ E, RfE K E (tb E) (datL (dv ++ ds)) C) : RefAt P w K mg base (k + 1) fs s H G f vs C := by
  refine ⟨fun s2 H2 hok ex => ?_, fun A outer s2 H2 us Q E hrm e0 un ex vv hE => ?_⟩
  · obtain ⟨pm, ctv, e⟩ := lamO_at hok (ex _ _ gf)
    exact ⟨_, _, _, _, e⟩
  obtain ⟨pm, ctv, of1⟩ := lamO_at e0.hok (ex _ _ gf)
  obtain ⟨⟨oc, vc, t, hoc, hdc, hvc⟩, _, _⟩ := e0.hok c' _ (ex _ _ gc)
  have lim : s2.heap.NoLimit := e0.mod.nolimit.keeps fun b o e => (e0.bs b o e).1
  have vl : vs.length = ps.length := by rw [hv.len]; exact hl
  refine PySem.W.kla_callFunE hrm.depth of1 rfl S.co S.gen rfl ⟨c', oc, vc, t, rfl, hoc, hdc, hvc⟩ ?_
  rw [hb pm ctv us (by rw [← vv.length]; exact vl)]
  refine wpAny_pure (wpAny_newFunctionEnv S.nocell (fun ⟨n, _⟩ hy => S.par n (List.of_mem_zip hy).1) (fun h₁ hns hsb => ⟨lim.fresh _ hsb, ?_⟩) S.kind)
  show codeAny _ _ (.expr L.body (envF ⟨"<lambda>", L.q, L.params, [], L.scope, cl, c'⟩ f s2.heap.objs.size)) _ _
  have kp : ∀ b o, s2.heap.get? b = some o → h₁.get? b = some o := fun b o e => hsb.extBut b o (Nat.ne_of_lt (Heap.lt_size e)) (Heap.get?_push_of_some _ e)
  have J : Inv (ncx (L2N.CX P w) P w K mg base N ⟨"<lambda>", L.q, L.params, [], L.scope, cl, c'⟩ f A outer s2 H2 E) [] (startF N vs (ws.map some)) H2 { s2 with heap := h₁, toks := s2.toks + (ps.zip us).length } := inv_startN S hrm.hd e0 vl vv (cells_un C0 un) hns kp
  have tk := L2N.takes_of (X := ncx (L2N.CX P w) P w K mg base N ⟨"<lambda>", L.q, L.params, [], L.scope, cl, c'⟩ f A outer s2 H2 E) (E := E) rfl rfl rfl rfl
  have es : startF N vs (ws.map some) = L2.start N (vs ++ ws) := by
    unfold startF L2.start
    rw [List.map_append, List.append_assoc, List.length_append, List.length_map, Nat.sub_sub]
  have hargs : ArgsOk K G (vs ++ ws) (datL (dv ++ ds)) := ArgsOk.of (hv.app hws)
  have hlen : (dv ++ ds).length = N.length := by
    have h1 := C0.len
    have h2 := hws.len
    rw [List.length_map] at h1
    rw [List.length_append]
    omega
  have r0 := rel_start (K := K) (M := N) ex hargs
  have e2 : startS N (datL (dv ++ ds)) = datL (dv ++ ds) := by
    unfold startS
    rw [show (datL (dv ++ ds)).length = (dv ++ ds).length by simp [datL], hlen, Nat.sub_self]
    simp
  rw [e2] at r0
  refine PySem.W.kla_codeExpr (wpAny_mono ((hbody A outer s2 H2 E (hrm.deeper _) tk).run [] _ _ H2 Q J (by rw [es]; exact hr E G H2 G H2 _ r0 hE Q)) (fun v s' hq => ?_) fun e s' hq => hq)
  obtain ⟨w', H', J', rv, q⟩ := hq
  exact ⟨w', H', J'.os, J'.bare, J'.base, J'.hok, rv, q⟩
end
section
variable {X : Cx} {pins : List (Addr × Obj)} {σ : L2.St} {H : Hp} {s : Shared}
/-- .. its captured names stand in the slots js -/
theorem refAt_of {L : LamI} {cl : List (Str × Addr)} {f c' C : Addr} {G : Hp} {N ps fr : List Str} {js : List Nat} {k : Nat} {tb : XK → TE} {vs : List V} {dv : List PyData} {ds : List PyData} (I : Inv X pins σ H s) (cp : Caps X cl fr js) (S : NScope N ps fr L.scope)
    (hb : ∀ (pm ctv : Value) (us : List Value), us.length = ps.length → bindArgs (PySem.W.kla_fn "<lambda>" L.q L.params L.body L.scope cl pm (.ref c') ctv) ⟨us, []⟩ = pure (ps.zip us))
    (gf : G f = some (LamO f L cl c')) (gc : G c' = some (CodeO c' L.q)) (hv : DtAll G vs dv) (hw : PySem.W.EachIs (fun j d => ∃ v, σ[j]? = some (some v) ∧ Dt G v d) js ds) (hl : dv.length = ps.length)
    (hbody : ∀ (A : Around) (outer : List Env) (s : Shared) (H : Hp) (E : XK), Room k (A.deeper (envF ⟨"<lambda>", L.q, L.params, [], L.scope, cl, c'⟩ f s.heap.objs.size)) →
      L2N.Takes (ncx (L2N.CX X.prog X.w) X.prog X.w X.K X.mg X.base N ⟨"<lambda>", L.q, L.params, [], L.scope, cl, c'⟩ f A outer s H E) (fun cls d _ H => E cls d H) → PE (ncx (L2N.CX X.prog X.w) X.prog X.w X.K X.mg X.base N ⟨"<lambda>", L.q, L.params, [], L.scope, cl, c'⟩ f A outer s H E) L.body (tb E))
    (hN : N.length = ps.length + fr.length) (hr : ∀ E, RfE X.K E (tb E) (datL (dv ++ ds)) C) : RefAt X.prog X.w X.K X.mg X.base (k + 1) (frs X.stack) s H G f vs C := by
  obtain ⟨ws, ew, hws⟩ := each_slots hw
  have C0 := cells_of I cp
  rw [ew] at C0
  exact refAt_cells C0 S hb gf gc hv hws hl hbody hN hr
end
end Ab

namespace Ab
open PySem PySem.Spec PyProof.Rows L2 LamX NdefX
variable [LamTab]
/-! ### defs whose promise is told of the very state -/
structure FnOkS (P : Program) (w : World) (K : PySem.W.Frag) (mg : Str → Option Value) (base : Heap) (CX : CXT) (k : Nat) (f : Addr) (fd : FuncData) (ps : List Str) (sp : List Env → Shared → Sp) : Prop where
  len : ∀ o s vs H Q E, sp o s vs H Q E → vs.length = ps.length
  run : ∀ (A : Around) (outer : List Env) (s : Shared) (H : Hp) (args : Args) (us : List Value) (vs : List V) (Q : VK) (E : XK), Room k A → Env0 P w K mg base A outer s H → BindsTo s fd args (ps.zip us) → Vals vs us → sp outer s vs H Q E →
    codeAny (model P w) A (.call (.ref f) args) (CR CX outer P w H s Q E) s
section
variable {P : Program} {w : World} {K : PySem.W.Frag} {mg : Str → Option Value} {base : Heap}
theorem okS {x qual : Str} {st : Stmt} {f : Addr} {fd : FuncData} {N ps : List Str} {k : Nat} {sp : List Env → Shared → Sp} (F : Fun K x qual st f fd) (S : FnScope N ps (defScope st)) (len : ∀ o s vs H Q E, sp o s vs H Q E → vs.length = ps.length)
    (hbody : ∀ (cdv : Value) (A : Around) (outer : List Env) (s : Shared) (H : Hp) (vs : List V) (Q : VK) (E : XK), Room k (A.deeper (envOfC qual (defScope st) s.heap.objs.size f cdv)) → sp outer s vs H Q E →
      ∃ t, PSs (cxOf L2.CX0 P w K mg base N qual (defScope st) f cdv A outer s H E).nox (defBody st) t ∧ t { nx := fun _ H' => Q .non H', rt := Q } (start N vs) H) : FnOkS P w K mg base L2.CX0 (k + 1) f fd ps sp := by
  obtain ⟨oc, od, kV, doc, pm, an, cdv, ct, osl, rfl, lk, hcd⟩ := F.ex
  refine ⟨len, fun A outer s H args us vs Q E hr e0 hb r hsp => run_ofS (N := N) lk hcd S hr e0 hb r (len _ _ _ _ _ _ hsp) fun hr' => ?_⟩
  obtain ⟨t, h, q⟩ := hbody cdv A outer s H vs Q E hr' hsp
  exact ⟨t, h.nox, q⟩
end
section
variable {X : Cx} {W : WX} {f g C : Addr} {k : Nat} {G : Hp} {v : V} {a b x : Str} {i j : Nat} {p p1 p2 p3 pos : Pos} {e : Expr} {es : List Expr} {t : TA} {fd : FuncData} {ps : List Str}
/-- a(b), a's function is refused there -/
theorem pe_ask (r : RefAt X.prog X.w X.K X.mg X.base k X.fs X.s_0 X.H_0 G f [v] C) (hex : X.ex = []) (hr : Room k X.A) (tk : L2N.Takes X W) (hN : X.N[i]? = some a) (hv : Vis X.env.scope a) (hN2 : X.N[j]? = some b) (hv2 : Vis X.env.scope b)
    (hd : (a == ("__debug__" : Str)) = false := by decide) (hcd : (a == ("__classdict__" : Str)) = false := by decide) (hd2 : (b == ("__debug__" : Str)) = false := by decide) (hcd2 : (b == ("__classdict__" : Str)) = false := by decide)
    (he : starEach [.Name b p2] X.env = (false, eval (.Name b p2) X.env) :: starEach [] X.env := by rfl) (hpl : (backTo p3 (starEach [] X.env)).any (·.1) = false := by rfl) :
    PE X (.Call (.Name a p1) [.Name b p2] [] p3) (fun σ H Q => σ[i]? = some (some (.ref f)) ∧ σ[j]? = some (some v) ∧ Ex G H ∧ ∀ H', Ex H H' → W (.ref C) none σ H') := by
  refine ⟨fun pins s σ H Q I h => ?_⟩
  obtain ⟨h1, h2, hG, hW⟩ := h
  refine wpAny_Call_Name_kw (thn ((pe_var (pos := p1) hN hv hd hcd).run pins s σ H (fun v H1 => v = .ref f ∧ H1 = H) I ⟨.ref f, h1, rfl, rfl⟩) fun u s1 ⟨v1, H1, I1, r1, q1⟩ => ?_)
  obtain ⟨ev, eH⟩ := q1
  subst ev
  rw [eH] at I1
  obtain rfl : u = Value.ref f := r1
  have ha : PA X [.Name b p2] (tCons (tVar j) tNil) := pa_cons (pe_var (pos := p2) hN2 hv2 hd2 hcd2) pa_nil
  refine PySem.W.callWith_F (first := []) (r.fn s1 H I1.hok hG) (thn (ha.run p3 pins s1 σ H (fun vs H2 => vs = [v] ∧ H2 = H) I1 ⟨v, h2, rfl, rfl⟩) fun us s2 ⟨vs, H2, I2, rv, ev, eH2⟩ => ?_) he hpl
  subst ev
  rw [eH2] at I2
  refine ⟨r.fn s2 H I2.hok hG, ?_⟩
  show wpAny _ _ (call (.ref f) us) _ _ _
  have un : Un X.fs [] X.H_0 H X.s_0.heap s2.heap := by
    have := I2.base
    rw [hex] at this
    exact this
  refine wpAny_call (codeAny_mono (r.run X.A X.stack s2 H us Q (WE W σ) hr I2.env0 un hG rv fun H' x => hW H' x) fun r s' hq => ?_)
  cases r with
  | error e => exact L2N.passAt tk σ pins H s2 e s' I2 hq
  | ok fl =>
    cases fl with
    | ret u => exact I2.after hq
    | next => exact False.elim hq
    | brk => exact False.elim hq
    | cont => exact False.elim hq
/-- a() -/
theorem pe_ask0 (r : RefAt X.prog X.w X.K X.mg X.base k X.fs X.s_0 X.H_0 G f [] C) (hex : X.ex = []) (hr : Room k X.A) (tk : L2N.Takes X W) (hN : X.N[i]? = some a) (hv : Vis X.env.scope a)
    (hd : (a == ("__debug__" : Str)) = false := by decide) (hcd : (a == ("__classdict__" : Str)) = false := by decide) :
    PE X (.Call (.Name a p1) [] [] p3) (fun σ H Q => σ[i]? = some (some (.ref f)) ∧ Ex G H ∧ ∀ H', Ex H H' → W (.ref C) none σ H') := by
  refine ⟨fun pins s σ H Q I h => ?_⟩
  obtain ⟨h1, hG, hW⟩ := h
  refine wpAny_Call_Name_kw (thn ((pe_var (pos := p1) hN hv hd hcd).run pins s σ H (fun v H1 => v = .ref f ∧ H1 = H) I ⟨.ref f, h1, rfl, rfl⟩) fun u s1 ⟨v1, H1, I1, r1, q1⟩ => ?_)
  obtain ⟨ev, eH⟩ := q1
  subst ev
  rw [eH] at I1
  obtain rfl : u = Value.ref f := r1
  refine PySem.W.callWith_F0 (first := []) (r.fn s1 H I1.hok hG) ?_
  show wpAny _ _ (call (.ref f) []) _ _ _
  have un : Un X.fs [] X.H_0 H X.s_0.heap s1.heap := by
    have := I1.base
    rw [hex] at this
    exact this
  refine wpAny_call (codeAny_mono (r.run X.A X.stack s1 H [] Q (WE W σ) hr I1.env0 un hG .nil fun H' x => hW H' x) fun r s' hq => ?_)
  cases r with
  | error e => exact L2N.passAt tk σ pins H s1 e s' I1 hq
  | ok fl =>
    cases fl with
    | ret u => exact I1.after hq
    | next => exact False.elim hq
    | brk => exact False.elim hq
    | cont => exact False.elim hq
/-- a call of such a def: spM by the slots -/
def tCallM (spM : L2.St → List V → Hp → VK → Prop) (t : TA) : TE := fun σ H Q => t σ H fun vs H1 => spM σ vs H1 Q
theorem pe_callM {sp : List Env → Shared → Sp} {spM : L2.St → List V → Hp → VK → Prop} (F : FnOkS X.prog X.w X.K X.mg X.base L2.CX0 k g fd ps sp) (hr : Room k X.A) (hg : Gl X x) (hm : X.mg x = some (.ref g)) (hk : PySem.W.keepIn X.K (.ref g) = true) (hb : Binds X.K fd ps [])
    (cv : ∀ pins σ H s vs Q, Inv X pins σ H s → spM σ vs H Q → sp X.stack s vs H Q E0) (ha : PA X (e :: es) t) (hdb : (x == ("__debug__" : Str)) = false := by decide) (he : starEach (e :: es) X.env = (false, eval e X.env) :: starEach es X.env := by rfl) (hpl : (backTo pos (starEach es X.env)).any (·.1) = false := by rfl) :
    PE X (.Call (.Name x p) (e :: es) [] pos) (tCallM spM t) := by
  refine ⟨fun pins s σ H Q I h => ?_⟩
  refine wpAny_Call_Name_kw (ld_glob I hg hm ?_ hdb)
  refine PySem.W.callWith_K (h₀ := X.base) I.ok.mod.kin hk (thn (ha.run pos pins s σ H _ I h) fun us s1 ⟨vs, H1, I1, r, q⟩ => ⟨I1.kIn, ?_⟩) he hpl
  have hsp := cv pins σ H1 s1 vs Q I1 q
  have hl : us.length = ps.length := by rw [← r.length]; exact F.len _ _ _ _ _ _ hsp
  have b := hb s1 us I1.kIn (by rw [List.append_nil]; exact hl)
  rw [List.append_nil] at b
  refine wpAny_call (codeAny_mono (F.run X.A X.stack s1 H1 ⟨us, []⟩ us vs Q E0 hr I1.env0 b r hsp) fun r s' hq => ?_)
  cases r with
  | error e => exact (show False from hq).elim
  | ok fl =>
    cases fl with
    | ret u => exact I1.after hq
    | next => exact False.elim hq
    | brk => exact False.elim hq
    | cont => exact False.elim hq
end
end Ab

namespace Ab
open PySem PySem.Spec PyProof.Rows L2 LamX NdefX
variable [LamTab]
/-! ### heaps without tables -/
def noT (G : Hp) : Hp := fun a => match G a with
  | some (.tbl _) => none
  | o => o
def NT (G : Hp) : Prop := ∀ a ps, G a ≠ some (.tbl ps)
theorem noT_some {G : Hp} {a : Addr} {o : HO} (h : G a = some o) (n : ∀ ps, o ≠ .tbl ps) : noT G a = some o := by
  unfold noT
  rw [h]
  cases o with
  | tbl ps => exact absurd rfl (n ps)
  | _ => rfl
theorem noT_ex (G : Hp) : Ex (noT G) G := fun a o h => by
  unfold noT at h
  split at h
  · cases h
  · exact h
theorem noT_nt (G : Hp) : NT (noT G) := fun a ps h => by
  unfold noT at h
  split at h
  · cases h
  · rename_i q; exact q ps h
theorem noT_none {G : Hp} {a : Addr} (h : G a = none) : noT G a = none := (noT_ex G).none h
theorem ex_noT {G G' : Hp} (x : Ex G G') (n : NT G) : Ex G (noT G') := fun a o h => noT_some (x _ _ h) fun ps z => n a ps (by rw [h, z])
theorem NT.ex {G G' : Hp} (x : Ex G G') (n : NT G') : NT G := fun a ps h => n a ps (x _ _ h)
mutual
theorem Dt.noT {G : Hp} : ∀ {v : V} {d : PyData}, Dt G v d → Dt (noT G) v d
  | _, _, .non => .non
  | _, _, .bl b => .bl b
  | _, _, .int i => .int i
  | _, _, .str x => .str x
  | _, _, .lst h a => .lst (noT_some h fun _ z => nomatch z) (DtAll.noT a)
  | _, _, .tup h a => .tup (noT_some h fun _ z => nomatch z) (DtAll.noT a)
  | _, _, .ins h a => .ins (noT_some h fun _ z => nomatch z) (DtF.noT a)
  | _, _, .tag h => .tag (Dt.noT h)
  | _, _, .fn h k => .fn (noT_some h fun _ z => by cases z) (noT_some k fun _ z => by cases z)
  | _, _, .bes h k => .bes (Dt.noT h) (Dt.noT k)
  | _, _, .dct h => .dct (noT_some h fun _ z => nomatch z)
  | _, _, .see h k n => .see (Dt.noT h) (noT_some k n) n
theorem DtAll.noT {G : Hp} : ∀ {vs : List V} {ds : List PyData}, DtAll G vs ds → DtAll (noT G) vs ds
  | _, _, .nil => .nil
  | _, _, .cons h t => .cons (Dt.noT h) (DtAll.noT t)
theorem DtF.noT {G : Hp} : ∀ {vs : List (Str × V)} {ds : List (PyData × PyData)}, DtF G vs ds → DtF (noT G) vs ds
  | _, _, .nil => .nil
  | _, _, .cons h t => .cons (Dt.noT h) (DtF.noT t)
end
theorem sqL_noT {K : PySem.W.Frag} {G : Hp} {a : Addr} {xs : List V} (h : SqL K G a xs) : SqL K (noT G) a xs := by
  rcases h with (h | ⟨o, h⟩) | h
  · exact .inl (.inl (noT_some h fun _ z => nomatch z))
  · exact .inl (.inr ⟨o, noT_some h fun _ z => nomatch z⟩)
  · exact .inr h
theorem args_noT {K : PySem.W.Frag} {G : Hp} : ∀ {vs : List V} {as : List Sl}, ArgsOk K G vs as → ArgsOk K (noT G) vs as
  | _, _, .nil => .nil
  | _, s :: _, .cons h t => .cons (by
    cases s with
    | dat d => exact Dt.noT h
    | scr ns => obtain ⟨a, e1, e2⟩ := h; exact ⟨a, e1, sqL_noT e2⟩
    | unk => trivial
    | own ds => exact h.elim
    | obj _ _ _ _ => exact h.elim
    | at_ p => exact h.elim) (args_noT t)
/-! ### what goes on while lambdas are made -/
structure ExtT (G H G' H' : Hp) : Prop where
  gg : Ex G G'
  hh : ∀ a o, H a = some o → (∀ ps, o ≠ .tbl ps) → H' a = some o
  gh : Ex G' H'
  ap : ∀ p o, G p = none → H p = some o → (∀ ps, o ≠ .tbl ps) → G' p = none
theorem Ext.toT {G H G' H' : Hp} (e : Ext G H G' H') : ExtT G H G' H' := ⟨e.gg, fun a o h _ => e.hh _ _ h, e.gh, fun p o g h _ => e.ap p g (by rw [h]; exact fun z => nomatch z)⟩
theorem ExtT.tr {G H G1 H1 G2 H2 : Hp} (a : ExtT G H G1 H1) (b : ExtT G1 H1 G2 H2) : ExtT G H G2 H2 :=
  ⟨a.gg.tr b.gg, fun p o h n => b.hh _ _ (a.hh _ _ h n) n, b.gh, fun p o g h n => b.ap p o (a.ap p o g h n) (a.hh _ _ h n) n⟩
theorem ExtT.noT {G H G' H' : Hp} (e : ExtT G H G' H') (n : NT G) : ExtT G H (noT G') H' := ⟨ex_noT e.gg n, e.hh, (noT_ex G').tr e.gh, fun p o g h k => noT_none (e.ap p o g h k)⟩
section
variable {K : PySem.W.Frag} {G0 H0 G H G' H' : Hp} {σ : L2.St} {τ : Sls}
theorem ObOk.stepT {x C dx : Addr} {fs : List (Str × Addr × List PyData)} (h : ObOk H0 G H x C dx fs) (e : ExtT G H G' H') : ObOk H0 G' H' x C dx fs := by
  obtain ⟨h1, h2, h3, h4, h5⟩ := h
  refine ⟨e.hh _ _ h1 (fun _ z => nomatch z), e.ap _ _ h2 h1 (fun _ z => nomatch z), h3, h4, fun f hf => ?_⟩
  obtain ⟨vs, k1, k2, k3, k4⟩ := h5 f hf
  exact ⟨vs, e.hh _ _ k1 (fun _ z => nomatch z), e.ap _ _ k2 k1 (fun _ z => nomatch z), k3, DtAll.ex e.gg k4⟩
theorem SlOk.stepT {ov : Option V} {s : Sl} (h : SlOk K H0 G H ov s) (e : ExtT G H G' H') : SlOk K H0 G' H' ov s := by
  cases s with
  | unk => trivial
  | dat d => obtain ⟨v, h1, h2⟩ := h; exact ⟨v, h1, Dt.ex e.gg h2⟩
  | own ds =>
    obtain ⟨p, vs, h1, h2, h3, h4, h5⟩ := h
    exact ⟨p, vs, h1, e.hh _ _ h2 (fun _ z => nomatch z), e.ap _ _ h3 h2 (fun _ z => nomatch z), h4, DtAll.ex e.gg h5⟩
  | scr ns => obtain ⟨a, h1, h2⟩ := h; exact ⟨a, h1, e.gg.sqL h2⟩
  | obj x C dx fs => exact ⟨h.1, ObOk.stepT h.2 e⟩
  | at_ p => exact h
theorem Rel.stepT (r : Rel K G0 H0 G H σ τ) (n : NT H0) (e : ExtT G H G' H') : Rel K G0 H0 G' H' σ τ where
  base := r.base
  ext := ⟨r.ext.gg.tr e.gg, fun a o h => e.hh _ _ (r.ext.hh _ _ h) fun ps z => n a ps (by rw [h, z]), e.gh, fun p g h => by
    cases q : H0 p with
    | none => exact absurd q h
    | some o => exact e.ap p o (r.ext.ap p g h) (r.ext.hh _ _ q) fun ps z => n p ps (by rw [q, z])⟩
  len := r.len
  at_ := fun i s hs => by
    obtain ⟨ov, h1, h2⟩ := r.at_ i s hs
    exact ⟨ov, h1, SlOk.stepT h2 e⟩
  sep := r.sep
/-- a slot, where the frozen heap is cut -/
theorem SlOk.noT {ov : Option V} {s : Sl} (h : SlOk K H0 G H ov s) : SlOk K H0 (noT G) H ov s := by
  cases s with
  | unk => trivial
  | dat d => obtain ⟨v, h1, h2⟩ := h; exact ⟨v, h1, Dt.noT h2⟩
  | own ds =>
    obtain ⟨p, vs, h1, h2, h3, h4, h5⟩ := h
    exact ⟨p, vs, h1, h2, noT_none h3, h4, DtAll.noT h5⟩
  | scr ns => obtain ⟨a, h1, h2⟩ := h; exact ⟨a, h1, sqL_noT h2⟩
  | obj x C dx fs =>
    obtain ⟨h0, h1, h2, h3, h4, h5⟩ := h
    refine ⟨h0, h1, noT_none h2, h3, h4, fun f hf => ?_⟩
    obtain ⟨vs, k1, k2, k3, k4⟩ := h5 f hf
    exact ⟨vs, k1, noT_none k2, k3, DtAll.noT k4⟩
  | at_ p => exact h
theorem Rel.noT (r : Rel K G0 H0 G H σ τ) (n : NT G0) : Rel K G0 H0 (noT G) H σ τ where
  base := r.base
  ext := ⟨ex_noT r.ext.gg n, r.ext.hh, (noT_ex G).tr r.ext.gh, fun p g h => noT_none (r.ext.ap p g h)⟩
  len := r.len
  at_ := fun i s hs => by
    obtain ⟨ov, h1, h2⟩ := r.at_ i s hs
    exact ⟨ov, h1, SlOk.noT h2⟩
  sep := r.sep
/-- the start's heap, with what stands in no slot's hand beside -/
def h0x (H0 G H : Hp) : Hp := fun a => match G a with
  | some _ => H0 a
  | none => match H a with
    | some (.tbl ps) => some (.tbl ps)
    | some (.ext φ) => some (.ext φ)
    | _ => H0 a
theorem h0x_up (x : Ex H0 H) : Ex H0 (h0x H0 G H) := fun a o h => by
  unfold h0x
  split
  · exact h
  · have := x _ _ h
    split
    · rename_i q; rw [q] at this; cases this; rfl
    · rename_i q; rw [q] at this; cases this; rfl
    · exact h
theorem h0x_ex (x : Ex H0 H) : Ex (h0x H0 G H) H := fun a o h => by
  unfold h0x at h
  split at h
  · exact x _ _ h
  · split at h
    · rename_i q; cases h; exact q
    · rename_i q; cases h; exact q
    · exact x _ _ h
theorem h0x_own {p : Addr} {o : HO} (hp : H p = some o) (n1 : ∀ ps, o ≠ .tbl ps) (n2 : ∀ φ, o ≠ .ext φ) (h0 : H0 p = none) : h0x H0 G H p = none := by
  unfold h0x
  split
  · exact h0
  · split
    · rename_i q; rw [hp] at q; cases q; exact absurd rfl (n1 _)
    · rename_i q; rw [hp] at q; cases q; exact absurd rfl (n2 _)
    · exact h0
theorem h0x_keep {b : Addr} {o : HO} (hb : H b = some o) (hx : (∃ ps, o = .tbl ps) ∨ ∃ φ, o = .ext φ) (g : G b = none) : h0x H0 G H b = some o := by
  unfold h0x
  rw [g]
  rcases hx with ⟨ps, rfl⟩ | ⟨φ, rfl⟩
  · dsimp only; rw [hb]
  · dsimp only; rw [hb]
theorem Rel.toX (r : Rel K G0 H0 G H σ τ) : Rel K G0 (h0x H0 G H) G H σ τ where
  base := r.base.tr (h0x_up r.ext.hh)
  ext := ⟨r.ext.gg, h0x_ex r.ext.hh, r.ext.gh, fun p g h => by
    cases q : G p with
    | none => rfl
    | some o =>
      have e : h0x H0 G H p = H0 p := by unfold h0x; rw [q]
      rw [e] at h
      have := r.ext.ap p g h
      rw [q] at this
      cases this⟩
  len := r.len
  at_ := fun i s hs => by
    obtain ⟨ov, h1, h2⟩ := r.at_ i s hs
    refine ⟨ov, h1, ?_⟩
    cases s with
    | unk => trivial
    | dat d => exact h2
    | own ds =>
      obtain ⟨p, vs, a1, a2, a3, a4, a5⟩ := h2
      exact ⟨p, vs, a1, a2, a3, h0x_own a2 (fun _ z => nomatch z) (fun _ z => nomatch z) a4, a5⟩
    | scr ns => exact h2
    | obj x C dx fs =>
      obtain ⟨a0, a1, a2, a3, a4, a5⟩ := h2
      refine ⟨a0, a1, a2, h0x_own a1 (fun _ z => nomatch z) (fun _ z => nomatch z) a3, a4, fun f hf => ?_⟩
      obtain ⟨vs, k1, k2, k3, k4⟩ := a5 f hf
      exact ⟨vs, k1, k2, h0x_own k1 (fun _ z => nomatch z) (fun _ z => nomatch z) k3, k4⟩
    | at_ p => exact h2
  sep := r.sep
theorem Rel.down {H1 : Hp} (r : Rel K G0 H1 G H σ τ) (b : Ex G0 H0) (x : Ex H0 H1) : Rel K G0 H0 G H σ τ where
  base := b
  ext := ⟨r.ext.gg, x.tr r.ext.hh, r.ext.gh, fun p g h => r.ext.ap p g fun z => h (x.none z)⟩
  len := r.len
  at_ := fun i s hs => by
    obtain ⟨ov, h1, h2⟩ := r.at_ i s hs
    refine ⟨ov, h1, ?_⟩
    cases s with
    | unk => trivial
    | dat d => exact h2
    | own ds =>
      obtain ⟨p, vs, a1, a2, a3, a4, a5⟩ := h2
      exact ⟨p, vs, a1, a2, a3, x.none a4, a5⟩
    | scr ns => exact h2
    | obj y C dx fs => exact ⟨h2.1, h2.2.back x⟩
    | at_ p => exact h2
  sep := r.sep
end
theorem TabG.ext {T : List (Addr × Str)} {G H G' H' : Hp} (t : TabG T G H) (x : Ex G G') (k : ∀ b ps, H b = some (.tbl ps) → H' b = some (.tbl ps)) : TabG T G' H' := fun p hp => by
  obtain ⟨ps, h1, h2, h3⟩ := t p hp
  refine ⟨ps, k _ _ h1, h2, fun pos cv hc => ?_⟩
  obtain ⟨c, e1, e2⟩ := h3 pos cv hc
  exact ⟨c, e1, x _ _ e2⟩
theorem TabG.step {T : List (Addr × Str)} {G H G' H' : Hp} (t : TabG T G H) (x : Ext G H G' H') : TabG T G' H' := t.ext x.gg fun b ps h => x.hh _ _ h
theorem TabG.noT {T : List (Addr × Str)} {G H : Hp} (t : TabG T G H) : TabG T (noT G) H := fun p hp => by
  obtain ⟨ps, h1, h2, h3⟩ := t p hp
  refine ⟨ps, h1, h2, fun pos cv hc => ?_⟩
  obtain ⟨c, e1, e2⟩ := h3 pos cv hc
  exact ⟨c, e1, noT_some e2 fun _ z => by cases z⟩
section
variable (K : PySem.W.Frag) (T : List (Addr × Str))
def EDT (te : TE) (τ : Sls) (d : PyData) : Prop := ∀ G0 H0 G H σ, Rel K G0 H0 G H σ τ → NT H0 → NT G → TabG T G H → ∀ Q : VK, (∀ v G' H', ExtT G H G' H' → NT G' → TabG T G' H' → Dt G' v d → Q v H') → te σ H Q
def ETT (c : TT) (τ : Sls) (b : Bool) : Prop := ∀ G0 H0 G H σ, Rel K G0 H0 G H σ τ → NT H0 → NT G → TabG T G H → ∀ Q : Bool → Hp → Prop, (∀ G' H', ExtT G H G' H' → NT G' → TabG T G' H' → Q b H') → c σ H Q
def SDT (t : TS) (τ : Sls) (N : Sls → Prop) (R : Sl → Prop) : Prop := ∀ G0 H0 G H σ, Rel K G0 H0 G H σ τ → NT H0 → NT G → TabG T G H → ∀ D : Ends, (∀ τ' G' H' σ', N τ' → Rel K G0 H0 G' H' σ' τ' → NT G' → TabG T G' H' → Ex G G' → D.nx σ' H') →
  (∀ s v G' H', R s → Ext G0 H0 G' H' → TabG T G' H' → RtOk H0 G' H' v s → D.rt v H') → t D σ H
/-- the promise of a def that makes lambdas -/
def spT (P : List Sl → (Sl → Prop) → Prop) : Sp := fun vs H Q _ => ∃ G as R, Ex G H ∧ NT G ∧ TabG T G H ∧ ArgsOk K G vs as ∧ P as R ∧ ∀ s v G' H', R s → ExtT G H G' H' → TabG T G' H' → RtOk (noT H) G' H' v s → Q v H'
end
section
variable {K : PySem.W.Frag} {T : List (Addr × Str)} {τ : Sls} {te ta tb : TE} {d : PyData} {t u : TS} {N : Sls → Prop} {R : Sl → Prop} {c : TT} {b : Bool}
theorem edt_ed (h : ED K te τ d) : EDT K T te τ d := fun G0 H0 G H σ r n0 nG tb Q q => h G0 H0 G H σ r Q fun v G' H' x dd => q v (noT G') H' (x.toT.noT nG) (noT_nt G') (tb.step x).noT (Dt.noT dd)
theorem ett_et (h : ET K c τ b) : ETT K T c τ b := fun G0 H0 G H σ r n0 nG tb Q q => h G0 H0 G H σ r Q fun G' H' x => q (noT G') H' (x.toT.noT nG) (noT_nt G') (tb.step x).noT
theorem sdt_sd (h : SD K t τ N (fun _ => False)) : SDT K T t τ N R := fun G0 H0 G H σ r n0 nG tb D kn kr => by
  refine h G0 (h0x H0 G H) G H σ r.toX D (fun τ' G' H' σ' hn r' x' => ?_) (fun _ _ _ _ z => z.elim)
  have nG0 : NT G0 := n0.ex r.base
  refine kn τ' (noT G') H' σ' hn ((r'.down r.base (h0x_up r.ext.hh)).noT nG0) (noT_nt G') (TabG.noT (tb.ext x' fun a ps ha => r'.ext.hh _ _ (h0x_keep ha (.inl ⟨_, rfl⟩) ?_))) (ex_noT x' nG)
  cases g : G a with
  | none => rfl
  | some o' =>
    have := r.gh _ _ g
    rw [ha] at this
    cases this
    exact absurd g (nG a ps)
theorem sdt_next (h : N τ) : SDT K T tNext τ N R := fun G0 H0 G H σ r n0 nG tb D kn kr => kn τ G H σ h r nG tb (Ex.rfl G)
theorem sdt_seq {M : Sls → Prop} (h1 : SDT K T t τ M R) (h2 : ∀ τ1, M τ1 → SDT K T u τ1 N R) : SDT K T (tSeq t u) τ N R := fun G0 H0 G H σ r n0 nG tb D kn kr =>
  h1 G0 H0 G H σ r n0 nG tb { D with nx := u D } (fun τ1 G1 H1 σ1 m r1 g1 t1 x1 => h2 τ1 m G0 H0 G1 H1 σ1 r1 n0 g1 t1 D (fun τ2 G2 H2 σ2 n r2 g2 t2 x2 => kn τ2 G2 H2 σ2 n r2 g2 t2 (x1.tr x2)) kr) kr
theorem sdt_seq1 {τ1 : Sls} (h1 : SDT K T t τ (· = τ1) R) (h2 : SDT K T u τ1 N R) : SDT K T (tSeq t u) τ N R := sdt_seq h1 fun _ e => e ▸ h2
theorem sdt_if (hc : ETT K T c τ b) (h1 : b = true → SDT K T t τ N R) (h2 : b = false → SDT K T u τ N R) : SDT K T (tIfS c t u) τ N R := fun G0 H0 G H σ r n0 nG tb D kn kr => hc G0 H0 G H σ r n0 nG tb _ fun G1 H1 x1 g1 t1 => by
  cases b with
  | true => rw [if_pos rfl]; exact h1 rfl G0 H0 G1 H1 σ (r.stepT n0 x1) n0 g1 t1 D (fun τ2 G2 H2 σ2 n r2 g2 t2 x2 => kn τ2 G2 H2 σ2 n r2 g2 t2 (x1.gg.tr x2)) kr
  | false => rw [if_neg Bool.false_ne_true]; exact h2 rfl G0 H0 G1 H1 σ (r.stepT n0 x1) n0 g1 t1 D (fun τ2 G2 H2 σ2 n r2 g2 t2 x2 => kn τ2 G2 H2 σ2 n r2 g2 t2 (x1.gg.tr x2)) kr
theorem sdt_ret (h : EDT K T te τ d) (hr : R (.dat d)) : SDT K T (tRet te) τ N R := fun G0 H0 G H σ r n0 nG tb D kn kr => h G0 H0 G H σ r n0 nG tb _ fun v G1 H1 x1 g1 t1 d1 => kr _ v G1 H1 hr (r.stepT n0 x1).ext t1 d1
/-- what is walked -/
def EIT (K : PySem.W.Frag) (T : List (Addr × Str)) (wi : TI) (τ : Sls) (its : List PyData) : Prop := ∀ G0 H0 G H σ, Rel K G0 H0 G H σ τ → NT H0 → NT G → TabG T G H → ∀ R : It → Hp → Prop, (∀ J G' H', ExtT G H G' H' → NT G' → TabG T G' H' → JD G' J its → R J H') → wi σ H R
theorem eit_list {ds : List PyData} (h : ED K te τ (.list ds)) : EIT K T (iAny K te) τ ds := fun G0 H0 G H σ r n0 nG tb R q => .inl (h G0 H0 G H σ r _ fun v G1 H1 x1 d1 => by
  obtain ⟨p, vs, rfl, e1, a1⟩ := Dt.lst_of (Dt.noT d1)
  exact ⟨p, rfl, ⟨vs, .inl (.inl (x1.gh _ _ (noT_ex _ _ _ e1)))⟩, q _ (noT G1) H1 (x1.toT.noT nG) (noT_nt G1) (tb.step x1).noT (jd_list e1 a1)⟩)
theorem sdt_for {wi : TI} {g : TG} {its : List PyData} (I : Nat → Sls → Prop) (hi : EIT K T wi τ its) (h0 : I 0 τ) (hb : ∀ i d τ1, its[i]? = some d → I i τ1 → ∃ js τ2, TGD K g js d τ1 τ2 ∧ SDT K T t τ2 (I (i + 1)) R) (hn : ∀ τ1, I its.length τ1 → N τ1) : SDT K T (tFor wi g t) τ N R := by
  intro G0 H0 G H σ r n0 nG tb D kn kr
  have nG0 : NT G0 := n0.ex r.base
  refine hi G0 H0 G H σ r n0 nG tb _ fun J G1 H1 x1 g1 t1 jd => ?_
  refine ⟨fun i m σc Hc => m = its.length - i ∧ i ≤ its.length ∧ ∃ τ1 G2, I i τ1 ∧ Rel K G0 H0 G2 Hc σc τ1 ∧ NT G2 ∧ TabG T G2 Hc ∧ Ex G1 G2, ⟨its.length, by simp, Nat.zero_le _, τ, G1, h0, r.stepT n0 x1, g1, t1, Ex.rfl _⟩, ?_⟩
  rintro i m σc Hc ⟨rfl, hin, τ1, G2, hI, rc, g2, t2, y1⟩
  obtain ⟨jgo, jst⟩ := jd G2 Hc y1 rc.gh i
  by_cases hlt : i < its.length
  · obtain ⟨x, hx⟩ : ∃ x, its[i]? = some x := ⟨its[i], List.getElem?_eq_getElem hlt⟩
    obtain ⟨go, yl⟩ := jgo x hx
    refine .inr ⟨go, fun σ' H' => ∃ τ1 G2, I (i + 1) τ1 ∧ Rel K G0 H0 G2 H' σ' τ1 ∧ NT G2 ∧ TabG T G2 H' ∧ Ex G1 G2, fun σ' H' hN => ⟨its.length - (i + 1), by omega, rfl, hlt, hN⟩, fun v H' yv => ?_⟩
    obtain ⟨G3, z1, z2⟩ := yl v H' yv
    obtain ⟨js, τ2, tg, sd⟩ := hb i x τ1 hx hI
    refine tg G0 H0 (noT G3) H' σc v ((rc.step z1).noT nG0) (Dt.noT z2) _ fun σ2 R2 _ _ => ?_
    exact sd G0 H0 (noT G3) H' σ2 R2 n0 (noT_nt G3) (t2.step z1).noT _ (fun τ' G' H' σ' n r' g' t' x' => ⟨τ', G', n, r', g', t', (y1.tr (ex_noT z1.gg g2)).tr x'⟩) kr
  · have e : i = its.length := by omega
    subst e
    exact .inl ⟨jst (Nat.le_refl _), kn τ1 G2 Hc σc (hn τ1 hI) rc g2 t2 (x1.gg.tr y1)⟩
theorem ett_B (h : EDT K T te τ (.bool b)) : ETT K T (tB te) τ b := fun G0 H0 G H σ r n0 nG tb Q q => h G0 H0 G H σ r n0 nG tb _ fun v G1 H1 x1 g1 t1 d1 => ⟨b, Dt.bl_of d1, q G1 H1 x1 g1 t1⟩
theorem ett_test (h : EDT K T te τ (.bool b)) : ETT K T (tTest te) τ b := fun G0 H0 G H σ r n0 nG tb Q q => h G0 H0 G H σ r n0 nG tb _ fun v G1 H1 x1 g1 t1 d1 => ⟨b, Dt.bl_of d1, q G1 H1 x1 g1 t1⟩
theorem ett_not {a : Bool} (h : ETT K T c τ a) : ETT K T (tNot c) τ (!a) := fun G0 H0 G H σ r n0 nG tb Q q => h G0 H0 G H σ r n0 nG tb _ fun G1 H1 x1 g1 t1 => q G1 H1 x1 g1 t1
theorem edt_is {e : PyData} (h : EDT K T te τ d) (x : d = e) : EDT K T te τ e := x ▸ h
/-- a def that makes lambdas: its body -/
theorem rel_startT {G H : Hp} {vs : List V} {as : List Sl} {M : List Str} (x : Ex G H) (n : NT G) (h : ArgsOk K G vs as) : Rel K G (noT H) G H (start M vs) (startS M as) :=
  (rel_start (M := M) x h).down (ex_noT x n) (noT_ex H)
theorem body_ofT {P : List Sl → (Sl → Prop) → Prop} {M : List Str} (h : ∀ as R, P as R → SDT K T t (startS M as) (fun _ => R (.dat .none)) R) (vs : List V) (H : Hp) (Q : VK) (E : XK) (hp : spT K T P vs H Q E) : t { nx := fun _ H' => Q .non H', rt := Q } (start M vs) H := by
  obtain ⟨G, as, R, x, n, tb, ha, hP, k⟩ := hp
  have toT : ∀ {G' H' : Hp}, Ext G (noT H) G' H' → ExtT G H G' H' := fun {G' H'} e => ⟨e.gg, fun a o h k => e.hh _ _ (noT_some h k), e.gh, fun p o g h k => e.ap p g (by rw [noT_some h k]; exact fun z => nomatch z)⟩
  exact h as R hP G (noT H) G H (start M vs) (rel_startT x n ha) (noT_nt H) n tb _ (fun τ' G' H' σ' m r' g' t' _ => k _ .non G' H' m (toT r'.ext) t' .non) fun s v G' H' m e t' rt => k s v G' H' m (toT e) t' rt
theorem spT_len {P : List Sl → (Sl → Prop) → Prop} {n : Nat} (h : ∀ as R, P as R → as.length = n) (vs : List V) (H : Hp) (Q : VK) (E : XK) (hp : spT K T P vs H Q E) : vs.length = n := by
  obtain ⟨G, as, R, x, _, _, ha, hP, k⟩ := hp
  rw [ha.len]; exact h as R hP
theorem edt_call {P : List Sl → (Sl → Prop) → Prop} {E : XK} {tr : TA} {as : List Sl} (h : EA K tr τ as) (hp : P as (· = .dat d)) : EDT K T (tCall (spT K T P) [] E tr) τ d := fun G0 H0 G H σ r n0 nG tb Q q => h G0 H0 G H σ r _ fun vs G1 H1 x1 a1 => by
  rw [List.append_nil]
  refine ⟨noT G1, as, _, (noT_ex G1).tr x1.gh, noT_nt G1, (tb.step x1).noT, args_noT a1, hp, fun s v G' H' hs x t' hv => ?_⟩
  subst hs
  exact q v (noT G') H' (((x1.toT.noT nG).tr x).noT nG) (noT_nt G') t'.noT (Dt.noT hv)
/-- the law's own end -/
theorem spT_end {P : List Sl → (Sl → Prop) → Prop} {H : Hp} {a : Addr} {ns : List Int} {E : XK} (tb : TabG T (noT H) H) (hs : SqL K H a (ns.map V.int)) (hp : P [.scr ns] (· = .dat (.bool true))) : spT K T P [.ref a] H (fun v _ => v = .bl true) E :=
  ⟨noT H, [.scr ns], _, noT_ex H, noT_nt H, tb, .cons ⟨a, rfl, sqL_noT hs⟩ .nil, hp, fun s v G' H' e x t' hv => by subst e; exact Dt.bl_of hv⟩
end
end Ab

namespace Ab
open PySem PySem.Spec PyProof.Rows L2 LamX NdefX
variable [LamTab]
/-! ### f(lambda x: .., thing, due): refused by the class that is due -/
/-- what the def that asks promises: by the state -/
def spAsk (P : Program) (w : World) (K : PySem.W.Frag) (mg : Str → Option Value) (base : Heap) (k : Nat) (IC : Addr → Int → Prop) : List Env → Shared → Sp := fun outer s vs H Q _ =>
  ∃ (f : Addr) (v : V) (due : Int) (C : Addr) (G : Hp) (dv : PyData), vs = [.ref f, v, .int due] ∧ Ex G H ∧ Dt G v dv ∧ RefAt P w K mg base k (frs outer) s H G f [v] C ∧ IC C due ∧ ∀ H', Ex H H' → Q (.bl true) H'
/-- .. by the slots of the def that makes the lambda -/
def spLam (K : PySem.W.Frag) (L : LamI) (cl : List (Str × Addr)) (js : List Nat) (tb : XK → TE) (IC : Addr → Int → Prop) : L2.St → List V → Hp → VK → Prop := fun σ vs H Q =>
  ∃ (f c' : Addr) (v : V) (due : Int) (C : Addr) (G : Hp) (dv : PyData) (ds : List PyData), vs = [.ref f, v, .int due] ∧ G f = some (LamO f L cl c') ∧ G c' = some (CodeO c' L.q) ∧ Ex G H ∧ Dt G v dv ∧ PySem.W.EachIs (fun j d => ∃ w, σ[j]? = some (some w) ∧ Dt G w d) js ds ∧
    (∀ E, RfE K E (tb E) (datL (dv :: ds)) C) ∧ IC C due ∧ ∀ H', Ex H H' → Q (.bl true) H'
section
variable {X : Cx}
theorem lam_conv {L : LamI} {cl : List (Str × Addr)} {N fr : List Str} {p : Str} {js : List Nat} {k : Nat} {tb : XK → TE} {IC : Addr → Int → Prop} (cp : X.Ok → Caps X cl fr js) (S : NScope N [p] fr L.scope)
    (hb : ∀ (c' : Addr) (pm ctv : Value) (us : List Value), us.length = [p].length → bindArgs (PySem.W.kla_fn "<lambda>" L.q L.params L.body L.scope cl pm (.ref c') ctv) ⟨us, []⟩ = pure ([p].zip us))
    (hbody : ∀ (f c' : Addr) (A : Around) (outer : List Env) (s : Shared) (H : Hp) (E : XK), Room k (A.deeper (envF ⟨"<lambda>", L.q, L.params, [], L.scope, cl, c'⟩ f s.heap.objs.size)) →
      L2N.Takes (ncx (L2N.CX X.prog X.w) X.prog X.w X.K X.mg X.base N ⟨"<lambda>", L.q, L.params, [], L.scope, cl, c'⟩ f A outer s H E) (fun cls d _ H => E cls d H) → PE (ncx (L2N.CX X.prog X.w) X.prog X.w X.K X.mg X.base N ⟨"<lambda>", L.q, L.params, [], L.scope, cl, c'⟩ f A outer s H E) L.body (tb E))
    (hN : N.length = 1 + fr.length) : ∀ pins σ H s vs Q, Inv X pins σ H s → spLam X.K L cl js tb IC σ vs H Q → spAsk X.prog X.w X.K X.mg X.base (k + 1) IC X.stack s vs H Q E0 := by
  rintro pins σ H s vs Q I ⟨f, c', v, due, C, G, dv, ds, rfl, gf, gc, ex, hv, hw, hr, hI, hQ⟩
  exact ⟨f, v, due, C, G, dv, rfl, ex, hv, refAt_of (ps := [p]) I (cp I.ok) S (hb c') gf gc (.cons hv .nil) hw rfl (hbody f c') hN hr, hI, hQ⟩
end
section
variable {K : PySem.W.Frag} {T : List (Addr × Str)} {τ : Sls} {t1 t2 t3 : TE} {d : PyData} {L : LamI} {cl : List (Str × Addr)} {js : List Nat} {tb : XK → TE} {IC : Addr → Int → Prop} {C : Addr} {E : XK}
theorem rfe_call {P : List Sl → Addr → Prop} {ta : TA} {as : List Sl} (h : EA K ta τ as) (hp : P as C) : RfE K E (tAlt t1 (tCallS (spR K P) (WE fun cls d _ H => E cls d H) ta)) τ C := fun G0 H0 G H σ r k Q => .inr (h G0 H0 G H σ r _ fun vs G1 H1 x1 a1 =>
  ⟨G1, as, C, x1.gh, a1, hp, fun H' x => k H' ((r.ext.hh.tr x1.hh).tr x)⟩)
/-- G with the lambda and its code object beside -/
theorem with_two {G H : Hp} {f c' : Addr} {o1 o2 : HO} (x : Ex G H) (h1 : H f = some o1) (h2 : H c' = some o2) : ∃ G1, Ex G G1 ∧ Ex G1 H ∧ G1 f = some o1 ∧ G1 c' = some o2 ∧ ∀ p, p ≠ f → p ≠ c' → G1 p = G p := by
  classical
  refine ⟨fun a => if a = f then some o1 else if a = c' then some o2 else G a, fun a o e => ?_, fun a o e => ?_, by simp, ?_, fun p n1 n2 => by show (if p = f then some o1 else if p = c' then some o2 else G p) = G p; rw [if_neg n1, if_neg n2]⟩
  · have e' := x _ _ e
    show (if a = f then some o1 else if a = c' then some o2 else G a) = some o
    by_cases q : a = f
    · rw [if_pos q]
      rw [q, h1] at e'
      exact e'
    · rw [if_neg q]
      by_cases q2 : a = c'
      · rw [if_pos q2]
        rw [q2, h2] at e'
        exact e'
      · rw [if_neg q2]; exact e
  · have e : (if a = f then some o1 else if a = c' then some o2 else G a) = some o := e
    by_cases q : a = f
    · rw [if_pos q] at e
      rw [q, h1]; exact e
    · rw [if_neg q] at e
      by_cases q2 : a = c'
      · rw [if_pos q2] at e
        rw [q2, h2]; exact e
      · rw [if_neg q2] at e
        exact x _ _ e
  · show (if c' = f then some o1 else if c' = c' then some o2 else G c') = some o2
    by_cases q : c' = f
    · rw [if_pos q]
      rw [q, h1] at h2
      exact h2
    · rw [if_neg q, if_pos rfl]
theorem edt_lam {dv : PyData} {ds : List PyData} {due : Int} (h2 : ED K t2 τ dv) (h3 : ED K t3 τ (.int due)) (hjs : PySem.W.EachIs (fun j d => τ[j]? = some (.dat d)) js ds) (hr : ∀ E, RfE K E (tb E) (datL (dv :: ds)) C) (hI : IC C due) :
    EDT K T (tCallM (spLam K L cl js tb IC) (tCons (tLamE T L cl) (tCons t2 (tCons t3 tNil)))) τ (.bool true) := fun G0 H0 G H σ r n0 nG tbs Q q => by
  refine ⟨G, tbs, r.gh, fun f c' H1 eN nf nc hf hc tg => ?_⟩
  have g1 : Ex G H1 := fun a o e => eN _ _ (r.gh _ _ e) fun ps z => nG a ps (by rw [e, z])
  obtain ⟨G1, w1, w2, w3, w4, w5⟩ := with_two g1 hf hc
  have x0 : ExtT G H G1 H1 := ⟨w1, eN, w2, fun p o g h n => by
    rw [w5 p (fun z => by rw [z, nf] at h; cases h) (fun z => by
      rcases nc with nc | nc
      · rw [z, nc] at h; cases h
      · rw [z, nc] at g; cases g)]
    exact g⟩
  have nG1 : NT G1 := fun a ps e => by
    by_cases q1 : a = f
    · rw [q1, w3] at e; cases e
    · by_cases q2 : a = c'
      · rw [q2, w4] at e; cases e
      · rw [w5 a q1 q2] at e; exact nG a ps e
  have r1 := r.stepT n0 x0
  have t1 := tg G1 w1 w4
  refine h2 G0 H0 G1 H1 σ r1 _ fun v G2 H2 x2 d2 => ?_
  refine h3 G0 H0 G2 H2 σ (r1.step x2) _ fun w G3 H3 x3 d3 => ?_
  cases Dt.int_of d3
  have ex4 : Ex G1 G3 := x2.gg.tr x3.gg
  refine ⟨f, c', v, due, C, G3, dv, ds, rfl, ex4 _ _ w3, ex4 _ _ w4, x3.gh, Dt.ex x3.gg d2, ?_, hr, hI, fun H' x => ?_⟩
  · clear hr
    induction hjs with
    | nil => exact .nil
    | cons hj t ih =>
      obtain ⟨u, e1, e2⟩ := r.var hj
      exact .cons ⟨u, e1, Dt.ex (w1.tr ex4) e2⟩ ih
  · have xx : Ext G1 H1 G3 H' := (x2.tr x3).tr (Ext.grow x3.gh x)
    exact q _ (noT G3) H' ((x0.tr xx.toT).noT nG) (noT_nt G3) (t1.step xx).noT (.bl true)
end
end Ab

namespace Ab
open PySem PySem.Spec PyProof.Rows L2 LamX NdefX
variable [LamTab]
/-! ### lambdas in lists -/
theorem fn_cells {l m : List (Str × Addr)} (h : (l.map fun y : Str × Addr => ((PyData.str y.1, PyData.int ((y.2 : Nat) : Int)) : PyData × PyData)) = m.map fun y => (.str y.1, .int ((y.2 : Nat) : Int))) : l = m := by
  refine (List.map_inj_right fun a b e => ?_).mp h
  injection e with e1 e2
  injection e1 with e1
  injection e2 with e2
  exact Prod.ext e1 (Int.ofNat.inj e2)
theorem Dt.fn_of {G : Hp} {v : V} {n : Nat} {cl : List (Str × Addr)} (h : Dt G v (dFn n cl)) : ∃ a c, v = .ref a ∧ G a = some (LamO a (LamTab.tab n) cl c) ∧ G c = some (CodeO c (LamTab.tab n).q) := by
  generalize hd : dFn n cl = d at h
  cases h with
  | fn h1 h2 =>
    unfold dFn at hd
    injection hd with hd
    injection hd with _ hd
    injection hd with h3 h4
    injection h3 with h3 _
    injection h3 with h3
    have h5 := Int.ofNat.inj h3
    have h6 := fn_cells h4
    subst h5 h6
    exact ⟨_, _, rfl, h1, h2⟩
  | _ => cases hd
section
variable {K : PySem.W.Frag} {T : List (Addr × Str)} {τ : Sls} {te ta tb : TE} {tr : TA} {d e f : PyData} {ds es : List PyData} {N : Sls → Prop} {R : Sl → Prop} {r : R2}
/-- a lambda as data -/
theorem edt_fn {L : LamI} {cl : List (Str × Addr)} {n : Nat} (hL : LamTab.tab n = L) : EDT K T (tLamE T L cl) τ (dFn n cl) := fun G0 H0 G H σ r n0 nG tbs Q q => by
  subst hL
  refine ⟨G, tbs, r.gh, fun f c' H1 eN nf nc hf hc tg => ?_⟩
  have g1 : Ex G H1 := fun a o e => eN _ _ (r.gh _ _ e) fun ps z => nG a ps (by rw [e, z])
  obtain ⟨G1, w1, w2, w3, w4, w5⟩ := with_two g1 hf hc
  have x0 : ExtT G H G1 H1 := ⟨w1, eN, w2, fun p o g h n => by
    rw [w5 p (fun z => by rw [z, nf] at h; cases h) (fun z => by
      rcases nc with nc | nc
      · rw [z, nc] at h; cases h
      · rw [z, nc] at g; cases g)]
    exact g⟩
  have nG1 : NT G1 := fun a ps e => by
    by_cases q1 : a = f
    · rw [q1, w3] at e; cases e
    · by_cases q2 : a = c'
      · rw [q2, w4] at e; cases e
      · rw [w5 a q1 q2] at e; exact nG a ps e
  exact q _ G1 H1 x0 nG1 (tg G1 w1 w4) (.fn w3 w4)
def EAT (K : PySem.W.Frag) (T : List (Addr × Str)) (ta : TA) (τ : Sls) (ds : List PyData) : Prop := ∀ G0 H0 G H σ, Rel K G0 H0 G H σ τ → NT H0 → NT G → TabG T G H → ∀ Q : List V → Hp → Prop, (∀ vs G' H', ExtT G H G' H' → NT G' → TabG T G' H' → DtAll G' vs ds → Q vs H') → ta σ H Q
theorem eat_nil : EAT K T tNil τ [] := fun G0 H0 G H σ r n0 nG tb Q q => q [] G H ⟨Ex.rfl G, fun _ _ h _ => h, r.gh, fun _ _ g _ _ => g⟩ nG tb .nil
theorem eat_cons (h : EDT K T te τ d) (hr : EAT K T tr τ ds) : EAT K T (tCons te tr) τ (d :: ds) := fun G0 H0 G H σ r n0 nG tb Q q => h G0 H0 G H σ r n0 nG tb _ fun v G1 H1 x1 g1 t1 d1 => hr G0 H0 G1 H1 σ (r.stepT n0 x1) n0 g1 t1 _ fun vs G2 H2 x2 g2 t2 d2 => q _ G2 H2 (x1.tr x2) g2 t2 (.cons (Dt.ex x2.gg d1) d2)
theorem edt_lst (h : EAT K T tr τ ds) (hl : ds.length ≤ 100000) : EDT K T (tLst tr) τ (.list ds) := fun G0 H0 G H σ r n0 nG tb Q q => h G0 H0 G H σ r n0 nG tb _ fun vs G1 H1 x1 g1 t1 d1 => ⟨sz (by rw [d1.len]; exact hl), fun p hp => by
  have xn : Ext G1 H1 (upd G1 p (.lst vs)) (upd H1 p (.lst vs)) := Ext.new x1.gh hp
  exact q _ _ _ (x1.tr (xn.toT.noT g1)) (noT_nt _) (t1.step xn).noT (Dt.noT (.lst upd_same (DtAll.ex (Ex.upd (x1.gh.none hp)) d1)))⟩
theorem edt_op (ha : EDT K T ta τ d) (hb : EDT K T tb τ e) (h : RD r d e f) : EDT K T (tOp r ta tb) τ f := fun G0 H0 G H σ rr n0 nG t0 Q q => ha G0 H0 G H σ rr n0 nG t0 _ fun v G1 H1 x1 g1 t1 d1 => hb G0 H0 G1 H1 σ (rr.stepT n0 x1) n0 g1 t1 _ fun u G2 H2 x2 g2 t2 d2 =>
  h G2 H2 v u x2.gh (Dt.ex x2.gg d1) d2 _ fun w G3 H3 x3 d3 => q w (noT G3) H3 ((x1.tr (x2.tr x3.toT)).noT nG) (noT_nt G3) (t2.step x3).noT (Dt.noT d3)
theorem rd_rl {fs : List PyData} (h : RL r d e fs) : RD r d e (.list fs) := fun G H v u x h1 h2 Q q => h G H v u x h1 h2 Q fun p vs G' H' xx hp gp hh dd => q _ _ _ (xx.frz hp hh gp) (.lst upd_same (DtAll.ex (Ex.upd gp) dd))
theorem sdt_asg {i : Nat} (h : EDT K T te τ d) (hn : N (τ.set i (.dat d))) : SDT K T (tAsg te (gName i)) τ N R := fun G0 H0 G H σ r n0 nG tb D kn kr => h G0 H0 G H σ r n0 nG tb _ fun v G1 H1 x1 g1 t1 d1 => kn _ G1 H1 _ hn ((r.stepT n0 x1).set i d1) g1 t1 x1.gg
/-- a reading that knows the slots at its start -/
theorem el_mapG {te : L2.St → TE} (h : ∀ G0 H0 G H σ, Rel K G0 H0 G H σ τ → EL K (te σ) τ ds) : EL K (fun σ H Q => te σ σ H Q) τ ds := fun G0 H0 G H σ r Q q => h G0 H0 G H σ r G0 H0 G H σ r Q q
end
/-! ### such lambdas asked within a comprehension -/
structure Fam where
  cl : List (Str × Addr)
  js : List Nat
  fr : List Str
  tb : XK → TE
def spFn (K : PySem.W.Frag) (fam : Nat → Fam) (ok : Nat → Prop) (IC : Addr → Int → Prop) (σ0 : L2.St) : L2.St → List V → Hp → VK → Prop := fun _ vs H Q =>
  ∃ (n : Nat) (f : Addr) (v : V) (due : Int) (C : Addr) (G : Hp) (dv : PyData) (ds : List PyData), ok n ∧ vs = [.ref f, v, .int due] ∧ Dt G (.ref f) (dFn n (fam n).cl) ∧ Ex G H ∧ Dt G v dv ∧ PySem.W.EachIs (fun j d => ∃ w, σ0[j]? = some (some w) ∧ Dt G w d) (fam n).js ds ∧
    (∀ E, RfE K E ((fam n).tb E) (datL (dv :: ds)) C) ∧ IC C due ∧ ∀ H', Ex H H' → Q (.bl true) H'
/-- what a block knows of the captured cells -/
def FamAt (fam : Nat → Fam) (ok : Nat → Prop) (σ0 : L2.St) (s : Shared) (H : Hp) (fp : List Addr) : Prop := ∀ n, ok n → CellsAt (fam n).cl (fam n).fr ((fam n).js.map (slotAt σ0)) s.heap H ∧ ∀ y c, (fam n).cl.lookup y = some c → c ∉ fp
theorem cells_unX {cl : List (Str × Addr)} {fr : List Str} {ws : List (Option V)} {fs ex : List Addr} {H H2 : Hp} {h h2 : Heap} (C : CellsAt cl fr ws h H) (hx : ∀ y c, cl.lookup y = some c → c ∉ ex) (un : Un fs ex H H2 h h2) : CellsAt cl fr ws h2 H2 := by
  have ck : ∀ {y : Str} {c : Addr} {v : Option Value}, cl.lookup y = some c → h.IsCell c v → h2.IsCell c v := fun {y c v} hl ⟨o, ho, hd⟩ => by
    obtain ⟨sl, q⟩ := un.any ho (C.all y c hl).1 (hx y c hl)
    exact ⟨_, q, hd⟩
  refine ⟨C.len, fun y c e => ?_, C.inj, fun i y e => ?_⟩
  · obtain ⟨n, v, z⟩ := C.all y c e
    obtain ⟨o, ho, hd⟩ := id z
    exact ⟨un.free c o ho n (hx y c e), v, ck e z⟩
  · obtain ⟨c, h1, h2'⟩ := C.has i y e
    refine ⟨c, h1, fun v hv => ?_⟩
    obtain ⟨u, r, z⟩ := h2' v hv
    exact ⟨u, r, ck h1 z⟩
/-- what is to be known of the lambda n -/
structure FamOk (P : Program) (w : World) (K : PySem.W.Frag) (mg : Str → Option Value) (base : Heap) (k : Nat) (n : Nat) (F : Fam) : Prop where
  ex : ∃ (N : List Str) (p : Str), NScope N [p] F.fr (LamTab.tab n).scope ∧ N.length = 1 + F.fr.length ∧
    (∀ (c' : Addr) (pm ctv : Value) (us : List Value), us.length = [p].length → bindArgs (PySem.W.kla_fn "<lambda>" (LamTab.tab n).q (LamTab.tab n).params (LamTab.tab n).body (LamTab.tab n).scope F.cl pm (.ref c') ctv) ⟨us, []⟩ = pure ([p].zip us)) ∧
    ∀ (f c' : Addr) (A : Around) (outer : List Env) (s : Shared) (H : Hp) (E : XK), Room k (A.deeper (envF ⟨"<lambda>", (LamTab.tab n).q, (LamTab.tab n).params, [], (LamTab.tab n).scope, F.cl, c'⟩ f s.heap.objs.size)) →
      L2N.Takes (ncx (L2N.CX P w) P w K mg base N ⟨"<lambda>", (LamTab.tab n).q, (LamTab.tab n).params, [], (LamTab.tab n).scope, F.cl, c'⟩ f A outer s H E) (fun cls d _ H => E cls d H) →
      PE (ncx (L2N.CX P w) P w K mg base N ⟨"<lambda>", (LamTab.tab n).q, (LamTab.tab n).params, [], (LamTab.tab n).scope, F.cl, c'⟩ f A outer s H E) (LamTab.tab n).body (F.tb E)
theorem fam_ref {P : Program} {w : World} {K : PySem.W.Frag} {mg : Str → Option Value} {base : Heap} {k n : Nat} {F : Fam} {H G : Hp} {s : Shared} {σ0 : L2.St} {f C : Addr} {v : V} {dv : PyData} {ds : List PyData} {fs : List Addr} (h : FamOk P w K mg base k n F) (C0 : CellsAt F.cl F.fr (F.js.map (slotAt σ0)) s.heap H)
    (hf : Dt G (.ref f) (dFn n F.cl)) (hv : Dt G v dv) (hw : PySem.W.EachIs (fun j d => ∃ w, σ0[j]? = some (some w) ∧ Dt G w d) F.js ds) (hr : ∀ E, RfE K E (F.tb E) (datL (dv :: ds)) C) : RefAt P w K mg base (k + 1) fs s H G f [v] C := by
  obtain ⟨N, p, S, hN, hb, hbody⟩ := h.ex
  obtain ⟨a, c, e, gf, gc⟩ := Dt.fn_of hf
  cases e
  obtain ⟨ws, ew, hws⟩ := each_slots hw
  rw [ew] at C0
  exact refAt_cells (ps := [p]) (dv := [dv]) C0 S (hb c) gf gc (.cons hv .nil) hws rfl (hbody f c) hN hr
section
variable {X : Cx} {fam : Nat → Fam} {ok : Nat → Prop} {IC : Addr → Int → Prop} {k : Nat}
theorem fam_at (cp : ∀ n, ok n → X.Ok → Caps X (fam n).cl (fam n).fr (fam n).js) :
    ∀ pins σ H s fp, Inv X pins σ H s → (∀ b ∈ fp, FpOk X pins H b) → FamAt fam ok σ s H fp := fun pins σ H s fp I f n hn => ⟨cells_of I (cp n hn I.ok), fun y c e hm => (f c hm).2.2.2.2.1 y c ((cp n hn I.ok).sub y c e) rfl⟩
theorem fam_conv (h : ∀ n, ok n → FamOk X.prog X.w X.K X.mg X.base k n (fam n)) {σ0 : L2.St} {s : Shared} {H : Hp} {scope : Scope} {cenv : Env} {fp : List Addr} (fa : FamAt fam ok σ0 s H fp) :
    ∀ pins σ H' s' vs Q, Inv (blkP X s H scope cenv fp) pins σ H' s' → spFn X.K fam ok IC σ0 σ vs H' Q → spAsk X.prog X.w X.K X.mg X.base (k + 1) IC X.stack s' vs H' Q E0 := by
  rintro pins σ H' s' vs Q I ⟨n, f, v, due, C, G, dv, ds, hn, rfl, hf, ex, hv, hw, hr, hI, hQ⟩
  obtain ⟨C0, hx⟩ := fa n hn
  exact ⟨f, v, due, C, G, dv, rfl, ex, hv, fam_ref (h n hn) (cells_unX C0 hx I.base) hf hv hw hr, hI, hQ⟩
end
section
variable {K : PySem.W.Frag} {τ : Sls} {t1 t2 t3 : TE} {fam : Nat → Fam} {ok : Nat → Prop} {IC : Addr → Int → Prop} {σ0 : L2.St}
/-- a lambda of a list is asked: js its captured slots at the start, which the slots still tell -/
theorem ed_askFn {n : Nat} {dv : PyData} {ds : List PyData} {due : Int} {C : Addr} (hn : ok n) (h1 : ED K t1 τ (dFn n (fam n).cl)) (h2 : ED K t2 τ dv) (h3 : ED K t3 τ (.int due)) (hw : ∀ G0 H0 G H σ, Rel K G0 H0 G H σ τ → PySem.W.EachIs (fun j d => ∃ w, σ0[j]? = some (some w) ∧ Dt G w d) (fam n).js ds)
    (hr : ∀ E, RfE K E ((fam n).tb E) (datL (dv :: ds)) C) (hI : IC C due) : ED K (tCallM (spFn K fam ok IC σ0) (tCons t1 (tCons t2 (tCons t3 tNil)))) τ (.bool true) := fun G0 H0 G H σ r Q q => by
  refine h1 G0 H0 G H σ r _ fun v1 G1 H1 x1 d1 => ?_
  refine h2 G0 H0 G1 H1 σ (r.step x1) _ fun v2 G2 H2 x2 d2 => ?_
  refine h3 G0 H0 G2 H2 σ ((r.step x1).step x2) _ fun v3 G3 H3 x3 d3 => ?_
  cases Dt.int_of d3
  obtain ⟨a, c, e, _, _⟩ := Dt.fn_of d1
  cases e
  exact ⟨n, a, v2, due, C, G3, dv, ds, hn, rfl, Dt.ex (x2.gg.tr x3.gg) d1, x3.gh, Dt.ex x3.gg d2, hw G0 H0 G3 H3 σ (r.step ((x1.tr x2).tr x3)), hr, hI, fun H' x => q _ G3 H' (((x1.tr x2).tr x3).tr (Ext.grow x3.gh x)) (.bl true)⟩
end
end Ab

namespace Ab
open PySem PySem.Spec PyProof.Rows L2 LamX NdefX
variable [LamTab]
theorem kit_ty {K : PySem.W.Frag} {C : Addr} {T : String} (hm : PySem.W.kitMeta T = true) (h : PySem.W.subIn K (.ref C) (.type T) = some true) : PySem.W.kitOne K (.ref C) (.type T) = some true := by
  unfold PySem.W.kitOne PySem.W.kitCls
  rw [if_neg (show ¬ ((Value.ref C == Value.type T) = true) from by simp)]
  dsimp only
  rw [if_pos hm]
  exact h
theorem rd_cat {ds es : List PyData} (hl : ds.length + es.length ≤ 100000) : RD rAddA (.list ds) (.list es) (.list (ds ++ es)) := rd_rl fun G H v u x h1 h2 Q q => by
  obtain ⟨a, vs, rfl, e1, a1⟩ := Dt.lst_of h1
  obtain ⟨b, us, rfl, e2, a2⟩ := Dt.lst_of h2
  refine .inr ⟨a, b, vs, us, rfl, rfl, x _ _ e1, x _ _ e2, sz (by rw [a1.len, a2.len]; exact hl), fun p hp => ?_⟩
  exact q p _ G _ (Ext.newO x hp) hp (x.none hp) upd_same (a1.app a2)
/-! ### lambdas by their places in the text -/
def noEx : Expr := .Name Str.empty ⟨0, 0, 0, 0⟩
def exElts : Expr → List Expr
  | .List es _ => es
  | _ => []
def exRight : Expr → Expr
  | .BinOp _ _ r _ => r
  | e => e
def stVal : Stmt → Expr
  | .Assign _ v _ => v
  | _ => noEx
def lamOf (q : Str) : Expr → LamI
  | .Lambda p b s _ => ⟨q, p, b, s⟩
  | e => ⟨q, defArgs (.Pass ⟨0, 0, 0, 0⟩), e, defScope (.Pass ⟨0, 0, 0, 0⟩)⟩
/-! ### a def that makes lambdas: its code object is known -/
structure FunC (K : PySem.W.Frag) (x qual : Str) (st : Stmt) (f : Addr) (fd : FuncData) (c : Addr) : Prop where
  ex : ∃ (oc : Value) (od : Option Addr) (kV doc pm : Value) (an : Option Addr) (ct : Value) (osl : Array (Option Value)),
    fd = PySem.W.fnOf x qual (defArgs st) (defBody st) (defScope st) .none kV doc pm an (.ref c) ct ∧ K.lookup f = some ⟨oc, od, .func fd, osl⟩ ∧ PySem.W.codeIn K (.ref c) qual = true
  kp : PySem.W.keepIn K (.ref f) = true
theorem FunC.fn {K : PySem.W.Frag} {x qual : Str} {st : Stmt} {f c : Addr} {fd : FuncData} (F : FunC K x qual st f fd c) : Fun K x qual st f fd := by
  obtain ⟨oc, od, kV, doc, pm, an, ct, osl, h1, h2, h3⟩ := F.ex
  exact ⟨⟨oc, od, kV, doc, pm, an, _, ct, osl, h1, h2, h3⟩, F.kp⟩
section
variable {P : Program} {w : World} {K : PySem.W.Frag} {mg : Str → Option Value} {base : Heap}
theorem okT {x qual : Str} {st : Stmt} {f c : Addr} {fd : FuncData} {N ps : List Str} {k : Nat} {sp : Sp} (F : FunC K x qual st f fd c) (S : FnScope N ps (defScope st)) (len : ∀ vs H Q E, sp vs H Q E → vs.length = ps.length)
    (hbody : ∀ (A : Around) (outer : List Env) (s : Shared) (H : Hp) (vs : List V) (Q : VK) (E : XK), Room k (A.deeper (envOfC qual (defScope st) s.heap.objs.size f (.ref c))) → sp vs H Q E →
      ∃ t, PSs (cxOf L2.CX0 P w K mg base N qual (defScope st) f (.ref c) A outer s H E).nox (defBody st) t ∧ t { nx := fun _ H' => Q .non H', rt := Q } (start N vs) H) : FnOk P w K mg base L2.CX0 (k + 1) f fd ps sp := by
  obtain ⟨oc, od, kV, doc, pm, an, ct, osl, rfl, lk, hcd⟩ := F.ex
  refine fn_of lk hcd S len fun A outer s H vs Q E hr hsp => ?_
  obtain ⟨t, h, q⟩ := hbody A outer s H vs Q E hr hsp
  exact ⟨t, h.nox, q⟩
end
/-! ### the end, where the law and other defs make lambdas -/
theorem walk_tabs {l : PySem.W.OpenLaw} {n k : Nat} {q : Program} {loose : List Str} {XP : (Str → Option Value) → Heap → Prop} {YP : World → Heap → Prop} {d : DefRec} {K : Params → PySem.W.Frag} {CX : World → CXT} {x : Str} (names : List Str)
    (hn : l.most = some n) (hn2 : n ≤ sizeLine) (hdf : d.params.defaults = []) (hr : Room k callerA) (hrec : ∀ y ∈ names, ((recsOf q).any fun e => e.name == y) = true) (hY : ∀ (w : World) (h : Heap), YP w h → (K w.params).In h)
    (F : ∀ (w : World) (mg : Str → Option Value) (fa : Addr) (h : Heap), YP w h → (K w.params).In h → h.Ns mainGlobals mg → mg d.name = some (.ref fa) → (∀ y ∈ names, ∀ fb, mg y = some (.ref fb) → OwnTab (K w.params) fb h) → LawAtS l w (K w.params) (CX w) k n x mg fa h)
    (hCX : ∀ (w : World) (H : Hp) (s : Shared) (e : Value) (s' : Shared), CX w [] H s (fun _ _ _ => False) e s' → False) :
    PySem.W.WalkO q loose XP YP l.row.toRowW d [] (fun f vs => PySem.call f vs) := by
  refine Att.attach_callB hn hdf fun w s₀ s₁ mg mb fa o pm cd doc a vs ns G Y ho hd hcd hmg hobj hints hlen hbits hg => ?_
  have KX := hY w _ Y
  have own : ∀ y ∈ names, ∀ fb, mg y = some (.ref fb) → OwnTab (K w.params) fb s₁.heap := fun y hy fb hfb c P o1 fd1 e dd vs1 sl k1 k2 k3 k4 k5 => by
    obtain ⟨dL, hm, hn1⟩ := List.any_eq_true.mp (hrec y hy)
    have hn2 : dL.name = y := beq_iff_eq.mp hn1
    obtain ⟨a', o', fd', c', P', h1, h2, h3, h4, h5, h6⟩ := G.T.tab dL hm
    rw [hn2, hfb] at h1
    cases h1
    have g1 := KX _ _ k1
    rw [g1] at h2
    cases h2
    rw [k2] at h3
    cases h3
    rw [k3] at h4
    cases h4
    obtain ⟨⟨oc, vc, e1, _, e3, e4⟩, hP⟩ := h6
    have g2 := KX _ _ k4
    rw [g2] at e1
    cases e1
    cases e3
    rw [k5] at e4
    cases e4
    exact hP
  obtain ⟨fd, cs, sp, hT, nT, C, hb, hsp, hF⟩ := F w mg fa _ Y KX G.T.g hmg own
  exact law_callTs KX G.T.g G.T.b G.T.builtins G.T.nolimit hg hT nT C G.T.bmain hobj hints (Nat.le_trans hlen hn2) hr hF hb (fun H hH hS => hsp H a ns hlen hbits hH hS) fun H e s' => hCX w H s₁ e s'
end Ab

namespace Ab
open PySem PySem.Spec PyProof.Rows L2 LamX NdefX
variable [LamTab]
mutual
theorem layD_of : ∀ {d : PyData}, PyData.canLay0 d = true → layD d = true
  | .none, _ => rfl
  | .bool _, _ => rfl
  | .int _, _ => rfl
  | .str _, _ => rfl
  | .list ds, h => by rw [layD]; exact layDs_lay h
  | .tuple ds, h => by rw [layD]; exact layDs_lay h
  | .dict _, h => by cases h
theorem layDs_lay : ∀ {ds : List PyData}, PyData.canLayAll0 ds = true → layDs ds = true
  | [], _ => rfl
  | d :: ds, h => by
    rw [PyData.canLayAll0, Bool.and_eq_true] at h
    rw [layDs, layD_of h.1, layDs_lay h.2]
    rfl
end
/-! ### more places in the text -/
def exLeft : Expr → Expr
  | .BinOp l _ _ _ => l
  | e => e
def exArgs : Expr → List Expr
  | .Call _ as _ _ => as
  | _ => []
def exOper : Expr → Expr
  | .UnaryOp _ e _ => e
  | e => e
def exVals : Expr → List Expr
  | .BoolOp _ es _ => es
  | _ => []
def stExpr : Stmt → Expr
  | .Expr e _ => e
  | _ => noEx
def stRet : Stmt → Expr
  | .Return (some e) _ => e
  | _ => noEx
def stTest : Stmt → Expr
  | .If c _ _ _ => c
  | _ => noEx
/-! ### data beside data, the empty dict -/
def dBes (b : Addr) (e d : PyData) : PyData := .dict [(.none, .bool false), (.int ((b : Nat) : Int), e), (.none, d)]
theorem Dt.bes_of {G : Hp} {v : V} {b : Addr} {e d : PyData} (h : Dt G v (dBes b e d)) : Dt G v d ∧ Dt G (.ref b) e := by
  generalize hd : dBes b e d = x at h
  cases h with
  | bes h1 h2 =>
    unfold dBes at hd
    injection hd with hd
    injection hd with _ hd
    injection hd with h3 h4
    injection h3 with h3 h5
    injection h3 with h3
    injection h4 with h4 _
    injection h4 with _ h4
    have h6 := Int.ofNat.inj h3
    subst h6
    subst h5
    subst h4
    exact ⟨h1, h2⟩
  | _ => cases hd
section
variable {K : PySem.W.Frag} {T : List (Addr × Str)} {τ : Sls} {te ta tb : TE} {tr : TA} {d e : PyData} {ds es fs : List PyData} {N : Sls → Prop} {R : Sl → Prop} {r : R2} {t : TS} {c u : TT}
theorem ed_dct : ED K tDNewK τ (.dict []) := fun G0 H0 G H σ rr Q q p hp => by
  have xn : Ext G H (upd G p (.dK [])) (upd H p (.dK [])) := Ext.new rr.gh hp
  exact q _ _ _ xn (.dct upd_same)
/-! ### lists that are new, while lambdas are made -/
theorem Ext.noT {G H G' H' : Hp} (x : Ext G H G' H') (n : NT G) : Ext G H (noT G') H' := ⟨ex_noT x.gg n, x.hh, (noT_ex G').tr x.gh, fun p g h => noT_none (x.ap p g h)⟩
def ELT (K : PySem.W.Frag) (T : List (Addr × Str)) (te : TE) (τ : Sls) (ds : List PyData) : Prop := ∀ G0 H0 G H σ, Rel K G0 H0 G H σ τ → NT H0 → NT G → TabG T G H → ∀ Q : VK, (∀ p vs G1 H1 G' H', ExtT G H G1 H1 → NT G1 → Ext G1 H1 G' H' → NT G' → TabG T G' H' → H1 p = none → G' p = none → H' p = some (.lst vs) → DtAll G' vs ds → Q (.ref p) H') → te σ H Q
theorem rl_cat (hl : ds.length + es.length ≤ 100000) : RL rAddA (.list ds) (.list es) (ds ++ es) := fun G H v u x h1 h2 Q q => by
  obtain ⟨a, vs, rfl, e1, a1⟩ := Dt.lst_of h1
  obtain ⟨b, us, rfl, e2, a2⟩ := Dt.lst_of h2
  refine .inr ⟨a, b, vs, us, rfl, rfl, x _ _ e1, x _ _ e2, sz (by rw [a1.len, a2.len]; exact hl), fun p hp => ?_⟩
  exact q p _ G _ (Ext.newO x hp) hp (x.none hp) upd_same (a1.app a2)
theorem elt_op (ha : EDT K T ta τ d) (hb : EDT K T tb τ e) (h : RL r d e fs) : ELT K T (tOp r ta tb) τ fs := fun G0 H0 G H σ rr n0 nG t0 Q q => ha G0 H0 G H σ rr n0 nG t0 _ fun v G1 H1 x1 g1 t1 d1 => hb G0 H0 G1 H1 σ (rr.stepT n0 x1) n0 g1 t1 _ fun u G2 H2 x2 g2 t2 d2 =>
  h G2 H2 v u x2.gh (Dt.ex x2.gg d1) d2 _ fun p vs G3 H3 x3 hp gp hh d3 => q p vs G2 H2 (Ab.noT G3) H3 (x1.tr x2) g2 (Ext.noT x3 g2) (noT_nt G3) (t2.step x3).noT hp (noT_none gp) hh (DtAll.noT d3)
theorem sdt_asgL {i : Nat} (h : ELT K T te τ ds) (hn : N (τ.set i (.own ds))) : SDT K T (tAsg te (gName i)) τ N R := fun G0 H0 G H σ rr n0 nG t0 D kn kr => h G0 H0 G H σ rr n0 nG t0 _ fun p vs G1 H1 G2 H2 x1 g1 x2 g2 t2 hp gp hh d1 =>
  kn _ G2 H2 _ hn ((rr.stepT n0 x1).setOwn x2 i hp gp hh d1) g2 t2 (x1.gg.tr x2.gg)
theorem sdt_frz {i : Nat} (ht : τ[i]? = some (.own ds)) (h : SDT K T t (τ.set i (.dat (.list ds))) N R) : SDT K T t τ N R := fun G0 H0 G H σ rr n0 nG tb D kn kr => by
  obtain ⟨G1, x, r1⟩ := rr.frz ht
  exact h G0 H0 (Ab.noT G1) H σ (r1.noT (n0.ex rr.base)) n0 (noT_nt _) (TabG.noT (tb.ext x fun _ _ h => h)) D (fun τ2 G2 H2 σ2 n r2 g2 t2 x2 => kn τ2 G2 H2 σ2 n r2 g2 t2 ((ex_noT x nG).tr x2)) kr
theorem sdt_append {i : Nat} (ht : τ[i]? = some (.own ds)) (h : EDT K T te τ d) (hl : ds.length < 100000) (hn : N (τ.set i (.own (ds ++ [d])))) : SDT K T (tDrop (tBM K "list" rAppend (tVar i) (tCons te tNil))) τ N R := fun G0 H0 G H σ rr n0 nG t0 D kn kr => by
  obtain ⟨p, vs, h1, h2, h3, h4, h5⟩ := rr.ownAt ht
  refine ⟨_, h1, .inl ⟨rfl, vs, .inl (.inl h2)⟩, h G0 H0 G H σ rr n0 nG t0 _ fun v G1 H1 x1 g1 t1 d1 => ?_⟩
  have r1 := rr.stepT n0 x1
  obtain ⟨p', vs', k1, k2, k3, k4, k5⟩ := r1.ownAt ht
  rw [h1] at k1
  cases k1
  refine ⟨p, vs', v, rfl, rfl, k2, szl (by rw [k5.len]; exact hl), ?_⟩
  refine kn _ G1 _ σ hn (r1.mut ht h1 (k5.app (.cons d1 .nil))) g1 (t1.ext (Ex.rfl _) fun b ps hb => ?_) x1.gg
  by_cases z : b = p
  · rw [z, k2] at hb; cases hb
  · rw [upd_ne z]; exact hb
theorem ett_or {a b : Bool} (h1 : ETT K T c τ a) (h2 : a = false → ETT K T u τ b) : ETT K T (tOr c u) τ (a || b) := fun G0 H0 G H σ rr n0 nG t0 Q q => h1 G0 H0 G H σ rr n0 nG t0 _ fun G1 H1 x1 g1 t1 => by
  cases a with
  | true => rw [if_pos rfl]; exact q G1 H1 x1 g1 t1
  | false => rw [if_neg Bool.false_ne_true]; exact h2 rfl G0 H0 G1 H1 σ (rr.stepT n0 x1) n0 g1 t1 _ fun G2 H2 x2 g2 t2 => q G2 H2 (x1.tr x2) g2 t2
theorem ett_is {a b : Bool} (h : ETT K T c τ a) (x : a = b) : ETT K T c τ b := x ▸ h
/-- a lambda with the list that it captures -/
theorem edt_fnB {L : LamI} {cl : List (Str × Addr)} {n j : Nat} {q : Addr} (hL : LamTab.tab n = L) (hj : τ[j]? = some (.dat (dTag q e))) : EDT K T (tLamE T L cl) τ (dBes q e (dFn n cl)) := fun G0 H0 G H σ rr n0 nG t0 Q qq => edt_fn (n := n) hL G0 H0 G H σ rr n0 nG t0 Q fun v G' H' x g' t' dd => by
  obtain ⟨w, _, e2⟩ := rr.var hj
  obtain ⟨rfl, e3⟩ := Dt.tag_of e2
  obtain ⟨a, c, rfl, _, _⟩ := Dt.fn_of dd
  exact qq _ G' H' x g' t' (.bes dd (Dt.ex x.gg e3))
end
/-! ### a def that asks each of some lambdas with each of some things -/
theorem un_mid {fs fs1 fs2 fp : List Addr} {H H1 H2 H3 : Hp} {h h1 h2 h3 : Heap} (a : Un fs [] H H1 h h1) (b : Un fs1 fp H1 H2 h1 h2) (c : Un fs2 [] H2 H3 h2 h3) (hf : ∀ x ∈ fp, h.objs.size ≤ x) : Un (fs ++ (fs1 ++ fs2)) [] H H3 h h3 := by
  have np : ∀ {x : Addr} {o : Obj}, h.get? x = some o → x ∉ fp := fun {x o} e hm => absurd (Heap.lt_size e) (Nat.not_lt.mpr (hf x hm))
  have n0 : ∀ x : Addr, x ∉ ([] : List Addr) := fun x => by simp
  refine ⟨fun x o e n nf _ => ?_, fun x o e n nf _ => ?_, fun x o e n _ => ?_, fun x o e _ => ?_, fun x xs e => c.tups _ _ (b.tups _ _ (a.tups _ _ e)), fun x o u e => c.frzs _ _ _ (b.frzs _ _ _ (a.frzs _ _ _ e)), fun x ps e => ?_⟩
  · simp only [List.mem_append, not_or] at nf
    have e1 := a.keep x o e n nf.1 (n0 x)
    have f1 := a.free x o e n (n0 x)
    have e2 := b.keep x o e1 f1 nf.2.1 (np e)
    exact c.keep x o e2 (b.free x o e1 f1 (np e)) nf.2.2 (n0 x)
  · obtain ⟨s1, e1⟩ := a.any e n (n0 x)
    have f1 := a.free x o e n (n0 x)
    obtain ⟨s2, e2⟩ := b.any e1 f1 (np e)
    have f2 := b.free x _ e1 f1 (np e)
    obtain ⟨s3, e3⟩ := c.any e2 f2 (n0 x)
    exact ⟨s3, e3⟩
  · obtain ⟨s1, e1⟩ := a.any e n (n0 x)
    have f1 := a.free x o e n (n0 x)
    obtain ⟨s2, e2⟩ := b.any e1 f1 (np e)
    have f2 := b.free x _ e1 f1 (np e)
    exact c.free x _ e2 f2 (n0 x)
  · obtain ⟨o1, e1⟩ := a.there x o e (n0 x)
    obtain ⟨o2, e2⟩ := b.there x o1 e1 (np e)
    exact c.there x o2 e2 (n0 x)
  · obtain ⟨m1, e1⟩ := a.tbls _ _ e
    obtain ⟨m2, e2⟩ := b.tbls _ _ e1
    obtain ⟨m3, e3⟩ := c.tbls _ _ e2
    exact ⟨m1 ++ (m2 ++ m3), by rw [e3, Array.append_assoc, Array.append_assoc]⟩
/-- each ask refuses each thing, by the class that is due -/
def EachR (P : Program) (w : World) (K : PySem.W.Frag) (mg : Str → Option Value) (base : Heap) (k : Nat) (IC : Addr → Int → Prop) (s : Shared) (H : Hp) (due : Int) (a t : PyData) : Prop :=
  (∀ G1 v, Dt G1 v a → ∃ f, v = .ref f) ∧ ∃ C, IC C due ∧ ∀ G1 f v, Dt G1 (.ref f) a → Dt G1 v t → ∀ fs, RefAt P w K mg base k fs s H G1 f [v] C
def spEach (P : Program) (w : World) (K : PySem.W.Frag) (mg : Str → Option Value) (base : Heap) (k : Nat) (IC : Addr → Int → Prop) : List Env → Shared → Sp := fun _ s vs H Q _ =>
  ∃ (G : Hp) (asks things : List PyData) (due : Int), Ex G H ∧ ArgsOk K G vs [.dat (.list asks), .dat (.list things), .dat (.int due)] ∧ asks.length ≤ 1000 ∧ things.length ≤ 1000 ∧ (∀ a ∈ asks, ∀ t ∈ things, EachR P w K mg base k IC s H due a t) ∧ ∀ H', Ex H H' → Q (.bl true) H'
/-- one asked with one, within that def -/
def spOne (P : Program) (w : World) (K : PySem.W.Frag) (mg : Str → Option Value) (base : Heap) (k : Nat) (IC : Addr → Int → Prop) (s : Shared) (H : Hp) : L2.St → List V → Hp → VK → Prop := fun _ vs H' Q =>
  ∃ (f : Addr) (v : V) (due : Int) (C : Addr) (G : Hp) (dv : PyData), vs = [.ref f, v, .int due] ∧ Ex G H' ∧ Dt G v dv ∧ (∀ fs, RefAt P w K mg base k fs s H G f [v] C) ∧ IC C due ∧ ∀ H2, Ex H' H2 → Q (.bl true) H2
section
variable {X : Cx} {IC : Addr → Int → Prop} {k : Nat}
theorem one_at (hex : X.ex = []) : ∀ (pins : List (Addr × Obj)) (σ : L2.St) (H : Hp) (s : Shared) (fp : List Addr), Inv X pins σ H s → (∀ b ∈ fp, FpOk X pins H b) → (Un X.fs [] X.H_0 H X.s_0.heap s.heap ∧ ∀ b ∈ fp, X.s_0.heap.objs.size ≤ b) := fun pins σ H s fp I f => ⟨by
  have := I.base
  rw [hex] at this
  exact this, fun b hb => by
  rcases (f b hb).2.2.2.1 with z | z
  · rw [hex] at z; cases z
  · exact z⟩
theorem one_conv {s : Shared} {H : Hp} {scope : Scope} {cenv : Env} {fp : List Addr} (fa : Un X.fs [] X.H_0 H X.s_0.heap s.heap ∧ ∀ b ∈ fp, X.s_0.heap.objs.size ≤ b) :
    ∀ pins σ H' s' vs Q, Inv (blkP X s H scope cenv fp) pins σ H' s' → spOne X.prog X.w X.K X.mg X.base k IC X.s_0 X.H_0 σ vs H' Q → spAsk X.prog X.w X.K X.mg X.base k IC X.stack s' vs H' Q E0 := by
  rintro pins σ H' s' vs Q I ⟨f, v, due, C, G, dv, rfl, ex, hv, hr, hI, hQ⟩
  exact ⟨f, v, due, C, G, dv, rfl, ex, hv, ⟨(hr []).fn, fun A outer s2 H2 us Q E hrm e0 un e2 vv hE => (hr _).run A outer s2 H2 us Q E hrm e0 (un_mid fa.1 I.base un fa.2) e2 vv hE⟩, hI, hQ⟩
end
section
variable {P : Program} {w : World} {K : PySem.W.Frag} {mg : Str → Option Value} {base : Heap} {k : Nat} {IC : Addr → Int → Prop} {s : Shared} {H : Hp} {τ : Sls} {t1 t2 t3 : TE}
theorem ed_one {a t : PyData} {due : Int} (h1 : ED K t1 τ a) (h2 : ED K t2 τ t) (h3 : ED K t3 τ (.int due)) (he : EachR P w K mg base k IC s H due a t) : ED K (tCallM (spOne P w K mg base k IC s H) (tCons t1 (tCons t2 (tCons t3 tNil)))) τ (.bool true) := fun G0 H0 G H' σ r Q q => by
  obtain ⟨hf, C, hI, hr⟩ := he
  refine h1 G0 H0 G H' σ r _ fun v1 G1 H1 x1 d1 => ?_
  refine h2 G0 H0 G1 H1 σ (r.step x1) _ fun v2 G2 H2 x2 d2 => ?_
  refine h3 G0 H0 G2 H2 σ ((r.step x1).step x2) _ fun v3 G3 H3 x3 d3 => ?_
  cases Dt.int_of d3
  obtain ⟨f, rfl⟩ := hf _ _ d1
  exact ⟨f, v2, due, C, G3, t, rfl, x3.gh, Dt.ex x3.gg d2, hr G3 f v2 (Dt.ex (x2.gg.tr x3.gg) d1) (Dt.ex x3.gg d2), hI, fun H' x => q _ G3 H' (((x1.tr x2).tr x3).tr (Ext.grow x3.gh x)) (.bl true)⟩
end
/-! ### the def that makes the lambdas hands them over -/
/-- a lambda by its number, with the list that it captures -/
abbrev AskI := Nat × Option (Addr × PyData)
def askD (fam : Nat → Fam) : AskI → PyData
  | (n, none) => dFn n (fam n).cl
  | (n, some (q, e)) => dBes q e (dFn n (fam n).cl)
def askC : AskI → List PyData
  | (_, none) => []
  | (_, some (_, e)) => [e]
def askOk (fam : Nat → Fam) (ok : Nat → Prop) (σ : L2.St) : AskI → Prop
  | (n, none) => ok n ∧ (fam n).js = []
  | (n, some (q, _)) => ok n ∧ ∃ j, (fam n).js = [j] ∧ σ[j]? = some (some (.ref q))
def spEachM (K : PySem.W.Frag) (fam : Nat → Fam) (ok : Nat → Prop) (IC : Addr → Int → Prop) : L2.St → List V → Hp → VK → Prop := fun σ vs H Q =>
  ∃ (G : Hp) (asks : List AskI) (things : List PyData) (due : Int), Ex G H ∧ ArgsOk K G vs [.dat (.list (asks.map (askD fam))), .dat (.list things), .dat (.int due)] ∧ asks.length ≤ 1000 ∧ things.length ≤ 1000 ∧ (∀ a ∈ asks, askOk fam ok σ a) ∧
    (∀ a ∈ asks, ∀ t ∈ things, ∃ C, IC C due ∧ ∀ E, RfE K E ((fam a.1).tb E) (datL (t :: askC a)) C) ∧ ∀ H', Ex H H' → Q (.bl true) H'
section
variable {X : Cx} {fam : Nat → Fam} {ok : Nat → Prop} {IC : Addr → Int → Prop} {k : Nat}
theorem each_conv (cp : ∀ n, ok n → X.Ok → Caps X (fam n).cl (fam n).fr (fam n).js) (h : ∀ n, ok n → FamOk X.prog X.w X.K X.mg X.base k n (fam n)) :
    ∀ pins σ H s vs Q, Inv X pins σ H s → spEachM X.K fam ok IC σ vs H Q → spEach X.prog X.w X.K X.mg X.base (k + 1) IC X.stack s vs H Q E0 := by
  rintro pins σ H s vs Q I ⟨G, asks, things, due, ex, ha, l1, l2, hok, hr, hQ⟩
  refine ⟨G, asks.map (askD fam), things, due, ex, ha, by rw [List.length_map]; exact l1, l2, fun a hm t ht => ?_, hQ⟩
  obtain ⟨a, ham, rfl⟩ := List.mem_map.mp hm
  obtain ⟨C, hI, hR⟩ := hr a ham t ht
  have ho := hok a ham
  obtain ⟨n, o⟩ := a
  cases o with
  | none =>
    obtain ⟨hn, hj⟩ := ho
    refine ⟨fun G1 v d => ?_, C, hI, fun G1 f v hf hv fs => fam_ref (σ0 := σ) (h n hn) (cells_of I (cp n hn I.ok)) hf hv (ds := []) (by rw [hj]; exact .nil) hR⟩
    obtain ⟨a, c, e, _⟩ := Dt.fn_of d
    exact ⟨a, e⟩
  | some qe =>
    obtain ⟨q, e⟩ := qe
    obtain ⟨hn, j, hj, hs⟩ := ho
    refine ⟨fun G1 v d => ?_, C, hI, fun G1 f v hf hv fs => ?_⟩
    · obtain ⟨a, c, e, _⟩ := Dt.fn_of (Dt.bes_of d).1
      exact ⟨a, e⟩
    · obtain ⟨h1, h2⟩ := Dt.bes_of hf
      exact fam_ref (σ0 := σ) (h n hn) (cells_of I (cp n hn I.ok)) h1 hv (ds := [e]) (by rw [hj]; exact .cons ⟨_, hs, h2⟩ .nil) hR
end
section
variable {K : PySem.W.Frag} {T : List (Addr × Str)} {τ : Sls} {tr : TA} {fam : Nat → Fam} {ok : Nat → Prop} {IC : Addr → Int → Prop} {E : XK} {C : Addr}
theorem rfe_callR {P : List Sl → Addr → Prop} {ta : TA} {as : List Sl} (h : EA K ta τ as) (hp : P as C) : RfE K E (tCallS (spR K P) (WE fun cls d _ H => E cls d H) ta) τ C := fun G0 H0 G H σ r k Q => h G0 H0 G H σ r _ fun vs G1 H1 x1 a1 =>
  ⟨G1, as, C, x1.gh, a1, hp, fun H' x => k H' ((r.ext.hh.tr x1.hh).tr x)⟩
/-- what the slots must tell of an ask -/
def askT (fam : Nat → Fam) (ok : Nat → Prop) (τ : Sls) : AskI → Prop
  | (n, none) => ok n ∧ (fam n).js = []
  | (n, some (q, _)) => ok n ∧ ∃ j e', (fam n).js = [j] ∧ τ[j]? = some (.dat (dTag q e'))
theorem edt_each {asks : List AskI} {things : List PyData} {due : Int} (h : EAT K T tr τ [.list (asks.map (askD fam)), .list things, .int due]) (l1 : asks.length ≤ 1000) (l2 : things.length ≤ 1000) (hok : ∀ a ∈ asks, askT fam ok τ a)
    (hr : ∀ a ∈ asks, ∀ t ∈ things, ∃ C, IC C due ∧ ∀ E, RfE K E ((fam a.1).tb E) (datL (t :: askC a)) C) : EDT K T (tCallM (spEachM K fam ok IC) tr) τ (.bool true) := fun G0 H0 G H σ r n0 nG t0 Q q => h G0 H0 G H σ r n0 nG t0 _ fun vs G1 H1 x1 g1 t1 dd => by
  refine ⟨G1, asks, things, due, x1.gh, ArgsOk.of (K := K) dd, l1, l2, fun a ha => ?_, hr, fun H' x => ?_⟩
  · have := hok a ha
    obtain ⟨n, o⟩ := a
    cases o with
    | none => exact this
    | some qe =>
      obtain ⟨qq, e⟩ := qe
      obtain ⟨hn, j, e', hj, hτ⟩ := this
      obtain ⟨v, e1, e2⟩ := r.var hτ
      obtain ⟨rfl, _⟩ := Dt.tag_of e2
      exact ⟨hn, j, hj, e1⟩
  · have xx : Ext G1 H1 G1 H' := Ext.grow x1.gh x
    exact q _ (noT G1) H' ((x1.tr xx.toT).noT nG) (noT_nt G1) (t1.step xx).noT (.bl true)
end
end Ab

/-! plain: wishes by rank, moves -/
namespace Pl
def insU (x : Int) : List Int → List Int
  | [] => [x]
  | y :: ys => if x < y then x :: y :: ys else if x = y then y :: ys else y :: insU x ys
def sset (ns : List Int) : List Int := ns.foldr insU []
theorem mem_insU {x k : Int} : ∀ {l : List Int}, k ∈ insU x l ↔ k = x ∨ k ∈ l
  | [] => by simp [insU]
  | y :: ys => by
    unfold insU
    by_cases c : x < y
    · rw [if_pos c]; simp
    · rw [if_neg c]
      by_cases c2 : x = y
      · rw [if_pos c2]
        subst c2
        simp
      · rw [if_neg c2, List.mem_cons, mem_insU, List.mem_cons]
        constructor
        · rintro (h | h | h)
          · exact .inr (.inl h)
          · exact .inl h
          · exact .inr (.inr h)
        · rintro (h | h | h)
          · exact .inr (.inl h)
          · exact .inl h
          · exact .inr (.inr h)
theorem pw_insU {x : Int} : ∀ {l : List Int}, l.Pairwise (· < ·) → (insU x l).Pairwise (· < ·)
  | [], _ => by simp [insU]
  | y :: ys, h => by
    have hp := List.pairwise_cons.mp h
    unfold insU
    by_cases c : x < y
    · rw [if_pos c, List.pairwise_cons]
      refine ⟨fun z hz => ?_, h⟩
      rcases List.mem_cons.mp hz with rfl | hz
      · exact c
      · have := hp.1 z hz
        omega
    · rw [if_neg c]
      by_cases c2 : x = y
      · rw [if_pos c2]; exact h
      · rw [if_neg c2, List.pairwise_cons]
        refine ⟨fun z hz => ?_, pw_insU hp.2⟩
        rcases mem_insU.mp hz with rfl | hz
        · omega
        · exact hp.1 z hz
theorem sset_mem {ns : List Int} {k : Int} : k ∈ sset ns ↔ k ∈ ns := by
  unfold sset
  induction ns with
  | nil => simp
  | cons a l ih => rw [List.foldr_cons, mem_insU, ih, List.mem_cons]
theorem sset_pw (ns : List Int) : (sset ns).Pairwise (· < ·) := by
  unfold sset
  induction ns with
  | nil => exact List.Pairwise.nil
  | cons a l ih => rw [List.foldr_cons]; exact pw_insU ih
/-- rising places -/
def okR (n : Nat) (ps : List Int) : Prop := okP n ps ∧ ps.Pairwise (· < ·)
theorem okR_len {n : Nat} {ps : List Int} (h : okR n ps) : ps.length ≤ n := by
  have nd : ps.Nodup := h.2.imp fun hlt e => by rw [e] at hlt; exact Int.lt_irrefl _ hlt
  have := len_sub (b := (List.range n).map fun (i : Nat) => (i : Int)) nd fun p hp => by
    obtain ⟨a, b⟩ := h.1 p hp
    exact List.mem_map.mpr ⟨p.toNat, List.mem_range.mpr (by omega), by omega⟩
  rwa [List.length_map, List.length_range] at this
theorem okR_sset {n : Nat} {a b : List Int} (ha : okP n a) (hb : okP n b) : okR n (sset (a ++ b)) := ⟨fun p hp => by
  rcases List.mem_append.mp (sset_mem.mp hp) with h | h
  · exact ha p h
  · exact hb p h, sset_pw _⟩
def fits (m : Nat) (e : Int × Int) (day : List Show) (ps : List Int) : Bool := (laidOf m e day ps).2.isNone
def keptGo (m : Nat) (e : Int × Int) (day : List Show) : List (List Int) → List Int → List Bool
  | [], _ => []
  | r :: rs, sm => fits m e day (sset (sm ++ r)) :: keptGo m e day rs (if fits m e day (sset (sm ++ r)) = true then sset (sm ++ r) else sm)
def keptOf (m : Nat) (e : Int × Int) (day : List Show) (rows : List (List Int)) : List Bool := keptGo m e day rows []
def mvS (s : Show) (by_ : Int) : Show := (s.1 + by_, s.2.1 + by_, s.2.2)
def movedOf (day : List Show) (p by_ : Int) : List Show := day.set p.toNat (mvS (shAt day p) by_)
/-- the wishes that change: place, and what is so then -/
def changeOf (before after : List Bool) : List (Int × Bool) := (after.zipIdx.filter fun x => !decide (x.1 = before.getD x.2 false)).map fun x => ((x.2 : Int), x.1)
/-! the law's own -/
def moms (e : Int × Int) (s : Show) : List Int := ((List.range 24).map fun (i : Nat) => (i : Int)).filter fun t => decide (s.1 - e.1 ≤ t ∧ t < s.2.1 + e.2)
def cntI (e : Int × Int) (day : List Show) (ps : List Int) (t : Int) : Int := ((ps.filter fun p => decide ((shAt day p).1 - e.1 ≤ t ∧ t < (shAt day p).2.1 + e.2)).length : Int)
def full (m : Int) (e : Int × Int) (day : List Show) (ps : List Int) : List Int := ((List.range 24).map fun (i : Nat) => (i : Int)).filter fun t => decide (m < cntI e day ps t)
def lkGo (m : Int) (e : Int × Int) (day : List Show) : List (List Int) → List Int → List Bool
  | [], _ => []
  | r :: rs, sm => decide (full m e day (sm ++ r.filter fun p => !sm.contains p) = []) :: lkGo m e day rs (if full m e day (sm ++ r.filter fun p => !sm.contains p) = [] then sm ++ r.filter fun p => !sm.contains p else sm)
def lkept (m : Int) (e : Int × Int) (day : List Show) (rows : List (List Int)) : List Bool := lkGo m e day rows []
theorem cntI_eq {e : Int × Int} {day : List Show} {ps : List Int} {t : Int} (h0 : 0 ≤ t) (h1 : t < 24) : cntI e day ps t = (cnt e day ps t : Int) := by
  unfold cntI cnt
  congr 1
  congr 1
  refine List.filter_congr fun p _ => ?_
  unfold inH held
  rw [Bool.eq_iff_iff]
  simp only [decide_eq_true_eq]
  omega
theorem full_nil {m : Nat} {e : Int × Int} {day : List Show} {ps : List Int} : full (m : Int) e day ps = [] ↔ ∀ t, 0 ≤ t → t < 24 → cnt e day ps t ≤ m := by
  unfold full
  rw [List.filter_eq_nil_iff]
  constructor
  · intro h t h0 h1
    have := h t (List.mem_map.mpr ⟨t.toNat, List.mem_range.mpr (by omega), by omega⟩)
    simp only [decide_eq_true_eq, cntI_eq h0 h1] at this
    omega
  · intro h t ht
    obtain ⟨i, hi, rfl⟩ := List.mem_map.mp ht
    have hi := List.mem_range.mp hi
    have := h (i : Int) (by omega) (by omega)
    simp only [decide_eq_true_eq, cntI_eq (show (0 : Int) ≤ i by omega) (show (i : Int) < 24 by omega)]
    omega
theorem fits_iff {m : Nat} {e : Int × Int} {day : List Show} {ps : List Int} (he : okE e) (hd : ∀ s ∈ day, okS s) (hp : okP day.length ps) : fits m e day ps = true ↔ full (m : Int) e day ps = [] := by
  rw [full_nil, ← laid_none he hd hp]
  unfold fits
  rw [Option.isNone_iff_eq_none]
theorem cnt_perm {e : Int × Int} {day : List Show} {a b : List Int} (h : a.Perm b) (t : Int) : cnt e day a t = cnt e day b t := (h.filter _).length_eq
theorem full_perm {m : Nat} {e : Int × Int} {day : List Show} {a b : List Int} (h : a.Perm b) : full (m : Int) e day a = [] ↔ full (m : Int) e day b = [] := by
  rw [full_nil, full_nil]
  constructor
  · intro z t h0 h1; rw [← cnt_perm h]; exact z t h0 h1
  · intro z t h0 h1; rw [cnt_perm h]; exact z t h0 h1
theorem nodup_rising {l : List Int} (h : l.Pairwise (· < ·)) : l.Nodup := h.imp fun hlt e => by rw [e] at hlt; exact Int.lt_irrefl _ hlt
theorem perm_of_mem {a b : List Int} (ha : a.Nodup) (hb : b.Nodup) (h : ∀ k, k ∈ a ↔ k ∈ b) : a.Perm b := (List.perm_ext_iff_of_nodup ha hb).mpr h
theorem more_nodup {sm r : List Int} (h1 : sm.Nodup) (h2 : r.Nodup) : (sm ++ r.filter fun p => !sm.contains p).Nodup := by
  rw [List.nodup_append]
  refine ⟨h1, h2.filter _, fun a ha b hb e => ?_⟩
  subst e
  have := (List.mem_filter.mp hb).2
  simp at this
  exact this ha
theorem more_mem {sm r : List Int} {k : Int} : k ∈ (sm ++ r.filter fun p => !sm.contains p) ↔ k ∈ sm ++ r := by
  rw [List.mem_append, List.mem_append, List.mem_filter]
  simp
  constructor
  · rintro (h | ⟨h, _⟩)
    · exact .inl h
    · exact .inr h
  · rintro (h | h)
    · exact .inl h
    · by_cases c : k ∈ sm
      · exact .inl c
      · exact .inr ⟨h, c⟩
theorem kept_go {m : Nat} {e : Int × Int} {day : List Show} (he : okE e) (hd : ∀ s ∈ day, okS s) : ∀ (rows : List (List Int)) (sm sm' : List Int), (∀ r ∈ rows, okR day.length r) → okR day.length sm → sm'.Nodup → (∀ k, k ∈ sm ↔ k ∈ sm') →
    keptGo m e day rows sm = lkGo (m : Int) e day rows sm'
  | [], _, _, _, _, _, _ => rfl
  | r :: rs, sm, sm', hr, hs, hn, hm => by
    have hr0 := hr r (by simp)
    have ok := okR_sset hs.1 hr0.1
    have nd : (sm' ++ r.filter fun p => !sm'.contains p).Nodup := more_nodup hn (nodup_rising hr0.2)
    have mem : ∀ k, k ∈ sset (sm ++ r) ↔ k ∈ (sm' ++ r.filter fun p => !sm'.contains p) := fun k => by
      rw [sset_mem, more_mem, List.mem_append, List.mem_append, hm k]
    have pm := perm_of_mem (nodup_rising ok.2) nd mem
    have ft : fits m e day (sset (sm ++ r)) = true ↔ full (m : Int) e day (sm' ++ r.filter fun p => !sm'.contains p) = [] := (fits_iff he hd ok.1).trans (full_perm pm)
    unfold keptGo lkGo
    by_cases c : full (m : Int) e day (sm' ++ r.filter fun p => !sm'.contains p) = []
    · rw [ft.mpr c, decide_eq_true c, if_pos rfl, if_pos c]
      rw [kept_go he hd rs _ _ (fun q hq => hr q (List.mem_cons_of_mem _ hq)) ok nd mem]
    · have : fits m e day (sset (sm ++ r)) = false := by
        cases q : fits m e day (sset (sm ++ r)) with
        | true => exact absurd (ft.mp q) c
        | false => rfl
      rw [this, decide_eq_false c, if_neg Bool.false_ne_true, if_neg c]
      rw [kept_go he hd rs _ _ (fun q hq => hr q (List.mem_cons_of_mem _ hq)) hs hn hm]
theorem kept_eq {m : Nat} {e : Int × Int} {day : List Show} {rows : List (List Int)} (he : okE e) (hd : ∀ s ∈ day, okS s) (hr : ∀ r ∈ rows, okR day.length r) : keptOf m e day rows = lkept (m : Int) e day rows :=
  kept_go he hd rows [] [] hr ⟨fun p hp => (by cases hp), List.Pairwise.nil⟩ List.nodup_nil fun _ => Iff.rfl
theorem keptGo_len {m : Nat} {e : Int × Int} {day : List Show} : ∀ (rows : List (List Int)) (sm : List Int), (keptGo m e day rows sm).length = rows.length
  | [], _ => rfl
  | r :: rs, sm => by unfold keptGo; rw [List.length_cons, keptGo_len rs, List.length_cons]
theorem keptGo_take {m : Nat} {e : Int × Int} {day : List Show} : ∀ (n : Nat) (rows : List (List Int)) (sm : List Int), keptGo m e day (rows.take n) sm = (keptGo m e day rows sm).take n
  | 0, _, _ => by simp [keptGo]
  | n + 1, [], _ => by simp [keptGo]
  | n + 1, r :: rs, sm => by
    rw [List.take_succ_cons]
    unfold keptGo
    rw [keptGo_take n rs, List.take_succ_cons]
theorem okS_mv {s : Show} {b : Int} (h : okS s) (h0 : 0 ≤ s.1 + b) (h1 : s.2.1 + b ≤ 24) : okS (mvS s b) := by
  obtain ⟨a, c, d, f, g⟩ := h
  unfold okS mvS
  dsimp only
  omega
theorem ok_moved {day : List Show} {p b : Int} (h : ∀ s ∈ day, okS s) (h0 : 0 ≤ (shAt day p).1 + b) (h1 : (shAt day p).2.1 + b ≤ 24) (hp0 : 0 ≤ p) (hp1 : p < day.length) : ∀ s ∈ movedOf day p b, okS s := fun s hs => by
  unfold movedOf at hs
  rcases List.mem_or_eq_of_mem_set hs with hs | rfl
  · exact h s hs
  · exact okS_mv (h _ (shAt_mem hp0 hp1)) h0 h1
theorem len_moved (day : List Show) (p b : Int) : (movedOf day p b).length = day.length := List.length_set
end Pl

/-! plain: the law's counting -/
namespace Pl
def bump (c : List Int) (l : List Int) : List Int := l.foldl (fun c t => c.set t.toNat (getI c t.toNat + 1)) c
def cts (e : Int × Int) (day : List Show) (ps : List Int) : List Int := (List.range 24).map fun (t : Nat) => cntI e day ps (t : Int)
theorem bump_cons (c : List Int) (t : Int) (l : List Int) : bump c (t :: l) = bump (c.set t.toNat (getI c t.toNat + 1)) l := rfl
theorem bump_len : ∀ (l c : List Int), (bump c l).length = c.length
  | [], _ => rfl
  | t :: l, c => by rw [bump_cons, bump_len l, List.length_set]
theorem bump_get : ∀ (l c : List Int) (k : Nat), (∀ t ∈ l, 0 ≤ t ∧ t < c.length) → getI (bump c l) k = getI c k + (l.filter fun t => decide (t = (k : Int))).length
  | [], c, k, _ => by simp [bump]
  | t :: l, c, k, h => by
    obtain ⟨t0, t1⟩ := h t (by simp)
    rw [bump_cons, bump_get l _ k fun s hs => by rw [List.length_set]; exact h s (List.mem_cons_of_mem _ hs), getI_set (by omega)]
    by_cases c1 : t = (k : Int)
    · have : k = t.toNat := by omega
      rw [if_pos this, List.filter_cons_of_pos (by simpa using c1), List.length_cons, this]
      omega
    · have : ¬ k = t.toNat := by omega
      rw [if_neg this, List.filter_cons_of_neg (by simpa using c1)]
theorem moms_mem {e : Int × Int} {s : Show} {t : Int} : t ∈ moms e s ↔ (0 ≤ t ∧ t < 24) ∧ s.1 - e.1 ≤ t ∧ t < s.2.1 + e.2 := by
  unfold moms
  rw [List.mem_filter, List.mem_map, decide_eq_true_eq]
  constructor
  · rintro ⟨⟨i, hi, rfl⟩, h⟩
    have := List.mem_range.mp hi
    exact ⟨by omega, h⟩
  · rintro ⟨⟨h0, h1⟩, h⟩
    exact ⟨⟨t.toNat, List.mem_range.mpr (by omega), by omega⟩, h⟩
theorem rng24_nodup : ((List.range 24).map fun (i : Nat) => (i : Int)).Nodup := by decide
theorem moms_nodup (e : Int × Int) (s : Show) : (moms e s).Nodup := rng24_nodup.filter _
theorem count_one {l : List Int} (h : l.Nodup) (k : Int) : (l.filter fun t => decide (t = k)).length = if k ∈ l then 1 else 0 := by
  induction l with
  | nil => simp
  | cons a l ih =>
    have hn := List.nodup_cons.mp h
    have ih := ih hn.2
    by_cases c : a = k
    · subst c
      rw [List.filter_cons_of_pos (by simp), List.length_cons, ih, if_neg hn.1, if_pos (by simp)]
    · rw [List.filter_cons_of_neg (by simpa using c), ih]
      have : k ∈ a :: l ↔ k ∈ l := by rw [List.mem_cons]; exact ⟨fun z => z.resolve_left fun q => c q.symm, .inr⟩
      simp only [this]
theorem cts_len (e : Int × Int) (day : List Show) (ps : List Int) : (cts e day ps).length = 24 := by simp [cts]
theorem cts_get {e : Int × Int} {day : List Show} {ps : List Int} {k : Nat} (h : k < 24) : getI (cts e day ps) k = cntI e day ps (k : Int) := by
  unfold getI cts
  rw [List.getD_eq_getElem?_getD, List.getElem?_map, List.getElem?_range h]
  rfl
theorem cntI_snoc (e : Int × Int) (day : List Show) (ps : List Int) (p t : Int) : cntI e day (ps ++ [p]) t = cntI e day ps t + if (shAt day p).1 - e.1 ≤ t ∧ t < (shAt day p).2.1 + e.2 then 1 else 0 := by
  unfold cntI
  rw [List.filter_append, List.length_append]
  by_cases c : (shAt day p).1 - e.1 ≤ t ∧ t < (shAt day p).2.1 + e.2
  · rw [List.filter_cons_of_pos (by simpa using c), if_pos c]
    simp
  · rw [List.filter_cons_of_neg (by simpa using c), if_neg c]
    simp
theorem ext_getI {a b : List Int} (hl : a.length = b.length) (h : ∀ k, k < a.length → getI a k = getI b k) : a = b := by
  apply List.ext_getElem hl
  intro k h1 h2
  have := h k h1
  unfold getI at this
  rw [List.getD_eq_getElem?_getD, List.getD_eq_getElem?_getD, List.getElem?_eq_getElem h1, List.getElem?_eq_getElem h2] at this
  exact this
theorem bump_cts (e : Int × Int) (day : List Show) (ps : List Int) (p : Int) : bump (cts e day ps) (moms e (shAt day p)) = cts e day (ps ++ [p]) := by
  apply ext_getI
  · rw [bump_len, cts_len, cts_len]
  · intro k hk
    rw [bump_len, cts_len] at hk
    rw [bump_get _ _ _ fun t ht => by rw [cts_len]; exact (moms_mem.mp ht).1, cts_get hk, cts_get hk, cntI_snoc, count_one (moms_nodup e _)]
    have : (k : Int) ∈ moms e (shAt day p) ↔ (shAt day p).1 - e.1 ≤ k ∧ (k : Int) < (shAt day p).2.1 + e.2 := by
      rw [moms_mem]
      constructor
      · exact fun h => h.2
      · exact fun h => ⟨by omega, h⟩
    by_cases c : (shAt day p).1 - e.1 ≤ k ∧ (k : Int) < (shAt day p).2.1 + e.2
    · rw [if_pos (this.mpr c), if_pos c]; rfl
    · rw [if_neg (fun z => c (this.mp z)), if_neg c]; rfl
theorem cts_nil (e : Int × Int) (day : List Show) : cts e day [] = List.replicate 24 0 := rfl
theorem full_eq (m : Int) (e : Int × Int) (day : List Show) (ps : List Int) : full m e day ps = ((List.range 24).filter fun (t : Nat) => decide (m < getI (cts e day ps) t)).map fun (t : Nat) => (t : Int) := by
  unfold full
  rw [List.filter_map]
  refine congrArg _ ?_
  refine List.filter_congr fun t ht => ?_
  have := List.mem_range.mp ht
  show decide (m < cntI e day ps (t : Int)) = _
  rw [cts_get this]
theorem set_eq_map {day : List Show} {p : Int} {v : Show} (h0 : 0 ≤ p) (h1 : p < day.length) : (day.zipIdx.map fun x => if ((x.2 : Nat) : Int) = p then v else x.1) = day.set p.toNat v := by
  apply List.ext_getElem?
  intro i
  rw [List.getElem?_map, List.getElem?_zipIdx]
  by_cases c : p.toNat = i
  · subst c
    have hl : p.toNat < day.length := by omega
    rw [List.getElem?_set_self hl, List.getElem?_eq_getElem hl]
    simp
    omega
  · rw [List.getElem?_set_ne c]
    cases q : day[i]? with
    | none => rfl
    | some x =>
      have : ¬ ((i : Nat) : Int) = p := by omega
      simp [this]
end Pl

/-! plain: cheapest ways, by rounds -/
namespace Pl
structure Edg where
  u : Nat
  v : Nat
  l : Int
  tag : Option Int
deriving DecidableEq
abbrev Wy := Option (Int × Option Int)
abbrev FS := List Int × List Wy
def getW (w : List Wy) (v : Nat) : Wy := w.getD v none
def stepE (s : FS) (x : Edg) : FS := if getI s.1 x.u + x.l < getI s.1 x.v then (s.1.set x.v (getI s.1 x.u + x.l), s.2.set x.v (some ((x.u : Int), x.tag))) else s
def sweep (E : List Edg) (s : FS) : FS := E.foldl stepE s
def fellN (E : List Edg) : Nat → FS → Option FS
  | 0, _ => none
  | n + 1, s => if (sweep E s).1 = s.1 then some (sweep E s) else fellN E n (sweep E s)
def st0 : FS := (0 :: List.replicate 24 1000000000, List.replicate 25 none)

theorem getW_set {w : List Wy} {o p : Nat} {v : Wy} (h : o < w.length) : getW (w.set o v) p = if p = o then v else getW w p := by
  unfold getW
  rw [List.getD_eq_getElem?_getD, List.getD_eq_getElem?_getD]
  by_cases c : p = o
  · subst c; rw [if_pos rfl, List.getElem?_set_self h]; rfl
  · rw [if_neg c, List.getElem?_set_ne (fun e => c e.symm)]
inductive EndsN (w : List Wy) : Nat → Nat → Prop
  | root {v : Nat} : getW w v = none → EndsN w v 0
  | step {v u n : Nat} {t : Option Int} : getW w v = some ((u : Int), t) → EndsN w u n → EndsN w v (n + 1)
theorem EndsN.one {w : List Wy} : ∀ {v n m : Nat}, EndsN w v n → EndsN w v m → n = m
  | _, _, _, .root _, .root _ => rfl
  | _, _, _, .root h, .step h' _ => by rw [h] at h'; cases h'
  | _, _, _, .step h _, .root h' => by rw [h] at h'; cases h'
  | _, _, _, .step h t, .step h' t' => by
    rw [h] at h'
    have e := Option.some.inj h'
    have e1 := (Prod.mk.inj e).1
    have e2 : (_ : Nat) = _ := Int.ofNat.inj e1
    subst e2
    rw [EndsN.one t t']
/-- the ways' lengths allow these heights -/
def Feas (E : List Edg) (π : Nat → Int) : Prop := ∀ x ∈ E, π x.v ≤ π x.u + x.l
def In25 (E : List Edg) : Prop := ∀ x ∈ E, x.u < 25 ∧ x.v < 25
structure FInv (E : List Edg) (π : Nat → Int) (s : FS) : Prop where
  l1 : s.1.length = 25
  l2 : s.2.length = 25
  lb : ∀ v, v < 25 → π v - π 0 ≤ getI s.1 v
  c0 : getI s.1 0 = 0
  w0 : getW s.2 0 = none
  top : ∀ v, v < 25 → getI s.1 v ≤ 1000000000
  par : ∀ v, v < 25 → match getW s.2 v with
    | none => v = 0 ∨ getI s.1 v = 1000000000
    | some p => ∃ x ∈ E, x.v = v ∧ p = ((x.u : Int), x.tag) ∧ getI s.1 x.u + x.l ≤ getI s.1 v
  ends : ∀ v, v < 25 → ∃ n, EndsN s.2 v n
theorem ends_keep {E : List Edg} {π : Nat → Int} {s : FS} (h : FInv E π s) (hf : Feas E π) (hE : In25 E) {x : Edg} (hx : x ∈ E) (w' : List Wy) (hw : ∀ y, y ≠ x.v → getW w' y = getW s.2 y) :
    ∀ {y n : Nat}, EndsN s.2 y n → y < 25 → getI s.1 y - π y < getI s.1 x.v - π x.v → EndsN w' y n
  | y, _, .root hr, hy, hlt => by
    refine .root ?_
    rw [hw y fun e => ?_]
    · exact hr
    · subst e; exact Int.lt_irrefl _ hlt
  | y, _, .step (u := u) (t := t) hr t', hy, hlt => by
    have ne : y ≠ x.v := fun e => by subst e; exact Int.lt_irrefl _ hlt
    have p := h.par y hy
    rw [hr] at p
    obtain ⟨z, hz, z1, z2, z3⟩ := p
    have e2 : (u : Int) = z.u := (Prod.mk.inj z2).1
    have e3 : u = z.u := Int.ofNat.inj e2
    subst e3
    have f := hf z hz
    rw [z1] at f
    refine .step (t := t) (by rw [hw y ne]; exact hr) (ends_keep h hf hE hx w' hw t' (hE z hz).1 ?_)
    omega
theorem finv_step {E : List Edg} {π : Nat → Int} {s : FS} (h : FInv E π s) (hf : Feas E π) (hE : In25 E) {x : Edg} (hx : x ∈ E) : FInv E π (stepE s x) := by
  unfold stepE
  by_cases c : getI s.1 x.u + x.l < getI s.1 x.v
  · rw [if_pos c]
    obtain ⟨xu, xv⟩ := hE x hx
    have fx := hf x hx
    have lu := h.lb x.u xu
    have lv : x.v < s.1.length := by rw [h.l1]; exact xv
    have lw : x.v < s.2.length := by rw [h.l2]; exact xv
    have v0 : x.v ≠ 0 := fun e => by
      have := h.c0
      rw [e] at c fx
      omega
    have dec : ∀ y, getI (s.1.set x.v (getI s.1 x.u + x.l)) y ≤ getI s.1 y := fun y => by
      rw [getI_set lv]
      by_cases e : y = x.v
      · rw [if_pos e, e]; omega
      · rw [if_neg e]; exact Int.le_refl _
    have une : x.u ≠ x.v := fun e => by
      rw [e] at c fx
      omega
    refine ⟨by rw [List.length_set]; exact h.l1, by rw [List.length_set]; exact h.l2, fun v hv => ?_, ?_, ?_, fun v hv => ?_, fun v hv => ?_, fun v hv => ?_⟩
    · show _ ≤ getI (s.1.set x.v (getI s.1 x.u + x.l)) v
      rw [getI_set lv]
      by_cases e : v = x.v
      · rw [if_pos e, e]; omega
      · rw [if_neg e]; exact h.lb v hv
    · show getI (s.1.set x.v (getI s.1 x.u + x.l)) 0 = 0
      rw [getI_set lv, if_neg (fun e => v0 e.symm)]; exact h.c0
    · show getW (s.2.set x.v (some ((x.u : Int), x.tag))) 0 = none
      rw [getW_set lw, if_neg (fun e => v0 e.symm)]; exact h.w0
    · exact Int.le_trans (dec v) (h.top v hv)
    · show match getW (s.2.set x.v (some ((x.u : Int), x.tag))) v with
        | none => v = 0 ∨ getI (s.1.set x.v (getI s.1 x.u + x.l)) v = 1000000000
        | some p => ∃ y ∈ E, y.v = v ∧ p = ((y.u : Int), y.tag) ∧ getI (s.1.set x.v (getI s.1 x.u + x.l)) y.u + y.l ≤ getI (s.1.set x.v (getI s.1 x.u + x.l)) v
      rw [getW_set lw]
      by_cases e : v = x.v
      · rw [if_pos e]
        refine ⟨x, hx, e.symm, rfl, ?_⟩
        rw [getI_set lv, getI_set lv, if_neg une, if_pos e]
        exact Int.le_refl _
      · rw [if_neg e]
        have p := h.par v hv
        cases q : getW s.2 v with
        | none =>
          rw [q] at p
          show v = 0 ∨ getI (s.1.set x.v (getI s.1 x.u + x.l)) v = 1000000000
          rw [getI_set lv, if_neg e]
          exact p
        | some pr =>
          rw [q] at p
          obtain ⟨y, hy, y1, y2, y3⟩ := p
          refine ⟨y, hy, y1, y2, ?_⟩
          have := dec y.u
          rw [getI_set lv (p := v), if_neg e]
          omega
    · show ∃ n, EndsN (s.2.set x.v (some ((x.u : Int), x.tag))) v n
      have hw : ∀ y, y ≠ x.v → getW (s.2.set x.v (some ((x.u : Int), x.tag))) y = getW s.2 y := fun y hy => by rw [getW_set lw, if_neg hy]
      obtain ⟨nu, eu⟩ := h.ends x.u xu
      have ku := ends_keep h hf hE hx _ hw eu xu (by omega)
      have kv : EndsN (s.2.set x.v (some ((x.u : Int), x.tag))) x.v (nu + 1) := .step (t := x.tag) (by rw [getW_set lw, if_pos rfl]) ku
      obtain ⟨n, en⟩ := h.ends v hv
      have all : ∀ {y n : Nat}, EndsN s.2 y n → ∃ k, EndsN (s.2.set x.v (some ((x.u : Int), x.tag))) y k := fun {y n} hy => by
        induction hy with
        | @root y hr =>
          by_cases e : y = x.v
          · exact ⟨nu + 1, by rw [e]; exact kv⟩
          · exact ⟨0, .root (by rw [hw y e]; exact hr)⟩
        | @step y u n t hr t' ih =>
          by_cases e : y = x.v
          · exact ⟨nu + 1, by rw [e]; exact kv⟩
          · obtain ⟨k, hk⟩ := ih
            exact ⟨k + 1, .step (t := t) (by rw [hw y e]; exact hr) hk⟩
      exact all en
  · rw [if_neg c]; exact h
theorem finv_sweep {E : List Edg} {π : Nat → Int} (hf : Feas E π) (hE : In25 E) : ∀ (F : List Edg) (s : FS), (∀ x ∈ F, x ∈ E) → FInv E π s → FInv E π (sweep F s)
  | [], _, _, h => h
  | x :: F, s, hF, h => finv_sweep hf hE F (stepE s x) (fun y hy => hF y (List.mem_cons_of_mem _ hy)) (finv_step h hf hE (hF x (by simp)))
/-! the sum falls -/
theorem sum_set {l : List Int} {j : Nat} {y : Int} (h : j < l.length) : (l.set j y).sum = l.sum - getI l j + y := by
  induction l generalizing j with
  | nil => simp at h
  | cons a l ih =>
    cases j with
    | zero =>
      show (y :: l).sum = (a :: l).sum - a + y
      rw [List.sum_cons, List.sum_cons]
      omega
    | succ j =>
      have := ih (j := j) (by simpa using h)
      show (a :: l.set j y).sum = (a :: l).sum - getI l j + y
      rw [List.sum_cons, List.sum_cons, this]
      omega
theorem sum_step {s : FS} {x : Edg} (h : x.v < s.1.length) : (stepE s x).1.sum ≤ s.1.sum ∧ ((stepE s x).1.sum = s.1.sum → ¬ getI s.1 x.u + x.l < getI s.1 x.v ∧ stepE s x = s) := by
  unfold stepE
  by_cases c : getI s.1 x.u + x.l < getI s.1 x.v
  · rw [if_pos c]
    have := sum_set (y := getI s.1 x.u + x.l) h
    refine ⟨?_, fun e => ?_⟩
    · show (s.1.set x.v (getI s.1 x.u + x.l)).sum ≤ _
      omega
    · have e' : (s.1.set x.v (getI s.1 x.u + x.l)).sum = s.1.sum := e
      omega
  · rw [if_neg c]
    exact ⟨Int.le_refl _, fun _ => ⟨c, rfl⟩⟩
theorem len_step {s : FS} {x : Edg} : (stepE s x).1.length = s.1.length := by
  unfold stepE
  split
  · exact List.length_set
  · rfl
theorem sum_sweep : ∀ (F : List Edg) (s : FS), (∀ x ∈ F, x.v < s.1.length) → (sweep F s).1.sum ≤ s.1.sum ∧ ((sweep F s).1.sum = s.1.sum → sweep F s = s ∧ ∀ x ∈ F, getI s.1 x.v ≤ getI s.1 x.u + x.l)
  | [], _, _ => ⟨Int.le_refl _, fun _ => ⟨rfl, fun _ h => by cases h⟩⟩
  | x :: F, s, h => by
    obtain ⟨a1, a2⟩ := sum_step (s := s) (x := x) (h x (by simp))
    obtain ⟨b1, b2⟩ := sum_sweep F (stepE s x) fun y hy => by rw [len_step]; exact h y (List.mem_cons_of_mem _ hy)
    have e0 : sweep (x :: F) s = sweep F (stepE s x) := rfl
    rw [e0]
    refine ⟨Int.le_trans b1 a1, fun e => ?_⟩
    obtain ⟨c1, c2⟩ := a2 (by omega)
    rw [c2] at b2 ⊢
    obtain ⟨d1, d2⟩ := b2 (by rw [c2] at e; exact e)
    refine ⟨d1, fun y hy => ?_⟩
    rcases List.mem_cons.mp hy with rfl | hy
    · omega
    · exact d2 y hy
def Fix (E : List Edg) (s : FS) : Prop := ∀ x ∈ E, getI s.1 x.v ≤ getI s.1 x.u + x.l
theorem sum_lb : ∀ (l : List Int) (b : Int), (∀ v, v < l.length → b ≤ getI l v) → b * l.length ≤ l.sum
  | [], _, _ => by simp
  | a :: l, b, h => by
    have h0 : b ≤ a := h 0 (by simp)
    have ih := sum_lb l b fun v hv => h (v + 1) (by simpa using hv)
    rw [List.sum_cons, List.length_cons]
    have : b * ((l.length + 1 : Nat) : Int) = b * l.length + b := by
      rw [Int.natCast_add, Int.mul_add]
      simp
    omega
theorem fell_ends {E : List Edg} {π : Nat → Int} (hf : Feas E π) (hE : In25 E) {b : Int} (hb : ∀ v, v < 25 → b ≤ π v - π 0) : ∀ (k : Nat) (s : FS), FInv E π s → s.1.sum - b * 25 < k → ∃ n s', fellN E n s = some s' ∧ FInv E π s' ∧ Fix E s'
  | 0, s, h, hk => by
    have := sum_lb s.1 b fun v hv => by
      rw [h.l1] at hv
      exact Int.le_trans (hb v hv) (h.lb v hv)
    rw [h.l1] at this
    omega
  | k + 1, s, h, hk => by
    have h' := finv_sweep hf hE E s (fun _ z => z) h
    obtain ⟨a, c⟩ := sum_sweep E s fun x hx => by rw [h.l1]; exact (hE x hx).2
    by_cases e : (sweep E s).1 = s.1
    · refine ⟨1, sweep E s, by unfold fellN; rw [if_pos e], h', ?_⟩
      obtain ⟨d1, d2⟩ := c (by rw [e])
      rw [d1]
      exact d2
    · have lt : (sweep E s).1.sum < s.1.sum := by
        by_cases q : (sweep E s).1.sum = s.1.sum
        · exact absurd (by rw [(c q).1]) e
        · omega
      obtain ⟨n, s', f1, f2, f3⟩ := fell_ends hf hE hb k (sweep E s) h' (by omega)
      exact ⟨n + 1, s', by unfold fellN; rw [if_neg e]; exact f1, f2, f3⟩
theorem fell_one {E : List Edg} : ∀ {n m : Nat} {s a b : FS}, fellN E n s = some a → fellN E m s = some b → a = b
  | 0, _, _, _, _, h, _ => by cases h
  | _ + 1, 0, _, _, _, _, h => by cases h
  | n + 1, m + 1, s, a, b, h, h' => by
    unfold fellN at h h'
    by_cases e : (sweep E s).1 = s.1
    · rw [if_pos e] at h h'
      exact (Option.some.inj h).symm.trans (Option.some.inj h')
    · rw [if_neg e] at h h'
      exact fell_one h h'
theorem finv0 {E : List Edg} {π : Nat → Int} (h0 : ∀ v, v < 25 → π v - π 0 ≤ 1000000000) : FInv E π st0 := by
  have c : ∀ v, v < 25 → getI st0.1 v = if v = 0 then 0 else 1000000000 := by decide
  have w : ∀ v, v < 25 → getW st0.2 v = none := by decide
  refine ⟨rfl, rfl, fun v hv => ?_, rfl, rfl, fun v hv => ?_, fun v hv => ?_, fun v hv => ⟨0, .root (w v hv)⟩⟩
  · rw [c v hv]
    by_cases e : v = 0
    · rw [if_pos e, e]; omega
    · rw [if_neg e]; exact h0 v hv
  · rw [c v hv]
    split <;> omega
  · rw [w v hv]
    show v = 0 ∨ getI st0.1 v = 1000000000
    rw [c v hv]
    by_cases e : v = 0
    · exact .inl e
    · exact .inr (if_neg e)
end Pl

/-! plain: one more tuner by a cheapest way -/
namespace Pl
/-- idle tuners at t, of k -/
def idl (k : Nat) (e : Int × Int) (day : List Show) (sm : List Int) (t : Nat) : Int := (k : Int) - (cnt e day sm (t : Int) : Int)
def edgM (f : Nat → Int) (m : Nat) : List Edg := if 0 < f m then [⟨m, m + 1, 0, none⟩, ⟨m + 1, m, 0, none⟩] else [⟨m, m + 1, 0, none⟩]
def edgP (e : Int × Int) (sm : List Int) (x : Show × Nat) : Edg := if sm.contains (x.2 : Int) then ⟨(held e x.1).2.toNat, (held e x.1).1.toNat, x.1.2.2, some (x.2 : Int)⟩ else ⟨(held e x.1).1.toNat, (held e x.1).2.toNat, -x.1.2.2, some (x.2 : Int)⟩
def edgs (f : Nat → Int) (e : Int × Int) (day : List Show) (sm : List Int) : List Edg := (List.range 24).flatMap (edgM f) ++ day.zipIdx.map (edgP e sm)
structure PF (f : Nat → Int) (e : Int × Int) (day : List Show) (sm : List Int) (π : Nat → Int) : Prop where
  fw : ∀ t, t < 24 → π (t + 1) ≤ π t
  rv : ∀ t, t < 24 → 0 < f t → π t ≤ π (t + 1)
  inn : ∀ p : Nat, p < day.length → (p : Int) ∈ sm → π (held e (shAt day p)).1.toNat ≤ π (held e (shAt day p)).2.toNat + (shAt day p).2.2
  out : ∀ p : Nat, p < day.length → (p : Int) ∉ sm → π (held e (shAt day p)).2.toNat ≤ π (held e (shAt day p)).1.toNat - (shAt day p).2.2
theorem shAt_get {day : List Show} {p : Nat} {s : Show} (h : day[p]? = some s) : shAt day (p : Int) = s := by
  unfold shAt
  rw [Int.toNat_natCast, List.getD_eq_getElem?_getD, h]
  rfl
theorem zip_mem {day : List Show} {x : Show × Nat} (h : x ∈ day.zipIdx) : x.2 < day.length ∧ shAt day (x.2 : Int) = x.1 := by
  obtain ⟨i, hi⟩ := List.getElem?_of_mem h
  rw [List.getElem?_zipIdx] at hi
  cases q : day[i]? with
  | none => rw [q] at hi; simp at hi
  | some y =>
    rw [q] at hi
    simp at hi
    subst hi
    exact ⟨(List.getElem?_eq_some_iff.mp q).1, shAt_get q⟩
theorem zip_has {day : List Show} {p : Nat} (h : p < day.length) : (shAt day (p : Int), p) ∈ day.zipIdx := by
  have e : day.zipIdx[p]? = some (shAt day (p : Int), p) := by
    rw [List.getElem?_zipIdx, List.getElem?_eq_getElem h, shAt_get (List.getElem?_eq_getElem h)]
    simp
  exact List.mem_of_getElem? e
/-- what an edge is -/
theorem edg_cases {f : Nat → Int} {e : Int × Int} {day : List Show} {sm : List Int} {x : Edg} (h : x ∈ edgs f e day sm) :
    (x.tag = none ∧ x.l = 0 ∧ ∃ t, t < 24 ∧ ((x.u = t ∧ x.v = t + 1) ∨ (x.u = t + 1 ∧ x.v = t ∧ 0 < f t))) ∨
    (∃ p : Nat, p < day.length ∧ x.tag = some (p : Int) ∧ (((p : Int) ∈ sm ∧ x.u = (held e (shAt day p)).2.toNat ∧ x.v = (held e (shAt day p)).1.toNat ∧ x.l = (shAt day p).2.2) ∨
      ((p : Int) ∉ sm ∧ x.u = (held e (shAt day p)).1.toNat ∧ x.v = (held e (shAt day p)).2.toNat ∧ x.l = -(shAt day p).2.2))) := by
  unfold edgs at h
  rcases List.mem_append.mp h with h | h
  · obtain ⟨t, ht, hx⟩ := List.mem_flatMap.mp h
    have ht := List.mem_range.mp ht
    unfold edgM at hx
    by_cases c : 0 < f t
    · rw [if_pos c] at hx
      rcases List.mem_cons.mp hx with rfl | hx
      · exact .inl ⟨rfl, rfl, t, ht, .inl ⟨rfl, rfl⟩⟩
      · have : x = ⟨t + 1, t, 0, none⟩ := by simpa using hx
        subst this
        exact .inl ⟨rfl, rfl, t, ht, .inr ⟨rfl, rfl, c⟩⟩
    · rw [if_neg c] at hx
      have : x = ⟨t, t + 1, 0, none⟩ := by simpa using hx
      subst this
      exact .inl ⟨rfl, rfl, t, ht, .inl ⟨rfl, rfl⟩⟩
  · obtain ⟨y, hy, rfl⟩ := List.mem_map.mp h
    obtain ⟨z1, z2⟩ := zip_mem hy
    refine .inr ⟨y.2, z1, ?_, ?_⟩
    · unfold edgP
      split <;> rfl
    · unfold edgP
      by_cases c : sm.contains (y.2 : Int) = true
      · rw [if_pos c, z2]
        exact .inl ⟨by simpa using c, rfl, rfl, rfl⟩
      · rw [if_neg c, z2]
        exact .inr ⟨by simpa using c, rfl, rfl, rfl⟩
theorem edg_fw {f : Nat → Int} {e : Int × Int} {day : List Show} {sm : List Int} {t : Nat} (h : t < 24) : (⟨t, t + 1, 0, none⟩ : Edg) ∈ edgs f e day sm := by
  unfold edgs
  refine List.mem_append_left _ (List.mem_flatMap.mpr ⟨t, List.mem_range.mpr h, ?_⟩)
  unfold edgM
  split <;> simp
theorem edg_rv {f : Nat → Int} {e : Int × Int} {day : List Show} {sm : List Int} {t : Nat} (h : t < 24) (c : 0 < f t) : (⟨t + 1, t, 0, none⟩ : Edg) ∈ edgs f e day sm := by
  unfold edgs
  refine List.mem_append_left _ (List.mem_flatMap.mpr ⟨t, List.mem_range.mpr h, ?_⟩)
  unfold edgM
  rw [if_pos c]
  simp
theorem edg_in {f : Nat → Int} {e : Int × Int} {day : List Show} {sm : List Int} {p : Nat} (h : p < day.length) (c : (p : Int) ∈ sm) : (⟨(held e (shAt day p)).2.toNat, (held e (shAt day p)).1.toNat, (shAt day p).2.2, some (p : Int)⟩ : Edg) ∈ edgs f e day sm := by
  unfold edgs
  refine List.mem_append_right _ (List.mem_map.mpr ⟨(shAt day (p : Int), p), zip_has h, ?_⟩)
  unfold edgP
  rw [if_pos (by simpa using c)]
theorem edg_out {f : Nat → Int} {e : Int × Int} {day : List Show} {sm : List Int} {p : Nat} (h : p < day.length) (c : (p : Int) ∉ sm) : (⟨(held e (shAt day p)).1.toNat, (held e (shAt day p)).2.toNat, -(shAt day p).2.2, some (p : Int)⟩ : Edg) ∈ edgs f e day sm := by
  unfold edgs
  refine List.mem_append_right _ (List.mem_map.mpr ⟨(shAt day (p : Int), p), zip_has h, ?_⟩)
  unfold edgP
  rw [if_neg (by simpa using c)]
theorem feas_iff {f : Nat → Int} {e : Int × Int} {day : List Show} {sm : List Int} {π : Nat → Int} : Feas (edgs f e day sm) π ↔ PF f e day sm π := by
  constructor
  · intro h
    refine ⟨fun t ht => ?_, fun t ht c => ?_, fun p hp c => h _ (edg_in hp c), fun p hp c => ?_⟩
    · have := h _ (edg_fw (f := f) (e := e) (day := day) (sm := sm) ht)
      simpa using this
    · have := h _ (edg_rv (f := f) (e := e) (day := day) (sm := sm) ht c)
      simpa using this
    · have := h _ (edg_out (f := f) (e := e) hp c)
      have this : π (held e (shAt day p)).2.toNat ≤ π (held e (shAt day p)).1.toNat + -(shAt day p).2.2 := this
      omega
  · intro h x hx
    rcases edg_cases hx with ⟨_, x2, t, ht, ⟨h1, h2⟩ | ⟨h1, h2, h3⟩⟩ | ⟨p, hp, _, ⟨c, h1, h2, h3⟩ | ⟨c, h1, h2, h3⟩⟩
    · rw [h1, h2, x2]
      have := h.fw t ht
      omega
    · rw [h1, h2, x2]
      have := h.rv t ht h3
      omega
    · rw [h1, h2, h3]
      exact h.inn p hp c
    · rw [h1, h2, h3]
      have := h.out p hp c
      omega
theorem in25 {f : Nat → Int} {e : Int × Int} {day : List Show} {sm : List Int} (he : okE e) (hd : ∀ s ∈ day, okS s) : In25 (edgs f e day sm) := fun x hx => by
  rcases edg_cases hx with ⟨_, x2, t, ht, ⟨h1, h2⟩ | ⟨h1, h2, h3⟩⟩ | ⟨p, hp, _, ⟨c, h1, h2, h3⟩ | ⟨c, h1, h2, h3⟩⟩
  · omega
  · omega
  · obtain ⟨a, b, c, d⟩ := held_ok he (hd _ (shAt_mem (day := day) (p := (p : Int)) (by omega) (by omega)))
    rw [h1, h2]
    omega
  · obtain ⟨a, b, c, d⟩ := held_ok he (hd _ (shAt_mem (day := day) (p := (p : Int)) (by omega) (by omega)))
    rw [h1, h2]
    omega
/-! ### the way back -/
inductive Pth (E : List Edg) (s : FS) : Nat → List Edg → Prop
  | nil : Pth E s 0 []
  | cons {x : Edg} {xs : List Edg} : x ∈ E → getW s.2 x.v = some ((x.u : Int), x.tag) → getI s.1 x.u + x.l = getI s.1 x.v → x.v ≠ 0 → Pth E s x.u xs → Pth E s x.v (x :: xs)
theorem path_of {E : List Edg} {π : Nat → Int} {s : FS} (h : FInv E π s) (hx : Fix E s) (hE : In25 E) (neg : ∀ v, v < 25 → getI s.1 v ≤ 0) : ∀ {v n : Nat}, EndsN s.2 v n → v < 25 → ∃ xs, Pth E s v xs
  | v, _, .root hr, hv => by
    have p := h.par v hv
    rw [hr] at p
    rcases p with rfl | p
    · exact ⟨[], .nil⟩
    · have := neg v hv
      omega
  | v, _, .step (u := u) (t := t) hr t', hv => by
    have p := h.par v hv
    rw [hr] at p
    obtain ⟨z, hz, z1, z2, z3⟩ := p
    have e3 : u = z.u := Int.ofNat.inj (Prod.mk.inj z2).1
    have e4 : t = z.tag := (Prod.mk.inj z2).2
    subst e3 e4 z1
    obtain ⟨xs, hxs⟩ := path_of h hx hE neg t' (hE z hz).1
    refine ⟨z :: xs, .cons hz hr ?_ ?_ hxs⟩
    · have := hx z hz
      omega
    · intro e
      rw [e, h.w0] at hr
      cases hr
theorem pth_ends {E : List Edg} {s : FS} (w0 : getW s.2 0 = none) : ∀ {v : Nat} {xs : List Edg}, Pth E s v xs → EndsN s.2 v xs.length
  | _, _, .nil => .root w0
  | _, _, .cons _ h _ _ t => .step h (pth_ends w0 t)
theorem pth_low {E : List Edg} {s : FS} (w0 : getW s.2 0 = none) : ∀ {v : Nat} {xs : List Edg}, Pth E s v xs → ∀ y ∈ xs, ∃ k, k ≤ xs.length ∧ EndsN s.2 y.v k
  | _, _, .nil, y, hy => by cases hy
  | _, _, .cons a h b c t, y, hy => by
    rcases List.mem_cons.mp hy with rfl | hy
    · exact ⟨_, Nat.le_refl _, pth_ends w0 (.cons a h b c t)⟩
    · obtain ⟨k, hk, e⟩ := pth_low w0 t y hy
      exact ⟨k, by rw [List.length_cons]; omega, e⟩
theorem pth_nodup {E : List Edg} {s : FS} (w0 : getW s.2 0 = none) : ∀ {v : Nat} {xs : List Edg}, Pth E s v xs → (xs.map (·.v)).Nodup
  | _, _, .nil => List.nodup_nil
  | _, _, .cons (x := x) (xs := xs) a h b c t => by
    rw [List.map_cons, List.nodup_cons]
    refine ⟨fun hm => ?_, pth_nodup w0 t⟩
    obtain ⟨y, hy, e⟩ := List.mem_map.mp hm
    obtain ⟨k, hk, e2⟩ := pth_low w0 t y hy
    have e3 := pth_ends w0 (.cons a h b c t)
    have e : y.v = x.v := e
    rw [e] at e2
    have := e2.one e3
    rw [List.length_cons] at this
    omega
theorem pth_mem {E : List Edg} {s : FS} : ∀ {v : Nat} {xs : List Edg}, Pth E s v xs → ∀ y ∈ xs, y ∈ E ∧ getI s.1 y.u + y.l = getI s.1 y.v
  | _, _, .nil, y, hy => by cases hy
  | _, _, .cons a h b c t, y, hy => by
    rcases List.mem_cons.mp hy with rfl | hy
    · exact ⟨a, b⟩
    · exact pth_mem t y hy
/-! ### crossings -/
def chi (t v : Nat) : Int := if v ≤ t then 1 else 0
def crs (t : Nat) (x : Edg) : Int := chi t x.u - chi t x.v
def crossA (t : Nat) (xs : List Edg) : Int := (xs.map (crs t)).sum
def crossI (t : Nat) (xs : List Edg) : Int := ((xs.filter fun x => x.tag.isNone).map (crs t)).sum
def crossS (t : Nat) (xs : List Edg) : Int := ((xs.filter fun x => x.tag.isSome).map (crs t)).sum
theorem cross_split (t : Nat) : ∀ xs : List Edg, crossA t xs = crossI t xs + crossS t xs
  | [] => rfl
  | x :: xs => by
    have ih := cross_split t xs
    unfold crossA crossI crossS at *
    rw [List.map_cons, List.sum_cons, ih]
    cases q : x.tag with
    | none =>
      rw [List.filter_cons_of_pos (p := fun x : Edg => x.tag.isNone) (by simp [q]), List.filter_cons_of_neg (p := fun x : Edg => x.tag.isSome) (by simp [q]), List.map_cons, List.sum_cons]
      omega
    | some p =>
      rw [List.filter_cons_of_neg (p := fun x : Edg => x.tag.isNone) (by simp [q]), List.filter_cons_of_pos (p := fun x : Edg => x.tag.isSome) (by simp [q]), List.map_cons, List.sum_cons]
      omega
theorem cross_all {E : List Edg} {s : FS} (t : Nat) : ∀ {v : Nat} {xs : List Edg}, Pth E s v xs → crossA t xs = chi t 0 - chi t v
  | _, _, .nil => by simp [crossA]
  | _, _, .cons (x := x) (xs := xs) _ _ _ _ h => by
    have ih := cross_all t h
    unfold crossA at *
    rw [List.map_cons, List.sum_cons, ih]
    unfold crs
    omega
/-- idle edges -/
def IdE (f : Nat → Int) (x : Edg) : Prop := x.tag = none → ∃ t, t < 24 ∧ ((x.u = t ∧ x.v = t + 1) ∨ (x.u = t + 1 ∧ x.v = t ∧ 0 < f t))
theorem crs_idle {f : Nat → Int} {x : Edg} (h : IdE f x) (hn : x.tag = none) (t : Nat) : -1 ≤ crs t x ∧ (crs t x < 0 → x.v = t ∧ 0 < f t) ∧ (0 < crs t x → x.u = t ∧ x.v = t + 1) := by
  obtain ⟨s, hs, ⟨h1, h2⟩ | ⟨h1, h2, h3⟩⟩ := h hn
  · unfold crs chi
    rw [h1, h2]
    refine ⟨?_, ?_, ?_⟩
    · split <;> split <;> omega
    · intro q
      split at q <;> split at q <;> omega
    · intro q
      split at q <;> split at q <;> omega
  · unfold crs chi
    rw [h1, h2]
    refine ⟨?_, ?_, ?_⟩
    · split <;> split <;> omega
    · intro q
      have : s = t := by split at q <;> split at q <;> omega
      subst this
      exact ⟨rfl, h3⟩
    · intro q
      split at q <;> split at q <;> omega
theorem crossI_ge {f : Nat → Int} (t : Nat) : ∀ xs : List Edg, (∀ x ∈ xs, IdE f x) → -(((xs.filter fun x => decide (x.v = t)).length : Nat) : Int) ≤ crossI t xs
  | [], _ => by simp [crossI]
  | x :: xs, h => by
    have ih := crossI_ge t xs fun y hy => h y (List.mem_cons_of_mem _ hy)
    unfold crossI at *
    have hl : (xs.filter fun x => decide (x.v = t)).length ≤ ((x :: xs).filter fun x => decide (x.v = t)).length := by
      by_cases c : x.v = t
      · rw [List.filter_cons_of_pos (by simpa using c), List.length_cons]; omega
      · rw [List.filter_cons_of_neg (by simpa using c)]; exact Nat.le_refl _
    cases q : x.tag with
    | some p =>
      rw [List.filter_cons_of_neg (p := fun x : Edg => x.tag.isNone) (by simp [q])]
      omega
    | none =>
      rw [List.filter_cons_of_pos (p := fun x : Edg => x.tag.isNone) (by simp [q]), List.map_cons, List.sum_cons]
      obtain ⟨a, b, c⟩ := crs_idle (h x (by simp)) q t
      by_cases ng : crs t x < 0
      · have e := (b ng).1
        rw [List.filter_cons_of_pos (p := fun x : Edg => decide (x.v = t)) (by simpa using e), List.length_cons]
        omega
      · omega
theorem crossI_neg {f : Nat → Int} (t : Nat) : ∀ xs : List Edg, (∀ x ∈ xs, IdE f x) → crossI t xs < 0 → 0 < f t
  | [], _, h => by simp [crossI] at h
  | x :: xs, h, hn => by
    have ih := crossI_neg t xs fun y hy => h y (List.mem_cons_of_mem _ hy)
    unfold crossI at *
    cases q : x.tag with
    | some p =>
      rw [List.filter_cons_of_neg (p := fun x : Edg => x.tag.isNone) (by simp [q])] at hn
      exact ih hn
    | none =>
      rw [List.filter_cons_of_pos (p := fun x : Edg => x.tag.isNone) (by simp [q]), List.map_cons, List.sum_cons] at hn
      obtain ⟨a, b, c⟩ := crs_idle (h x (by simp)) q t
      by_cases ng : crs t x < 0
      · exact (b ng).2
      · exact ih (by omega)
theorem crossI_pos {f : Nat → Int} (t : Nat) : ∀ xs : List Edg, (∀ x ∈ xs, IdE f x) → 0 < crossI t xs → ∃ x ∈ xs, x.tag = none ∧ x.u = t ∧ x.v = t + 1
  | [], _, h => by simp [crossI] at h
  | x :: xs, h, hn => by
    have ih := crossI_pos t xs fun y hy => h y (List.mem_cons_of_mem _ hy)
    unfold crossI at *
    cases q : x.tag with
    | some p =>
      rw [List.filter_cons_of_neg (p := fun x : Edg => x.tag.isNone) (by simp [q])] at hn
      obtain ⟨y, hy, r⟩ := ih hn
      exact ⟨y, List.mem_cons_of_mem _ hy, r⟩
    | none =>
      rw [List.filter_cons_of_pos (p := fun x : Edg => x.tag.isNone) (by simp [q]), List.map_cons, List.sum_cons] at hn
      obtain ⟨a, b, c⟩ := crs_idle (h x (by simp)) q t
      by_cases ng : 0 < crs t x
      · exact ⟨x, by simp, q, c ng⟩
      · obtain ⟨y, hy, r⟩ := ih (by omega)
        exact ⟨y, List.mem_cons_of_mem _ hy, r⟩
end Pl

/-! plain: a cheapest way taken: places toggled -/
namespace Pl
def togT (sm : List Int) : Option Int → List Int
  | none => sm
  | some p => if sm.contains p then sm.filter (fun q => !decide (q = p)) else sm ++ [p]
theorem togT_some (sm : List Int) (p : Int) : togT sm (some p) = if sm.contains p then sm.filter (fun q => !decide (q = p)) else sm ++ [p] := rfl
def tog (sm : List Int) (x : Edg) : List Int := togT sm x.tag
theorem mem_tog {sm : List Int} {p q : Int} : q ∈ togT sm (some p) ↔ if q = p then q ∉ sm else q ∈ sm := by
  rw [togT_some]
  by_cases c : sm.contains p = true
  · rw [if_pos c, List.mem_filter]
    have c' : p ∈ sm := by simpa using c
    by_cases e : q = p
    · subst e; simp [c']
    · simp [e]
  · rw [if_neg c, List.mem_append]
    have c' : p ∉ sm := by simpa using c
    by_cases e : q = p
    · subst e; simp [c']
    · simp [e]
theorem nodup_tog {sm : List Int} (h : sm.Nodup) : ∀ t, (togT sm t).Nodup
  | none => h
  | some p => by
    rw [togT_some]
    by_cases c : sm.contains p = true
    · rw [if_pos c]; exact h.filter _
    · rw [if_neg c]
      have c' : p ∉ sm := by simpa using c
      exact List.nodup_append.mpr ⟨h, by simp, fun a ha b hb e => by
        have : b = p := by simpa using hb
        subst this; subst e; exact c' ha⟩
theorem nodup_togs : ∀ (xs : List Edg) (sm : List Int), sm.Nodup → (xs.foldl tog sm).Nodup
  | [], _, h => h
  | x :: xs, sm, h => nodup_togs xs (tog sm x) (nodup_tog h x.tag)
def tags (xs : List Edg) : List Int := xs.filterMap (·.tag)
theorem mem_togs : ∀ (xs : List Edg) (sm : List Int), (tags xs).Nodup → ∀ q, q ∈ xs.foldl tog sm ↔ if q ∈ tags xs then q ∉ sm else q ∈ sm
  | [], sm, _, q => by simp [tags]
  | x :: xs, sm, h, q => by
    have e0 : (x :: xs).foldl tog sm = xs.foldl tog (togT sm x.tag) := rfl
    rw [e0]
    cases c : x.tag with
    | none =>
      have e1 : tags (x :: xs) = tags xs := by unfold tags; rw [List.filterMap_cons_none c]
      rw [e1] at h ⊢
      exact mem_togs xs sm h q
    | some p =>
      have e1 : tags (x :: xs) = p :: tags xs := by unfold tags; rw [List.filterMap_cons_some c]
      rw [e1] at h ⊢
      obtain ⟨h1, h2⟩ := List.nodup_cons.mp h
      rw [mem_togs xs _ h2 q]
      by_cases e : q = p
      · subst e
        rw [if_neg h1, mem_tog, if_pos rfl, if_pos (by simp)]
      · by_cases m : q ∈ tags xs
        · rw [if_pos m, if_pos (List.mem_cons_of_mem _ m), mem_tog, if_neg e]
        · rw [if_neg m, mem_tog, if_neg e, if_neg]
          intro z
          rcases List.mem_cons.mp z with z | z
          · exact e z
          · exact m z
/-- an edge as these places have it -/
def AsIs (e : Int × Int) (day : List Show) (sm : List Int) (x : Edg) : Prop := ∀ p : Int, x.tag = some p →
  ((p ∈ sm ∧ x.u = (held e (shAt day p)).2.toNat ∧ x.v = (held e (shAt day p)).1.toNat) ∨
   (p ∉ sm ∧ x.u = (held e (shAt day p)).1.toNat ∧ x.v = (held e (shAt day p)).2.toNat)) ∧ 0 ≤ (held e (shAt day p)).1 ∧ (held e (shAt day p)).1 < (held e (shAt day p)).2
theorem cnt_rem {e : Int × Int} {day : List Show} {t p : Int} : ∀ {sm : List Int}, sm.Nodup → p ∈ sm → (cnt e day (sm.filter fun q => !decide (q = p)) t : Int) = cnt e day sm t - if inH (held e (shAt day p)) t = true then 1 else 0
  | [], _, h => by cases h
  | a :: sm, hn, h => by
    obtain ⟨h1, h2⟩ := List.nodup_cons.mp hn
    unfold cnt
    by_cases ea : a = p
    · subst ea
      rw [List.filter_cons_of_neg (by simp)]
      have : sm.filter (fun q => !decide (q = a)) = sm := List.filter_eq_self.mpr fun b hb => by
        have : b ≠ a := fun e => h1 (e ▸ hb)
        simp [this]
      rw [this]
      by_cases c : inH (held e (shAt day a)) t = true
      · rw [List.filter_cons_of_pos (by simpa using c), if_pos c, List.length_cons]; omega
      · rw [List.filter_cons_of_neg (by simpa using c), if_neg c]; omega
    · have hm : p ∈ sm := by
        rcases List.mem_cons.mp h with h | h
        · exact absurd h.symm ea
        · exact h
      have ih := cnt_rem (e := e) (day := day) (t := t) h2 hm
      unfold cnt at ih
      rw [List.filter_cons_of_pos (p := fun q => !decide (q = p)) (by simp [ea])]
      by_cases c : inH (held e (shAt day a)) t = true
      · rw [List.filter_cons_of_pos (by simpa using c), List.filter_cons_of_pos (by simpa using c), List.length_cons, List.length_cons]; omega
      · rw [List.filter_cons_of_neg (by simpa using c), List.filter_cons_of_neg (by simpa using c)]; exact ih
theorem cnt_add {e : Int × Int} {day : List Show} {t p : Int} {sm : List Int} : (cnt e day (sm ++ [p]) t : Int) = cnt e day sm t + if inH (held e (shAt day p)) t = true then 1 else 0 := by
  unfold cnt
  rw [List.filter_append, List.length_append]
  by_cases c : inH (held e (shAt day p)) t = true
  · rw [List.filter_cons_of_pos (by simpa using c), if_pos c]; simp
  · rw [List.filter_cons_of_neg (by simpa using c), if_neg c]; simp
theorem chi_in {h : Int × Int} {t : Nat} (h0 : 0 ≤ h.1) (h1 : h.1 < h.2) : chi t h.1.toNat - chi t h.2.toNat = if inH h (t : Int) = true then 1 else 0 := by
  unfold chi inH
  by_cases a : h.1.toNat ≤ t
  · rw [if_pos a]
    by_cases b : h.2.toNat ≤ t
    · rw [if_pos b, if_neg]
      · rfl
      · simp; omega
    · rw [if_neg b, if_pos]
      · rfl
      · simp; omega
  · rw [if_neg a, if_neg (by omega : ¬ h.2.toNat ≤ t), if_neg]
    · rfl
    · simp; omega
theorem cnt_tog {e : Int × Int} {day : List Show} {sm : List Int} {x : Edg} {t : Nat} (hn : sm.Nodup) (h : AsIs e day sm x) (hs : x.tag.isSome = true) : (cnt e day (tog sm x) t : Int) = cnt e day sm t + crs t x := by
  cases c : x.tag with
  | none => rw [c] at hs; cases hs
  | some p =>
    obtain ⟨hx, a, b⟩ := h p c
    have k := chi_in (t := t) a b
    unfold tog crs
    rw [c, togT_some]
    rcases hx with ⟨m, hu, hv⟩ | ⟨m, hu, hv⟩
    · rw [if_pos (by simpa using m), cnt_rem hn m, hu, hv]
      omega
    · rw [if_neg (by simpa using m), cnt_add, hu, hv]
      omega
theorem cnt_togs {e : Int × Int} {day : List Show} {t : Nat} : ∀ (xs : List Edg) (sm : List Int), sm.Nodup → (tags xs).Nodup → (∀ x ∈ xs, AsIs e day sm x) → (cnt e day (xs.foldl tog sm) t : Int) = cnt e day sm t + crossS t xs
  | [], _, _, _, _ => by simp [crossS]
  | x :: xs, sm, hn, ht, h => by
    have e0 : (x :: xs).foldl tog sm = xs.foldl tog (tog sm x) := rfl
    rw [e0]
    cases c : x.tag with
    | none =>
      have e1 : tags (x :: xs) = tags xs := by unfold tags; rw [List.filterMap_cons_none c]
      have e2 : tog sm x = sm := by unfold tog; rw [c]; rfl
      rw [e1] at ht
      rw [e2, cnt_togs xs sm hn ht fun y hy => h y (List.mem_cons_of_mem _ hy)]
      unfold crossS
      rw [List.filter_cons_of_neg (p := fun x : Edg => x.tag.isSome) (by simp [c])]
    | some p =>
      have e1 : tags (x :: xs) = p :: tags xs := by unfold tags; rw [List.filterMap_cons_some c]
      rw [e1] at ht
      obtain ⟨h1, h2⟩ := List.nodup_cons.mp ht
      rw [cnt_togs xs (tog sm x) (nodup_tog hn _) h2 fun y hy q hq => ?_, cnt_tog hn (h x (by simp)) (by simp [c])]
      · unfold crossS
        rw [List.filter_cons_of_pos (p := fun x : Edg => x.tag.isSome) (by simp [c]), List.map_cons, List.sum_cons]
        omega
      · obtain ⟨k, a, b⟩ := h y (List.mem_cons_of_mem _ hy) q hq
        have ne : q ≠ p := fun e => by
          subst e
          exact h1 (List.mem_filterMap.mpr ⟨y, hy, hq⟩)
        have m : q ∈ tog sm x ↔ q ∈ sm := by
          unfold tog
          rw [c, mem_tog, if_neg ne]
        rw [m]
        exact ⟨k, a, b⟩
theorem asis_of {f : Nat → Int} {e : Int × Int} {day : List Show} {sm : List Int} (he : okE e) (hd : ∀ s ∈ day, okS s) {x : Edg} (h : x ∈ edgs f e day sm) : AsIs e day sm x := fun q hq => by
  rcases edg_cases h with ⟨n, _⟩ | ⟨p, hp, ht, r⟩
  · rw [n] at hq; cases hq
  · rw [ht] at hq
    have := Option.some.inj hq
    subst this
    obtain ⟨a, b, c, d⟩ := held_ok he (hd _ (shAt_mem (day := day) (p := (p : Int)) (by omega) (by omega)))
    refine ⟨?_, a, b⟩
    rcases r with ⟨m, h1, h2, _⟩ | ⟨m, h1, h2, _⟩
    · exact .inl ⟨m, h1, h2⟩
    · exact .inr ⟨m, h1, h2⟩
theorem tag_one {f : Nat → Int} {e : Int × Int} {day : List Show} {sm : List Int} {x y : Edg} {p : Int} (h : x ∈ edgs f e day sm) (h' : y ∈ edgs f e day sm) (hx : x.tag = some p) (hy : y.tag = some p) : x.v = y.v := by
  rcases edg_cases h with ⟨n, _⟩ | ⟨a, _, ta, ra⟩
  · rw [n] at hx; cases hx
  rcases edg_cases h' with ⟨n, _⟩ | ⟨b, _, tb, rb⟩
  · rw [n] at hy; cases hy
  rw [ta] at hx
  rw [tb] at hy
  have e1 := Option.some.inj hx
  have e2 := Option.some.inj hy
  have : a = b := by omega
  subst this
  rcases ra with ⟨m, _, h2, _⟩ | ⟨m, _, h2, _⟩ <;> rcases rb with ⟨m', _, h2', _⟩ | ⟨m', _, h2', _⟩
  · rw [h2, h2']
  · exact absurd m m'
  · exact absurd m' m
  · rw [h2, h2']
theorem tags_nodup {f : Nat → Int} {e : Int × Int} {day : List Show} {sm : List Int} : ∀ (xs : List Edg), (∀ x ∈ xs, x ∈ edgs f e day sm) → (xs.map (·.v)).Nodup → (tags xs).Nodup
  | [], _, _ => List.nodup_nil
  | x :: xs, h, hn => by
    rw [List.map_cons, List.nodup_cons] at hn
    have ih := tags_nodup xs (fun y hy => h y (List.mem_cons_of_mem _ hy)) hn.2
    cases c : x.tag with
    | none =>
      have e1 : tags (x :: xs) = tags xs := by unfold tags; rw [List.filterMap_cons_none c]
      rw [e1]; exact ih
    | some p =>
      have e1 : tags (x :: xs) = p :: tags xs := by unfold tags; rw [List.filterMap_cons_some c]
      rw [e1, List.nodup_cons]
      refine ⟨fun hm => ?_, ih⟩
      obtain ⟨y, hy, ty⟩ := List.mem_filterMap.mp hm
      exact hn.1 (List.mem_map.mpr ⟨y, hy, (tag_one (h x (by simp)) (h y (List.mem_cons_of_mem _ hy)) c ty).symm⟩)
/-- what stands for k tuners -/
structure Stand (k : Nat) (e : Int × Int) (day : List Show) (sm : List Int) : Prop where
  nd : sm.Nodup
  ok : okP day.length sm
  idle : ∀ t, t < 24 → 0 ≤ idl k e day sm t
theorem fix_feas {E : List Edg} {s : FS} (h : Fix E s) : Feas E (getI s.1) := h
theorem tag_in {f : Nat → Int} {e : Int × Int} {day : List Show} {sm : List Int} {x : Edg} (hx : x ∈ edgs f e day sm) {q : Int} (hq : x.tag = some q) : 0 ≤ q ∧ q < day.length := by
  rcases edg_cases hx with ⟨n, _⟩ | ⟨p, hp, ht, _⟩
  · rw [n] at hq; cases hq
  · rw [ht] at hq
    have := Option.some.inj hq
    omega
theorem nodup_v {xs : List Edg} (h : (xs.map (·.v)).Nodup) (t : Nat) : (xs.filter fun x => decide (x.v = t)).length ≤ 1 := by
  induction xs with
  | nil => simp
  | cons x xs ih =>
    rw [List.map_cons, List.nodup_cons] at h
    by_cases c : x.v = t
    · rw [List.filter_cons_of_pos (by simpa using c), List.length_cons]
      have : xs.filter (fun x => decide (x.v = t)) = [] := List.filter_eq_nil_iff.mpr fun y hy => by
        have : y.v ≠ t := fun e => h.1 (List.mem_map.mpr ⟨y, hy, by show y.v = x.v; rw [e, c]⟩)
        simpa using this
      rw [this]; simp
    · rw [List.filter_cons_of_neg (by simpa using c)]
      exact ih h.2
theorem idl_new {k : Nat} {e : Int × Int} {day : List Show} {sm : List Int} {f : Nat → Int} {s : FS} {xs : List Edg} (he : okE e) (hd : ∀ s ∈ day, okS s) (w0 : getW s.2 0 = none) (hn : sm.Nodup) (hp : Pth (edgs f e day sm) s 24 xs) {t : Nat} (ht : t < 24) :
    idl (k + 1) e day (xs.foldl tog sm) t = idl k e day sm t + crossI t xs := by
  have hm := fun y hy => (pth_mem hp y hy).1
  have a := cross_all t hp
  have b := cross_split t xs
  have c := cnt_togs (e := e) (day := day) (t := t) xs sm hn (tags_nodup xs hm (pth_nodup w0 hp)) fun x hx => asis_of he hd (hm x hx)
  have d : chi t 0 - chi t 24 = 1 := by
    unfold chi
    rw [if_pos (by omega), if_neg (by omega)]
    rfl
  unfold idl
  omega
theorem ide_of {f : Nat → Int} {e : Int × Int} {day : List Show} {sm : List Int} {x : Edg} (h : x ∈ edgs f e day sm) : IdE f x := fun hn => by
  rcases edg_cases h with ⟨_, _, r⟩ | ⟨p, _, ht, _⟩
  · exact r
  · rw [hn] at ht; cases ht
/-- one more tuner: it stands, with the way's costs as heights -/
theorem stand_more {k : Nat} {e : Int × Int} {day : List Show} {sm : List Int} {s : FS} {xs : List Edg} (he : okE e) (hd : ∀ s ∈ day, okS s) (hs : Stand k e day sm) (w0 : getW s.2 0 = none) (hx : Fix (edgs (idl k e day sm) e day sm) s) (hp : Pth (edgs (idl k e day sm) e day sm) s 24 xs) :
    Stand (k + 1) e day (xs.foldl tog sm) ∧ PF (idl (k + 1) e day (xs.foldl tog sm)) e day (xs.foldl tog sm) (getI s.1) := by
  have hm := fun y hy => (pth_mem hp y hy).1
  have tn := tags_nodup xs hm (pth_nodup w0 hp)
  have mem := mem_togs xs sm tn
  have pf := feas_iff.mp (fix_feas hx)
  have idn := fun {t : Nat} (ht : t < 24) => idl_new (k := k) he hd w0 hs.nd hp ht
  have ide := fun x hx => ide_of (hm x hx)
  refine ⟨⟨nodup_togs xs sm hs.nd, fun q hq => ?_, fun t ht => ?_⟩, ⟨pf.fw, fun t ht c => ?_, fun p hpl c => ?_, fun p hpl c => ?_⟩⟩
  · have := (mem q).mp hq
    by_cases m : q ∈ tags xs
    · obtain ⟨y, hy, ty⟩ := List.mem_filterMap.mp m
      exact tag_in (hm y hy) ty
    · rw [if_neg m] at this
      exact hs.ok q this
  · rw [idn ht]
    have a := hs.idle t ht
    have b := crossI_ge (f := idl k e day sm) t xs ide
    have c := crossI_neg (f := idl k e day sm) t xs ide
    have d := nodup_v (pth_nodup w0 hp) t
    by_cases ng : crossI t xs < 0
    · have := c ng
      omega
    · omega
  · rw [idn ht] at c
    by_cases z : 0 < idl k e day sm t
    · exact pf.rv t ht z
    · have a := hs.idle t ht
      obtain ⟨x, hxx, x1, x2, x3⟩ := crossI_pos (f := idl k e day sm) t xs ide (by omega)
      obtain ⟨m1, m2⟩ := pth_mem hp x hxx
      have l0 : x.l = 0 := by
        rcases edg_cases m1 with ⟨_, l, _⟩ | ⟨p, _, ht, _⟩
        · exact l
        · rw [x1] at ht; cases ht
      rw [x2, x3, l0] at m2
      omega
  · have := (mem (p : Int)).mp c
    by_cases m : (p : Int) ∈ tags xs
    · rw [if_pos m] at this
      obtain ⟨y, hy, ty⟩ := List.mem_filterMap.mp m
      obtain ⟨m1, m2⟩ := pth_mem hp y hy
      rcases edg_cases m1 with ⟨n, _⟩ | ⟨q, hq, tq, r⟩
      · rw [n] at ty; cases ty
      · rw [tq] at ty
        have e1 : q = p := by have := Option.some.inj ty; omega
        subst e1
        rcases r with ⟨mm, _⟩ | ⟨mm, h1, h2, h3⟩
        · exact absurd mm this
        · rw [h1, h2, h3] at m2
          omega
    · rw [if_neg m] at this
      exact pf.inn p hpl this
  · have := fun z => c ((mem (p : Int)).mpr z)
    by_cases m : (p : Int) ∈ tags xs
    · rw [if_pos m] at this
      obtain ⟨y, hy, ty⟩ := List.mem_filterMap.mp m
      obtain ⟨m1, m2⟩ := pth_mem hp y hy
      rcases edg_cases m1 with ⟨n, _⟩ | ⟨q, hq, tq, r⟩
      · rw [n] at ty; cases ty
      · rw [tq] at ty
        have e1 : q = p := by have := Option.some.inj ty; omega
        subst e1
        rcases r with ⟨mm, h1, h2, h3⟩ | ⟨mm, h1, h2, h3⟩
        · rw [h1, h2, h3] at m2
          omega
        · exact absurd mm this
    · rw [if_neg m] at this
      exact pf.out p hpl this
end Pl

/-! plain: the best, tuner by tuner -/
namespace Pl
def FellTo (E : List Edg) (s : FS) : Prop := ∃ n, fellN E n st0 = some s
open Classical in
noncomputable def fellC (E : List Edg) : FS := if h : ∃ s, FellTo E s then Classical.choose h else st0
open Classical in
noncomputable def pathC (E : List Edg) (s : FS) : List Edg := if h : ∃ xs, Pth E s 24 xs then Classical.choose h else []
noncomputable def moreC (k : Nat) (e : Int × Int) (day : List Show) (sm : List Int) : List Int :=
  (pathC (edgs (idl k e day sm) e day sm) (fellC (edgs (idl k e day sm) e day sm))).foldl tog sm
noncomputable def bestC (e : Int × Int) (day : List Show) : Nat → List Int × List Int
  | 0 => ([], List.replicate 25 0)
  | k + 1 => (moreC k e day (bestC e day k).1, (fellC (edgs (idl (k + 1) e day (moreC k e day (bestC e day k).1)) e day (moreC k e day (bestC e day k).1))).1)
/-- what stands behind a run -/
structure Ran (E : List Edg) (s : FS) : Prop where
  to : FellTo E s
  fx : Fix E s
  l1 : s.1.length = 25
  l2 : s.2.length = 25
  c0 : getI s.1 0 = 0
  w0 : getW s.2 0 = none
  neg : ∀ v, v < 25 → getI s.1 v ≤ 0
  way : ∃ xs, Pth E s 24 xs
theorem pf_down {f : Nat → Int} {e : Int × Int} {day : List Show} {sm : List Int} {π : Nat → Int} (h : PF f e day sm π) : ∀ (v : Nat), v < 25 → π v ≤ π 0 ∧ π 24 ≤ π v := by
  have up : ∀ v, v < 25 → π v ≤ π 0 := fun v => by
    induction v with
    | zero => exact fun _ => Int.le_refl _
    | succ v ih => exact fun hv => Int.le_trans (h.fw v (by omega)) (ih (by omega))
  have dn : ∀ d v, v + d = 24 → π 24 ≤ π v := fun d => by
    induction d with
    | zero => intro v hv; have : v = 24 := by omega
              subst this; exact Int.le_refl _
    | succ d ih => exact fun v hv => Int.le_trans (ih (v + 1) (by omega)) (h.fw v (by omega))
  exact fun v hv => ⟨up v hv, dn (24 - v) v (by omega)⟩
theorem ran_of {f : Nat → Int} {e : Int × Int} {day : List Show} {sm : List Int} {π : Nat → Int} (he : okE e) (hd : ∀ s ∈ day, okS s) (h : PF f e day sm π) : Ran (edgs f e day sm) (fellC (edgs f e day sm)) := by
  have hf := feas_iff.mpr h
  have h25 := in25 (f := f) (sm := sm) he hd
  have dn := pf_down h
  obtain ⟨n, s, h1, h2, h3⟩ := fell_ends hf h25 (b := π 24 - π 0) (fun v hv => by have := (dn v hv).2; omega) (st0.1.sum - (π 24 - π 0) * 25).toNat.succ st0 (finv0 fun v hv => by have := (dn v hv).1; omega) (by omega)
  have ex : ∃ s, FellTo (edgs f e day sm) s := ⟨s, n, h1⟩
  have es : fellC (edgs f e day sm) = s := by
    unfold fellC
    rw [dif_pos ex]
    obtain ⟨m, hm⟩ := Classical.choose_spec ex
    exact fell_one hm h1
  rw [es]
  have pf := feas_iff.mp (fix_feas h3)
  have ng : ∀ v, v < 25 → getI s.1 v ≤ 0 := fun v hv => by
    have := (pf_down pf v hv).1
    rw [h2.c0] at this
    exact this
  obtain ⟨k, hk⟩ := h2.ends 24 (by omega)
  exact ⟨⟨n, h1⟩, h3, h2.l1, h2.l2, h2.c0, h2.w0, ng, path_of h2 h3 h25 ng hk (by omega)⟩
theorem path_way {E : List Edg} {s : FS} (h : ∃ xs, Pth E s 24 xs) : Pth E s 24 (pathC E s) := by
  unfold pathC
  rw [dif_pos h]
  exact Classical.choose_spec h
theorem stand0 {e : Int × Int} {day : List Show} : Stand 0 e day [] := ⟨List.nodup_nil, fun _ h => (by cases h), fun t _ => by simp [idl, cnt]⟩
theorem pf0 {e : Int × Int} {day : List Show} (he : okE e) (hd : ∀ s ∈ day, okS s) : PF (idl 0 e day []) e day [] (fun v => -60 * (v : Int)) := by
  refine ⟨fun t _ => ?_, fun t _ c => ?_, fun p _ c => (by cases c), fun p hp _ => ?_⟩
  · show -60 * ((t + 1 : Nat) : Int) ≤ _; omega
  · simp [idl, cnt] at c
  · have m := shAt_mem (day := day) (p := (p : Int)) (by omega) (by omega)
    obtain ⟨a, b, c, d⟩ := held_ok he (hd _ m)
    obtain ⟨_, _, _, w0, w1⟩ := hd _ m
    show -60 * (((held e (shAt day p)).2.toNat : Nat) : Int) ≤ -60 * (((held e (shAt day p)).1.toNat : Nat) : Int) - _
    omega
theorem best_stand {e : Int × Int} {day : List Show} (he : okE e) (hd : ∀ s ∈ day, okS s) : ∀ k, Stand k e day (bestC e day k).1 ∧ (∃ π, PF (idl k e day (bestC e day k).1) e day (bestC e day k).1 π) ∧
    (0 < k → PF (idl k e day (bestC e day k).1) e day (bestC e day k).1 (getI (bestC e day k).2) ∧ (bestC e day k).2.length = 25)
  | 0 => ⟨stand0, ⟨_, pf0 he hd⟩, fun h => absurd h (Nat.lt_irrefl 0)⟩
  | k + 1 => by
    obtain ⟨h1, ⟨π, h2⟩, _⟩ := best_stand he hd k
    have r := ran_of he hd h2
    obtain ⟨a, b⟩ := stand_more he hd h1 r.w0 r.fx (path_way r.way)
    have r2 := ran_of he hd b
    exact ⟨a, ⟨_, b⟩, fun _ => ⟨feas_iff.mp (fix_feas r2.fx), r2.l1⟩⟩
/-- the two runs of a turn -/
theorem best_runs {e : Int × Int} {day : List Show} (he : okE e) (hd : ∀ s ∈ day, okS s) (k : Nat) :
    Ran (edgs (idl k e day (bestC e day k).1) e day (bestC e day k).1) (fellC (edgs (idl k e day (bestC e day k).1) e day (bestC e day k).1)) ∧
    Ran (edgs (idl (k + 1) e day (bestC e day (k + 1)).1) e day (bestC e day (k + 1)).1) (fellC (edgs (idl (k + 1) e day (bestC e day (k + 1)).1) e day (bestC e day (k + 1)).1)) := by
  obtain ⟨_, ⟨_, h⟩, _⟩ := best_stand he hd k
  obtain ⟨_, ⟨_, h'⟩, _⟩ := best_stand he hd (k + 1)
  exact ⟨ran_of he hd h, ran_of he hd h'⟩
/-! ### prices -/
def pricesOf (c : List Int) : List Int := (List.range 24).map fun (t : Nat) => getI c t - getI c (t + 1)
def psum (pr : List Int) (h : Int × Int) : Int := ((pr.take h.2.toNat).drop h.1.toNat).sum
def overOf (e : Int × Int) (s : Show) (pr : List Int) : Int := max 0 (s.2.2 - psum pr (held e s))
def worthOf (day : List Show) (ps : List Int) : Int := (ps.map fun p => (shAt day p).2.2).sum
def dualOf (k : Int) (e : Int × Int) (day : List Show) (pr : List Int) : Int := k * pr.sum + (day.map fun s => overOf e s pr).sum
theorem psum_eq (pr : List Int) {a b : Nat} (h : a ≤ b) : ((pr.take b).drop a).sum = (pr.take b).sum - (pr.take a).sum := by
  have e := List.take_append_drop a (pr.take b)
  have e2 : (pr.take b).take a = pr.take a := by rw [List.take_take, Nat.min_eq_left h]
  rw [e2] at e
  have e3 := congrArg List.sum e
  rw [List.sum_append] at e3
  omega
theorem take_succ_sum (pr : List Int) (t : Nat) : (pr.take (t + 1)).sum = (pr.take t).sum + getI pr t := by
  unfold getI
  rw [List.take_add_one, List.sum_append, List.getD_eq_getElem?_getD]
  cases pr[t]? <;> simp
def wsum (n : Nat) (f : Nat → Int) : Int := ((List.range n).map f).sum
theorem wsum_succ (n : Nat) (f : Nat → Int) : wsum (n + 1) f = wsum n f + f n := by
  unfold wsum
  rw [List.range_succ, List.map_append, List.sum_append]
  simp
theorem wsum_add (f g : Nat → Int) : ∀ n, wsum n (fun t => f t + g t) = wsum n f + wsum n g
  | 0 => rfl
  | n + 1 => by rw [wsum_succ, wsum_succ, wsum_succ, wsum_add f g n]; omega
theorem wsum_le {f g : Nat → Int} : ∀ n, (∀ t, t < n → f t ≤ g t) → wsum n f ≤ wsum n g
  | 0, _ => Int.le_refl _
  | n + 1, h => by
    rw [wsum_succ, wsum_succ]
    have := wsum_le n fun t ht => h t (by omega)
    have := h n (by omega)
    omega
theorem wsum_eq {f g : Nat → Int} : ∀ n, (∀ t, t < n → f t = g t) → wsum n f = wsum n g
  | 0, _ => rfl
  | n + 1, h => by
    rw [wsum_succ, wsum_succ, wsum_eq n fun t ht => h t (by omega), h n (by omega)]
theorem wsum_mul (k : Int) (f : Nat → Int) : ∀ n, wsum n (fun t => k * f t) = k * wsum n f
  | 0 => by simp [wsum]
  | n + 1 => by rw [wsum_succ, wsum_succ, wsum_mul k f n, Int.mul_add]
theorem wsum_zero : ∀ n, wsum n (fun _ => 0) = 0
  | 0 => rfl
  | n + 1 => by rw [wsum_succ, wsum_zero n]; rfl
theorem wsum_take (pr : List Int) : ∀ n, wsum n (getI pr) = (pr.take n).sum
  | 0 => rfl
  | n + 1 => by rw [wsum_succ, take_succ_sum, wsum_take pr n]
theorem wsum_cut (pr : List Int) {a b : Nat} (h : a ≤ b) : ∀ n, wsum n (fun t => if a ≤ t ∧ t < b then getI pr t else 0) = (pr.take (min b n)).sum - (pr.take (min a n)).sum
  | 0 => by simp [wsum]
  | n + 1 => by
    rw [wsum_succ, wsum_cut pr h n]
    by_cases c : a ≤ n ∧ n < b
    · rw [if_pos c, Nat.min_eq_right (by omega : n ≤ b), Nat.min_eq_right (by omega : n + 1 ≤ b), Nat.min_eq_left (by omega : a ≤ n), Nat.min_eq_left (by omega : a ≤ n + 1), take_succ_sum]
      omega
    · rw [if_neg c]
      by_cases d : n < a
      · rw [Nat.min_eq_right (by omega : n ≤ b), Nat.min_eq_right (by omega : n + 1 ≤ b), Nat.min_eq_right (by omega : n ≤ a), Nat.min_eq_right (by omega : n + 1 ≤ a)]
        omega
      · rw [Nat.min_eq_left (by omega : b ≤ n), Nat.min_eq_left (by omega : b ≤ n + 1), Nat.min_eq_left (by omega : a ≤ n), Nat.min_eq_left (by omega : a ≤ n + 1)]
        omega
theorem psum_w (pr : List Int) {h : Int × Int} (h0 : 0 ≤ h.1) (h1 : h.1 < h.2) (h2 : h.2 ≤ 24) : psum pr h = wsum 24 fun t => if inH h (t : Int) = true then getI pr t else 0 := by
  unfold psum
  rw [psum_eq pr (by omega : h.1.toNat ≤ h.2.toNat)]
  have := wsum_cut pr (by omega : h.1.toNat ≤ h.2.toNat) 24
  rw [Nat.min_eq_left (by omega), Nat.min_eq_left (by omega)] at this
  rw [← this]
  refine wsum_eq 24 fun t ht => ?_
  unfold inH
  by_cases c : h.1.toNat ≤ t ∧ t < h.2.toNat
  · rw [if_pos c, if_pos (by simp; omega)]
  · rw [if_neg c, if_neg (by simp; omega)]
/-- prices counted twice -/
theorem psum_all {e : Int × Int} {day : List Show} (he : okE e) (hd : ∀ s ∈ day, okS s) (pr : List Int) : ∀ (ps : List Int), okP day.length ps → (ps.map fun p => psum pr (held e (shAt day p))).sum = wsum 24 fun t => getI pr t * (cnt e day ps (t : Int) : Int)
  | [], _ => by
    rw [show (fun t : Nat => getI pr t * (cnt e day [] (t : Int) : Int)) = fun _ => 0 from funext fun t => by simp [cnt], wsum_zero]
    rfl
  | p :: ps, h => by
    obtain ⟨p0, p1⟩ := h p (by simp)
    obtain ⟨a, b, c, d⟩ := held_ok he (hd _ (shAt_mem p0 p1))
    rw [List.map_cons, List.sum_cons, psum_all he hd pr ps fun q hq => h q (List.mem_cons_of_mem _ hq), psum_w pr a b d, ← wsum_add]
    refine wsum_eq 24 fun t ht => ?_
    unfold cnt
    by_cases c : inH (held e (shAt day p)) (t : Int) = true
    · rw [if_pos c, List.filter_cons_of_pos (by simpa using c), List.length_cons, Int.natCast_add, Int.mul_add]
      simp
      omega
    · rw [if_neg c, List.filter_cons_of_neg (by simpa using c)]
      omega
theorem perm_sum {a b : List Int} (h : a.Perm b) : a.sum = b.sum := by
  induction h with
  | nil => rfl
  | cons x _ ih => rw [List.sum_cons, List.sum_cons, ih]
  | swap x y l => rw [List.sum_cons, List.sum_cons, List.sum_cons, List.sum_cons]; omega
  | trans _ _ h1 h2 => exact h1.trans h2
theorem sum_sub {f : Int → Int} : ∀ (S T : List Int), S.Nodup → (∀ x ∈ S, x ∈ T) → (∀ x ∈ T, 0 ≤ f x) → (S.map f).sum ≤ (T.map f).sum
  | [], T, _, _, h => by
    have : ∀ T : List Int, (∀ x ∈ T, 0 ≤ f x) → 0 ≤ (T.map f).sum := fun T => by
      induction T with
      | nil => exact fun _ => Int.le_refl _
      | cons a T ih =>
        intro h
        rw [List.map_cons, List.sum_cons]
        have := ih fun x hx => h x (List.mem_cons_of_mem _ hx)
        have := h a (by simp)
        omega
    exact this T h
  | x :: S, T, hn, hs, h => by
    have hx := hs x (by simp)
    obtain ⟨n1, n2⟩ := List.nodup_cons.mp hn
    have e := perm_sum ((List.perm_cons_erase hx).map f)
    rw [List.map_cons, List.sum_cons] at e
    have ih := sum_sub S (T.erase x) n2 (fun y hy => (List.mem_erase_of_ne (show y ≠ x from fun e => n1 (e ▸ hy))).mpr (hs y (List.mem_cons_of_mem _ hy))) fun y hy => h y (List.mem_of_mem_erase hy)
    rw [List.map_cons, List.sum_cons]
    omega
theorem sum_same {f : Int → Int} : ∀ (S T : List Int), S.Nodup → T.Nodup → (∀ x ∈ S, x ∈ T) → (∀ x ∈ T, x ∉ S → f x = 0) → (S.map f).sum = (T.map f).sum
  | [], T, _, _, _, h => by
    have : ∀ T : List Int, (∀ x ∈ T, f x = 0) → 0 = (T.map f).sum := fun T => by
      induction T with
      | nil => exact fun _ => rfl
      | cons a T ih =>
        intro h
        rw [List.map_cons, List.sum_cons, ← ih fun x hx => h x (List.mem_cons_of_mem _ hx), h a (by simp)]
        rfl
    exact this T fun x hx => h x hx (by simp)
  | x :: S, T, hn, hT, hs, h => by
    have hx := hs x (by simp)
    obtain ⟨n1, n2⟩ := List.nodup_cons.mp hn
    have e := perm_sum ((List.perm_cons_erase hx).map f)
    rw [List.map_cons, List.sum_cons] at e
    have ih := sum_same S (T.erase x) n2 (hT.erase x) (fun y hy => (List.mem_erase_of_ne (show y ≠ x from fun e => n1 (e ▸ hy))).mpr (hs y (List.mem_cons_of_mem _ hy))) fun y hy hn => by
      have ne : y ≠ x := fun e => by
        subst e
        exact (hT.not_mem_erase) hy
      exact h y (List.mem_of_mem_erase hy) fun z => by
        rcases List.mem_cons.mp z with z | z
        · exact ne z
        · exact hn z
    rw [List.map_cons, List.sum_cons]
    omega
def plcs (n : Nat) : List Int := (List.range n).map fun (i : Nat) => (i : Int)
theorem plcs_nodup (n : Nat) : (plcs n).Nodup := by
  unfold plcs List.Nodup
  rw [List.pairwise_map]
  exact List.nodup_range.imp fun h e => h (by omega)
theorem mem_plcs {n : Nat} {p : Int} : p ∈ plcs n ↔ 0 ≤ p ∧ p < n := by
  unfold plcs
  rw [List.mem_map]
  constructor
  · rintro ⟨i, hi, rfl⟩
    have := List.mem_range.mp hi
    omega
  · intro h
    exact ⟨p.toNat, List.mem_range.mpr (by omega), by omega⟩
theorem day_plcs {β : Type} (day : List Show) (g : Show → β) : day.map g = (plcs day.length).map fun p => g (shAt day p) := by
  apply List.ext_getElem?
  intro i
  unfold plcs
  rw [List.map_map, List.getElem?_map, List.getElem?_map]
  by_cases c : i < day.length
  · rw [List.getElem?_range c, List.getElem?_eq_getElem c]
    show some _ = some (g (shAt day (i : Int)))
    rw [shAt_get (List.getElem?_eq_getElem c)]
  · rw [List.getElem?_eq_none (by omega), List.getElem?_eq_none (by rw [List.length_range]; omega)]
    rfl
/-- weak: no places that can be laid are worth more than prices tell -/
theorem weak {k : Nat} {e : Int × Int} {day : List Show} {pr ps : List Int} (he : okE e) (hd : ∀ s ∈ day, okS s) (hl : pr.length = 24) (h0 : ∀ t, t < 24 → 0 ≤ getI pr t) (hn : ps.Nodup) (hp : okP day.length ps) (hc : ∀ t, 0 ≤ t → t < 24 → cnt e day ps t ≤ k) :
    worthOf day ps ≤ dualOf k e day pr := by
  have a := psum_all he hd pr ps hp
  have b : (wsum 24 fun t => getI pr t * (cnt e day ps (t : Int) : Int)) ≤ wsum 24 fun t => (k : Int) * getI pr t := wsum_le 24 fun t ht => by
    have := hc (t : Int) (by omega) (by omega)
    rw [Int.mul_comm]
    exact Int.mul_le_mul_of_nonneg_right (by omega) (h0 t ht)
  rw [wsum_mul, wsum_take, List.take_of_length_le (by omega)] at b
  have c := sum_sub (f := fun p => overOf e (shAt day p) pr) ps (plcs day.length) hn (fun p hp' => mem_plcs.mpr (hp p hp')) fun p _ => Int.le_max_left _ _
  have d : worthOf day ps ≤ (ps.map fun p => psum pr (held e (shAt day p))).sum + (ps.map fun p => overOf e (shAt day p) pr).sum := by
    unfold worthOf
    clear a b c hn hp hc
    induction ps with
    | nil => exact Int.le_refl _
    | cons p ps ih =>
      rw [List.map_cons, List.sum_cons, List.map_cons, List.sum_cons, List.map_cons, List.sum_cons]
      have : (shAt day p).2.2 - psum pr (held e (shAt day p)) ≤ overOf e (shAt day p) pr := Int.le_max_right _ _
      omega
  unfold dualOf
  rw [day_plcs]
  omega
theorem getI_range {f : Nat → Int} {n t : Nat} (h : t < n) : getI ((List.range n).map f) t = f t := by
  unfold getI
  rw [List.getD_eq_getElem?_getD, List.getElem?_map, List.getElem?_range h]
  rfl
theorem prices_len (c : List Int) : (pricesOf c).length = 24 := by simp [pricesOf]
theorem prices_get (c : List Int) {t : Nat} (h : t < 24) : getI (pricesOf c) t = getI c t - getI c (t + 1) := getI_range h
theorem prices_take (c : List Int) : ∀ n, n ≤ 24 → ((pricesOf c).take n).sum = getI c 0 - getI c n
  | 0, _ => by simp
  | n + 1, h => by rw [take_succ_sum, prices_take c n (by omega), prices_get c (by omega)]; omega
theorem prices_psum (c : List Int) {h : Int × Int} (h0 : 0 ≤ h.1) (h1 : h.1 < h.2) (h2 : h.2 ≤ 24) : psum (pricesOf c) h = getI c h.1.toNat - getI c h.2.toNat := by
  unfold psum
  rw [psum_eq _ (by omega), prices_take c _ (by omega), prices_take c _ (by omega)]
  omega
/-- strong: the prices come to the worth -/
theorem strong {k : Nat} {e : Int × Int} {day : List Show} {sm c : List Int} (he : okE e) (hd : ∀ s ∈ day, okS s) (hs : Stand k e day sm) (h : PF (idl k e day sm) e day sm (getI c)) :
    worthOf day sm = dualOf k e day (pricesOf c) ∧ ∀ t, t < 24 → 0 ≤ getI (pricesOf c) t := by
  have nn : ∀ t, t < 24 → 0 ≤ getI (pricesOf c) t := fun t ht => by
    rw [prices_get c ht]
    have := h.fw t ht
    omega
  refine ⟨?_, nn⟩
  have a := psum_all he hd (pricesOf c) sm hs.ok
  have b : (wsum 24 fun t => getI (pricesOf c) t * (cnt e day sm (t : Int) : Int)) = wsum 24 fun t => (k : Int) * getI (pricesOf c) t := wsum_eq 24 fun t ht => by
    have i := hs.idle t ht
    rw [Int.mul_comm]
    by_cases z : 0 < idl k e day sm t
    · have := h.rv t ht z
      have := h.fw t ht
      have e0 : getI (pricesOf c) t = 0 := by rw [prices_get c ht]; omega
      rw [e0, Int.mul_zero, Int.mul_zero]
    · unfold idl at i z
      have : (cnt e day sm (t : Int) : Int) = k := by omega
      rw [this]
  rw [wsum_mul, wsum_take, List.take_of_length_le (by rw [prices_len]; exact Nat.le_refl _)] at b
  have c1 := sum_same (f := fun p => overOf e (shAt day p) (pricesOf c)) sm (plcs day.length) hs.nd (plcs_nodup _) (fun p hp' => mem_plcs.mpr (hs.ok p hp')) fun p hp hn => by
    obtain ⟨p0, p1⟩ := mem_plcs.mp hp
    obtain ⟨x0, x1, x2, x3⟩ := held_ok he (hd _ (shAt_mem p0 p1))
    obtain ⟨i, rfl⟩ : ∃ i : Nat, p = (i : Int) := ⟨p.toNat, by omega⟩
    have := h.out i (by omega) hn
    show max 0 _ = (0 : Int)
    rw [prices_psum c x0 x1 x3]
    omega
  have d : worthOf day sm = (sm.map fun p => psum (pricesOf c) (held e (shAt day p))).sum + (sm.map fun p => overOf e (shAt day p) (pricesOf c)).sum := by
    unfold worthOf
    have all : ∀ p ∈ sm, (shAt day p).2.2 = psum (pricesOf c) (held e (shAt day p)) + overOf e (shAt day p) (pricesOf c) := fun p hp => by
      obtain ⟨p0, p1⟩ := hs.ok p hp
      obtain ⟨x0, x1, x2, x3⟩ := held_ok he (hd _ (shAt_mem p0 p1))
      obtain ⟨i, rfl⟩ : ∃ i : Nat, p = (i : Int) := ⟨p.toNat, by omega⟩
      have := h.inn i (by omega) hp
      unfold overOf
      rw [prices_psum c x0 x1 x3]
      omega
    clear a b c1 hs h
    induction sm with
    | nil => rfl
    | cons p ps ih =>
      rw [List.map_cons, List.sum_cons, List.map_cons, List.sum_cons, List.map_cons, List.sum_cons, ih fun q hq => all q (List.mem_cons_of_mem _ hq), all p (by simp)]
      omega
  unfold dualOf
  rw [day_plcs]
  omega
/-! ### the best's own words -/
noncomputable def bPl (e : Int × Int) (day : List Show) (k : Nat) : List Int := sset (bestC e day k).1
noncomputable def bPr (e : Int × Int) (day : List Show) (k : Nat) : List Int := pricesOf (bestC e day k).2
noncomputable def mostC (e : Int × Int) (day : List Show) (k : Nat) : Int := worthOf day (bPl e day k)
/-- places that can be laid on k tuners -/
def CanL (k : Nat) (e : Int × Int) (day : List Show) (ps : List Int) : Prop := ∀ t, 0 ≤ t → t < 24 → cnt e day ps t ≤ k
theorem worth_perm {day : List Show} {a b : List Int} (h : a.Perm b) : worthOf day a = worthOf day b := perm_sum (h.map _)
theorem bpl_perm {e : Int × Int} {day : List Show} (he : okE e) (hd : ∀ s ∈ day, okS s) (k : Nat) : (bestC e day k).1.Perm (bPl e day k) :=
  perm_of_mem (best_stand he hd k).1.nd (nodup_rising (sset_pw _)) fun _ => sset_mem.symm
theorem bpl_ok {e : Int × Int} {day : List Show} (he : okE e) (hd : ∀ s ∈ day, okS s) (k : Nat) : okR day.length (bPl e day k) ∧ CanL k e day (bPl e day k) := by
  have h := (best_stand he hd k).1
  refine ⟨⟨fun p hp => h.ok p (sset_mem.mp hp), sset_pw _⟩, fun t h0 h1 => ?_⟩
  rw [← cnt_perm (bpl_perm he hd k) t]
  have := h.idle t.toNat (by omega)
  unfold idl at this
  rw [Int.toNat_of_nonneg h0] at this
  omega
theorem best_right {e : Int × Int} {day : List Show} (he : okE e) (hd : ∀ s ∈ day, okS s) {k : Nat} (hk : 0 < k) : mostC e day k = dualOf k e day (bPr e day k) ∧ (bPr e day k).length = 24 ∧ ∀ t, t < 24 → 0 ≤ getI (bPr e day k) t := by
  obtain ⟨a, _, b⟩ := best_stand he hd k
  obtain ⟨s1, s2⟩ := strong he hd a (b hk).1
  exact ⟨by unfold mostC; rw [← worth_perm (bpl_perm he hd k)]; exact s1, prices_len _, s2⟩
theorem most_ge {e : Int × Int} {day : List Show} (he : okE e) (hd : ∀ s ∈ day, okS s) {k : Nat} (hk : 0 < k) {ps : List Int} (hn : ps.Nodup) (hp : okP day.length ps) (hc : CanL k e day ps) : worthOf day ps ≤ mostC e day k := by
  obtain ⟨a, b, c⟩ := best_right he hd hk
  rw [a]
  exact weak he hd b c hn hp hc
end Pl

/-! plain: the most by all subsets; what it does with tuners, edges, broadcasts -/
namespace Pl
def bitOf (m p : Nat) : Bool := decide (m / 2 ^ p % 2 = 1)
def subM (n m : Nat) : List Int := ((List.range n).filter fun p => bitOf m p).map fun (p : Nat) => (p : Int)
theorem bits_of (g : Nat → Bool) : ∀ n, ∃ m, m < 2 ^ n ∧ ∀ i, i < n → bitOf m i = g i
  | 0 => ⟨0, by simp, fun i h => absurd h (Nat.not_lt_zero i)⟩
  | n + 1 => by
    obtain ⟨m, h1, h2⟩ := bits_of (fun i => g (i + 1)) n
    refine ⟨2 * m + (if g 0 then 1 else 0), ?_, fun i hi => ?_⟩
    · rw [Nat.pow_succ]
      split <;> omega
    · cases i with
      | zero =>
        unfold bitOf
        rw [Nat.pow_zero, Nat.div_one]
        cases g 0 <;> simp <;> omega
      | succ i =>
        rw [← h2 i (by omega)]
        unfold bitOf
        have : (2 * m + (if g 0 then 1 else 0)) / 2 ^ (i + 1) = m / 2 ^ i := by
          rw [Nat.pow_succ', ← Nat.div_div_eq_div_mul]
          congr 1
          split <;> omega
        rw [this]
theorem subM_mem {n m : Nat} {p : Int} : p ∈ subM n m ↔ (0 ≤ p ∧ p < n) ∧ bitOf m p.toNat = true := by
  unfold subM
  rw [List.mem_map]
  constructor
  · rintro ⟨i, hi, rfl⟩
    obtain ⟨h1, h2⟩ := List.mem_filter.mp hi
    have := List.mem_range.mp h1
    exact ⟨by omega, by simpa using h2⟩
  · rintro ⟨h1, h2⟩
    exact ⟨p.toNat, List.mem_filter.mpr ⟨List.mem_range.mpr (by omega), h2⟩, by omega⟩
theorem subM_nodup (n m : Nat) : (subM n m).Nodup := by
  unfold subM List.Nodup
  rw [List.pairwise_map]
  exact (List.nodup_range.filter _).imp fun h e => h (by omega)
def lmGo (k : Int) (e : Int × Int) (day : List Show) (found : Int) (m : Nat) : Int := if found < worthOf day (subM day.length m) ∧ full k e day (subM day.length m) = [] then worthOf day (subM day.length m) else found
def lmost (k : Int) (e : Int × Int) (day : List Show) : Int := (List.range (2 ^ day.length)).foldl (lmGo k e day) 0
theorem lm_fold {k : Int} {e : Int × Int} {day : List Show} : ∀ (L : List Nat) (f : Int), f ≤ L.foldl (lmGo k e day) f ∧ (∀ m ∈ L, full k e day (subM day.length m) = [] → worthOf day (subM day.length m) ≤ L.foldl (lmGo k e day) f) ∧ (L.foldl (lmGo k e day) f = f ∨ ∃ m ∈ L, full k e day (subM day.length m) = [] ∧ L.foldl (lmGo k e day) f = worthOf day (subM day.length m))
  | [], f => ⟨Int.le_refl _, fun m hm => (by cases hm), .inl rfl⟩
  | m :: L, f => by
    obtain ⟨a, b, c⟩ := lm_fold (k := k) (e := e) (day := day) L (lmGo k e day f m)
    rw [List.foldl_cons]
    have h1 : f ≤ lmGo k e day f m := by
      unfold lmGo
      split
      · omega
      · exact Int.le_refl _
    have h2 : full k e day (subM day.length m) = [] → worthOf day (subM day.length m) ≤ lmGo k e day f m := fun hf => by
      unfold lmGo
      split
      · exact Int.le_refl _
      · rename_i z
        by_cases q : f < worthOf day (subM day.length m)
        · exact absurd ⟨q, hf⟩ z
        · omega
    refine ⟨Int.le_trans h1 a, fun m' hm hf => ?_, ?_⟩
    · rcases List.mem_cons.mp hm with rfl | hm
      · exact Int.le_trans (h2 hf) a
      · exact b m' hm hf
    · rcases c with c | ⟨m', hm, hf, hw⟩
      · rw [c]
        unfold lmGo
        split
        · rename_i z
          exact .inr ⟨m, by simp, z.2, rfl⟩
        · exact .inl rfl
      · exact .inr ⟨m', List.mem_cons_of_mem _ hm, hf, hw⟩
theorem worth_nonneg {day : List Show} {ps : List Int} (hd : ∀ s ∈ day, okS s) (hp : okP day.length ps) : 0 ≤ worthOf day ps := by
  induction ps with
  | nil => exact Int.le_refl _
  | cons p ps ih =>
    have h1 := ih fun q hq => hp q (List.mem_cons_of_mem _ hq)
    have h2 := (hd _ (shAt_mem (hp p (by simp)).1 (hp p (by simp)).2)).2.2.2.1
    unfold worthOf at *
    rw [List.map_cons, List.sum_cons]
    omega
theorem most_nonneg {e : Int × Int} {day : List Show} (he : okE e) (hd : ∀ s ∈ day, okS s) (k : Nat) : 0 ≤ mostC e day k := worth_nonneg hd (bpl_ok he hd k).1.1
theorem canL_full {k : Nat} {e : Int × Int} {day : List Show} {ps : List Int} : CanL k e day ps ↔ full (k : Int) e day ps = [] := full_nil.symm
theorem lmost_eq {k : Nat} {e : Int × Int} {day : List Show} (he : okE e) (hd : ∀ s ∈ day, okS s) (hk : 0 < k) : lmost (k : Int) e day = mostC e day k := by
  obtain ⟨a, b, c⟩ := lm_fold (k := (k : Int)) (e := e) (day := day) (List.range (2 ^ day.length)) 0
  have up : lmost (k : Int) e day ≤ mostC e day k := by
    rcases c with c | ⟨m, hm, hf, hw⟩
    · show (List.range (2 ^ day.length)).foldl (lmGo k e day) 0 ≤ _
      rw [c]
      exact most_nonneg he hd k
    · show (List.range (2 ^ day.length)).foldl (lmGo k e day) 0 ≤ _
      rw [hw]
      exact most_ge he hd hk (subM_nodup _ _) (fun p hp => (subM_mem.mp hp).1) (canL_full.mpr hf)
  obtain ⟨m, hm, hb⟩ := bits_of (fun i => (bPl e day k).contains (i : Int)) day.length
  obtain ⟨⟨ok, pw⟩, cl⟩ := bpl_ok he hd k
  have pm : (subM day.length m).Perm (bPl e day k) := perm_of_mem (subM_nodup _ _) (nodup_rising pw) fun p => by
    rw [subM_mem]
    constructor
    · rintro ⟨h1, h2⟩
      rw [hb p.toNat (by omega)] at h2
      rw [Int.toNat_of_nonneg h1.1] at h2
      simpa using h2
    · intro hp
      obtain ⟨p0, p1⟩ := ok p hp
      refine ⟨⟨p0, p1⟩, ?_⟩
      rw [hb p.toNat (by omega), Int.toNat_of_nonneg p0]
      simpa using hp
  have lo := b m (List.mem_range.mpr hm) ((full_perm pm).mpr (canL_full.mp cl))
  rw [worth_perm pm] at lo
  have lo : mostC e day k ≤ lmost (k : Int) e day := lo
  omega
/-! ### tuners -/
theorem most_up {e : Int × Int} {day : List Show} (he : okE e) (hd : ∀ s ∈ day, okS s) {k j : Nat} (hk : 0 < k) (h : k ≤ j) : mostC e day k ≤ mostC e day j := by
  obtain ⟨⟨ok, pw⟩, cl⟩ := bpl_ok he hd k
  exact most_ge he hd (by omega) (nodup_rising pw) ok fun t h0 h1 => Nat.le_trans (cl t h0 h1) h
/-- by the prices of k tuners -/
theorem most_by {e : Int × Int} {day : List Show} (he : okE e) (hd : ∀ s ∈ day, okS s) {k j : Nat} (hk : 0 < k) (hj : 0 < j) : mostC e day j ≤ mostC e day k + ((j : Int) - k) * (bPr e day k).sum := by
  obtain ⟨a, b, c⟩ := best_right he hd hk
  obtain ⟨⟨ok, pw⟩, cl⟩ := bpl_ok he hd j
  have w := weak he hd b c (nodup_rising pw) ok cl
  have w : mostC e day j ≤ dualOf j e day (bPr e day k) := w
  unfold dualOf at w a
  rw [Int.sub_mul]
  omega
theorem sum_nn : ∀ (l : List Int), (∀ v, v < l.length → 0 ≤ getI l v) → 0 ≤ l.sum := fun l h => by
  have := sum_lb l 0 h
  omega
theorem prices_le {e : Int × Int} {day : List Show} (he : okE e) (hd : ∀ s ∈ day, okS s) {k : Nat} (hk : 0 < k) : (k : Int) * (bPr e day k).sum ≤ mostC e day k := by
  obtain ⟨a, b, c⟩ := best_right he hd hk
  rw [a]
  unfold dualOf
  have : 0 ≤ (day.map fun s => overOf e s (bPr e day k)).sum := by
    have g : ∀ l : List Show, 0 ≤ (l.map fun s => overOf e s (bPr e day k)).sum := fun l => by
      induction l with
      | nil => exact Int.le_refl _
      | cons s l ih =>
        rw [List.map_cons, List.sum_cons]
        have : 0 ≤ overOf e s (bPr e day k) := Int.le_max_left _ _
        omega
    exact g day
  omega
theorem most_concave {e : Int × Int} {day : List Show} (he : okE e) (hd : ∀ s ∈ day, okS s) : 0 ≤ mostC e day 3 - mostC e day 2 ∧ mostC e day 3 - mostC e day 2 ≤ mostC e day 2 - mostC e day 1 ∧ mostC e day 2 - mostC e day 1 ≤ mostC e day 1 := by
  have a := most_up he hd (k := 2) (j := 3) (by decide) (by decide)
  have b := most_by he hd (k := 2) (j := 3) (by decide) (by decide)
  have c := most_by he hd (k := 2) (j := 1) (by decide) (by decide)
  have d := most_by he hd (k := 1) (j := 2) (by decide) (by decide)
  have f := prices_le he hd (k := 1) (by decide)
  have e1 : (((3 : Nat) : Int) - (2 : Nat)) * (bPr e day 2).sum = (bPr e day 2).sum := by omega
  have e2 : (((1 : Nat) : Int) - (2 : Nat)) * (bPr e day 2).sum = -(bPr e day 2).sum := by omega
  have e3 : (((2 : Nat) : Int) - (1 : Nat)) * (bPr e day 1).sum = (bPr e day 1).sum := by omega
  rw [e1] at b
  rw [e2] at c
  rw [e3] at d
  omega
theorem shAt_app {day : List Show} {s : Show} {p : Int} (h0 : 0 ≤ p) (h1 : p < day.length) : shAt (day ++ [s]) p = shAt day p := by
  unfold shAt
  rw [List.getD_eq_getElem?_getD, List.getD_eq_getElem?_getD, List.getElem?_append_left (by omega)]
theorem most_more {e : Int × Int} {day : List Show} {s : Show} (he : okE e) (hd : ∀ s ∈ day, okS s) (hs : okS s) {k : Nat} (hk : 0 < k) : mostC e day k ≤ mostC e (day ++ [s]) k := by
  obtain ⟨⟨ok, pw⟩, cl⟩ := bpl_ok he hd k
  have hd' : ∀ x ∈ day ++ [s], okS x := fun x hx => by
    rcases List.mem_append.mp hx with hx | hx
    · exact hd x hx
    · have : x = s := by simpa using hx
      subst this; exact hs
  have cg : ∀ (f : Show → Int), ((bPl e day k).map fun p => f (shAt day p)) = (bPl e day k).map fun p => f (shAt (day ++ [s]) p) := fun f => List.map_congr_left fun p hp => by rw [shAt_app (ok p hp).1 (ok p hp).2]
  have h := most_ge (ps := bPl e day k) he hd' hk (nodup_rising pw) (fun p hp => ⟨(ok p hp).1, by rw [List.length_append]; have := (ok p hp).2; simp; omega⟩) fun t h0 h1 => by
    have c := cl t h0 h1
    unfold cnt at c ⊢
    have : (bPl e day k).filter (fun p => inH (held e (shAt (day ++ [s]) p)) t) = (bPl e day k).filter fun p => inH (held e (shAt day p)) t := List.filter_congr fun p hp => by rw [shAt_app (ok p hp).1 (ok p hp).2]
    rw [this]
    exact c
  unfold worthOf at h
  rw [← cg fun s => s.2.2] at h
  exact h
theorem most_calm {e : Int × Int} {day : List Show} (he : okE e) (hd : ∀ s ∈ day, okS s) {k : Nat} (hk : 0 < k) : mostC e day k ≤ mostC (0, 0) day k := by
  obtain ⟨⟨ok, pw⟩, cl⟩ := bpl_ok he hd k
  refine most_ge (ps := bPl e day k) (by simp [okE]) hd hk (nodup_rising pw) ok fun t h0 h1 => Nat.le_trans ?_ (cl t h0 h1)
  unfold cnt
  refine (List.Sublist.length_le ?_)
  have : (bPl e day k).filter (fun p => inH (held (0, 0) (shAt day p)) t) = ((bPl e day k).filter fun p => inH (held e (shAt day p)) t).filter fun p => inH (held (0, 0) (shAt day p)) t := by
    rw [List.filter_filter]
    refine List.filter_congr fun p hp => ?_
    by_cases c : inH (held (0, 0) (shAt day p)) t = true
    · have hs := hd _ (shAt_mem (ok p hp).1 (ok p hp).2)
      have c2 : inH (held e (shAt day p)) t = true := by
        unfold inH held at *
        obtain ⟨e1, e2, e3, e4⟩ := he
        simp only [decide_eq_true_eq] at *
        omega
      rw [c, c2]; rfl
    · have c' : inH (held (0, 0) (shAt day p)) t = false := by simpa using c
      rw [c']; rfl
  rw [this]
  exact List.filter_sublist
end Pl

/-! plain: worths twice as great, the day mirrored -/
namespace Pl
theorem shAt_map {day : List Show} {f : Show → Show} {p : Int} (h0 : 0 ≤ p) (h1 : p < day.length) : shAt (day.map f) p = f (shAt day p) := by
  unfold shAt
  have hl : p.toNat < day.length := by omega
  rw [List.getD_eq_getElem?_getD, List.getD_eq_getElem?_getD, List.getElem?_map, List.getElem?_eq_getElem hl]
  rfl
/-- places of one day, in another with the same moments -/
theorem canL_congr {k : Nat} {e e' : Int × Int} {day day' : List Show} {ps : List Int} (h : ∀ p ∈ ps, held e (shAt day p) = held e' (shAt day' p)) (c : CanL k e day ps) : CanL k e' day' ps := fun t h0 h1 => by
  have := c t h0 h1
  unfold cnt at this ⊢
  have e1 : ps.filter (fun p => inH (held e' (shAt day' p)) t) = ps.filter fun p => inH (held e (shAt day p)) t := List.filter_congr fun p hp => by rw [h p hp]
  rw [e1]
  exact this
def twice (s : Show) : Show := (s.1, s.2.1, 2 * s.2.2)
theorem worth_twice {day : List Show} : ∀ {ps : List Int}, okP day.length ps → worthOf (day.map twice) ps = 2 * worthOf day ps
  | [], _ => rfl
  | p :: ps, h => by
    have ih := worth_twice fun q hq => h q (List.mem_cons_of_mem _ hq)
    unfold worthOf at *
    rw [List.map_cons, List.sum_cons, List.map_cons, List.sum_cons, ih, shAt_map (h p (by simp)).1 (h p (by simp)).2]
    show 2 * (shAt day p).2.2 + _ = _
    omega
theorem most_twice {e : Int × Int} {day : List Show} (he : okE e) (hd : ∀ s ∈ day, okS s) (hd2 : ∀ s ∈ day.map twice, okS s) {k : Nat} (hk : 0 < k) : mostC e (day.map twice) k = 2 * mostC e day k := by
  obtain ⟨⟨ok, pw⟩, cl⟩ := bpl_ok he hd k
  obtain ⟨⟨ok2, pw2⟩, cl2⟩ := bpl_ok he hd2 k
  have ln : (day.map twice).length = day.length := List.length_map ..
  rw [ln] at ok2
  have a := most_ge he hd2 hk (ps := bPl e day k) (nodup_rising pw) (by rw [ln]; exact ok) (canL_congr (fun p hp => by rw [shAt_map (ok p hp).1 (ok p hp).2]; rfl) cl)
  have b := most_ge he hd hk (ps := bPl e (day.map twice) k) (nodup_rising pw2) ok2 (canL_congr (fun p hp => by rw [shAt_map (ok2 p hp).1 (ok2 p hp).2]; rfl) cl2)
  rw [worth_twice ok] at a
  have c := worth_twice ok2
  have c : mostC e (day.map twice) k = 2 * worthOf day (bPl e (day.map twice) k) := c
  have d : worthOf day (bPl e day k) = mostC e day k := rfl
  omega
/-! mirrored -/
def mirS (s : Show) : Show := (24 - s.2.1, 24 - s.1, s.2.2)
def mirD (day : List Show) : List Show := day.reverse.map mirS
def swE (e : Int × Int) : Int × Int := (e.2, e.1)
theorem mir_mir (day : List Show) : mirD (mirD day) = day := by
  unfold mirD
  rw [← List.map_reverse, List.map_map, List.reverse_reverse]
  conv => rhs; rw [← List.map_id day]
  refine List.map_congr_left fun s _ => ?_
  obtain ⟨a, b, c⟩ := s
  show (24 - (24 - a), 24 - (24 - b), c) = _
  have e1 : (24 : Int) - (24 - a) = a := by omega
  have e2 : (24 : Int) - (24 - b) = b := by omega
  rw [e1, e2]
  rfl
theorem mir_ok {day : List Show} (hd : ∀ s ∈ day, okS s) : ∀ s ∈ mirD day, okS s := fun s hs => by
  obtain ⟨r, hr, rfl⟩ := List.mem_map.mp hs
  obtain ⟨a, b, c, d, f⟩ := hd r (List.mem_reverse.mp hr)
  unfold okS mirS
  dsimp
  omega
theorem mir_len (day : List Show) : (mirD day).length = day.length := by simp [mirD]
theorem shAt_mir {day : List Show} {p : Int} (h0 : 0 ≤ p) (h1 : p < day.length) : shAt (mirD day) ((day.length : Int) - 1 - p) = mirS (shAt day p) := by
  unfold mirD
  rw [shAt_map (by omega) (by rw [List.length_reverse]; omega)]
  congr 1
  unfold shAt
  rw [List.getD_eq_getElem?_getD, List.getD_eq_getElem?_getD, List.getElem?_reverse (by omega)]
  have e : day.length - 1 - ((day.length : Int) - 1 - p).toNat = p.toNat := by omega
  rw [e]
theorem held_mir {e : Int × Int} {s : Show} (he : okE e) (hs : okS s) {t : Int} (h0 : 0 ≤ t) (h1 : t < 24) : inH (held (swE e) (mirS s)) t = inH (held e s) (23 - t) := by
  obtain ⟨a, b, c, d, f⟩ := hs
  obtain ⟨e1, e2, e3, e4⟩ := he
  unfold inH held swE mirS
  dsimp
  rw [Bool.eq_iff_iff]
  simp only [decide_eq_true_eq]
  omega
def mirP (n : Nat) (ps : List Int) : List Int := ps.map fun p => (n : Int) - 1 - p
theorem mirP_ok {n : Nat} {ps : List Int} (h : okP n ps) : okP n (mirP n ps) := fun p hp => by
  obtain ⟨q, hq, rfl⟩ := List.mem_map.mp hp
  have := h q hq
  omega
theorem mirP_nodup {n : Nat} {ps : List Int} (h : ps.Nodup) : (mirP n ps).Nodup := by
  unfold mirP List.Nodup
  rw [List.pairwise_map]
  exact h.imp fun hne e => hne (by omega)
theorem mirP_worth {day : List Show} : ∀ {ps : List Int}, okP day.length ps → worthOf (mirD day) (mirP day.length ps) = worthOf day ps
  | [], _ => rfl
  | p :: ps, h => by
    have ih := mirP_worth fun q hq => h q (List.mem_cons_of_mem _ hq)
    unfold worthOf mirP at *
    rw [List.map_cons, List.map_cons, List.sum_cons, List.map_cons, List.sum_cons, ih, shAt_mir (h p (by simp)).1 (h p (by simp)).2]
    rfl
theorem mirP_can {k : Nat} {e : Int × Int} {day : List Show} {ps : List Int} (he : okE e) (hd : ∀ s ∈ day, okS s) (h : okP day.length ps) (c : CanL k e day ps) : CanL k (swE e) (mirD day) (mirP day.length ps) := fun t h0 h1 => by
  have := c (23 - t) (by omega) (by omega)
  unfold cnt mirP at *
  rw [List.filter_map, List.length_map]
  have e1 : ps.filter ((fun p => inH (held (swE e) (shAt (mirD day) p)) t) ∘ fun p => (day.length : Int) - 1 - p) = ps.filter fun p => inH (held e (shAt day p)) (23 - t) := List.filter_congr fun p hp => by
    show inH (held (swE e) (shAt (mirD day) ((day.length : Int) - 1 - p))) t = _
    rw [shAt_mir (h p hp).1 (h p hp).2, held_mir he (hd _ (shAt_mem (h p hp).1 (h p hp).2)) h0 h1]
  rw [e1]
  exact this
theorem most_mir_le {e : Int × Int} {day : List Show} (he : okE e) (hd : ∀ s ∈ day, okS s) {k : Nat} (hk : 0 < k) : mostC e day k ≤ mostC (swE e) (mirD day) k := by
  obtain ⟨⟨ok, pw⟩, cl⟩ := bpl_ok he hd k
  have a := most_ge (ps := mirP day.length (bPl e day k)) (show okE (swE e) from ⟨he.2.2.1, he.2.2.2, he.1, he.2.1⟩) (mir_ok hd) hk (mirP_nodup (nodup_rising pw)) (by rw [mir_len]; exact mirP_ok ok) (mirP_can he hd ok cl)
  rw [mirP_worth ok] at a
  exact a
theorem most_mir {e : Int × Int} {day : List Show} (he : okE e) (hd : ∀ s ∈ day, okS s) {k : Nat} (hk : 0 < k) : mostC (swE e) (mirD day) k = mostC e day k := by
  have a := most_mir_le he hd hk
  have b := most_mir_le (e := swE e) (day := mirD day) ⟨he.2.2.1, he.2.2.2, he.1, he.2.1⟩ (mir_ok hd) hk
  rw [mir_mir] at b
  have e1 : swE (swE e) = e := rfl
  rw [e1] at b
  omega
/-! ten alike -/
theorem most_alike : mostC (2, 2) (List.replicate 10 (0, 24, 60)) 3 = 180 := by
  have hd : ∀ s ∈ List.replicate 10 ((0, 24, 60) : Show), okS s := fun s hs => by
    rw [List.eq_of_mem_replicate hs]
    simp [okS]
  have he : okE (2, 2) := by simp [okE]
  have hat : ∀ p : Int, 0 ≤ p → p < 10 → shAt (List.replicate 10 ((0, 24, 60) : Show)) p = (0, 24, 60) := fun p h0 h1 => by
    unfold shAt
    rw [List.getD_eq_getElem?_getD, List.getElem?_replicate, if_pos (by omega)]
    rfl
  have worth : ∀ {ps : List Int}, okP 10 ps → worthOf (List.replicate 10 ((0, 24, 60) : Show)) ps = 60 * ps.length := fun {ps} => by
    induction ps with
    | nil => intro _; rfl
    | cons p ps ih =>
      intro h
      have := ih fun q hq => h q (List.mem_cons_of_mem _ hq)
      unfold worthOf at *
      rw [List.map_cons, List.sum_cons, this, hat p (h p (by simp)).1 (h p (by simp)).2, List.length_cons]
      show 60 + _ = _
      omega
  have cn : ∀ {ps : List Int}, okP 10 ps → cnt (2, 2) (List.replicate 10 ((0, 24, 60) : Show)) ps 0 = ps.length := fun {ps} h => by
    unfold cnt
    rw [List.filter_eq_self.mpr fun p hp => by rw [hat p (h p hp).1 (h p hp).2]; decide]
  have ln : (List.replicate 10 ((0, 24, 60) : Show)).length = 10 := by simp
  obtain ⟨⟨ok, pw⟩, cl⟩ := bpl_ok he hd 3
  rw [ln] at ok
  have c0 := cl 0 (by decide) (by decide)
  rw [cn ok] at c0
  have up : mostC (2, 2) (List.replicate 10 (0, 24, 60)) 3 = 60 * (bPl (2, 2) (List.replicate 10 (0, 24, 60)) 3).length := worth ok
  have ok3 : okP 10 [0, 1, 2] := fun p hp => by
    simp at hp
    omega
  have lo := most_ge he hd (k := 3) (by decide) (ps := [0, 1, 2]) (by decide) (by rw [ln]; exact ok3) fun t _ _ => by
    unfold cnt
    exact Nat.le_trans (List.length_filter_le _ _) (by decide)
  rw [worth ok3] at lo
  have l3 : ([0, 1, 2] : List Int).length = 3 := rfl
  rw [l3] at lo
  omega
end Pl

/-! layings: can be, all ways, laid anew -/
namespace Pl
def hp (e : Int × Int) (day : List Show) (ps : List Int) (i : Nat) : Int × Int := held e (shAt day (getI ps i))
def clash (e : Int × Int) (day : List Show) (ps lay : List Int) (i j : Nat) : Bool := decide (getI lay i = getI lay j) && (decide ((hp e day ps i).1 < (hp e day ps j).2) && decide ((hp e day ps j).1 < (hp e day ps i).2))
def canN (e : Int × Int) (day : List Show) (ps lay : List Int) (n : Nat) : Bool := (List.range n).all fun i => (List.range i).all fun j => !clash e day ps lay i j
def canBe (e : Int × Int) (day : List Show) (ps lay : List Int) : Bool := canN e day ps lay ps.length
theorem canN_iff {e : Int × Int} {day : List Show} {ps lay : List Int} {n : Nat} : canN e day ps lay n = true ↔ ∀ i, i < n → ∀ j, j < i → clash e day ps lay i j = false := by
  unfold canN
  simp only [List.all_eq_true, List.mem_range, Bool.not_eq_true']
theorem clash_congr {e : Int × Int} {day : List Show} {ps qs lay lay' : List Int} {i j : Nat} (h1 : getI ps i = getI qs i) (h2 : getI ps j = getI qs j) (h3 : getI lay i = getI lay' i) (h4 : getI lay j = getI lay' j) : clash e day ps lay i j = clash e day qs lay' i j := by
  unfold clash hp
  rw [h1, h2, h3, h4]
theorem getI_take {l : List Int} {n i : Nat} (h : i < n) : getI (l.take n) i = getI l i := by
  unfold getI
  rw [List.getD_eq_getElem?_getD, List.getD_eq_getElem?_getD, List.getElem?_take, if_pos h]
theorem getI_app {l r : List Int} {i : Nat} (h : i < l.length) : getI (l ++ r) i = getI l i := by
  unfold getI
  rw [List.getD_eq_getElem?_getD, List.getD_eq_getElem?_getD, List.getElem?_append_left h]
theorem can_take {e : Int × Int} {day : List Show} {ps lay : List Int} {n : Nat} (hn : n ≤ ps.length) : canBe e day (ps.take n) lay = canN e day ps lay n := by
  unfold canBe
  rw [List.length_take, Nat.min_eq_left hn, Bool.eq_iff_iff, canN_iff, canN_iff]
  constructor
  · intro h i hi j hj
    rw [← h i hi j hj]
    exact clash_congr (getI_take hi).symm (getI_take (by omega)).symm rfl rfl
  · intro h i hi j hj
    rw [← h i hi j hj]
    exact clash_congr (getI_take hi) (getI_take (by omega)) rfl rfl
/-! all ways -/
def longer (m : Nat) (found : List (List Int)) : List (List Int) := found.flatMap fun l => (List.range m).map fun (t : Nat) => l ++ [(t : Int)]
def wayStep (m : Nat) (e : Int × Int) (day : List Show) (ps : List Int) (found : List (List Int)) (i : Nat) : List (List Int) := (longer m found).filter fun l => canBe e day (ps.take (i + 1)) l
def waysN (m : Nat) (e : Int × Int) (day : List Show) (ps : List Int) (n : Nat) : List (List Int) := (List.range n).foldl (wayStep m e day ps) [[]]
def ways (m : Nat) (e : Int × Int) (day : List Show) (ps : List Int) : List (List Int) := waysN m e day ps ps.length
theorem waysN_succ (m : Nat) (e : Int × Int) (day : List Show) (ps : List Int) (n : Nat) : waysN m e day ps (n + 1) = wayStep m e day ps (waysN m e day ps n) n := by
  unfold waysN
  rw [List.range_succ, List.foldl_append]
  rfl
def inT (m : Nat) (l : List Int) : Prop := ∀ t ∈ l, 0 ≤ t ∧ t < m
theorem mem_longer {m : Nat} {found : List (List Int)} {l : List Int} : l ∈ longer m found ↔ ∃ r ∈ found, ∃ t : Nat, t < m ∧ l = r ++ [(t : Int)] := by
  unfold longer
  rw [List.mem_flatMap]
  constructor
  · rintro ⟨r, hr, h⟩
    obtain ⟨t, ht, rfl⟩ := List.mem_map.mp h
    exact ⟨r, hr, t, List.mem_range.mp ht, rfl⟩
  · rintro ⟨r, hr, t, ht, rfl⟩
    exact ⟨r, hr, List.mem_map.mpr ⟨t, List.mem_range.mpr ht, rfl⟩⟩
theorem mem_waysN {m : Nat} {e : Int × Int} {day : List Show} {ps : List Int} : ∀ {n : Nat} {l : List Int}, n ≤ ps.length → (l ∈ waysN m e day ps n ↔ l.length = n ∧ inT m l ∧ canN e day ps l n = true)
  | 0, l, _ => by
    unfold waysN
    simp only [List.range_zero, List.foldl_nil, List.mem_singleton]
    constructor
    · rintro rfl
      exact ⟨rfl, fun t ht => (by cases ht), rfl⟩
    · rintro ⟨h, _⟩
      exact List.length_eq_zero_iff.mp h
  | n + 1, l, hn => by
    rw [waysN_succ]
    unfold wayStep
    rw [List.mem_filter, mem_longer, can_take hn]
    constructor
    · rintro ⟨⟨r, hr, t, ht, rfl⟩, hc⟩
      obtain ⟨h1, h2, h3⟩ := (mem_waysN (by omega)).mp hr
      refine ⟨by simp [h1], fun u hu => ?_, hc⟩
      rcases List.mem_append.mp hu with hu | hu
      · exact h2 u hu
      · have : u = (t : Int) := by simpa using hu
        omega
    · rintro ⟨h1, h2, h3⟩
      have hne : l ≠ [] := fun z => by rw [z] at h1; simp at h1
      have e1 : l = l.dropLast ++ [l.getLast hne] := (List.dropLast_concat_getLast hne).symm
      have hl := h2 _ (List.getLast_mem hne)
      generalize l.getLast hne = t at *
      generalize l.dropLast = r at *
      subst e1
      have hrl : r.length = n := by simpa using h1
      refine ⟨⟨r, (mem_waysN (by omega)).mpr ⟨hrl, fun u hu => h2 u (List.mem_append_left _ hu), ?_⟩, t.toNat, by omega, by rw [Int.toNat_of_nonneg hl.1]⟩, h3⟩
      rw [canN_iff] at h3 ⊢
      intro i hi j hj
      rw [← h3 i (by omega) j hj]
      exact clash_congr rfl rfl (getI_app (by omega)).symm (getI_app (by omega)).symm
theorem mem_ways {m : Nat} {e : Int × Int} {day : List Show} {ps l : List Int} : l ∈ ways m e day ps ↔ l.length = ps.length ∧ inT m l ∧ canBe e day ps l = true := mem_waysN (Nat.le_refl _)
theorem longer_len (m : Nat) : ∀ found : List (List Int), (longer m found).length = m * found.length
  | [] => by simp [longer]
  | l :: found => by
    have ih := longer_len m found
    unfold longer at ih ⊢
    rw [List.flatMap_cons, List.length_append, ih, List.length_cons, List.length_map, List.length_range, Nat.mul_succ, Nat.add_comm]
theorem waysN_le {m : Nat} {e : Int × Int} {day : List Show} {ps : List Int} : ∀ n, (waysN m e day ps n).length ≤ m ^ n
  | 0 => by simp [waysN]
  | n + 1 => by
    rw [waysN_succ]
    unfold wayStep
    refine Nat.le_trans (List.length_filter_le _ _) ?_
    rw [longer_len, Nat.pow_succ, Nat.mul_comm]
    exact Nat.mul_le_mul_right m (waysN_le n)
/-! what laid_of finds -/
theorem laidGo_found {m : Nat} : ∀ (l : List Ln) (dn : List (Ln × Nat)) (free found : List Int) (f : Int), InvG m (dn.map fun x => ⟨x.1.1, x.2⟩) free f → (∀ x ∈ l, f ≤ x.1.1 ∧ 0 ≤ x.1.1 ∧ x.1.1 < x.1.2) → (l.Pairwise fun a b => a.1.1 ≤ b.1.1) →
    (∀ x ∈ l, 0 ≤ x.2 ∧ x.2.toNat < found.length) → ((dn.map fun x => x.1.2.toNat) ++ l.map fun x => x.2.toNat).Nodup → (∀ x ∈ dn, getI found x.1.2.toNat = (x.2 : Int)) → (laidGo m l free found).2 = none →
    ∃ dn' : List (Ln × Nat), dn'.map (·.1) = dn.map (·.1) ++ l ∧ (dn'.Pairwise fun x y => x.2 = y.2 → x.1.1.2 ≤ y.1.1.1) ∧ (∀ x ∈ dn', x.2 < m ∧ getI (laidGo m l free found).1 x.1.2.toNat = (x.2 : Int)) ∧ (laidGo m l free found).1.length = found.length
  | [], dn, free, found, f, g, _, _, _, _, hf, _ => by
    refine ⟨dn, by simp, ?_, fun x hx => ⟨(g.lo _ (List.mem_map.mpr ⟨x, hx, rfl⟩)).1, hf x hx⟩, rfl⟩
    have := g.pw
    rw [List.pairwise_map] at this
    exact this
  | x :: r, dn, free, found, f, g, hx, pw, hin, nd, hf, hn => by
    have px := List.pairwise_cons.mp pw
    obtain ⟨x1, x2, x3⟩ := hx x (by simp)
    unfold laidGo at hn ⊢
    cases ho : opens m free x.1.1 with
    | nil => rw [ho] at hn; cases hn
    | cons o os =>
      rw [ho] at hn
      dsimp only at hn ⊢
      have hm : o ∈ opens m free x.1.1 := by rw [ho]; simp
      have g' := invG_turn g x1 x2 x3 hm
      have xin := hin x (by simp)
      have e1 : (dn.map fun x => (⟨x.1.1, x.2⟩ : Dn)) ++ [⟨x.1, o⟩] = (dn ++ [(x, o)]).map fun x => ⟨x.1.1, x.2⟩ := by simp
      rw [e1] at g'
      have nd' : (((dn ++ [(x, o)]).map fun x => x.1.2.toNat) ++ r.map fun x => x.2.toNat).Nodup := by
        simpa using nd
      have ih := laidGo_found r (dn ++ [(x, o)]) (free.set o x.1.2) (found.set x.2.toNat (o : Int)) x.1.1 g' (fun y hy => ⟨px.1 y hy, (hx y (List.mem_cons_of_mem _ hy)).2⟩) px.2 (fun y hy => by rw [List.length_set]; exact hin y (List.mem_cons_of_mem _ hy)) nd' (fun y hy => ?_) hn
      · obtain ⟨dn', h1, h2, h3, h4⟩ := ih
        exact ⟨dn', by rw [h1]; simp, h2, h3, by rw [h4, List.length_set]⟩
      · rw [getI_set xin.2]
        rcases List.mem_append.mp hy with hy | hy
        · have ne : y.1.2.toNat ≠ x.2.toNat := fun z => by
            have := (List.nodup_append.mp nd).2.2 _ (List.mem_map.mpr ⟨y, hy, rfl⟩) _ (List.mem_map.mpr ⟨x, by simp, rfl⟩)
            exact this z
          rw [if_neg ne]
          exact hf y hy
        · have : y = (x, o) := by simpa using hy
          subst this
          rw [if_pos rfl]
theorem laid_found {m : Nat} {e : Int × Int} {day : List Show} {ps : List Int} (he : okE e) (hd : ∀ s ∈ day, okS s) (hp' : okP day.length ps) (hn : (laidOf m e day ps).2 = none) : (laidOf m e day ps).1.length = ps.length ∧ inT m (laidOf m e day ps).1 ∧ canBe e day ps (laidOf m e day ps).1 = true := by
  have pm : ((lineOf e day ps).mergeSort leL).Perm (lineOf e day ps) := List.mergeSort_perm _ _
  have lat : ∀ i, i < ps.length → (lineOf e day ps)[i]? = some (hp e day ps i, (i : Int)) := fun i hi => by
    unfold lineOf hp getI
    rw [List.getElem?_mapIdx, List.getElem?_eq_getElem hi, List.getD_eq_getElem?_getD, List.getElem?_eq_getElem hi]
    rfl
  have lln : (lineOf e day ps).length = ps.length := by simp [lineOf]
  have ok : ∀ x ∈ (lineOf e day ps).mergeSort leL, 0 ≤ x.1.1 ∧ 0 ≤ x.1.1 ∧ x.1.1 < x.1.2 := fun x hx => by
    obtain ⟨p, hp1, ex⟩ := line_mem (pm.mem_iff.mp hx)
    obtain ⟨p0, p1⟩ := hp' p hp1
    obtain ⟨a, b, c, d⟩ := held_ok he (hd _ (shAt_mem p0 p1))
    rw [ex]
    exact ⟨a, a, b⟩
  have oki : ∀ x ∈ (lineOf e day ps).mergeSort leL, 0 ≤ x.2 ∧ x.2.toNat < (List.replicate ps.length (0 : Int)).length := fun x hx => by
    obtain ⟨i, hi⟩ := List.getElem?_of_mem (pm.mem_iff.mp hx)
    have hil := (List.getElem?_eq_some_iff.mp hi).1
    rw [lat i (by omega)] at hi
    cases hi
    rw [List.length_replicate]
    dsimp only
    omega
  have nd : (((lineOf e day ps).mergeSort leL).map fun x => x.2.toNat).Nodup := by
    refine (pm.map _).nodup_iff.mpr ?_
    have e1 : ((lineOf e day ps).map fun x => x.2.toNat) = List.range ps.length := by
      apply List.ext_getElem?
      intro i
      rw [List.getElem?_map]
      by_cases c : i < ps.length
      · rw [lat i c, List.getElem?_range c]; rfl
      · rw [List.getElem?_eq_none (by omega), List.getElem?_eq_none (by rw [List.length_range]; omega)]; rfl
    rw [e1]
    exact List.nodup_range
  have h := laidGo_found (m := m) ((lineOf e day ps).mergeSort leL) [] (List.replicate m 0) (List.replicate ps.length 0) 0 (inv0 m) ok (sorted_line _) oki (by simpa using nd) (fun x hx => by cases hx) hn
  have e0 : laidGo m ((lineOf e day ps).mergeSort leL) (List.replicate m 0) (List.replicate ps.length 0) = laidOf m e day ps := rfl
  rw [e0] at h
  obtain ⟨dn, h1, h2, h3, h4⟩ := h
  rw [List.length_replicate] at h4
  have at_ : ∀ i, i < ps.length → ∃ o : Nat, ((hp e day ps i, (i : Int)), o) ∈ dn ∧ o < m ∧ getI (laidOf m e day ps).1 i = (o : Int) := fun i hi => by
    have : (hp e day ps i, (i : Int)) ∈ dn.map (·.1) := by
      rw [h1]
      exact pm.mem_iff.mpr (List.mem_of_getElem? (lat i hi))
    obtain ⟨y, hy, e1⟩ := List.mem_map.mp this
    obtain ⟨a, b⟩ := h3 y hy
    rw [e1] at b
    refine ⟨y.2, ?_, a, ?_⟩
    · rw [← e1]; exact hy
    · simpa using b
  refine ⟨h4, fun t ht => ?_, ?_⟩
  · obtain ⟨i, hi⟩ := List.getElem?_of_mem ht
    have hil := (List.getElem?_eq_some_iff.mp hi).1
    obtain ⟨o, _, a, b⟩ := at_ i (by omega)
    unfold getI at b
    rw [List.getD_eq_getElem?_getD, hi] at b
    have b : t = (o : Int) := b
    omega
  · unfold canBe
    rw [canN_iff]
    intro i hi j hj
    obtain ⟨o, a1, a2, a3⟩ := at_ i hi
    obtain ⟨o', b1, b2, b3⟩ := at_ j (by omega)
    unfold clash
    by_cases c : getI (laidOf m e day ps).1 i = getI (laidOf m e day ps).1 j
    · rw [decide_eq_true c, Bool.true_and]
      have eo : o = o' := by omega
      subst eo
      obtain ⟨k, hk⟩ := List.getElem?_of_mem a1
      obtain ⟨k', hk'⟩ := List.getElem?_of_mem b1
      have hkl := (List.getElem?_eq_some_iff.mp hk)
      have hkl' := (List.getElem?_eq_some_iff.mp hk')
      have ne : k ≠ k' := fun z => by
        subst z
        rw [hk] at hk'
        have := Option.some.inj hk'
        have := congrArg (fun x => x.1.2) this
        dsimp only at this
        omega
      have pw := List.pairwise_iff_getElem.mp h2
      rcases Nat.lt_or_gt_of_ne ne with lt | lt
      · have := pw k k' hkl.1 hkl'.1 lt
        rw [hkl.2, hkl'.2] at this
        have := this rfl
        dsimp only at this
        have : ¬ (hp e day ps j).1 < (hp e day ps i).2 := by omega
        rw [decide_eq_false this, Bool.and_false]
      · have := pw k' k hkl'.1 hkl.1 lt
        rw [hkl.2, hkl'.2] at this
        have := this rfl
        dsimp only at this
        have : ¬ (hp e day ps i).1 < (hp e day ps j).2 := by omega
        rw [decide_eq_false this, Bool.false_and]
    · rw [decide_eq_false c, Bool.false_and]
/-! laid anew -/
def unlike (one : List Int) (old : List (Option Int)) : Nat := (one.zipIdx.filter fun x => !decide (some x.1 = old.getD x.2 none)).length
def lexL : List Int → List Int → Bool
  | [], [] => false
  | [], _ :: _ => true
  | _ :: _, [] => false
  | x :: xs, y :: ys => if x = y then lexL xs ys else decide (x < y)
abbrev UL := Nat × List Int
def ltU (a b : UL) : Bool := if a.1 = b.1 then lexL a.2 b.2 else decide (a.1 < b.1)
def minU (x : UL) (xs : List UL) : UL := xs.foldl (fun a y => if ltU y a then y else a) x
theorem minU_mem : ∀ (xs : List UL) (x : UL), minU x xs ∈ x :: xs ∧ ∀ y ∈ x :: xs, (minU x xs).1 ≤ y.1
  | [], x => ⟨by simp [minU], fun y hy => by
    have : y = x := by simpa using hy
    subst this
    exact Nat.le_refl _⟩
  | z :: xs, x => by
    have ih := minU_mem xs (if ltU z x then z else x)
    have e : minU x (z :: xs) = minU (if ltU z x then z else x) xs := rfl
    rw [e]
    by_cases c : ltU z x = true
    · rw [if_pos c] at ih ⊢
      have hzx : z.1 ≤ x.1 := by
        unfold ltU at c
        split at c
        · omega
        · have := of_decide_eq_true c; omega
      refine ⟨?_, fun y hy => ?_⟩
      · rcases List.mem_cons.mp ih.1 with h | h
        · rw [h]; simp
        · exact List.mem_cons_of_mem _ (List.mem_cons_of_mem _ h)
      · rcases List.mem_cons.mp hy with rfl | hy
        · exact Nat.le_trans (ih.2 z (by simp)) hzx
        · exact ih.2 y hy
    · rw [if_neg c] at ih ⊢
      have hxz : x.1 ≤ z.1 := by
        unfold ltU at c
        split at c
        · omega
        · simp at c
          exact c
      refine ⟨?_, fun y hy => ?_⟩
      · rcases List.mem_cons.mp ih.1 with h | h
        · rw [h]; simp
        · exact List.mem_cons_of_mem _ (List.mem_cons_of_mem _ h)
      · rcases List.mem_cons.mp hy with rfl | hy
        · exact ih.2 y (by simp)
        · rcases List.mem_cons.mp hy with rfl | hy
          · exact Nat.le_trans (ih.2 x (by simp)) hxz
          · exact ih.2 y (List.mem_cons_of_mem _ hy)
/-- the laying with the fewest changes -/
def anew (w : List (List Int)) (old : List (Option Int)) : List Int := match w with
  | [] => []
  | l :: r => (minU (unlike l old, l) (r.map fun l => (unlike l old, l))).2
theorem unlike_zero {l : List Int} {old : List (Option Int)} (hl : l.length = old.length) : unlike l old = 0 ↔ old = l.map some := by
  unfold unlike
  rw [List.length_eq_zero_iff, List.filter_eq_nil_iff]
  constructor
  · intro h
    apply List.ext_getElem?
    intro i
    rw [List.getElem?_map]
    by_cases c : i < l.length
    · have := h (l[i], i) (List.mem_of_getElem? (i := i) (by rw [List.getElem?_zipIdx, List.getElem?_eq_getElem c]; simp))
      simp at this
      rw [List.getElem?_eq_getElem c, List.getElem?_eq_getElem (by omega)]
      rw [List.getElem?_eq_getElem (by omega)] at this
      simp at this
      simp [← this]
    · rw [List.getElem?_eq_none (by omega), List.getElem?_eq_none (by omega)]; rfl
  · rintro rfl x hx
    obtain ⟨i, hi⟩ := List.getElem?_of_mem hx
    rw [List.getElem?_zipIdx] at hi
    cases q : l[i]? with
    | none => rw [q] at hi; simp at hi
    | some y =>
      rw [q] at hi
      simp at hi
      subst hi
      simp [q]
theorem anew_same {m : Nat} {e : Int × Int} {day : List Show} {ps l : List Int} (h : l ∈ ways m e day ps) : anew (ways m e day ps) (l.map some) = l := by
  have hl : ∀ r ∈ ways m e day ps, r.length = ps.length := fun r hr => (mem_ways.mp hr).1
  have hll := hl l h
  cases q : ways m e day ps with
  | nil => rw [q] at h; cases h
  | cons r rs =>
    rw [q] at h hl
    unfold anew
    obtain ⟨a, b⟩ := minU_mem (rs.map fun r => (unlike r (l.map some), r)) (unlike r (l.map some), r)
    have all : ∀ y ∈ (unlike r (l.map some), r) :: rs.map (fun r => (unlike r (l.map some), r)), y.1 = unlike y.2 (l.map some) ∧ y.2 ∈ r :: rs := fun y hy => by
      rcases List.mem_cons.mp hy with rfl | hy
      · exact ⟨rfl, by simp⟩
      · obtain ⟨z, hz, rfl⟩ := List.mem_map.mp hy
        exact ⟨rfl, List.mem_cons_of_mem _ hz⟩
    have hmem : (unlike l (l.map some), l) ∈ (unlike r (l.map some), r) :: rs.map (fun r => (unlike r (l.map some), r)) := by
      rcases List.mem_cons.mp h with rfl | h
      · simp
      · exact List.mem_cons_of_mem _ (List.mem_map.mpr ⟨l, h, rfl⟩)
    have h0 := b _ hmem
    have hz : unlike l (l.map some) = 0 := (unlike_zero (by simp)).mpr rfl
    obtain ⟨c1, c2⟩ := all _ a
    dsimp only at h0
    rw [hz] at h0
    have := hl _ c2
    have hu := (unlike_zero (l := (minU (unlike r (l.map some), r) (rs.map fun r => (unlike r (l.map some), r))).2) (old := l.map some) (by rw [List.length_map]; omega)).mp (by omega)
    exact ((List.map_inj_right fun _ _ h => Option.some.inj h).mp hu).symm
end Pl

namespace Pl
/-! wishes of one each; one moved out of all others' way -/
theorem rising_eq : ∀ {a b : List Int}, a.Pairwise (· < ·) → b.Pairwise (· < ·) → (∀ k, k ∈ a ↔ k ∈ b) → a = b := fun {a b} ha hb h => (perm_of_mem (nodup_rising ha) (nodup_rising hb) h).eq_of_pairwise (fun x y _ _ h1 h2 => by omega) ha hb
theorem sset_sset (a b : List Int) : sset (sset a ++ b) = sset (a ++ b) := rising_eq (sset_pw _) (sset_pw _) fun k => by
  rw [sset_mem, sset_mem, List.mem_append, List.mem_append, sset_mem]
theorem sset_perm {a : List Int} (h : a.Nodup) : (sset a).Perm a := perm_of_mem (nodup_rising (sset_pw a)) h fun k => sset_mem
theorem fits_can {m : Nat} {e : Int × Int} {day : List Show} {ps : List Int} (he : okE e) (hd : ∀ s ∈ day, okS s) (hp : okP day.length ps) : fits m e day ps = true ↔ CanL m e day ps := by
  rw [fits_iff he hd hp, full_nil]
  exact Iff.rfl
theorem canL_perm {m : Nat} {e : Int × Int} {day : List Show} {a b : List Int} (h : a.Perm b) : CanL m e day a → CanL m e day b := fun c t h0 h1 => by
  rw [← cnt_perm h]
  exact c t h0 h1
theorem canL_nil {m : Nat} {e : Int × Int} {day : List Show} : CanL m e day [] := fun t _ _ => by simp [cnt]
theorem okP_sset {n : Nat} {a : List Int} (h : okP n a) : okP n (sset a) := fun p hp => h p (sset_mem.mp hp)
/-- the last of the wishes is kept where it is in nobody's way -/
theorem cnt_app {e : Int × Int} {day : List Show} {a b : List Int} {t : Int} : cnt e day (a ++ b) t = cnt e day a t + cnt e day b t := by
  unfold cnt
  rw [List.filter_append, List.length_append]
theorem kept_last {m : Nat} {e : Int × Int} {day : List Show} (he : okE e) (hd : ∀ s ∈ day, okS s) (hm : 1 ≤ m) {p : Int} (hp0 : 0 ≤ p) (hp1 : p < day.length)
    (far : ∀ q : Int, 0 ≤ q → q < day.length → q ≠ p → ∀ t, ¬ (inH (held e (shAt day q)) t = true ∧ inH (held e (shAt day p)) t = true)) : ∀ (rows : List (List Int)) (sm : List Int), okR day.length sm → CanL m e day sm → (∀ q ∈ sm, q ≠ p) → (∀ r ∈ rows, okR day.length r ∧ ∀ q ∈ r, q ≠ p) →
    ∃ l, keptGo m e day (rows ++ [[p]]) sm = l ++ [true] ∧ l.length = rows.length
  | [], sm, hs, hc, hn, _ => by
    refine ⟨[], ?_, rfl⟩
    have okp : okP day.length [p] := fun q hq => by
      have : q = p := by simpa using hq
      subst this
      exact ⟨hp0, hp1⟩
    have ok := okR_sset hs.1 okp
    have nd : (sm ++ [p]).Nodup := by
      rw [List.nodup_append]
      refine ⟨nodup_rising hs.2, by simp, fun a ha b hb => ?_⟩
      have : b = p := by simpa using hb
      subst this
      exact hn a ha
    have : fits m e day (sset (sm ++ [p])) = true := by
      rw [fits_can he hd ok.1]
      refine canL_perm (sset_perm nd).symm fun t h0 h1 => ?_
      rw [cnt_app]
      by_cases c : inH (held e (shAt day p)) t = true
      · have z : cnt e day sm t = 0 := by
          unfold cnt
          rw [List.length_eq_zero_iff, List.filter_eq_nil_iff]
          intro q hq hh
          exact far q (hs.1 q hq).1 (hs.1 q hq).2 (hn q hq) t ⟨hh, c⟩
        have : cnt e day [p] t ≤ 1 := by
          unfold cnt
          exact Nat.le_trans (List.length_filter_le _ _) (by simp)
        omega
      · have z : cnt e day [p] t = 0 := by
          unfold cnt
          rw [List.length_eq_zero_iff, List.filter_eq_nil_iff]
          intro q hq
          have : q = p := by simpa using hq
          subst this
          exact c
        have := hc t h0 h1
        omega
    show keptGo m e day [[p]] sm = _
    simp [keptGo, this]
  | r :: rows, sm, hs, hc, hn, hr => by
    obtain ⟨hr0, hr1⟩ := hr r (by simp)
    have ok := okR_sset hs.1 hr0.1
    rw [List.cons_append]
    unfold keptGo
    by_cases c : fits m e day (sset (sm ++ r)) = true
    · obtain ⟨l, h1, h2⟩ := kept_last he hd hm hp0 hp1 far rows (sset (sm ++ r)) ok ((fits_can he hd ok.1).mp c) (fun q hq => by
        rcases List.mem_append.mp (sset_mem.mp hq) with h | h
        · exact hn q h
        · exact hr1 q h) fun r' hr' => hr r' (List.mem_cons_of_mem _ hr')
      refine ⟨fits m e day (sset (sm ++ r)) :: l, ?_, by simp [h2]⟩
      simp only [c, if_true]
      rw [h1]
      rfl
    · obtain ⟨l, h1, h2⟩ := kept_last he hd hm hp0 hp1 far rows sm hs hc hn fun r' hr' => hr r' (List.mem_cons_of_mem _ hr')
      refine ⟨fits m e day (sset (sm ++ r)) :: l, ?_, by simp [h2]⟩
      rw [if_neg c]
      rw [h1]
      rfl
def few1 (s : Show) : Show := (s.1 % 8, s.1 % 8 + 1 + s.2.1 % 3, s.2.2)
def fewD (day : List Show) : List Show := (day.take 6).map few1 ++ [(0, 3, 1)]
theorem few1_ok {s : Show} (h : okS s) : okS (few1 s) ∧ (few1 s).2.1 ≤ 10 := by
  obtain ⟨h1, h2, h3, h4, h5⟩ := h
  unfold few1 okS
  dsimp only
  omega
theorem few_len (day : List Show) : (fewD day).length = min 6 day.length + 1 := by simp [fewD]
theorem few_ok {day : List Show} (hd : ∀ s ∈ day, okS s) : okDay (fewD day) := by
  refine ⟨by rw [few_len]; omega, fun s hs => ?_⟩
  rcases List.mem_append.mp hs with hs | hs
  · obtain ⟨x, hx, rfl⟩ := List.mem_map.mp hs
    exact (few1_ok (hd x (List.mem_of_mem_take hx))).1
  · have : s = (0, 3, 1) := by simpa using hs
    subst this
    simp [okS]
theorem few_last (day : List Show) : shAt (fewD day) (((fewD day).length : Int) - 1) = (0, 3, 1) := by
  unfold shAt
  have e : (((fewD day).length : Int) - 1).toNat = ((day.take 6).map few1).length := by
    rw [few_len]
    simp
  rw [e, List.getD_eq_getElem?_getD]
  unfold fewD
  rw [List.getElem?_append_right (Nat.le_refl _)]
  simp
theorem few_far {day : List Show} {e : Int × Int} (he : okE e) (hd : ∀ s ∈ day, okS s) : ∀ q : Int, 0 ≤ q → q < (movedOf (fewD day) (((fewD day).length : Int) - 1) 18).length → q ≠ ((fewD day).length : Int) - 1 → ∀ t, ¬ (inH (held e (shAt (movedOf (fewD day) (((fewD day).length : Int) - 1) 18) q)) t = true ∧ inH (held e (shAt (movedOf (fewD day) (((fewD day).length : Int) - 1) 18) (((fewD day).length : Int) - 1))) t = true) := by
  intro q h0 h1 hne t ⟨ha, hb⟩
  rw [len_moved] at h1
  have hl := few_len day
  have e1 : shAt (movedOf (fewD day) (((fewD day).length : Int) - 1) 18) (((fewD day).length : Int) - 1) = (18, 21, 1) := by
    unfold movedOf
    rw [few_last]
    unfold shAt
    rw [List.getD_eq_getElem?_getD, List.getElem?_set_self (by omega)]
    rfl
  have e2 : shAt (movedOf (fewD day) (((fewD day).length : Int) - 1) 18) q = shAt (fewD day) q := by
    unfold movedOf shAt
    rw [List.getD_eq_getElem?_getD, List.getD_eq_getElem?_getD, List.getElem?_set_ne (by omega), ← List.getD_eq_getElem?_getD]
  rw [e1] at hb
  rw [e2] at ha
  have hq : q.toNat < ((day.take 6).map few1).length := by simp; omega
  have e3 : shAt (fewD day) q ∈ (day.take 6).map few1 := by
    unfold shAt fewD
    rw [List.getD_eq_getElem?_getD, List.getElem?_append_left hq, List.getElem?_eq_getElem hq]
    exact List.getElem_mem hq
  obtain ⟨x, hx, e4⟩ := List.mem_map.mp e3
  have h5 := (few1_ok (hd x (List.mem_of_mem_take hx))).2
  rw [e4] at h5
  have a1 := of_decide_eq_true ha
  have b1 := of_decide_eq_true hb
  unfold held at a1 b1
  dsimp only at a1 b1
  obtain ⟨z1, z2, z3, z4⟩ := he
  omega
theorem most_paper1 : mostC (0, 0) [(0, 4, 9), (4, 9, 8), (3, 5, 20)] 1 = 20 := by
  rw [← lmost_eq (by simp [okE]) (by intro s hs; simp at hs; rcases hs with rfl | rfl | rfl <;> simp [okS]) (by decide)]
  decide +kernel
theorem most_paper2 : mostC (0, 0) [(0, 4, 9), (4, 9, 8), (3, 5, 20)] 2 = 37 := by
  rw [← lmost_eq (by simp [okE]) (by intro s hs; simp at hs; rcases hs with rfl | rfl | rfl <;> simp [okS]) (by decide)]
  decide +kernel
end Pl

namespace Pl
/-! layings: told by pairs of tuners and moments -/
def inTun (m : Int) (t : Int) : Bool := decide (0 ≤ t ∧ t < m)
def heldL (e : Int × Int) (day : List Show) (zs : List (Int × Int)) : List (Int × Int) := zs.flatMap fun x => (moms e (shAt day x.1)).map fun t => (x.2, t)
def llaid (m : Int) (e : Int × Int) (day : List Show) (ps lay : List Int) : Bool := decide (lay.length = ps.length) && (lay.all (inTun m) && decide ((heldL e day (ps.zip lay)).Nodup))
def showsL (m : Int) (e : Int × Int) (day : List Show) (ps lay : List Int) : Bool := decide (lay.length = ps.length) && (lay.all (inTun m) && canBe e day ps lay)
def showsC (m : Int) (e : Int × Int) (day : List Show) (ps : List Int) (t : Int) : Bool := decide (0 ≤ t ∧ t < 24) && decide (m < (cnt e day ps t : Int))
theorem showsC_eq {m : Int} {e : Int × Int} {day : List Show} {ps : List Int} {t : Int} : showsC m e day ps t = (full m e day ps).contains t := by
  unfold showsC full
  rw [Bool.eq_iff_iff, List.contains_iff_mem, List.mem_filter]
  simp only [Bool.and_eq_true, decide_eq_true_eq, List.mem_map, List.mem_range]
  constructor
  · rintro ⟨⟨h0, h1⟩, h2⟩
    exact ⟨⟨t.toNat, by omega, by omega⟩, by rw [cntI_eq h0 h1]; exact h2⟩
  · rintro ⟨⟨i, hi, rfl⟩, h2⟩
    rw [cntI_eq (by omega) (by omega)] at h2
    exact ⟨⟨by omega, by omega⟩, h2⟩
theorem mom_iff {e : Int × Int} {s : Show} {t : Int} : t ∈ moms e s ↔ (0 ≤ t ∧ t < 24) ∧ inH (held e s) t = true := by
  unfold moms inH held
  simp only [List.mem_filter, List.mem_map, List.mem_range, decide_eq_true_eq]
  constructor
  · rintro ⟨⟨i, hi, rfl⟩, h⟩
    omega
  · rintro ⟨⟨h0, h1⟩, h2⟩
    exact ⟨⟨t.toNat, by omega, by omega⟩, by omega⟩
theorem meet_iff {a b : Int × Int} (ha : 0 ≤ a.1 ∧ a.1 < a.2 ∧ a.1 < 24 ∧ a.2 ≤ 24) (hb : 0 ≤ b.1 ∧ b.1 < b.2 ∧ b.1 < 24 ∧ b.2 ≤ 24) : (a.1 < b.2 ∧ b.1 < a.2) ↔ ∃ t, (0 ≤ t ∧ t < 24) ∧ inH a t = true ∧ inH b t = true := by
  unfold inH
  simp only [decide_eq_true_eq]
  constructor
  · rintro ⟨h1, h2⟩
    exact ⟨max a.1 b.1, by omega, by omega, by omega⟩
  · rintro ⟨t, h0, h1, h2⟩
    omega
theorem zip_get {ps lay : List Int} (hl : lay.length = ps.length) {i : Nat} (hi : i < ps.length) : (ps.zip lay)[i]? = some (getI ps i, getI lay i) := by
  rw [List.zip_eq_zipWith, List.getElem?_zipWith]
  unfold getI
  rw [List.getD_eq_getElem?_getD, List.getD_eq_getElem?_getD, List.getElem?_eq_getElem hi, List.getElem?_eq_getElem (by omega)]
  rfl
theorem getI_mem {l : List Int} {i : Nat} (h : i < l.length) : getI l i ∈ l := by
  unfold getI
  rw [List.getD_eq_getElem?_getD, List.getElem?_eq_getElem h]
  exact List.getElem_mem h
theorem held_nodup {e : Int × Int} {day : List Show} {ps lay : List Int} (he : okE e) (hd : ∀ s ∈ day, okS s) (hP : okP day.length ps) (hl : lay.length = ps.length) : (heldL e day (ps.zip lay)).Nodup ↔ canBe e day ps lay = true := by
  have ok : ∀ i, i < ps.length → 0 ≤ (hp e day ps i).1 ∧ (hp e day ps i).1 < (hp e day ps i).2 ∧ (hp e day ps i).1 < 24 ∧ (hp e day ps i).2 ≤ 24 := fun i hi => by
    have := hP _ (getI_mem hi)
    exact held_ok he (hd _ (shAt_mem this.1 this.2))
  have zl : (ps.zip lay).length = ps.length := by rw [List.length_zip]; omega
  unfold heldL
  show List.Pairwise (· ≠ ·) _ ↔ _
  rw [List.pairwise_flatMap]
  unfold canBe
  rw [canN_iff]
  constructor
  · rintro ⟨_, h2⟩ i hi j hj
    have hj' : j < ps.length := by omega
    cases c : clash e day ps lay i j with
    | false => rfl
    | true =>
      unfold clash at c
      rw [Bool.and_eq_true, Bool.and_eq_true, decide_eq_true_eq, decide_eq_true_eq, decide_eq_true_eq] at c
      obtain ⟨t, h0, t1, t2⟩ := (meet_iff (ok i hi) (ok j hj')).mp c.2
      have hp2 := List.pairwise_iff_getElem.mp h2 j i (by omega) (by omega) hj
      have ei := zip_get hl hi
      have ej := zip_get hl hj'
      rw [List.getElem?_eq_getElem (by omega)] at ei ej
      rw [Option.some.inj ei, Option.some.inj ej] at hp2
      refine absurd rfl (hp2 (getI lay j, t) (List.mem_map.mpr ⟨t, mom_iff.mpr ⟨h0, t2⟩, rfl⟩) (getI lay j, t) (List.mem_map.mpr ⟨t, mom_iff.mpr ⟨h0, t1⟩, ?_⟩))
      rw [c.1]
  · intro h
    refine ⟨fun x _ => ?_, ?_⟩
    · have := moms_nodup e (shAt day x.1)
      refine List.pairwise_map.mpr (List.Pairwise.imp (fun hne z => hne ?_) this)
      injection z
    · rw [List.pairwise_iff_getElem]
      intro j i hj hi hji x hx y hy z
      subst z
      have hi' : i < ps.length := by omega
      have hj' : j < ps.length := by omega
      have ei := zip_get hl hi'
      have ej := zip_get hl hj'
      rw [List.getElem?_eq_getElem (by omega)] at ei ej
      rw [Option.some.inj ej] at hx
      rw [Option.some.inj ei] at hy
      obtain ⟨t, ht, rfl⟩ := List.mem_map.mp hx
      obtain ⟨t', ht', e2⟩ := List.mem_map.mp hy
      injection e2 with e3 e4
      subst e4
      dsimp only at e3 ht ht'
      have hc := h i hi' j hji
      unfold clash at hc
      have := (meet_iff (ok i hi') (ok j hj')).mpr ⟨t', (mom_iff.mp ht).1, (mom_iff.mp ht').2, (mom_iff.mp ht).2⟩
      rw [decide_eq_true e3, decide_eq_true this.1, decide_eq_true this.2] at hc
      cases hc
theorem llaid_eq {m : Int} {e : Int × Int} {day : List Show} {ps lay : List Int} (he : okE e) (hd : ∀ s ∈ day, okS s) (hP : okP day.length ps) : llaid m e day ps lay = showsL m e day ps lay := by
  unfold llaid showsL
  by_cases c : lay.length = ps.length
  · rw [decide_eq_true c, Bool.true_and, Bool.true_and]
    congr 1
    rw [Bool.eq_iff_iff, decide_eq_true_eq]
    exact held_nodup he hd hP c
  · rw [decide_eq_false c]
    rfl
def allTM (m : Nat) : List (Int × Int) := (plcs m).flatMap fun a => (plcs 24).map fun t => (a, t)
theorem allTM_len (m : Nat) : (allTM m).length = 24 * m := by
  unfold allTM
  rw [List.length_flatMap]
  have : ∀ l : List Int, (l.map fun a => ((plcs 24).map fun t => (a, t)).length).sum = 24 * l.length := fun l => by
    induction l with
    | nil => rfl
    | cons a l ih =>
      rw [List.map_cons, List.sum_cons, ih, List.length_map, List.length_cons]
      have : (plcs 24).length = 24 := by simp [plcs]
      omega
  rw [this]
  simp [plcs]
theorem allTM_mem {m : Nat} {k : Int × Int} (h0 : 0 ≤ k.1) (h1 : k.1 < m) (h2 : 0 ≤ k.2) (h3 : k.2 < 24) : k ∈ allTM m := List.mem_flatMap.mpr ⟨k.1, mem_plcs.mpr ⟨h0, h1⟩, List.mem_map.mpr ⟨k.2, mem_plcs.mpr ⟨h2, h3⟩, rfl⟩⟩
theorem held_in {m : Nat} {e : Int × Int} {day : List Show} {zs : List (Int × Int)} (h : ∀ z ∈ zs, 0 ≤ z.2 ∧ z.2 < m) : ∀ k ∈ heldL e day zs, k ∈ allTM m := fun k hk => by
  obtain ⟨x, hx, hk⟩ := List.mem_flatMap.mp hk
  obtain ⟨t, ht, rfl⟩ := List.mem_map.mp hk
  have := mom_iff.mp ht
  exact allTM_mem (h x hx).1 (h x hx).2 this.1.1 this.1.2
end Pl
namespace Pl
theorem plcs_rising (n : Nat) : (plcs n).Pairwise (· < ·) := by
  unfold plcs
  rw [List.pairwise_map]
  exact List.Pairwise.imp (fun h => by omega) List.pairwise_lt_range
end Pl

/-! the fewest changes: the first of several, by the same ones -/
namespace Pl
theorem lex_asymm : ∀ {a b : List Int}, lexL a b = true → lexL b a = false
  | [], [], h => by cases h
  | [], _ :: _, _ => rfl
  | _ :: _, [], h => by cases h
  | x :: xs, y :: ys, h => by
    unfold lexL at h ⊢
    by_cases c : x = y
    · rw [if_pos c] at h
      rw [if_pos c.symm]
      exact lex_asymm h
    · rw [if_neg c] at h
      rw [if_neg fun z => c z.symm]
      have := of_decide_eq_true h
      exact decide_eq_false (by omega)
theorem lex_app : ∀ {a b x y : List Int}, lexL a b = true → a.length = b.length → lexL (a ++ x) (b ++ y) = true
  | [], [], _, _, h, _ => by cases h
  | [], _ :: _, _, _, _, hl => by simp at hl
  | _ :: _, [], _, _, _, hl => by simp at hl
  | u :: a, v :: b, x, y, h, hl => by
    rw [List.cons_append, List.cons_append]
    unfold lexL at h ⊢
    by_cases c : u = v
    · rw [if_pos c] at h ⊢
      exact lex_app h (by simpa using hl)
    · rw [if_neg c] at h ⊢
      exact h
theorem lex_same {x y : Int} (h : x < y) : ∀ l : List Int, lexL (l ++ [x]) (l ++ [y]) = true
  | [] => by
    show lexL [x] [y] = true
    unfold lexL
    rw [if_neg (by omega)]
    exact decide_eq_true h
  | u :: l => by
    rw [List.cons_append, List.cons_append]
    unfold lexL
    rw [if_pos rfl]
    exact lex_same h l
theorem longer_sorted {m n : Nat} {found : List (List Int)} (h : found.Pairwise fun a b => lexL a b = true) (hl : ∀ l ∈ found, l.length = n) : (longer m found).Pairwise fun a b => lexL a b = true := by
  unfold longer
  rw [List.pairwise_flatMap]
  refine ⟨fun l _ => ?_, ?_⟩
  · rw [List.pairwise_map]
    exact List.pairwise_lt_range.imp fun h => lex_same (by omega) l
  · refine List.Pairwise.imp_of_mem (fun {a b} ha hb hab x hx y hy => ?_) h
    obtain ⟨s, _, rfl⟩ := List.mem_map.mp hx
    obtain ⟨t, _, rfl⟩ := List.mem_map.mp hy
    exact lex_app hab (by rw [hl a ha, hl b hb])
theorem waysN_sorted {m : Nat} {e : Int × Int} {day : List Show} {ps : List Int} : ∀ {n : Nat}, n ≤ ps.length → (waysN m e day ps n).Pairwise fun a b => lexL a b = true
  | 0, _ => by simp [waysN]
  | n + 1, h => by
    rw [waysN_succ]
    unfold wayStep
    exact (longer_sorted (waysN_sorted (by omega)) fun l hl => ((mem_waysN (by omega)).mp hl).1).filter _
theorem ways_sorted {m : Nat} {e : Int × Int} {day : List Show} {ps : List Int} : (ways m e day ps).Pairwise fun a b => lexL a b = true := waysN_sorted (Nat.le_refl _)
/-- how many are as they were -/
def sm (old : List (Option Int)) (one : List Int) : Nat := (one.zipIdx.filter fun x => decide (some x.1 = old.getD x.2 none)).length
theorem filter_both {α : Type} (p : α → Bool) : ∀ l : List α, (l.filter p).length + (l.filter fun x => !p x).length = l.length
  | [] => rfl
  | a :: l => by
    have ih := filter_both p l
    rw [List.filter_cons, List.filter_cons]
    cases p a <;> simp <;> omega
theorem sm_unlike (l : List Int) (old : List (Option Int)) : sm old l + unlike l old = l.length := by
  unfold sm unlike
  rw [filter_both (fun x : Int × Nat => decide (some x.1 = old.getD x.2 none)), List.length_zipIdx]
theorem first_min : ∀ (xs : List UL) (x : UL), (∀ y ∈ xs, lexL x.2 y.2 = true) → (xs.Pairwise fun a b => lexL a.2 b.2 = true) → ∃ k : Nat, (x :: xs)[k]? = some (minU x xs) ∧ ∀ (j : Nat) (y : UL), j < k → (x :: xs)[j]? = some y → (minU x xs).1 < y.1
  | [], x, _, _ => ⟨0, rfl, fun j y h => absurd h (Nat.not_lt_zero _)⟩
  | z :: xs, x, h, pw => by
    have px := List.pairwise_cons.mp pw
    have hz := lex_asymm (h z (by simp))
    have e : minU x (z :: xs) = minU (if ltU z x then z else x) xs := rfl
    by_cases c : z.1 < x.1
    · have hc : ltU z x = true := by
        unfold ltU
        rw [if_neg (by omega)]
        exact decide_eq_true c
      rw [e, if_pos hc]
      obtain ⟨k, h1, h2⟩ := first_min xs z px.1 px.2
      refine ⟨k + 1, by simpa using h1, fun j y hj hy => ?_⟩
      cases j with
      | zero =>
        have : x = y := by simpa using hy
        subst this
        have := (minU_mem xs z).2 z (by simp)
        omega
      | succ j => exact h2 j y (by omega) (by simpa using hy)
    · have hc : ltU z x = false := by
        unfold ltU
        by_cases q : z.1 = x.1
        · rw [if_pos q]; exact hz
        · rw [if_neg q]; exact decide_eq_false c
      rw [e, hc, if_neg Bool.false_ne_true]
      obtain ⟨k, h1, h2⟩ := first_min xs x (fun y hy => h y (List.mem_cons_of_mem _ hy)) px.2
      cases k with
      | zero => exact ⟨0, by simpa using h1, fun j y hj => absurd hj (Nat.not_lt_zero _)⟩
      | succ k =>
        refine ⟨k + 2, by simpa using h1, fun j y hj hy => ?_⟩
        match j, hj, hy with
        | 0, _, hy => exact h2 0 y (by omega) (by simpa using hy)
        | 1, _, hy =>
          have : z = y := by simpa using hy
          subst this
          have := h2 0 x (by omega) rfl
          omega
        | j + 2, hj, hy => exact h2 (j + 1) y (by omega) (by simpa using hy)
theorem due_anew {W : List (List Int)} {old : List (Option Int)} {n : Nat} (hs : W.Pairwise fun a b => lexL a b = true) (hl : ∀ l ∈ W, l.length = n) (hne : W ≠ []) {mx : Int} (hm : mx ∈ W.map fun l => (sm old l : Int)) (hx : ∀ y ∈ W.map fun l => (sm old l : Int), y ≤ mx) :
    W[(W.map fun l => (sm old l : Int)).idxOf mx]? = some (anew W old) := by
  cases W with
  | nil => exact absurd rfl hne
  | cons l r =>
    have pw := List.pairwise_cons.mp hs
    generalize hU : r.map (fun l => (unlike l old, l)) = U
    have e : (unlike l old, l) :: U = (l :: r).map fun l => (unlike l old, l) := by rw [← hU]; rfl
    obtain ⟨k, h1, h2⟩ := first_min U (unlike l old, l) (by rw [← hU]; intro y hy; obtain ⟨z, hz, rfl⟩ := List.mem_map.mp hy; exact pw.1 z hz) (by rw [← hU, List.pairwise_map]; exact pw.2)
    have h3 := (minU_mem U (unlike l old, l)).2
    have ha : anew (l :: r) old = (minU (unlike l old, l) U).2 := by rw [← hU]; rfl
    generalize minU (unlike l old, l) U = mu at *
    rw [e] at h1 h2 h3
    rw [List.getElem?_map] at h1
    obtain ⟨w, hw, rfl⟩ := Option.map_eq_some_iff.mp h1
    dsimp only at *
    rw [ha]
    have sums : ∀ z ∈ l :: r, sm old z + unlike z old = n := fun z hz => by rw [sm_unlike, hl z hz]
    have hwm := List.mem_of_getElem? hw
    generalize hns : (l :: r).map (fun l => (sm old l : Int)) = ns at *
    have hil : ns.idxOf mx < ns.length := List.idxOf_lt_length_of_mem hm
    have nl : ns.length = (l :: r).length := by rw [← hns, List.length_map]
    have at_ : ∀ i z, (l :: r)[i]? = some z → ns[i]? = some (sm old z : Int) := fun i z hz => by rw [← hns, List.getElem?_map, hz]; rfl
    obtain ⟨z, hz⟩ : ∃ z, (l :: r)[ns.idxOf mx]? = some z := ⟨_, List.getElem?_eq_getElem (by omega)⟩
    have hzi := at_ _ _ hz
    have hmx : ns[ns.idxOf mx]? = some mx := by rw [List.getElem?_eq_getElem hil, List.getElem_idxOf hil]
    rw [hzi] at hmx
    have hmx : (sm old z : Int) = mx := Option.some.inj hmx
    have hzm := List.mem_of_getElem? hz
    have u1 := h3 (unlike z old, z) (List.mem_map.mpr ⟨z, hzm, rfl⟩)
    dsimp only at u1
    have s1 := sums z hzm
    have s2 := sums w hwm
    have hwk := at_ k w hw
    have w1 := hx (sm old w : Int) (List.mem_of_getElem? hwk)
    have wm : (sm old w : Int) = mx := by omega
    rcases Nat.lt_trichotomy (ns.idxOf mx) k with c | c | c
    · have := h2 _ (unlike z old, z) c (by rw [List.getElem?_map, hz]; rfl)
      dsimp only at this
      omega
    · rw [c]; exact hw
    · exfalso
      have hkl : k < ns.length := by omega
      have : ns[k] ≠ mx := by
        intro q
        have := List.not_of_lt_findIdx (p := (· == mx)) (xs := ns) (i := k) c
        simp [q] at this
      rw [List.getElem?_eq_getElem hkl] at hwk
      exact this ((Option.some.inj hwk).trans wm)
theorem anew_mem {W : List (List Int)} {old : List (Option Int)} (hne : W ≠ []) : anew W old ∈ W := by
  cases W with
  | nil => exact absurd rfl hne
  | cons l r =>
    have h := (minU_mem (r.map fun l => (unlike l old, l)) (unlike l old, l)).1
    show (minU (unlike l old, l) (r.map fun l => (unlike l old, l))).2 ∈ _
    generalize minU (unlike l old, l) (r.map fun l => (unlike l old, l)) = z at h
    rcases List.mem_cons.mp h with rfl | h
    · simp
    · obtain ⟨w, hw, rfl⟩ := List.mem_map.mp h
      exact List.mem_cons_of_mem _ hw
end Pl

/-! data and the mirror -/
namespace Mir
open PySem L2 Ab Pl
variable [LamTab]
def dP (e : Int × Int) : PyData := .tuple [.int e.1, .int e.2]
def dS (s : Show) : PyData := .tuple [.int s.1, .int s.2.1, .int s.2.2]
def dI (ns : List Int) : PyData := .list (ns.map .int)
def dB (bs : List Bool) : PyData := .list (bs.map .bool)
def dDay (day : List Show) : PyData := .list (day.map dS)
def dII (rows : List (List Int)) : PyData := .list (rows.map dI)
def iAt (ns : List Int) (p : Int) : Int := ns.getD p.toNat 0
theorem atI_getD {α : Type} {xs : List α} {p : Int} {z : α} (h0 : 0 ≤ p) (h1 : p < xs.length) : atI xs p = some (xs.getD p.toNat z) := by
  have e : p = ((p.toNat : Nat) : Int) := by omega
  have hl : p.toNat < xs.length := by omega
  rw [e]
  refine atI_nat ?_
  rw [Int.toNat_natCast, List.getD_eq_getElem?_getD, List.getElem?_eq_getElem hl]
  rfl
theorem getD_map {α β : Type} (f : α → β) (xs : List α) (n : Nat) (z : α) : (xs.map f).getD n (f z) = f (xs.getD n z) := by
  rw [List.getD_eq_getElem?_getD, List.getD_eq_getElem?_getD, List.getElem?_map]
  cases xs[n]? <;> rfl
theorem atI_map {α β : Type} {f : α → β} {xs : List α} {p : Int} (z : α) (h0 : 0 ≤ p) (h1 : p < xs.length) : atI (xs.map f) p = some (f (xs.getD p.toNat z)) := by
  rw [atI_getD (z := f z) h0 (by rw [List.length_map]; exact h1), getD_map]
section
variable {K : PySem.W.Frag} {τ : Sls} {ta tb tc td te : TE}
theorem ed_p0 {e : Int × Int} (h : ED K ta τ (dP e)) : ED K (tOp (rIxA K) ta (tC (.int 0))) τ (.int e.1) := ed_ixT h ed_int rfl
theorem ed_p1 {e : Int × Int} (h : ED K ta τ (dP e)) : ED K (tOp (rIxA K) ta (tC (.int 1))) τ (.int e.2) := ed_ixT h ed_int rfl
theorem ed_s0 {s : Show} (h : ED K ta τ (dS s)) : ED K (tOp (rIxA K) ta (tC (.int 0))) τ (.int s.1) := ed_ixT h ed_int rfl
theorem ed_s1 {s : Show} (h : ED K ta τ (dS s)) : ED K (tOp (rIxA K) ta (tC (.int 1))) τ (.int s.2.1) := ed_ixT h ed_int rfl
theorem ed_s2 {s : Show} (h : ED K ta τ (dS s)) : ED K (tOp (rIxA K) ta (tC (.int 2))) τ (.int s.2.2) := ed_ixT h ed_int rfl
theorem ed_day {day : List Show} {p : Int} (h : ED K ta τ (dDay day)) (hp : ED K tb τ (.int p)) (h0 : 0 ≤ p) (h1 : p < day.length) : ED K (tOp (rIxA K) ta tb) τ (dS (shAt day p)) := ed_ixL h hp (atI_map (f := dS) (0, 0, 0) h0 h1)
theorem ed_iat {ns : List Int} {p : Int} (h : ED K ta τ (dI ns)) (hp : ED K tb τ (.int p)) (h0 : 0 ≤ p) (h1 : p < ns.length) : ED K (tOp (rIxA K) ta tb) τ (.int (iAt ns p)) := ed_ixL h hp (atI_map (f := PyData.int) 0 h0 h1)
theorem ed_lenI {ns : List Int} (h : ED K ta τ (dI ns)) : ED K (tCB (rLenA K) (tCons ta tNil)) τ (.int ns.length) := ed_is (ed_len h) (by rw [List.length_map])
theorem ed_lenDay {day : List Show} (h : ED K ta τ (dDay day)) : ED K (tCB (rLenA K) (tCons ta tNil)) τ (.int day.length) := ed_is (ed_len h) (by rw [List.length_map])
theorem ed_lenII {rows : List (List Int)} (h : ED K ta τ (dII rows)) : ED K (tCB (rLenA K) (tCons ta tNil)) τ (.int rows.length) := ed_is (ed_len h) (by rw [List.length_map])
theorem ed_lenB {bs : List Bool} (h : ED K ta τ (dB bs)) : ED K (tCB (rLenA K) (tCons ta tNil)) τ (.int bs.length) := ed_is (ed_len h) (by rw [List.length_map])
theorem ed_pair {i j : Int} (h : ED K ta τ (.int i)) (h' : ED K tb τ (.int j)) : ED K (tTup (tCons ta (tCons tb tNil))) τ (dP (i, j)) := ed_tup (ds := [.int i, .int j]) (ea2 h h') (by simp)
theorem ed_trip {i j k : Int} (h : ED K ta τ (.int i)) (h' : ED K tb τ (.int j)) (h'' : ED K tc τ (.int k)) : ED K (tTup (tCons ta (tCons tb (tCons tc tNil)))) τ (dS (i, j, k)) := ed_tup (ds := [.int i, .int j, .int k]) (ea_cons h (ea2 h' h'')) (by simp)
/-! targets of two and three names -/
theorem tg2 {i j : Nat} {d e : PyData} : TGD K (gTup K 2 (gCons (gName i) (gCons (gName j) gNil))) [i, j] (.tuple [d, e]) τ ((τ.set i (.dat d)).set j (.dat e)) := tg_tup (tgs_cons (tg_name i) (tgs_cons (tg_name j) tgs_nil)) rfl
theorem tg3 {i j l : Nat} {d e f : PyData} : TGD K (gTup K 3 (gCons (gName i) (gCons (gName j) (gCons (gName l) gNil)))) [i, j, l] (.tuple [d, e, f]) τ (((τ.set i (.dat d)).set j (.dat e)).set l (.dat f)) := tg_tup (tgs_cons (tg_name i) (tgs_cons (tg_name j) (tgs_cons (tg_name l) tgs_nil))) rfl
end
/-! whole numbers, shows, places of data -/
def isWh : PyData → Bool
  | .int _ => true
  | _ => false
def isShow : PyData → Bool
  | .tuple [.int a, .int b, .int c] => decide (0 ≤ a ∧ a < b ∧ b ≤ 24) && decide (0 ≤ c ∧ c ≤ 60)
  | _ => false
theorem kt {K : PySem.W.Frag} {a b : String} {r : Bool} (h : L2.kitB a b = some r) : PySem.W.kitOne K (.type a) (.type b) = some r := h
/-- isinstance of data, by its kind -/
def isN (a n : String) : Bool := a == n || (a == "bool" && n == "int")
def isA (d : PyData) (n : String) : Bool := isN (tyN d) n
theorem kit_names : ∀ a ∈ ["NoneType", "bool", "int", "str", "list", "tuple", "dict"], ∀ n ∈ ["int", "bool", "tuple", "list", "str"], L2.kitB a n = some (isN a n) := by decide +kernel
theorem tyN_mem (d : PyData) : tyN d ∈ ["NoneType", "bool", "int", "str", "list", "tuple", "dict"] := by cases d <;> simp [tyN]
theorem kit_all {K : PySem.W.Frag} (d : PyData) {n : String} (h : n ∈ ["int", "bool", "tuple", "list", "str"]) : PySem.W.kitOne K (.type (tyN d)) (.type n) = some (isA d n) := kt (kit_names _ (tyN_mem d) n h)
section
variable {K : PySem.W.Frag} {τ : Sls} {ta tb tc td te : TE} {d : PyData}
theorem ed_isInt (h : ED K ta τ d) (hd : notD d = true := by first | rfl | assumption) : ED K (tCB (rIsi K) (tCons ta (tCons (tC (.ty "int")) tNil))) τ (.bool (isA d "int")) := ed_isi h hd (kit_all d (by decide))
theorem ed_isBool (h : ED K ta τ d) (hd : notD d = true := by first | rfl | assumption) : ED K (tCB (rIsi K) (tCons ta (tCons (tC (.ty "bool")) tNil))) τ (.bool (isA d "bool")) := ed_isi h hd (kit_all d (by decide))
theorem ed_isTup (h : ED K ta τ d) (hd : notD d = true := by first | rfl | assumption) : ED K (tCB (rIsi K) (tCons ta (tCons (tC (.ty "tuple")) tNil))) τ (.bool (isA d "tuple")) := ed_isi h hd (kit_all d (by decide))
theorem ed_isLst (h : ED K ta τ d) (hd : notD d = true := by first | rfl | assumption) : ED K (tCB (rIsi K) (tCons ta (tCons (tC (.ty "list")) tNil))) τ (.bool (isA d "list")) := ed_isi h hd (kit_all d (by decide))
end
theorem isWh_eq (d : PyData) : (isA d "int" && !isA d "bool") = isWh d := by cases d <;> rfl

/-! == of data by their Lean values -/
structure Nice {α : Type} [DecidableEq α] (k : Nat) (f : α → PyData) : Prop where
  lay : ∀ a, PyData.canLay0 (f a) = true
  dp : ∀ a, PyData.depth (f a) ≤ k
  eq : ∀ a b, PyData.eqv (f a) (f b) = decide (a = b)
theorem nice_int : Nice 1 PyData.int := ⟨fun _ => rfl, fun _ => by simp [PyData.depth], fun a b => by
  show (a == b) = decide (a = b)
  rw [Bool.eq_iff_iff]; simp⟩
theorem nice_bool : Nice 1 PyData.bool := ⟨fun _ => rfl, fun _ => by simp [PyData.depth], fun a b => by cases a <;> cases b <;> rfl⟩
theorem canLayAll_map {α : Type} {f : α → PyData} (h : ∀ a, PyData.canLay0 (f a) = true) : ∀ xs : List α, PyData.canLayAll0 (xs.map f) = true
  | [] => rfl
  | x :: xs => by rw [List.map_cons, PyData.canLayAll0, h x, canLayAll_map h xs]; rfl
theorem depthAll_map {α : Type} {f : α → PyData} {k : Nat} (h : ∀ a, PyData.depth (f a) ≤ k) : ∀ xs : List α, PyData.depthAll (xs.map f) ≤ k
  | [] => by simp [PyData.depthAll]
  | x :: xs => by
    rw [List.map_cons, PyData.depthAll]
    exact Nat.max_le.mpr ⟨h x, depthAll_map h xs⟩
theorem eqvAll_map {α : Type} [DecidableEq α] {f : α → PyData} (h : ∀ a b, PyData.eqv (f a) (f b) = decide (a = b)) : ∀ xs ys : List α, PyData.eqvAll (xs.map f) (ys.map f) = decide (xs = ys)
  | [], [] => rfl
  | [], y :: ys => rfl
  | x :: xs, [] => rfl
  | x :: xs, y :: ys => by
    rw [List.map_cons, List.map_cons, PyData.eqvAll, h x y, eqvAll_map h xs ys, Bool.eq_iff_iff]
    simp
theorem nice_list {α : Type} [DecidableEq α] {f : α → PyData} {k : Nat} (h : Nice k f) : Nice (k + 1) fun xs : List α => .list (xs.map f) where
  lay := fun xs => by show PyData.canLayAll0 _ = true; exact canLayAll_map h.lay xs
  dp := fun xs => by
    rw [PyData.depth]
    have := depthAll_map h.dp xs
    omega
  eq := fun xs ys => by show PyData.eqvAll _ _ = _; exact eqvAll_map h.eq xs ys
theorem nice_dP : Nice 2 dP where
  lay := fun _ => rfl
  dp := fun a => by simp [dP, PyData.depth, PyData.depthAll]
  eq := fun a b => by
    show ((a.1 == b.1) && ((a.2 == b.2) && true)) = _
    rw [Bool.eq_iff_iff]
    simp [Prod.ext_iff]
theorem nice_dS : Nice 2 dS where
  lay := fun _ => rfl
  dp := fun a => by simp [dS, PyData.depth, PyData.depthAll]
  eq := fun a b => by
    show ((a.1 == b.1) && ((a.2.1 == b.2.1) && ((a.2.2 == b.2.2) && true))) = _
    rw [Bool.eq_iff_iff]
    simp [Prod.ext_iff]
theorem nice_dI : Nice 2 dI := nice_list nice_int
theorem nice_dB : Nice 2 dB := nice_list nice_bool
theorem nice_dDay : Nice 3 dDay := nice_list nice_dS
theorem nice_dII : Nice 3 dII := nice_list nice_dI
theorem Nice.sh {α : Type} [DecidableEq α] {f : α → PyData} {k : Nat} (h : Nice k f) (hk : k ≤ 60) (a : α) : SeqAt.shaped (f a) = true := by
  unfold SeqAt.shaped
  rw [h.lay a]
  have := h.dp a
  simp
  omega
section
variable {K : PySem.W.Frag} {τ : Sls} {ta tb tc td te : TE} {d : PyData} {α : Type} [DecidableEq α] {f : α → PyData} {k : Nat} {a b : α}
theorem ed_eqT (n : Nice k f) (h1 : ED K ta τ (f a)) (h2 : ED K tb τ (f b)) (hk : k ≤ 60 := by decide) : ED K (tOp (rEqD K) ta tb) τ (.bool (decide (a = b))) := ed_is (ed_eq h1 h2 (n.sh hk a) (n.sh hk b)) (by rw [n.eq])
theorem ed_neT (n : Nice k f) (h1 : ED K ta τ (f a)) (h2 : ED K tb τ (f b)) (hk : k ≤ 60 := by decide) : ED K (tOp (rNeD K) ta tb) τ (.bool (!decide (a = b))) := ed_is (ed_ne h1 h2 (n.sh hk a) (n.sh hk b)) (by rw [n.eq])
end

/-! looked at: shows, places -/
theorem all3 : ∀ {ds : List PyData}, ds.length = 3 → ds.all isWh = true → ∃ a b c, ds = [.int a, .int b, .int c]
  | [x, y, z], _, h => by
    simp only [List.all_cons, List.all_nil, Bool.and_true, Bool.and_eq_true] at h
    obtain ⟨h1, h2, h3⟩ := h
    cases x <;> simp only [isWh] at h1 <;> try cases h1
    cases y <;> simp only [isWh] at h2 <;> try cases h2
    cases z <;> simp only [isWh] at h3 <;> try cases h3
    exact ⟨_, _, _, rfl⟩
theorem isShow_no {ds : List PyData} (h : ¬ (ds.length = 3 ∧ ds.all isWh = true)) : isShow (.tuple ds) = false := by
  unfold isShow
  split
  · rename_i a b c e
    cases e
    exact absurd ⟨rfl, rfl⟩ h
  · rfl
theorem isShow_dS {s : Show} (h : okS s) : isShow (dS s) = true := by
  obtain ⟨a, b, c, d, e⟩ := h
  show (decide _ && decide _) = true
  rw [Bool.and_eq_true]
  simp only [decide_eq_true_eq]
  omega
def rising (ns : List Int) : Bool := (List.range (ns.length - 1)).all fun i => decide (iAt ns (1 + (i : Nat) - 1) < iAt ns (1 + (i : Nat)))
def toI : PyData → Int
  | .int k => k
  | _ => 0
def inPl (n : Nat) : PyData → Bool
  | .int k => decide (0 ≤ k ∧ k < n)
  | _ => false
def arePl (n : Nat) : PyData → Bool
  | .list ds => ds.all (inPl n) && rising (ds.map toI)
  | _ => false
theorem inPl_int {n : Nat} : ∀ {ds : List PyData}, ds.all (inPl n) = true → ds = (ds.map toI).map PyData.int
  | [], _ => rfl
  | x :: ds, h => by
    rw [List.all_cons, Bool.and_eq_true] at h
    rw [List.map_cons, List.map_cons, ← inPl_int h.2]
    cases x <;> simp only [inPl] at h <;> try exact absurd h.1 Bool.false_ne_true
    rfl
theorem iAt_cons {n : Int} {ns : List Int} {p : Int} (h : 1 ≤ p) : iAt (n :: ns) p = iAt ns (p - 1) := by
  unfold iAt
  have e : p.toNat = (p - 1).toNat + 1 := by omega
  rw [e]
  rfl
theorem rising_iff : ∀ ns : List Int, rising ns = true ↔ ns.Pairwise (· < ·)
  | [] => by simp [rising]
  | [a] => by simp [rising]
  | a :: b :: ns => by
    have ih := rising_iff (b :: ns)
    have e : rising (a :: b :: ns) = true ↔ a < b ∧ rising (b :: ns) = true := by
      unfold rising
      simp only [List.all_eq_true, List.mem_range, decide_eq_true_eq, List.length_cons]
      constructor
      · intro h
        refine ⟨?_, fun i hi => ?_⟩
        · have := h 0 (by omega)
          exact this
        · have := h (i + 1) (by omega)
          rw [iAt_cons (n := a) (p := 1 + ((i + 1 : Nat) : Int) - 1) (by omega), iAt_cons (n := a) (p := 1 + ((i + 1 : Nat) : Int)) (by omega)] at this
          have e1 : (1 + ((i + 1 : Nat) : Int) - 1 - 1) = 1 + (i : Nat) - 1 := by omega
          have e2 : (1 + ((i + 1 : Nat) : Int) - 1) = 1 + (i : Nat) := by omega
          rw [e1, e2] at this
          exact this
      · rintro ⟨h1, h2⟩ i hi
        cases i with
        | zero => exact h1
        | succ i =>
          have := h2 i (by omega)
          rw [iAt_cons (n := a) (p := 1 + ((i + 1 : Nat) : Int) - 1) (by omega), iAt_cons (n := a) (p := 1 + ((i + 1 : Nat) : Int)) (by omega)]
          have e1 : (1 + ((i + 1 : Nat) : Int) - 1 - 1) = 1 + (i : Nat) - 1 := by omega
          have e2 : (1 + ((i + 1 : Nat) : Int) - 1) = 1 + (i : Nat) := by omega
          rw [e1, e2]
          exact this
    rw [e, ih, List.pairwise_cons (a := a)]
    constructor
    · rintro ⟨h1, h2⟩
      refine ⟨fun x hx => ?_, h2⟩
      rcases List.mem_cons.mp hx with rfl | hx
      · exact h1
      · have := (List.pairwise_cons.mp h2).1 x hx
        omega
    · rintro ⟨h1, h2⟩
      exact ⟨h1 b (by simp), h2⟩
theorem all_inPl {n : Nat} : ∀ {ps : List Int}, okP n ps → (ps.map PyData.int).all (inPl n) = true
  | [], _ => rfl
  | p :: ps, h => by
    rw [List.map_cons, List.all_cons, all_inPl fun q hq => h q (List.mem_cons_of_mem _ hq), Bool.and_true]
    exact decide_eq_true (h p (by simp))
theorem toI_map (ps : List Int) : (ps.map PyData.int).map toI = ps := by
  rw [List.map_map]
  conv => rhs; rw [← List.map_id ps]
  rfl
theorem arePl_ok {n : Nat} {ps : List Int} (h : okR n ps) : arePl n (dI ps) = true := by
  show ((ps.map PyData.int).all (inPl n) && rising ((ps.map PyData.int).map toI)) = true
  rw [all_inPl h.1, toI_map, (rising_iff ps).mpr h.2]
  rfl
/-! enumerate by places -/
theorem enumD_map {α : Type} (f : α → PyData) (xs : List α) : enumD (xs.map f) = xs.zipIdx.map fun x => .tuple [.int (x.2 : Nat), f x.1] := by
  unfold enumD
  apply List.ext_getElem?
  intro i
  rw [List.getElem?_mapIdx, List.getElem?_map, List.getElem?_map, List.getElem?_zipIdx]
  cases xs[i]? <;> simp
theorem zipIdx_mem {α : Type} {xs : List α} {x : α × Nat} (h : x ∈ xs.zipIdx) : x.1 ∈ xs ∧ x.2 < xs.length ∧ xs[x.2]? = some x.1 := by
  obtain ⟨i, hi⟩ := List.getElem?_of_mem h
  rw [List.getElem?_zipIdx] at hi
  cases q : xs[i]? with
  | none => rw [q] at hi; simp at hi
  | some y =>
    rw [q] at hi
    simp at hi
    subst hi
    exact ⟨List.mem_of_getElem? q, (List.getElem?_eq_some_iff.mp q).1, q⟩
/-! a line of held and place -/
def dLn (x : Ln) : PyData := .tuple [dP x.1, .int x.2]
theorem lex_int {x y : Int} (h : x ≠ y) (l m : List (Int ⊕ List Nat)) : PyProof.Rows.lexLt PyProof.Rows.itemOrd (.inl x :: l) (.inl y :: m) = decide (x < y) := by
  rw [PySem.W.lex_atom (fun e => h (Sum.inl.inj e))]
  exact PySem.W.dataLt_int x y
theorem lex_same (p : Int ⊕ List Nat) (l m : List (Int ⊕ List Nat)) : PyProof.Rows.lexLt PyProof.Rows.itemOrd (p :: l) (p :: m) = PyProof.Rows.lexLt PyProof.Rows.itemOrd l m := PySem.W.lex_pre [p] l m
theorem toks_dLn (x : Ln) : PySem.W.keyToks (dLn x) = [.inl 1, .inl 1, .inl x.1.1, .inl 1, .inl x.1.2, .inl 0, .inl 1, .inl x.2, .inl 0] := by
  simp [dLn, dP, PySem.W.keyToks, PySem.W.keyToksAll]
theorem dataLe_dLn (a b : Ln) : PySem.W.dataLe false id (dLn a) (dLn b) = leL a b := by
  show (!PySem.W.dataLt (dLn b) (dLn a)) = leL a b
  unfold PySem.W.dataLt
  rw [toks_dLn, toks_dLn]
  obtain ⟨⟨a1, a2⟩, a3⟩ := a
  obtain ⟨⟨b1, b2⟩, b3⟩ := b
  unfold leL
  dsimp only
  rw [lex_same, lex_same]
  by_cases h1 : a1 = b1
  · subst h1
    rw [lex_same, lex_same, if_pos rfl]
    by_cases h2 : a2 = b2
    · subst h2
      rw [lex_same, lex_same, lex_same, if_pos rfl]
      by_cases h3 : a3 = b3
      · subst h3
        rw [lex_same, lex_same]
        simp [PyProof.Rows.lexLt]
      · rw [lex_int (fun e => h3 e.symm)]
        by_cases c : b3 < a3
        · rw [decide_eq_true c, decide_eq_false (by omega)]; rfl
        · rw [decide_eq_false c, decide_eq_true (by omega)]; rfl
    · rw [lex_int (fun e => h2 e.symm), if_neg h2]
      by_cases c : b2 < a2
      · rw [decide_eq_true c, decide_eq_false (by omega)]; rfl
      · rw [decide_eq_false c, decide_eq_true (by omega)]; rfl
  · rw [lex_int (fun e => h1 e.symm), if_neg h1]
    by_cases c : b1 < a1
    · rw [decide_eq_true c, decide_eq_false (by omega)]; rfl
    · rw [decide_eq_false c, decide_eq_true (by omega)]; rfl
theorem sort_dLn (l : List Ln) : (l.map dLn).mergeSort (PySem.W.dataLe false id) = (l.mergeSort leL).map dLn := (PySem.W.sort_maps dLn fun a _ b _ => (dataLe_dLn a b).symm).symm
theorem dLn_alike (l : List Ln) : PySem.W.AllAlike (l.map dLn) := fun d hd d' hd' => by
  obtain ⟨x, _, rfl⟩ := List.mem_map.mp hd
  obtain ⟨y, _, rfl⟩ := List.mem_map.mp hd'
  rfl
theorem dLn_sortable (l : List Ln) : PySem.W.Sortable (l.map dLn) := .inl fun d hd => by
  obtain ⟨x, _, rfl⟩ := List.mem_map.mp hd
  exact ⟨_, _, rfl⟩
theorem dLn_depth (l : List Ln) : ∀ d ∈ l.map dLn, d.depth ≤ 8 := fun d hd => by
  obtain ⟨x, _, rfl⟩ := List.mem_map.mp hd
  simp [dLn, dP, PyData.depth, PyData.depthAll]
theorem lineOf_eq (e : Int × Int) (day : List Show) (ps : List Int) : lineOf e day ps = ps.zipIdx.map fun x => (held e (shAt day x.1), (x.2 : Int)) := by
  unfold lineOf
  apply List.ext_getElem?
  intro i
  rw [List.getElem?_mapIdx, List.getElem?_map, List.getElem?_zipIdx]
  cases ps[i]? <;> simp
theorem line_at {e : Int × Int} {day : List Show} {ps : List Int} {x : Ln} (h : x ∈ (lineOf e day ps).mergeSort leL) : 0 ≤ x.2 ∧ x.2 < ps.length := by
  have h := (List.mergeSort_perm _ _).mem_iff.mp h
  rw [lineOf_eq] at h
  obtain ⟨y, hy, rfl⟩ := List.mem_map.mp h
  have := (zipIdx_mem hy).2.1
  show 0 ≤ (y.2 : Int) ∧ (y.2 : Int) < ps.length
  omega
/-- laid_of's answer -/
def dO : Option Int → PyData
  | none => .none
  | some z => .int z
theorem isNone_dO (o : Option Int) : isNone (dO o) = o.isNone := by cases o <;> rfl
def dRes (r : List Int × Option Int) : PyData := .tuple [dI r.1, dO r.2]
theorem rep_int (n : Nat) (z : Int) : (List.replicate n z).map PyData.int = List.replicate n (PyData.int z) := List.map_replicate
section
variable {K : PySem.W.Frag} {τ : Sls} {ta tb tc td te : TE}
/-- [z] * k -/
theorem el_repI {z k : Int} (ha : ED K ta τ (.int z)) (hk : ED K tb τ (.int k)) (h0 : 0 ≤ k) (h1 : k ≤ 1000) : EL K (tOp rMulA (tLst (tCons ta tNil)) tb) τ ((List.replicate k.toNat z).map PyData.int) := by
  rw [rep_int]
  exact el_is (el_rep (el_lst (ds := [.int z]) (ea1 ha) (by simp)).ed hk h0 (by omega) (by simp; omega)) (flat_one _ _)
end
theorem ei_rngN {K : PySem.W.Frag} {τ : Sls} {ta : TA} {m : Nat} (h : EA K ta τ [.dat (.int (m : Int))]) (hm : m ≤ 100000) : EI K (iRng1 ta) τ ((List.range m).map fun (i : Nat) => .int (0 + (i : Int))) :=
  ei_is (ei_rng1 h (by omega) (by omega)) (by unfold rngD; rw [Int.toNat_natCast])
theorem ixN_in {n : Nat} {k : Int} (h0 : 0 ≤ k) (h1 : k < n) : ixN n k = some k.toNat := by
  unfold ixN
  rw [if_pos h0, if_pos h1]

/-! slices -/
theorem sIx_some {n d : Nat} {p : Int} (h0 : 0 ≤ p) : HT.sIx n d (some p) = min p.toNat n := by
  have e : p = ((p.toNat : Nat) : Int) := by omega
  rw [e]
  exact HT.sIx_nat n d p.toNat
theorem cutD_take {ds : List PyData} {p : Int} (h0 : 0 ≤ p) : cutD ds none (some p) = ds.take p.toNat := by
  unfold cutD
  rw [sIx_some h0, HT.sIx_none, List.drop_zero, Nat.sub_zero]
  by_cases c : p.toNat ≤ ds.length
  · rw [Nat.min_eq_left c]
  · rw [Nat.min_eq_right (by omega), List.take_of_length_le (Nat.le_refl _), List.take_of_length_le (by omega)]
theorem cutD_drop {ds : List PyData} {p : Int} (h0 : 0 ≤ p) : cutD ds (some p) none = ds.drop p.toNat := by
  unfold cutD
  rw [sIx_some h0, HT.sIx_none]
  by_cases c : p.toNat ≤ ds.length
  · rw [Nat.min_eq_left c]
    exact List.take_of_length_le (by rw [List.length_drop]; omega)
  · rw [Nat.min_eq_right (by omega), List.drop_of_length_le (Nat.le_refl _), List.drop_of_length_le (by omega)]
    simp
theorem set_cut {α : Type} {xs : List α} {n : Nat} {v : α} (h : n < xs.length) : xs.take n ++ [v] ++ xs.drop (n + 1) = xs.set n v := by
  rw [List.set_eq_take_append_cons_drop, if_pos h, List.append_assoc]
  rfl
def dC (x : Int × Bool) : PyData := .tuple [.int x.1, .bool x.2]
theorem nice_dC : Nice 2 dC where
  lay := fun _ => rfl
  dp := fun a => by simp [dC, PyData.depth, PyData.depthAll]
  eq := fun a b => by
    show ((a.1 == b.1) && ((a.2 == b.2) && true)) = _
    rw [Bool.eq_iff_iff]
    simp [Prod.ext_iff]
theorem drop_at {α : Type} {xs : List α} {i : Nat} {x : α} (h : xs[i]? = some x) : xs.drop i = x :: xs.drop (i + 1) := by
  obtain ⟨hi, he⟩ := List.getElem?_eq_some_iff.mp h
  rw [← he]
  exact List.drop_eq_getElem_cons hi
theorem map_at {α β : Type} {f : α → β} {xs : List α} {i : Nat} {d : β} (h : (xs.map f)[i]? = some d) : ∃ x, xs[i]? = some x ∧ d = f x := by
  rw [List.getElem?_map] at h
  cases q : xs[i]? with
  | none => rw [q] at h; cases h
  | some x => rw [q] at h; cases h; exact ⟨x, rfl, rfl⟩
section
variable {K : PySem.W.Frag} {τ : Sls} {ta tb tc td te : TE}
theorem ed_batN {bs : List Bool} {i : Nat} (h : ED K ta τ (dB bs)) (hp : ED K tb τ (.int (i : Int))) (h1 : i < bs.length) : ED K (tOp (rIxA K) ta tb) τ (.bool (bs.getD i false)) := by
  have := ed_ixL (d := .bool (bs.getD i false)) h hp (by rw [atI_map (f := PyData.bool) false (by omega) (by omega), Int.toNat_natCast])
  exact this
theorem ed_nil : ED K (tLst tNil) τ (dI []) := (el_lst (ds := []) ea_nil (by simp)).ed
end
end Mir

namespace Mir
open PySem L2 Ab Pl
variable [LamTab]
/-! ### sizes of ints -/
def Bd (n : Nat) (i : Int) : Prop := i.natAbs < 2 ^ n
theorem Bd.mono {n m : Nat} {i : Int} (h : Bd n i) (le : n ≤ m) : Bd m i := Nat.lt_of_lt_of_le h (Nat.pow_le_pow_right (by decide) le)
theorem Bd.add {n : Nat} {i j : Int} (h : Bd n i) (h' : Bd n j) : Bd (n + 1) (i + j) := by
  unfold Bd at *
  rw [Nat.pow_succ]
  have := Int.natAbs_add_le i j
  omega
theorem Bd.mul {n m : Nat} {i j : Int} (h : Bd n i) (h' : Bd m j) : Bd (n + m) (i * j) := by
  unfold Bd at *
  rw [Int.natAbs_mul, Nat.pow_add]
  exact Nat.mul_lt_mul'' h h'
theorem bd_of {i : Int} {n : Nat} (h : i.natAbs < 2 ^ n) : Bd n i := h
theorem log2_bd {n : Nat} {i : Int} (h : Bd n i) : i.natAbs.log2 ≤ n := by
  by_cases c : i.natAbs = 0
  · rw [c]; exact Nat.zero_le _
  · exact Nat.le_of_lt ((Nat.log2_lt c).mpr h)
theorem cmB {i j : Int} {n m : Nat} (h : Bd n i) (h' : Bd m j) (le : n + m ≤ 90000000) : CMulB i j := by
  have a := log2_bd h
  have b := log2_bd h'
  unfold CMulB
  omega
theorem bd_bits {z : Int} {k : Nat} (h : Builtin.Int.intBits z ≤ k) : Bd k z := by
  unfold Builtin.Int.intBits at h
  unfold Bd
  split at h
  · rename_i c
    have : z.natAbs = 0 := by simpa using c
    rw [this]
    exact Nat.two_pow_pos k
  · rename_i c
    have c' : z.natAbs ≠ 0 := by simpa using c
    exact Nat.lt_of_lt_of_le (Nat.lt_log2_self) (Nat.pow_le_pow_right (by decide) h)
theorem bd_sum {k : Nat} : ∀ (ns : List Int), (∀ z ∈ ns, Bd k z) → Bd (k + ns.length) ns.sum
  | [], _ => by
    unfold Bd
    exact Nat.two_pow_pos _
  | z :: ns, h => by
    rw [List.sum_cons, List.length_cons]
    have h1 := (h z (by simp)).mono (Nat.le_add_right k ns.length)
    have h2 := bd_sum ns fun y hy => h y (List.mem_cons_of_mem _ hy)
    exact (h1.add h2)
section
variable {K : PySem.W.Frag} {τ : Sls} {ta tb tc td te : TE} {S : Sl → Prop}
theorem en_mono {S' : Sl → Prop} (h : EN K te τ S) (hs : ∀ s, S s → S' s) : EN K te τ S' := fun G0 H0 G H σ r Q q => h G0 H0 G H σ r Q fun v s G' H' z => q v s G' H' (hs s z)
/-- some int -/
def AnyI (s : Sl) : Prop := ∃ z : Int, s = .dat (.int z)
theorem en_div {k : Int} (h : EN K ta τ AnyI) (h0 : 0 < k) (h1 : k < 1073741824) : EN K (tOp (rI CDiv fun i j => .int (i / j)) ta (tC (.int k))) τ AnyI := fun G0 H0 G H σ r Q q => h G0 H0 G H σ r _ fun v s G1 H1 hs x1 d1 => by
  obtain ⟨z, rfl⟩ := hs
  exact ⟨z, k, Dt.int_of d1, rfl, ⟨h0, h1⟩, q _ _ G1 H1 ⟨_, rfl⟩ x1 (.int _)⟩
/-- the script against [] -/
theorem ed_scrNe {i : Nat} {ns : List Int} (h : τ[i]? = some (.scr ns)) : ED K (tOp (rNeD K) (tVar i) (tLst tNil)) τ (.bool (!decide (ns = []))) := fun G0 H0 G H σ R Q q => by
  obtain ⟨ov, f1, a, f2, f3⟩ := R.at_ i _ h
  refine ⟨.ref a, by rw [f1, f2], sz (by simp), fun p hp => ?_⟩
  have x : Ext G H (upd G p (.lst [])) (upd H p (.lst [])) := Ext.new R.gh hp
  have da : ∀ ms : List Int, DpAll K (upd H p (.lst [])) (ms.map V.int) (ms.map PyData.int) := fun ms => by
    induction ms with
    | nil => exact .nil
    | cons n ns ih => exact .cons (.int n) ih
  refine ⟨.list (ns.map PyData.int), .list [], .lst (x.gh.sqL (x.gg.sqL f3)) (da ns), .lst (.inl (.inl upd_same)) .nil, nice_dI.sh (by decide) ns, nice_dI.sh (by decide) [], ?_⟩
  have := nice_dI.eq ns []
  unfold dI at this
  rw [List.map_nil] at this
  rw [this]
  exact q _ _ _ x (.bl _)
/-- abs(sum(script[:63])) -/
theorem ed_whole {ns : List Int} {i : Nat} (h : τ[i]? = some (.scr ns)) : ED K (tCB rAbs (tCons (tCB (rSum K) (tCons (tSl (rSlL K) (tVar i) tNoPart (tPart (tC (.int 63)))) tNil)) tNil)) τ (.int ((ns.take 63).sum.natAbs : Int)) :=
  ed_abs (ed_sum (ed_is (el_slS h eo_none (eo_some ed_int)).ed (by rw [cutD_take (by omega)]; show _ = PyData.list ((ns.take 63).map PyData.int); rw [List.map_take]; rfl)))
end
theorem iAt4 {a b c d k : Int} {P : Int → Prop} (h0 : 0 ≤ k) (h1 : k < 4) (ha : P a) (hb : P b) (hc : P c) (hd : P d) : P (iAt [a, b, c, d] k) := by
  have : k = 0 ∨ k = 1 ∨ k = 2 ∨ k = 3 := by omega
  rcases this with rfl | rfl | rfl | rfl
  · exact ha
  · exact hb
  · exact hc
  · exact hd
theorem iAt3 {a b c k : Int} {P : Int → Prop} (h0 : 0 ≤ k) (h1 : k < 3) (ha : P a) (hb : P b) (hc : P c) : P (iAt [a, b, c] k) := by
  have : k = 0 ∨ k = 1 ∨ k = 2 := by omega
  rcases this with rfl | rfl | rfl
  · exact ha
  · exact hb
  · exact hc
/-- the cells of a script -/
def cells (z : Int) (ns : List Int) : List Int := if ns = [] then [z] else ns.take 63
theorem cells_ne {z : Int} {ns : List Int} : cells z ns ≠ [] := by
  unfold cells
  by_cases c : ns = []
  · rw [if_pos c]; simp
  · rw [if_neg c]
    cases ns with
    | nil => exact absurd rfl c
    | cons a l => simp
theorem cells_len {z : Int} {ns : List Int} : 0 < (cells z ns).length ∧ (cells z ns).length ≤ 63 := by
  refine ⟨List.length_pos_iff.mpr cells_ne, ?_⟩
  unfold cells
  split
  · simp
  · rw [List.length_take]; omega
theorem cells_bd {z : Int} {ns : List Int} {k : Nat} (hz : Bd k z) (h : ∀ y ∈ ns, Bd k y) : ∀ y ∈ cells z ns, Bd k y := fun y hy => by
  unfold cells at hy
  split at hy
  · have : y = z := by simpa using hy
    rw [this]; exact hz
  · exact h y (List.mem_of_mem_take hy)
theorem iAt_mem {ns : List Int} {p : Int} (h0 : 0 ≤ p) (h1 : p < ns.length) : iAt ns p ∈ ns := by
  unfold iAt
  have hl : p.toNat < ns.length := by omega
  rw [List.getD_eq_getElem?_getD, List.getElem?_eq_getElem hl]
  exact List.getElem_mem hl
/-- what is known of a script -/
def okN (ns : List Int) : Prop := ns.length ≤ 63 ∧ ∀ z ∈ ns, Builtin.Int.intBits z ≤ 1048576
theorem okN_bd {ns : List Int} (h : okN ns) : ∀ z ∈ ns, Bd 1048576 z := fun z hz => bd_bits (h.2 z hz)
end Mir

namespace Mir
open PySem L2 Ab Pl
variable [LamTab]
theorem cutD_init {ds : List PyData} {d : PyData} : cutD (ds ++ [d]) none (some (-1)) = ds := by
  unfold cutD
  have e : HT.sIx (ds ++ [d]).length (ds ++ [d]).length (some (-1)) = ds.length := by
    unfold HT.sIx
    simp
    omega
  rw [e, HT.sIx_none, List.drop_zero, Nat.sub_zero, List.take_left]
theorem scal_bools (bs : List Bool) : ∀ d ∈ bs.map PyData.bool, scalar d = true := fun d hd => by
  obtain ⟨b, _, rfl⟩ := List.mem_map.mp hd
  rfl
theorem scal_ints (bs : List Int) : ∀ d ∈ bs.map PyData.int, scalar d = true := fun d hd => by
  obtain ⟨b, _, rfl⟩ := List.mem_map.mp hd
  rfl
theorem nice_dCs : Nice 3 fun xs : List (Int × Bool) => .list (xs.map dC) := nice_list nice_dC
/-- as a natural number -/
theorem nat_of {z : Int} (h : 0 ≤ z) : ∃ m : Nat, z = (m : Int) := ⟨z.toNat, by omega⟩
end Mir

namespace Mir
open PySem L2 Ab Pl
variable [LamTab]
/-! the most worth: ways, idle ones -/
def dW : Wy → PyData
  | none => .none
  | some p => .tuple [.int p.1, dO p.2]
def dU (fs sm : List Int) : PyData := .list (fs.map PyData.int ++ [dI sm])
def dFell (s : FS) : PyData := .tuple [dI s.1, .list (s.2.map dW)]
def idlL (k : Nat) (e : Int × Int) (day : List Show) (sm : List Int) : List Int := (List.range 24).map (idl k e day sm)
def decr (l : List Int) (a j : Nat) : List Int := (List.range 24).map fun t => getI l t - if a ≤ t ∧ t < a + j then 1 else 0
theorem idlL_len {k : Nat} {e : Int × Int} {day : List Show} {sm : List Int} : (idlL k e day sm).length = 24 := by simp [idlL]
theorem decr_len {l : List Int} {a j : Nat} : (decr l a j).length = 24 := by simp [decr]
theorem decr0 {l : List Int} {a : Nat} (h : l.length = 24) : decr l a 0 = l := by
  refine ext_getI (by rw [decr_len, h]) fun t ht => ?_
  rw [decr_len] at ht
  unfold decr
  rw [getI_range ht, if_neg (by omega)]
  omega
theorem decr_set {l : List Int} {a j : Nat} (h : a + j < 24) : (decr l a j).set (a + j) (getI (decr l a j) (a + j) - 1) = decr l a (j + 1) := by
  refine ext_getI (by rw [List.length_set, decr_len, decr_len]) fun t ht => ?_
  rw [List.length_set, decr_len] at ht
  rw [getI_set (by rw [decr_len]; exact h)]
  unfold decr
  rw [getI_range ht, getI_range ht, getI_range h]
  by_cases c : t = a + j
  · subst c
    rw [if_pos rfl, if_neg (by omega), if_pos (by omega)]
    omega
  · rw [if_neg c]
    by_cases d : a ≤ t ∧ t < a + j
    · rw [if_pos d, if_pos (by omega)]
    · rw [if_neg d, if_neg (by omega)]
theorem decr_all {k : Nat} {e : Int × Int} {day : List Show} {ps : List Int} {p : Int} (he : okE e) (hd : okS (shAt day p)) : decr (idlL k e day ps) (held e (shAt day p)).1.toNat ((held e (shAt day p)).2 - (held e (shAt day p)).1).toNat = idlL k e day (ps ++ [p]) := by
  obtain ⟨a, b, c, d⟩ := held_ok he hd
  refine ext_getI (by rw [decr_len, idlL_len]) fun t ht => ?_
  rw [decr_len] at ht
  unfold decr idlL
  rw [getI_range ht, getI_range ht, getI_range ht]
  unfold idl
  rw [cnt_add]
  unfold inH
  by_cases q : (held e (shAt day p)).1.toNat ≤ t ∧ t < (held e (shAt day p)).1.toNat + ((held e (shAt day p)).2 - (held e (shAt day p)).1).toNat
  · rw [if_pos q, if_pos (by simp; omega)]
    omega
  · rw [if_neg q, if_neg (by simp; omega)]
    omega
theorem idlL_nil {k : Nat} {e : Int × Int} {day : List Show} : List.replicate 24 (k : Int) = idlL k e day [] := by
  refine ext_getI (by rw [idlL_len]; simp) fun t ht => ?_
  rw [List.length_replicate] at ht
  unfold idlL
  rw [getI_range ht]
  unfold idl cnt getI
  rw [List.getD_eq_getElem?_getD, List.getElem?_replicate, if_pos ht]
  simp
theorem edgs_congr {f g : Nat → Int} {e : Int × Int} {day : List Show} {sm : List Int} (h : ∀ t, t < 24 → f t = g t) : edgs f e day sm = edgs g e day sm := by
  unfold edgs
  congr 1
  have : ∀ l : List Nat, (∀ t ∈ l, t < 24) → l.flatMap (edgM f) = l.flatMap (edgM g) := fun l => by
    induction l with
    | nil => intro _; rfl
    | cons a l ih =>
      intro hl
      rw [List.flatMap_cons, List.flatMap_cons, ih fun t ht => hl t (List.mem_cons_of_mem _ ht)]
      unfold edgM
      rw [h a (hl a (by simp))]
  exact this _ fun t ht => List.mem_range.mp ht
theorem edgs_idl {k : Nat} {e : Int × Int} {day : List Show} {sm : List Int} : edgs (getI (idlL k e day sm)) e day sm = edgs (idl k e day sm) e day sm := edgs_congr fun t ht => getI_range ht
/-! rounds, edge by edge -/
theorem sweep_app (a b : List Edg) (s : FS) : sweep (a ++ b) s = sweep b (sweep a s) := List.foldl_append
theorem step_len {s : FS} {x : Edg} (h : s.1.length = 25 ∧ s.2.length = 25) : (stepE s x).1.length = 25 ∧ (stepE s x).2.length = 25 := by
  unfold stepE
  split
  · exact ⟨by rw [List.length_set]; exact h.1, by rw [List.length_set]; exact h.2⟩
  · exact h
theorem sweep_len : ∀ (E : List Edg) (s : FS), s.1.length = 25 ∧ s.2.length = 25 → (sweep E s).1.length = 25 ∧ (sweep E s).2.length = 25
  | [], _, h => h
  | x :: E, s, h => sweep_len E (stepE s x) (step_len h)
section
variable {K : PySem.W.Frag} {τ : Sls} {ta tb tc td te : TE} {N : Sls → Prop} {R : Sl → Prop}
theorem ed_get {ns : List Int} {p : Int} {n : Nat} (h : ED K ta τ (dI ns)) (hp : ED K tb τ (.int p)) (e : p = (n : Int)) (h1 : n < ns.length) : ED K (tOp (rIxA K) ta tb) τ (.int (getI ns n)) := by
  subst e
  have := ed_iat h hp (by omega) (by omega)
  exact this
theorem ed_used {fs sm : List Int} {p : Int} {n : Nat} (h : ED K ta τ (dU fs sm)) (hp : ED K tb τ (.int p)) (e : p = (n : Int)) (h1 : n < fs.length) : ED K (tOp (rIxA K) ta tb) τ (.int (getI fs n)) := by
  subst e
  refine ed_ixL h hp (atI_nat ?_)
  rw [List.getElem?_append_left (by rw [List.length_map]; exact h1), List.getElem?_map, List.getElem?_eq_getElem h1]
  unfold getI
  rw [List.getD_eq_getElem?_getD, List.getElem?_eq_getElem h1]
  rfl
theorem ed_usedL {fs sm : List Int} (h : ED K ta τ (dU fs sm)) (hp : ED K tb τ (.int 24)) (h1 : fs.length = 24) : ED K (tOp (rIxA K) ta tb) τ (dI sm) := by
  refine ed_ixL h hp (atI_nat (j := 24) ?_)
  rw [List.getElem?_append_right (by rw [List.length_map]; omega), List.length_map, h1]
  rfl
theorem ei_rngI {tr : TA} {m : Nat} (h : EA K tr τ [.dat (.int (m : Int))]) (hm : m ≤ 100000) : EI K (iRng1 tr) τ ((List.range m).map fun (i : Nat) => .int (i : Int)) :=
  ei_is (ei_rngN h hm) (List.map_congr_left fun i _ => by rw [Int.zero_add])
theorem ei_rngJ {tr : TA} {a b : Int} (h : EA K tr τ [.dat (.int a), .dat (.int b)]) (h0 : 0 ≤ a) (h1 : a ≤ 1000) (h2 : 0 ≤ b) (h3 : b ≤ 1000) : EI K (iRng2 tr) τ ((List.range (b - a).toNat).map fun (i : Nat) => .int (a + (i : Int))) :=
  ei_rng2 h (by omega) (by omega) (by omega) (by omega)
end
theorem range_at {n i x : Nat} (h : (List.range n)[i]? = some x) : x = i ∧ i < n := by
  obtain ⟨hi, e⟩ := List.getElem?_eq_some_iff.mp h
  rw [List.getElem_range] at e
  rw [List.length_range] at hi
  exact ⟨e.symm, hi⟩
theorem step_idle {s : FS} {u v : Nat} {t : Option Int} : stepE s ⟨u, v, 0, t⟩ = if getI s.1 u < getI s.1 v then (s.1.set v (getI s.1 u), s.2.set v (some ((u : Int), t))) else s := by
  unfold stepE
  simp only [Int.add_zero]
end Mir
namespace Mir
open PySem L2 Ab Pl
variable [LamTab]
theorem cutD_both {ds : List PyData} {p q : Int} (h0 : 0 ≤ p) (h1 : p ≤ q) : cutD ds (some p) (some q) = (ds.take q.toNat).drop p.toNat := by
  unfold cutD
  rw [sIx_some h0, sIx_some (by omega), List.drop_take]
  by_cases c : q.toNat ≤ ds.length
  · rw [Nat.min_eq_left c, Nat.min_eq_left (by omega)]
  · rw [Nat.min_eq_right (by omega : ds.length ≤ q.toNat)]
    by_cases c2 : p.toNat ≤ ds.length
    · rw [Nat.min_eq_left c2, List.take_of_length_le (by rw [List.length_drop]; omega), List.take_of_length_le (by rw [List.length_drop]; omega)]
    · rw [Nat.min_eq_right (by omega), List.drop_of_length_le (Nat.le_refl _), List.drop_of_length_le (by omega)]
      simp
end Mir
namespace Mir
open PySem L2 Ab Pl
variable [LamTab]
theorem sort_ints {ns : List Int} (h : ns.Nodup) : (ns.map PyData.int).mergeSort (PySem.W.dataLe false id) = (sset ns).map PyData.int := by
  rw [← PySem.W.sort_maps (r := fun a b : Int => decide (a ≤ b)) PyData.int fun a _ b _ => ?_]
  · congr 1
    refine rising_one ?_ (sset_pw ns) fun k => ?_
    · have s := List.pairwise_mergeSort (le := fun a b : Int => decide (a ≤ b)) (fun a b c h1 h2 => by simp at *; omega) (fun a b => by simp; omega) ns
      have n : (ns.mergeSort fun a b => decide (a ≤ b)).Nodup := (List.mergeSort_perm ns _).nodup_iff.mpr h
      exact (s.and n).imp fun ⟨h1, h2⟩ => by
        have := of_decide_eq_true h1
        omega
    · rw [List.mem_mergeSort, sset_mem]
  · show _ = !PySem.W.dataLt (.int b) (.int a)
    rw [PySem.W.dataLt_int, Bool.eq_iff_iff]
    simp
theorem el_sortI {K : PySem.W.Frag} {τ : Sls} {ta : TE} {ns : List Int} (ha : ED K ta τ (dI ns)) (h : ns.Nodup) : EL K (tCB (rSortD K) (tCons ta tNil)) τ ((sset ns).map PyData.int) :=
  el_is (el_sort ha (fun d hd d' hd' => by
    obtain ⟨x, _, rfl⟩ := List.mem_map.mp hd
    obtain ⟨y, _, rfl⟩ := List.mem_map.mp hd'
    rfl) (.inr fun d hd => by
    obtain ⟨x, _, rfl⟩ := List.mem_map.mp hd
    exact ⟨fun z => (by cases z), fun xs z => (by cases z)⟩) (fun d hd => by
    obtain ⟨x, _, rfl⟩ := List.mem_map.mp hd
    simp [PyData.depth]) (canLayAll_map nice_int.lay ns)) (sort_ints h)
theorem len_okP {n : Nat} {ps : List Int} (h : ps.Nodup) (hp : okP n ps) : ps.length ≤ n := by
  have := len_sub h (b := plcs n) fun p hp' => mem_plcs.mpr (hp p hp')
  simpa [plcs] using this
theorem tog_ok {n : Nat} {sm : List Int} {p : Int} (h : okP n sm) (h0 : 0 ≤ p) (h1 : p < n) : okP n (togT sm (some p)) := fun q hq => by
  rw [mem_tog] at hq
  by_cases c : q = p
  · subst c; exact ⟨h0, h1⟩
  · rw [if_neg c] at hq; exact h q hq
end Mir

namespace Mir
open PySem L2 Ab Pl
variable [LamTab]
theorem look_here {f : Str} {d : PyData} {r : List (PyData × PyData)} : lookD f ((.str f, d) :: r) = some d := if_pos rfl
theorem look_there {f n : Str} {d : PyData} {r : List (PyData × PyData)} (h : ¬ f = n) : lookD f ((.str n, d) :: r) = lookD f r := if_neg h
section
variable {K : PySem.W.Frag} {τ : Sls} {ta tb tc td te : TE}
theorem ed_leLeLe {i j k l : Int} (ha : ED K ta τ (.int i)) (hb : ED K tb τ (.int j)) (hc : ED K tc τ (.int k)) (hd : ED K td τ (.int l)) : ED K (tChain3 (rI0 fun i j => .bl (decide (i ≤ j))) (rI0 fun i j => .bl (decide (i ≤ j))) (rI0 fun i j => .bl (decide (i ≤ j))) ta tb tc td) τ (.bool (decide (i ≤ j ∧ j ≤ k ∧ k ≤ l))) :=
  ed_is (ed_chain3 ha hb rd_le (fun _ => hc) (fun _ => rd_le) (fun _ _ => hd) fun _ _ => rd_le) (by rw [Bool.decide_and, Bool.decide_and])
/-- the worth of places -/
theorem ed_worth {day : List Show} {ps : List Int} {wi : TI} {j v : Nat} (hi : EI K wi τ (ps.map PyData.int)) (hp : okP day.length ps) (hl : ps.length ≤ 100000) (hd : (((wipeS τ [j]).set j (.dat (.int 0)))[v]? = some (.dat (dDay day)) ∧ v ≠ j ∧ j < τ.length)) :
    ED K (tCB (rSum K) (tCons (tLc wi (gName j) tYes (tOp (rIxA K) (tOp (rIxA K) (tVar v) (tVar j)) (tC (.int 2))) [j]) tNil)) τ (.int (worthOf day ps)) := by
  refine ed_is (ed_sum (ns := ps.map fun p => (shAt day p).2.2) (ed_is (el_map ps (fun p => .int p) (fun p => .int (shAt day p).2.2) (js := [j]) hi (by simp) hl fun p hp' => ⟨_, tg_name j, ed_s2 (ed_day (ed_var ?_) (ed_var ?_) (hp p hp').1 (hp p hp').2)⟩).ed (by rw [List.map_map]; rfl))) rfl
  · have := hd.1
    rw [List.getElem?_set_ne (fun e => hd.2.1 e.symm)] at this ⊢
    exact this
  · rw [List.getElem?_set_self]
    show j < ((τ.set j .unk)).length
    rw [List.length_set]
    exact hd.2.2
end
theorem bit_eq (m p : Nat) : decide (Builtin.bitAnd ((m : Int) / 2 ^ ((p : Int)).toNat) 1 = 1) = bitOf m p := by
  rw [PyProof.Rows.bitAnd_m1, Int.toNat_natCast]
  unfold bitOf
  have e : ((m : Int) / 2 ^ p) % 2 = ((m / 2 ^ p % 2 : Nat) : Int) := by
    rw [Int.natCast_emod, Int.natCast_ediv, Int.natCast_pow]
    rfl
  rw [e, Bool.eq_iff_iff]
  simp
  omega
end Mir

namespace Mir
open PySem L2 Ab Pl
variable [LamTab]
/-! Best's own word, and the law's -/
def inDay (n : Nat) (p : Int) : Bool := decide (0 ≤ p ∧ p < n)
def calmAt (k : Int) (e : Int × Int) (day : List Show) (pl : List Int) : Bool := (List.range 24).all fun (t : Nat) => decide ((cnt e day pl (t : Int) : Int) ≤ k)
def showsB (k : Int) (e : Int × Int) (day : List Show) (pl pr : List Int) : Bool :=
  pl.all (inDay day.length) && (rising pl && (decide (pr.length = 24) && (pr.all (fun x => decide (0 ≤ x)) && (calmAt k e day pl && decide (worthOf day pl = dualOf k e day pr)))))
def lover (e : Int × Int) (pr : List Int) (s : Show) : Int := max 0 (s.2.2 - ((moms e s).map fun t => iAt pr t).sum)
def ldue (k : Int) (e : Int × Int) (day : List Show) (pr : List Int) : Int := k * pr.sum + (day.map (lover e pr)).sum
def lshows (k : Int) (e : Int × Int) (day : List Show) (pl pr : List Int) : Bool :=
  decide (pl = sset pl) && (pl.all (inDay day.length) && (decide (pr.length = 24) && (!(pr.any fun x => decide (x < 0)) && (decide (full k e day pl = []) && decide (worthOf day pl = ldue k e day pr)))))
theorem sset_id {pl : List Int} : pl = sset pl ↔ rising pl = true := by
  rw [rising_iff]
  constructor
  · intro h
    rw [h]
    exact sset_pw pl
  · intro h
    exact rising_one h (sset_pw pl) fun k => sset_mem.symm
theorem calm_full {k : Int} {e : Int × Int} {day : List Show} {pl : List Int} : calmAt k e day pl = decide (full k e day pl = []) := by
  rw [Bool.eq_iff_iff, decide_eq_true_eq]
  unfold calmAt full
  rw [List.all_eq_true, List.filter_eq_nil_iff]
  constructor
  · intro h t ht
    obtain ⟨i, hi, rfl⟩ := List.mem_map.mp ht
    have hi' := List.mem_range.mp hi
    have := of_decide_eq_true (h i hi)
    rw [cntI_eq (by omega) (by omega)]
    simp
    omega
  · intro h i hi
    have hi' := List.mem_range.mp hi
    have := h (i : Int) (List.mem_map.mpr ⟨i, hi, rfl⟩)
    rw [cntI_eq (by omega) (by omega)] at this
    simp at this
    exact decide_eq_true (by omega)
theorem any_neg {pr : List Int} : (!(pr.any fun x => decide (x < 0))) = pr.all fun x => decide (0 ≤ x) := by
  induction pr with
  | nil => rfl
  | cons x pr ih =>
    rw [List.any_cons, List.all_cons, ← ih, Bool.not_or]
    congr 1
    by_cases c : x < 0
    · rw [decide_eq_true c, decide_eq_false (by omega)]; rfl
    · rw [decide_eq_false c, decide_eq_true (by omega)]; rfl
theorem sum_filter (f : Nat → Int) (p : Nat → Bool) : ∀ n, (((List.range n).filter p).map f).sum = wsum n fun t => if p t = true then f t else 0
  | 0 => rfl
  | n + 1 => by
    rw [wsum_succ, List.range_succ, List.filter_append, List.map_append, List.sum_append, sum_filter f p n]
    by_cases c : p n = true
    · rw [List.filter_cons_of_pos c, if_pos c]; simp
    · rw [List.filter_cons_of_neg c, if_neg c]; simp
theorem lover_eq {e : Int × Int} {s : Show} {pr : List Int} (he : okE e) (hs : okS s) : lover e pr s = overOf e s pr := by
  unfold lover overOf
  congr 2
  obtain ⟨a, b, c, d⟩ := held_ok he hs
  rw [psum_w pr a b d]
  unfold moms
  have e1 : (((List.range 24).map fun (i : Nat) => (i : Int)).filter fun t => decide (s.1 - e.1 ≤ t ∧ t < s.2.1 + e.2)).map (fun t => iAt pr t) = ((List.range 24).filter fun (t : Nat) => decide (s.1 - e.1 ≤ (t : Int) ∧ (t : Int) < s.2.1 + e.2)).map fun (t : Nat) => getI pr t := by
    rw [List.filter_map, List.map_map]
    rfl
  rw [e1, sum_filter]
  refine wsum_eq 24 fun t ht => ?_
  have e2 : decide (s.1 - e.1 ≤ (t : Int) ∧ (t : Int) < s.2.1 + e.2) = inH (held e s) (t : Int) := by
    unfold inH held
    rw [Bool.eq_iff_iff]
    simp
    omega
  rw [e2]
theorem ldue_eq {k : Int} {e : Int × Int} {day : List Show} {pr : List Int} (he : okE e) (hd : ∀ s ∈ day, okS s) : ldue k e day pr = dualOf k e day pr := by
  unfold ldue dualOf
  rw [List.map_congr_left fun s hs => lover_eq he (hd s hs)]
theorem lshows_eq {k : Int} {e : Int × Int} {day : List Show} {pl pr : List Int} (he : okE e) (hd : ∀ s ∈ day, okS s) : lshows k e day pl pr = showsB k e day pl pr := by
  unfold lshows showsB
  rw [any_neg, ← calm_full, ldue_eq he hd]
  have e1 : decide (pl = sset pl) = rising pl := by
    rw [Bool.eq_iff_iff, decide_eq_true_eq]
    exact sset_id
  rw [e1]
  cases rising pl <;> cases pl.all (inDay day.length) <;> rfl
/-- an answer of best is right -/
theorem shows_best {e : Int × Int} {day : List Show} (he : okE e) (hd : ∀ s ∈ day, okS s) {k : Nat} (hk : 0 < k) : showsB (k : Int) e day (bPl e day k) (bPr e day k) = true := by
  obtain ⟨a, b, c⟩ := best_right he hd hk
  obtain ⟨⟨ok, pw⟩, cl⟩ := bpl_ok he hd k
  unfold showsB
  rw [calm_full]
  have h1 : (bPl e day k).all (inDay day.length) = true := List.all_eq_true.mpr fun p hp => decide_eq_true (ok p hp)
  have h2 : (bPr e day k).all (fun x => decide (0 ≤ x)) = true := List.all_eq_true.mpr fun x hx => by
    obtain ⟨i, hi⟩ := List.getElem?_of_mem hx
    have hl := (List.getElem?_eq_some_iff.mp hi).1
    have := c i (by omega)
    unfold getI at this
    rw [List.getD_eq_getElem?_getD, hi] at this
    exact decide_eq_true this
  rw [h1, h2, (rising_iff _).mpr pw, decide_eq_true b, decide_eq_true (canL_full.mp cl), decide_eq_true (show worthOf day (bPl e day k) = _ from a)]
  rfl
def dBest (C : Addr) (pl pr : List Int) : PyData := dObj C [(.str "places", dI pl), (.str "prices", dI pr)]
section
variable {K : PySem.W.Frag} {τ : Sls} {ta tb tc td te : TE}
theorem pp : ¬ (("prices" : Str) = "places") := by decide +kernel
theorem ed_pl {C : Addr} {pl pr : List Int} (h : ED K ta τ (dBest C pl pr)) (cl : Cls K C) (na : NoAttr K C "places") : ED K (tFld K ta "places") τ (dI pl) := ed_fld h cl na look_here
theorem ed_pr {C : Addr} {pl pr : List Int} (h : ED K ta τ (dBest C pl pr)) (cl : Cls K C) (na : NoAttr K C "prices") : ED K (tFld K ta "prices") τ (dI pr) := ed_fld h cl na ((look_there pp).trans look_here)
theorem ed_minLt {ns : List Int} {z : Int} (h : ED K ta τ (dI ns)) (h0 : 0 < ns.length) : ED K (tOp (rI0 fun i j => .bl (decide (i < j))) (tCB (rMin K) (tCons ta tNil)) (tC (.int z))) τ (.bool (ns.any fun x => decide (x < z))) := fun G0 H0 G H σ R Q q => h G0 H0 G H σ R _ fun v G1 H1 x1 d1 => by
  obtain ⟨p, us, rfl, e1, a1⟩ := Dt.lst_of d1
  rw [DtAll.ints a1] at e1
  refine ⟨p, ns, rfl, .inl (.inl (x1.gh _ _ e1)), h0, fun m hm hmin => ⟨m, z, rfl, rfl, ?_⟩⟩
  have e2 : (ns.any fun x => decide (x < z)) = decide (m < z) := by
    rw [Bool.eq_iff_iff, List.any_eq_true, decide_eq_true_eq]
    constructor
    · rintro ⟨x, hx, hlt⟩
      have := of_decide_eq_true hlt
      have := hmin x hx
      omega
    · intro hlt
      exact ⟨m, hm, decide_eq_true hlt⟩
  rw [e2] at q
  exact q _ G1 H1 x1 (.bl _)
end
end Mir

namespace Mir
open PySem L2 Ab Pl
variable [LamTab]
section
variable {K : PySem.W.Frag} {τ : Sls} {ta tb tc td te : TE} {S : Sl → Prop}
theorem en_mod {k : Int} (h : EN K ta τ AnyI) (h0 : 0 < k) : EN K (tOp (rI (fun _ j => 0 < j) fun i j => .int (i % j)) ta (tC (.int k))) τ AnyI := fun G0 H0 G H σ r Q q => h G0 H0 G H σ r _ fun v s G1 H1 hs x1 d1 => by
  obtain ⟨z, rfl⟩ := hs
  exact ⟨z, k, Dt.int_of d1, rfl, h0, q _ _ G1 H1 ⟨_, rfl⟩ x1 (.int _)⟩
theorem etn_gt {k : Int} (h : EN K ta τ AnyI) : ETN K (tTest (tOp (rI0 fun i j => .bl (decide (j < i))) ta (tC (.int k)))) τ := fun G0 H0 G H σ r Q q => h G0 H0 G H σ r _ fun v s G1 H1 hs x1 d1 => by
  obtain ⟨z, rfl⟩ := hs
  exact ⟨z, k, Dt.int_of d1, rfl, _, rfl, q _ G1 H1 x1⟩
theorem ed_revI {ns : List Int} (h : ED K ta τ (dI ns)) : ED K (tRevL K ta) τ (dI ns.reverse) := ed_is (el_rev h).ed (by unfold dI; rw [List.map_reverse])
theorem ed_catI {ns ms : List Int} (h : ED K ta τ (dI ns)) (h' : ED K tb τ (dI ms)) (hl : ns.length + ms.length ≤ 1000) : ED K (tOp rAddA ta tb) τ (dI (ns ++ ms)) := ed_is (el_cat h h' (by simp; omega)).ed (by unfold dI; rw [List.map_append])
theorem ed_oneI {z : Int} (h : ED K ta τ (.int z)) : ED K (tLst (tCons ta tNil)) τ (dI [z]) := (el_lst (ds := [.int z]) (ea1 h) (by simp)).ed
theorem ed_dropI {ns : List Int} {p : Int} (h : ED K ta τ (dI ns)) (hp : ED K tb τ (.int p)) (h0 : 0 ≤ p) : ED K (tSl (rSlL K) ta (tPart tb) tNoPart) τ (dI (ns.drop p.toNat)) := ed_is (el_sl h (eo_some hp) eo_none).ed (by rw [cutD_drop h0]; unfold dI; rw [List.map_drop])
theorem ed_takeI {ns : List Int} {p : Int} (h : ED K ta τ (dI ns)) (hp : ED K tb τ (.int p)) (h0 : 0 ≤ p) : ED K (tSl (rSlL K) ta tNoPart (tPart tb)) τ (dI (ns.take p.toNat)) := ed_is (el_sl h eo_none (eo_some hp)).ed (by rw [cutD_take h0]; unfold dI; rw [List.map_take])
theorem cutD_last {ds : List PyData} : cutD ds (some (-1)) none = ds.drop (ds.length - 1) := by
  unfold cutD
  rw [HT.sIx_none]
  have e : HT.sIx ds.length 0 (some (-1)) = ds.length - 1 := by
    unfold HT.sIx
    simp
    omega
  rw [e]
  exact List.take_of_length_le (by rw [List.length_drop]; omega)
theorem ed_lastI {ns : List Int} (h : ED K ta τ (dI ns)) (hp : ED K tb τ (.int (-1))) : ED K (tSl (rSlL K) ta (tPart tb) tNoPart) τ (dI (ns.drop (ns.length - 1))) := ed_is (el_sl h (eo_some hp) eo_none).ed (by rw [cutD_last]; unfold dI; rw [List.map_drop, List.length_map])
theorem ed_repI {z k : Int} (ha : ED K ta τ (.int z)) (hk : ED K tb τ (.int k)) (h0 : 0 ≤ k) (h1 : k ≤ 1000) : ED K (tOp rMulA (tLst (tCons ta tNil)) tb) τ (dI (List.replicate k.toNat z)) := (el_repI ha hk h0 h1).ed
theorem ed_catII {ns ms : List (List Int)} (h : ED K ta τ (dII ns)) (h' : ED K tb τ (dII ms)) (hl : ns.length + ms.length ≤ 1000) : ED K (tOp rAddA ta tb) τ (dII (ns ++ ms)) := ed_is (el_cat h h' (by simp; omega)).ed (by unfold dII; rw [List.map_append])
theorem ed_isAns {C C' : Addr} {ds : List (PyData × PyData)} {b : Bool} (h : ED K ta τ (dObj C ds)) (c : IsC K C) (hk : PySem.W.kitOne K (.ref C) (.ref C') = some b) : ED K (tCB (rIsi K) (tCons ta (tCons (tC (.ref C')) tNil))) τ (.bool b) := ed_isiC h c hk
end
theorem sub_okR {n : Nat} {ys : List Nat} (h : List.Sublist ys (List.range n)) : okR n (ys.map fun (i : Nat) => (i : Int)) := by
  refine ⟨fun p hp => ?_, ?_⟩
  · obtain ⟨i, hi, rfl⟩ := List.mem_map.mp hp
    have := List.mem_range.mp (h.mem hi)
    omega
  · rw [List.pairwise_map]
    exact (List.Pairwise.sublist h List.pairwise_lt_range).imp fun h => by omega
/-! sizes of prices -/
theorem worth_le {day : List Show} {ps : List Int} (hd : ∀ s ∈ day, okS s) (hp : okP day.length ps) : worthOf day ps ≤ 60 * ps.length := by
  induction ps with
  | nil => simp [worthOf]
  | cons p ps ih =>
    have h1 := ih fun q hq => hp q (List.mem_cons_of_mem _ hq)
    have h2 := (hd _ (shAt_mem (hp p (by simp)).1 (hp p (by simp)).2)).2.2.2.2
    unfold worthOf at *
    rw [List.map_cons, List.sum_cons, List.length_cons]
    omega
theorem bpr_bd {e : Int × Int} {day : List Show} (he : okE e) (hd : okDay day) {k : Nat} (hk : 0 < k) : 0 ≤ (bPr e day k).sum ∧ (bPr e day k).sum ≤ 600 ∧ 0 ≤ getI (bPr e day k) 0 ∧ getI (bPr e day k) 0 ≤ (bPr e day k).sum ∧ ((bPr e day k).drop 1).sum = (bPr e day k).sum - getI (bPr e day k) 0 := by
  obtain ⟨a, b, c⟩ := best_right he hd.2 hk
  have h1 := prices_le he hd.2 hk
  have h2 := worth_le hd.2 (bpl_ok he hd.2 k).1.1
  have h3 := okR_len (bpl_ok he hd.2 k).1
  have h4 : worthOf day (bPl e day k) = mostC e day k := rfl
  have hd1 := hd.1
  generalize bPr e day k = pr at *
  have nn := sum_nn pr fun v hv => c v (by omega)
  have h5 : pr.sum ≤ (k : Int) * pr.sum := by
    have := Int.mul_le_mul_of_nonneg_right (show (1 : Int) ≤ k by omega) nn
    omega
  cases pr with
  | nil => simp at b
  | cons x pr =>
    have g0 : getI (x :: pr) 0 = x := rfl
    have c0 := c 0 (by decide)
    rw [g0] at c0 ⊢
    have nn2 := sum_nn pr fun v hv => by
      have := c (v + 1) (by simp at b; omega)
      exact this
    rw [List.sum_cons] at *
    refine ⟨nn, by omega, c0, by omega, ?_⟩
    show pr.sum = _
    omega
theorem cm_small {k z : Int} (h0 : 0 ≤ k) (h1 : k ≤ 3) (hz : Bd 200 z) : CMulB k z := cmB (n := 2) (m := 200) (by unfold Bd; omega) hz (by decide)
theorem bd_small {z : Int} (h0 : -1000000 ≤ z) (h1 : z ≤ 1000000) : Bd 200 z := (show Bd 20 z by unfold Bd; omega).mono (by decide)
theorem sum_map2 (l : List Int) : (l.map fun x => 2 * x).sum = 2 * l.sum := by
  induction l with
  | nil => rfl
  | cons a l ih => rw [List.map_cons, List.sum_cons, List.sum_cons, ih]; omega
end Mir
namespace Mir
open PySem L2 Ab Pl
variable [LamTab]
theorem sum_ge {l : List Int} {x : Int} (h : ∀ v, v < l.length → 0 ≤ getI l v) (hx : x ∈ l) : x ≤ l.sum := by
  induction l with
  | nil => cases hx
  | cons a l ih =>
    have ha : 0 ≤ a := h 0 (by simp)
    have ht : ∀ v, v < l.length → 0 ≤ getI l v := fun v hv => h (v + 1) (by simpa using hv)
    have := sum_nn l ht
    rw [List.sum_cons]
    rcases List.mem_cons.mp hx with rfl | hx
    · omega
    · have := ih ht hx
      omega
end Mir
namespace Mir
open PySem L2 Ab Pl
variable [LamTab]
theorem sh1 : ¬ (("shows" : Str) = "places") := by decide +kernel
theorem sh2 : ¬ (("shows" : Str) = "prices") := by decide +kernel
theorem sh3 : ¬ (("shows" : Str) = "tuners") := by decide +kernel
theorem sh4 : ¬ (("shows" : Str) = "moment") := by decide +kernel
theorem lookB {a b : PyData} : lookD "shows" [(.str "places", a), (.str "prices", b)] = none := (look_there sh1).trans (look_there sh2)
theorem lookL {a : PyData} : lookD "shows" [(.str "tuners", a)] = none := look_there sh3
theorem lookC {a : PyData} : lookD "shows" [(.str "moment", a)] = none := look_there sh4
theorem p20 : PyData.int (10 ^ Int.toNat 20) = PyData.int 100000000000000000000 := congrArg PyData.int (by decide)
end Mir
namespace Mir
open PySem L2 Ab Pl
variable [LamTab]
theorem kit_own {K : PySem.W.Frag} {C C' : Addr} {b : Bool} (hc : (PySem.W.clsIn K C').isSome = true) (ht : PySem.W.typeIn K (.ref C') = some (.type "type")) (hm : PySem.W.mroIn K C (.ref C') = some b) (hs : PySem.W.mroIn K C (.ref C) = some true) : PySem.W.kitOne K (.ref C) (.ref C') = some b := by
  unfold PySem.W.kitOne
  by_cases c : ((Value.ref C == Value.ref C') = true)
  · rw [if_pos c]
    have e : Value.ref C = Value.ref C' := by simpa using c
    cases e
    rw [hm] at hs
    exact hs.symm
  · rw [if_neg c]
    show (if ((PySem.W.clsIn K C').isSome && PySem.W.typeIn K (.ref C') == some (.type "type")) = true then PySem.W.subIn K (.ref C) (.ref C') else none) = some b
    rw [hc, ht, if_pos (by decide +kernel)]
    exact hm
end Mir

namespace Mir
open PySem L2 Ab Pl
variable [LamTab]
def half (s : Show) : Show := (s.1, s.2.1, s.2.2 / 2)
theorem half_ok {day : List Show} (hd : ∀ s ∈ day, okS s) : ∀ s ∈ day.map half, okS s := fun s hs => by
  obtain ⟨r, hr, rfl⟩ := List.mem_map.mp hs
  obtain ⟨a, b, c, d, f⟩ := hd r hr
  unfold Pl.okS half
  dsimp
  omega
theorem half_twice_ok {day : List Show} (hd : ∀ s ∈ day, okS s) : ∀ s ∈ (day.map half).map twice, okS s := fun s hs => by
  rw [List.map_map] at hs
  obtain ⟨r, hr, rfl⟩ := List.mem_map.mp hs
  obtain ⟨a, b, c, d, f⟩ := hd r hr
  show okS (r.1, r.2.1, 2 * (r.2.2 / 2))
  unfold Pl.okS
  dsimp
  omega
/-- a place too much at the end: no longer so -/
theorem shows_more {k : Int} {e : Int × Int} {day : List Show} {pl pr : List Int} {y : Int} (h : pr.length = 24) : showsB k e day pl (pr ++ [y]) = false := by
  unfold showsB
  have : ¬ (pr ++ [y]).length = 24 := by simp [h]
  rw [decide_eq_false this]
  simp
theorem bpl_nil {e : Int × Int} (he : okE e) (k : Nat) : bPl e [] k = [] := by
  have h := (bpl_ok (day := []) he (fun s hs => by cases hs) k).1.1
  cases q : bPl e [] k with
  | nil => rfl
  | cons p ps =>
    have := h p (by rw [q]; simp)
    simp at this
    omega
end Mir

namespace Mir
open PySem L2 Ab Pl PySem.Spec PyProof.Rows
variable [LamTab]
/-! layings, old ones, the first of the least -/
def dOs (old : List (Option Int)) : PyData := .list (old.map dO)
theorem dOs_some (l : List Int) : dOs (l.map some) = dI l := by
  unfold dOs dI
  rw [List.map_map]
  rfl
theorem nice_dO : Nice 1 dO where
  lay := fun o => by cases o <;> rfl
  dp := fun o => by cases o <;> simp [dO, PyData.depth]
  eq := fun a b => by
    cases a with
    | none => cases b <;> rfl
    | some x =>
      cases b with
      | none => rfl
      | some y =>
        show (x == y) = decide (some x = some y)
        rw [Bool.eq_iff_iff]
        simp
theorem nice_dOs : Nice 2 dOs := nice_list nice_dO
theorem zipIdx_at {α : Type} {xs : List α} {i : Nat} {x : α × Nat} (h : xs.zipIdx[i]? = some x) : x.2 = i ∧ xs[i]? = some x.1 := by
  rw [List.getElem?_zipIdx] at h
  cases q : xs[i]? with
  | none => rw [q] at h; cases h
  | some y =>
    rw [q] at h
    have := Option.some.inj h
    subst this
    exact ⟨by simp, rfl⟩
theorem getI_of {l : List Int} {i : Nat} {p : Int} (h : l[i]? = some p) : getI l i = p := by
  unfold getI
  rw [List.getD_eq_getElem?_getD, h]
  rfl
def dUL (a : UL) : PyData := .tuple [.int (a.1 : Int), dI a.2]
theorem lexL_lt : ∀ xs ys : List Int, lexL xs ys = decide (xs < ys)
  | [], [] => by simp [lexL]
  | [], y :: ys => by simp [lexL]
  | x :: xs, [] => by simp [lexL]
  | x :: xs, y :: ys => by
    unfold lexL
    rw [lexL_lt xs ys]
    by_cases c : x = y
    · subst c
      rw [if_pos rfl, Bool.eq_iff_iff]
      simp [List.cons_lt_cons_iff]
    · rw [if_neg c, Bool.eq_iff_iff]
      simp [List.cons_lt_cons_iff, c]
theorem dataLt_dI (xs ys : List Int) : PySem.W.dataLt (dI xs) (dI ys) = decide (xs < ys) := PySem.W.dataLt_ints xs ys
theorem alike_dI (xs ys : List Int) : PySem.W.alike (dI xs) (dI ys) = true := by
  show PySem.W.alikeAll _ _ = true
  exact PySem.W.alike_ints xs ys
theorem dataLt_dUL (a b : UL) : PySem.W.dataLt (dUL a) (dUL b) = ltU a b := by
  unfold dUL
  rw [PySem.W.dataLt_pair (by rfl) (alike_dI _ _), nice_int.eq, nice_dI.eq, dataLt_dI]
  unfold ltU
  by_cases c : a.1 = b.1
  · have c' : (a.1 : Int) = (b.1 : Int) := by omega
    rw [if_pos c, if_pos (by simpa using c'), lexL_lt]
    by_cases d : a.2 = b.2
    · rw [if_pos (by simpa using d), d]
      simp
    · rw [if_neg (by simpa using d)]
  · have c' : ¬ (a.1 : Int) = (b.1 : Int) := by omega
    rw [if_neg c, if_neg (by simpa using c')]
    have : PySem.W.dataLt (.int (a.1 : Int)) (.int (b.1 : Int)) = decide ((a.1 : Int) < (b.1 : Int)) := by
      show PyProof.Rows.lexLt PyProof.Rows.itemOrd [.inl (a.1 : Int)] [.inl (b.1 : Int)] = _
      exact lex_int c' [] []
    rw [this, Bool.eq_iff_iff]
    simp
theorem minD_dUL : ∀ (xs : List UL) (x : UL), PySem.W.minD (dUL x) (xs.map dUL) = dUL (minU x xs)
  | [], x => rfl
  | y :: xs, x => by
    show PySem.W.minD (if PySem.W.dataLt (dUL y) (dUL x) = true then dUL y else dUL x) (xs.map dUL) = dUL (minU (if ltU y x = true then y else x) xs)
    rw [dataLt_dUL]
    by_cases c : ltU y x = true
    · rw [if_pos c, if_pos c]; exact minD_dUL xs y
    · rw [if_neg c, if_neg c]; exact minD_dUL xs x
theorem alikes_dUL (l : List UL) : PySem.W.AlikeAll (l.map dUL) := by
  constructor
  · intro d hd d' hd'
    obtain ⟨x, _, rfl⟩ := List.mem_map.mp hd
    obtain ⟨y, _, rfl⟩ := List.mem_map.mp hd'
    show (true && (PySem.W.alike (dI x.2) (dI y.2) && true)) = true
    rw [alike_dI]
    rfl
  · intro d hd
    obtain ⟨x, _, rfl⟩ := List.mem_map.mp hd
    exact fun z => nomatch z
theorem lay_dUL (a : UL) : PyData.canLay0 (dUL a) = true := by
  show (true && (PyData.canLay0 (dI a.2) && true)) = true
  rw [nice_dI.lay]
  rfl
theorem depth_dUL (a : UL) : PyData.depth (dUL a) ≤ 3 := by
  have := nice_dI.dp a.2
  simp [dUL, PyData.depth, PyData.depthAll]
  omega
section
variable {K : PySem.W.Frag} {τ : Sls} {ta tb : TE}
theorem ed_minUL {x : UL} {xs : List UL} (h : ED K ta τ (.list (dUL x :: xs.map dUL))) : ED K (tOp (rIxA K) (tCB (rMinD K) (tCons ta tNil)) (tC (.int 1))) τ (dI (minU x xs).2) := by
  have e : dUL x :: xs.map dUL = (x :: xs).map dUL := rfl
  have h1 := ed_minD h (by rw [e]; exact alikes_dUL _) (by rw [e]; exact Nat.le_trans (depthAll_map depth_dUL _) (by decide)) (by rw [e]; exact canLayAll_map lay_dUL _)
  rw [minD_dUL] at h1
  exact ed_ixT (ds := [.int ((minU x xs).1 : Int), dI (minU x xs).2]) h1 ed_int rfl
end
/-! sorted pairs, in some order -/
theorem perm_of_map {α β : Type} {f : α → β} {l m : List β} (h : l.Perm m) : ∀ xs : List α, m = xs.map f → ∃ ys : List α, ys.Perm xs ∧ l = ys.map f := by
  induction h with
  | nil => intro xs e; cases xs with | nil => exact ⟨[], .refl _, rfl⟩ | cons _ _ => cases e
  | cons x h ih =>
    intro xs e
    cases xs with
    | nil => cases e
    | cons y ys =>
      rw [List.map_cons] at e
      injection e with e1 e2
      obtain ⟨zs, h1, h2⟩ := ih ys e2
      exact ⟨y :: zs, h1.cons y, by rw [List.map_cons, h2, e1]⟩
  | swap x y l =>
    intro xs e
    cases xs with
    | nil => cases e
    | cons a xs =>
      cases xs with
      | nil => cases e
      | cons b xs =>
        rw [List.map_cons, List.map_cons] at e
        injection e with e1 e2
        injection e2 with e2 e3
        exact ⟨b :: a :: xs, .swap a b xs, by rw [List.map_cons, List.map_cons, e1, e2, e3]⟩
  | trans _ _ ih1 ih2 =>
    intro xs e
    obtain ⟨ys, h1, h2⟩ := ih2 xs e
    obtain ⟨zs, h3, h4⟩ := ih1 ys h2
    exact ⟨zs, h3.trans h1, h4⟩
section
variable {K : PySem.W.Frag} {τ : Sls} {ta tb : TE}
theorem el_sortP {ps : List (Int × Int)} (h : ED K ta τ (.list (ps.map dP))) : ∃ qs : List (Int × Int), qs.Perm ps ∧ EL K (tCB (rSortD K) (tCons ta tNil)) τ (qs.map dP) := by
  obtain ⟨qs, h1, h2⟩ := perm_of_map (List.mergeSort_perm (ps.map dP) (PySem.W.dataLe false id)) ps rfl
  refine ⟨qs, h1, ?_⟩
  rw [← h2]
  refine el_sort h (fun d hd d' hd' => ?_) (.inl fun d hd => ?_) (fun d hd => ?_) (canLayAll_map nice_dP.lay _)
  · obtain ⟨x, _, rfl⟩ := List.mem_map.mp hd
    obtain ⟨y, _, rfl⟩ := List.mem_map.mp hd'
    rfl
  · obtain ⟨x, _, rfl⟩ := List.mem_map.mp hd
    exact ⟨_, _, rfl⟩
  · obtain ⟨x, _, rfl⟩ := List.mem_map.mp hd
    have := nice_dP.dp x
    omega
end
def dLaid (C : Addr) (l : List Int) : PyData := dObj C [(.str "tuners", dI l)]
def dCrowd (C : Addr) (t : Int) : PyData := dObj C [(.str "moment", .int t)]
section
variable {K : PySem.W.Frag} {τ : Sls} {ta tb : TE}
theorem ed_tu {C : Addr} {l : List Int} (h : ED K ta τ (dLaid C l)) (cl : Cls K C) (na : NoAttr K C "tuners") : ED K (tFld K ta "tuners") τ (dI l) := ed_fld h cl na look_here
theorem ed_mo {C : Addr} {t : Int} (h : ED K ta τ (dCrowd C t)) (cl : Cls K C) (na : NoAttr K C "moment") : ED K (tFld K ta "moment") τ (.int t) := ed_fld h cl na look_here
end
end Mir

namespace Mir
open PySem L2 Ab Pl PySem.Spec PyProof.Rows
variable [LamTab]
theorem sort_dP (ps : List (Int × Int)) : ∃ qs : List (Int × Int), qs.Perm ps ∧ (ps.map dP).mergeSort (PySem.W.dataLe false id) = qs.map dP := perm_of_map (List.mergeSort_perm (ps.map dP) (PySem.W.dataLe false id)) ps rfl
section
variable {K : PySem.W.Frag} {τ : Sls} {ta tb : TE}
theorem el_sortQ {ps qs : List (Int × Int)} (h : ED K ta τ (.list (ps.map dP))) (hq : (ps.map dP).mergeSort (PySem.W.dataLe false id) = qs.map dP) : EL K (tCB (rSortD K) (tCons ta tNil)) τ (qs.map dP) := by
  rw [← hq]
  refine el_sort h (fun d hd d' hd' => ?_) (.inl fun d hd => ?_) (fun d hd => ?_) (canLayAll_map nice_dP.lay _)
  · obtain ⟨x, _, rfl⟩ := List.mem_map.mp hd
    obtain ⟨y, _, rfl⟩ := List.mem_map.mp hd'
    rfl
  · obtain ⟨x, _, rfl⟩ := List.mem_map.mp hd
    exact ⟨_, _, rfl⟩
  · obtain ⟨x, _, rfl⟩ := List.mem_map.mp hd
    have := nice_dP.dp x
    omega
end
theorem snd_zipIdx {α : Type} (l : List α) : (l.zipIdx.map fun x => ((x.2 : Nat) : Int)) = plcs l.length := by
  apply List.ext_getElem?
  intro i
  unfold plcs
  rw [List.getElem?_map, List.getElem?_map, List.getElem?_zipIdx]
  by_cases c : i < l.length
  · rw [List.getElem?_eq_getElem c, List.getElem?_range c]
    simp
  · rw [List.getElem?_eq_none (by omega), List.getElem?_eq_none (by simp; omega)]
    rfl
theorem zip_data (ps : List Int) (bs : List Bool) : List.zipWith (fun d e => PyData.tuple [d, e]) (ps.map PyData.int) (bs.map PyData.bool) = (ps.zip bs).map fun z => .tuple [.int z.1, .bool z.2] := by
  rw [List.zipWith_map, List.zip_eq_zipWith, List.map_zipWith]
theorem zip_at {α β : Type} {a : List α} {b : List β} {i : Nat} {z : α × β} (h : (a.zip b)[i]? = some z) : a[i]? = some z.1 ∧ b[i]? = some z.2 := by
  rw [List.zip_eq_zipWith, List.getElem?_zipWith] at h
  cases p : a[i]? with
  | none => rw [p] at h; cases h
  | some x =>
    cases q : b[i]? with
    | none => rw [p, q] at h; cases h
    | some y =>
      rw [p, q] at h
      have := Option.some.inj h
      subst this
      exact ⟨rfl, rfl⟩
theorem change_last {before l : List Bool} : ∀ x ∈ changeOf before (l ++ [true]), x.1 = (l.length : Int) → x.2 = true := fun x hx he => by
  unfold changeOf at hx
  obtain ⟨y, hy, rfl⟩ := List.mem_map.mp hx
  have hm := (List.mem_filter.mp hy).1
  have := (zipIdx_mem hm).2.2
  dsimp only at he ⊢
  have e : y.2 = l.length := by omega
  rw [e, List.getElem?_append_right (Nat.le_refl _)] at this
  simpa using this.symm
end Mir

namespace Mir
open PySem L2 Ab Pl PySem.Spec PyProof.Rows
variable [LamTab]
theorem zip_ints (ps qs : List Int) : List.zipWith (fun d e => PyData.tuple [d, e]) (ps.map PyData.int) (qs.map PyData.int) = (ps.zip qs).map fun z => .tuple [.int z.1, .int z.2] := by
  rw [List.zipWith_map, List.zip_eq_zipWith, List.map_zipWith]
section
variable {K : PySem.W.Frag} {τ : Sls} {ta tb : TE}
theorem en_modE {k : Int} (h : EN K ta τ AnyI) (hb : ED K tb τ (.int k)) (h0 : 0 < k) : EN K (tOp (rI (fun _ j => 0 < j) fun i j => .int (i % j)) ta tb) τ fun s => ∃ z, s = .dat (.int z) ∧ 0 ≤ z ∧ z < k := fun G0 H0 G H σ r Q q => h G0 H0 G H σ r _ fun v s G1 H1 hs x1 d1 => hb G0 H0 G1 H1 σ (r.step x1) _ fun u G2 H2 x2 d2 => by
  obtain ⟨z, rfl⟩ := hs
  exact ⟨z, k, Dt.int_of d1, Dt.int_of d2, h0, q _ _ G2 H2 ⟨z % k, rfl, Int.emod_nonneg _ (by omega), Int.emod_lt_of_pos _ h0⟩ (x1.tr x2) (.int _)⟩
end
theorem each_ints {α : Type} {p : Int → Prop} : ∀ {xs : List α} {ds : List PyData}, PySem.W.EachIs (fun _ d => ∃ z, d = .int z ∧ p z) xs ds → ∃ zs : List Int, ds = zs.map PyData.int ∧ zs.length = xs.length ∧ ∀ z ∈ zs, p z
  | _, _, .nil => ⟨[], rfl, rfl, fun z hz => by cases hz⟩
  | _, _, .cons h t => by
    obtain ⟨z, rfl, hz⟩ := h
    obtain ⟨zs, rfl, h1, h2⟩ := each_ints t
    refine ⟨z :: zs, rfl, by simp [h1], fun y hy => ?_⟩
    rcases List.mem_cons.mp hy with rfl | hy
    · exact hz
    · exact h2 y hy
theorem p20' : (10 : Int) ^ Int.toNat 20 = 100000000000000000000 := by decide
end Mir

namespace Mir
open PySem L2 Ab Pl PySem.Spec PyProof.Rows
variable [LamTab]
section
variable {X : Cx} {K : PySem.W.Frag}
theorem indexK (h : X.K = K) : MtR X "list.index" (rIndex K) := by subst h; exact mt_index
end
section
variable {K : PySem.W.Frag} {τ : Sls} {ta tb te : TE} {d : PyData}
theorem ed_indexI {ns : List Int} {n : Int} (ha : ED K ta τ (dI ns)) (hb : ED K tb τ (.int n)) (hm : n ∈ ns) : ED K (tBM K "list" (rIndex K) ta (tCons tb tNil)) τ (.int ((ns.idxOf n : Nat) : Int)) := fun G0 H0 G H σ r Q q => ha G0 H0 G H σ r _ fun v G1 H1 x1 d1 => by
  obtain ⟨a, vs, rfl, e1, a1⟩ := Dt.lst_of d1
  have ev := DtAll.ints a1
  subst ev
  refine ⟨.inl ⟨rfl, _, .inl (.inl (x1.gh _ _ e1))⟩, hb G0 H0 G1 H1 σ (r.step x1) _ fun w G2 H2 x2 d2 => ?_⟩
  have ew := Dt.int_of d2
  subst ew
  have hil : ns.idxOf n < ns.length := List.idxOf_lt_length_of_mem hm
  refine ⟨a, _, _, ns.idxOf n, .int n, rfl, rfl, .inl (.inl (x2.gh _ _ (x2.gg _ _ e1))), rfl, ?_, ?_, ?_, fun m z hlt hz => ?_, q _ G2 H2 (x1.tr x2) (.int _)⟩
  · rw [List.all_map]
    exact List.all_eq_true.mpr fun _ _ => rfl
  · rw [List.getElem?_map, List.getElem?_eq_getElem hil, List.getElem_idxOf hil]; rfl
  · show decide (n = n) = true
    exact decide_eq_true rfl
  · rw [List.getElem?_map] at hz
    obtain ⟨y, hy, rfl⟩ := Option.map_eq_some_iff.mp hz
    have hml := (List.getElem?_eq_some_iff.mp hy)
    have := List.not_of_lt_findIdx (p := (· == n)) (xs := ns) (i := m) hlt
    rw [hml.2] at this
    show decide (y = n) = false
    simpa using this
theorem ed_maxL {ns : List Int} {m : Int} (ha : ED K ta τ (dI ns)) (hm : m ∈ ns) (hx : ∀ y ∈ ns, y ≤ m) : ED K (tCB (rMax K) (tCons ta tNil)) τ (.int m) := ed_cb (ea1 ha) fun G H vs x a Q q => by
  obtain ⟨v, rfl, h⟩ := args1 a
  obtain ⟨p, us, rfl, e1, a1⟩ := Dt.lst_of h
  have ev := DtAll.ints a1
  subst ev
  refine ⟨p, ns, rfl, .inl (.inl (x _ _ e1)), List.length_pos_of_mem hm, fun m' h1 h2 => ?_⟩
  have e := Int.le_antisymm (hx m' h1) (h2 m hm)
  subst e
  exact q _ G H (Ext.rfl x) (.int _)
end
theorem max_of : ∀ {ns : List Int}, ns ≠ [] → ∃ m, m ∈ ns ∧ ∀ y ∈ ns, y ≤ m
  | [], h => absurd rfl h
  | [a], _ => ⟨a, by simp, fun y hy => Int.le_of_eq (by simpa using hy)⟩
  | a :: b :: ns, _ => by
    obtain ⟨m, h1, h2⟩ := max_of (ns := b :: ns) (by simp)
    by_cases c : a ≤ m
    · exact ⟨m, List.mem_cons_of_mem _ h1, fun y hy => by
        rcases List.mem_cons.mp hy with rfl | hy
        · exact c
        · exact h2 y hy⟩
    · exact ⟨a, by simp, fun y hy => by
        rcases List.mem_cons.mp hy with rfl | hy
        · omega
        · have := h2 y hy; omega⟩
def dT3 (x : List Show × List Int × List (Option Int)) : PyData := .list [dDay x.1, dI x.2.1, dOs x.2.2]
theorem nice_dT3 : Nice 4 dT3 where
  lay := fun a => by
    show (PyData.canLay0 (dDay a.1) && (PyData.canLay0 (dI a.2.1) && (PyData.canLay0 (dOs a.2.2) && true))) = true
    rw [nice_dDay.lay, nice_dI.lay, nice_dOs.lay]
    rfl
  dp := fun a => by
    have h1 := nice_dDay.dp a.1
    have h2 := nice_dI.dp a.2.1
    have h3 := nice_dOs.dp a.2.2
    simp only [dT3, PyData.depth, PyData.depthAll]
    omega
  eq := fun a b => by
    show (PyData.eqv (dDay a.1) (dDay b.1) && (PyData.eqv (dI a.2.1) (dI b.2.1) && (PyData.eqv (dOs a.2.2) (dOs b.2.2) && true))) = _
    rw [nice_dDay.eq, nice_dI.eq, nice_dOs.eq, Bool.eq_iff_iff]
    simp [Prod.ext_iff]
section
variable {K : PySem.W.Frag} {τ : Sls} {te : TE} {P : PyData → Prop} {N : Sls → Prop} {R : Sl → Prop}
theorem sd_asgTN {g : TG} (h : EDN K te τ P) (hg : ∀ d, P d → ∃ js τ2, TGD K g js d τ τ2 ∧ N τ2) : SD K (tAsg te g) τ N R := fun G0 H0 G H σ r D kn kr => h G0 H0 G H σ r _ fun v d G1 H1 hd x1 d1 => by
  obtain ⟨js, τ2, tg, hn⟩ := hg d hd
  exact tg G0 H0 G1 H1 σ v (r.step x1) d1 _ fun σ2 r2 _ _ => kn _ G1 H1 σ2 hn r2 x1.gg
end
/-! ### tagged lists -/
abbrev TL := Addr × List Int
def dT (t : TL) : PyData := dTag t.1 (dI t.2)
theorem dT_un {G : Hp} {v : V} (t : TL) (h : Dt G v (dT t)) : Dt G v (dI t.2) := (Dt.tag_of h).2
def dM (o : Option Addr) (d : PyData) : PyData := match o with
  | none => d
  | some a => dTag a d
section
variable {K : PySem.W.Frag} {τ : Sls} {ta tb te : TE} {d : PyData}
theorem dM_un {o : Option Addr} {G : Hp} {v : V} (h : Dt G v (dM o d)) : Dt G v d := by
  cases o with
  | none => exact h
  | some a => exact (Dt.tag_of h).2
theorem ed_varM {o : Option Addr} {i : Nat} (h : τ[i]? = some (.dat (dM o d))) : ED K (tVar i) τ d := (ed_var h).imp fun _ _ z => dM_un z
theorem ed_tll {ts : List TL} (h : ED K te τ (.list (ts.map dT))) : ED K te τ (dII (ts.map (·.2))) := ed_is (h.impL (g := fun t => dI t.2) fun G v t z => dT_un t z) (by unfold dII; rw [List.map_map]; rfl)
end
theorem each_tl {α : Type} {L : List Addr} {f : α → List Int} : ∀ {xs : List α} {ds : List PyData}, PySem.W.EachIs (fun x d => ∃ q, q ∉ L ∧ d = dT (q, f x)) xs ds → ∃ vs : List TL, Sl.own ds = .own (vs.map dT) ∧ (∀ t ∈ vs, t.1 ∉ L) ∧ vs.map (·.2) = xs.map f
  | _, _, .nil => ⟨[], rfl, fun t ht => (nomatch ht), rfl⟩
  | _, _, .cons ⟨q, hq, rfl⟩ t => by
    obtain ⟨vs, h1, h2, h3⟩ := each_tl t
    injection h1 with h1
    refine ⟨(q, f _) :: vs, by rw [h1]; rfl, fun z hz => ?_, by rw [List.map_cons, List.map_cons, h3]⟩
    rcases List.mem_cons.mp hz with rfl | hz
    · exact hq
    · exact h2 z hz
theorem dI_inj {a b : List Int} (h : dI a = dI b) : a = b := by
  unfold dI at h
  injection h with h
  exact (List.map_inj_right fun _ _ e => by injection e).mp h
theorem dUL_inj {a b : UL} (h : dUL a = dUL b) : a = b := by
  unfold dUL at h
  injection h with h
  injection h with h1 h2
  injection h2 with h2 _
  injection h1 with h1
  exact Prod.ext (Int.ofNat.inj h1) (dI_inj h2)
/-! ### what is reached from lean arguments -/
def kp (L : List Addr) (G : Hp) : Hp := fun a => match G a with
  | some (.tup xs) => some (.tup xs)
  | some o => if a ∈ L then some o else none
  | none => none
theorem kp_ex (L : List Addr) (G : Hp) : Ex (kp L G) G := fun a o h => by
  unfold kp at h
  split at h
  · next e => cases h; exact e
  · next o' _ e =>
    split at h
    · cases h; exact e
    · cases h
  · cases h
theorem kp_tup {L : List Addr} {G : Hp} {a : Addr} {xs : List V} (h : G a = some (.tup xs)) : kp L G a = some (.tup xs) := by unfold kp; rw [h]
theorem kp_lst {L : List Addr} {G : Hp} {a : Addr} {xs : List V} (h : G a = some (.lst xs)) (hL : a ∈ L) : kp L G a = some (.lst xs) := by unfold kp; rw [h]; exact if_pos hL
theorem kp_in {L : List Addr} {G : Hp} {a : Addr} {xs : List V} (h : kp L G a = some (.lst xs)) : a ∈ L := by
  unfold kp at h
  split at h
  · cases h
  · split at h
    · assumption
    · cases h
  · cases h
def Lean1 (L : List Addr) (d : PyData) : Prop := ∀ G v, Dt G v d → Dt (kp L G) v d
theorem lean_int {L : List Addr} {i : Int} : Lean1 L (.int i) := fun G v h => by cases h; exact .int i
theorem lean_non {L : List Addr} : Lean1 L .none := fun G v h => by cases h; exact .non
theorem lean_all {L : List Addr} {ds : List PyData} (h : ∀ d ∈ ds, Lean1 L d) {G : Hp} : ∀ {vs : List V}, DtAll G vs ds → DtAll (kp L G) vs ds := by
  induction ds with
  | nil => intro vs a; cases a; exact .nil
  | cons d ds ih =>
    intro vs a
    cases a with
    | cons h1 t => exact .cons (h d (by simp) G _ h1) (ih (fun e he => h e (List.mem_cons_of_mem _ he)) t)
theorem lean_tup {L : List Addr} {ds : List PyData} (h : ∀ d ∈ ds, Lean1 L d) : Lean1 L (.tuple ds) := fun G v a => by
  obtain ⟨p, vs, rfl, e1, a1⟩ := Dt.tup_of a
  exact .tup (kp_tup e1) (lean_all h a1)
theorem lean_lst {L : List Addr} {p : Addr} {ds : List PyData} (hp : p ∈ L) (h : ∀ d ∈ ds, Lean1 L d) : Lean1 L (dTag p (.list ds)) := fun G v a => by
  obtain ⟨rfl, a⟩ := Dt.tag_of a
  obtain ⟨p', vs, e, e1, a1⟩ := Dt.lst_of a
  cases e
  exact .tag (.lst (kp_lst e1 hp) (lean_all h a1))
theorem lean_dI {L : List Addr} {p : Addr} {ns : List Int} (hp : p ∈ L) : Lean1 L (dTag p (dI ns)) := lean_lst hp fun d hd => by
  obtain ⟨n, _, rfl⟩ := List.mem_map.mp hd
  exact lean_int
theorem lean_dP {L : List Addr} {e : Int × Int} : Lean1 L (dP e) := lean_tup fun d hd => by
  rcases List.mem_cons.mp hd with rfl | hd
  · exact lean_int
  · rcases List.mem_cons.mp hd with rfl | hd
    · exact lean_int
    · cases hd
theorem lean_dDay {L : List Addr} {p : Addr} {day : List Show} (hp : p ∈ L) : Lean1 L (dTag p (dDay day)) := lean_lst hp fun d hd => by
  obtain ⟨s, _, rfl⟩ := List.mem_map.mp hd
  refine lean_tup fun e he => ?_
  rcases List.mem_cons.mp he with rfl | he
  · exact lean_int
  · rcases List.mem_cons.mp he with rfl | he
    · exact lean_int
    · rcases List.mem_cons.mp he with rfl | he
      · exact lean_int
      · cases he
theorem lean_dOs {L : List Addr} {p : Addr} {os : List (Option Int)} (hp : p ∈ L) : Lean1 L (dTag p (dOs os)) := lean_lst hp fun d hd => by
  obtain ⟨o, _, rfl⟩ := List.mem_map.mp hd
  cases o with
  | none => exact lean_non
  | some i => exact lean_int
section
variable {K : PySem.W.Frag} {τ : Sls} {tr : TA} {d : PyData}
theorem lean_args {L : List Addr} {G : Hp} : ∀ {ds : List PyData} {vs : List V}, (∀ d ∈ ds, Lean1 L d) → ArgsOk K G vs (datL ds) → ArgsOk K (kp L G) vs (datL ds)
  | [], _, _, .nil => .nil
  | d :: ds, _, h, .cons a t => .cons (h d (by simp) G _ a) (lean_args (fun e he => h e (List.mem_cons_of_mem _ he)) t)
/-- a call that tells a list that is none of those handed in: an own one -/
theorem el_callF {P : List Sl → (Sl → Prop) → Prop} {E : XK} {ds : List PyData} {L : List Addr} {l : List Int} (h : EA K tr τ (datL ds)) (hl : ∀ d ∈ ds, Lean1 L d) (hp : P (datL ds) fun s => ∃ q, q ∉ L ∧ s = .dat (dTag q (dI l))) : EL K (tCall (spF K P) [] E tr) τ (l.map PyData.int) := fun G0 H0 G H σ r Q q => h G0 H0 G H σ r _ fun vs G1 H1 x1 a1 => by
  rw [List.append_nil]
  refine ⟨kp L G1, datL ds, _, (kp_ex L G1).tr x1.gh, lean_args hl a1, hp, fun s v G' H' hs x hv => ?_⟩
  obtain ⟨b, hb, rfl⟩ := hs
  obtain ⟨rfl, hv⟩ := Dt.tag_of (show Dt G' v (dTag b (dI l)) from hv)
  obtain ⟨b', us, e, e1, a2⟩ := Dt.lst_of hv
  cases e
  have ev := DtAll.ints a2
  subst ev
  have g0 : kp L G1 b = none := by
    cases c : kp L G1 b with
    | none => rfl
    | some o =>
      have := x.gg _ _ c
      rw [e1] at this
      cases this
      exact absurd (kp_in c) hb
  have h0 : H1 b = none := by
    cases c : H1 b with
    | none => rfl
    | some o =>
      have := x.ap b g0 (by rw [c]; exact fun z => nomatch z)
      rw [e1] at this
      cases this
  exact q b _ G1 H' (x1.tr (Ext.grow x1.gh x.hh)) (x1.hh.none h0) (x1.gh.none h0) (x.gh _ _ e1) (dtAll_ints l)
/-- .. read only -/
theorem ed_callQ {P : List Sl → (Sl → Prop) → Prop} {E : XK} {as : List Sl} (h : EA K tr τ as) (hp : P as fun s => ∃ q, s = .dat (dTag q d)) : ED K (tCall (spF K P) [] E tr) τ d := fun G0 H0 G H σ r Q q => h G0 H0 G H σ r _ fun vs G1 H1 x1 a1 => by
  rw [List.append_nil]
  refine ⟨G1, as, _, x1.gh, a1, hp, fun s v G' H' hs x hv => ?_⟩
  obtain ⟨b, rfl⟩ := hs
  exact q v G' H' (x1.tr x) (Dt.tag_of (show Dt G' v (dTag b d) from hv)).2
end
end Mir

namespace Law
open PySem L2 Ab Pl Mir PySem.Spec PyProof.Rows
def topS (i : Nat) : Stmt := PySem.Challenge.pw_setahead_k08_refused.main.body.getD i (.Pass ⟨0, 0, 0, 0⟩)
abbrev s_held_of : Stmt := topS 3
abbrev N_held_of : List Str := ["edges", "show"]
abbrev A_held_of : List Str := ["edges", "show"]
theorem sc_held_of : FnScope N_held_of A_held_of (defScope s_held_of) := ⟨rfl, rfl, rfl, by decide +kernel, rfl, by decide +kernel, by decide +kernel⟩
abbrev s_can_be : Stmt := topS 5
abbrev N_can_be : List Str := ["edges", "shows", "some", "layed", "at", "place", "first", "behind", "other", "begin", "end"]
abbrev A_can_be : List Str := ["edges", "shows", "some", "layed"]
theorem sc_can_be : FnScope N_can_be A_can_be (defScope s_can_be) := ⟨rfl, rfl, rfl, by decide +kernel, rfl, by decide +kernel, by decide +kernel⟩
abbrev s_Laid_init : Stmt := inClass (topS 6) 0
abbrev N_Laid_init : List Str := ["self", "tuners"]
abbrev A_Laid_init : List Str := ["self", "tuners"]
theorem sc_Laid_init : FnScope N_Laid_init A_Laid_init (defScope s_Laid_init) := ⟨rfl, rfl, rfl, by decide +kernel, rfl, by decide +kernel, by decide +kernel⟩
abbrev s_Crowd_init : Stmt := inClass (topS 7) 0
abbrev N_Crowd_init : List Str := ["self", "moment"]
abbrev A_Crowd_init : List Str := ["self", "moment"]
theorem sc_Crowd_init : FnScope N_Crowd_init A_Crowd_init (defScope s_Crowd_init) := ⟨rfl, rfl, rfl, by decide +kernel, rfl, by decide +kernel, by decide +kernel⟩
abbrev s_Best_init : Stmt := inClass (topS 9) 0
abbrev N_Best_init : List Str := ["self", "places", "prices"]
abbrev A_Best_init : List Str := ["self", "places", "prices"]
theorem sc_Best_init : FnScope N_Best_init A_Best_init (defScope s_Best_init) := ⟨rfl, rfl, rfl, by decide +kernel, rfl, by decide +kernel, by decide +kernel⟩
abbrev s_is_whole : Stmt := topS 26
abbrev N_is_whole : List Str := ["thing"]
abbrev A_is_whole : List Str := ["thing"]
theorem sc_is_whole : FnScope N_is_whole A_is_whole (defScope s_is_whole) := ⟨rfl, rfl, rfl, by decide +kernel, rfl, by decide +kernel, by decide +kernel⟩
abbrev s_is_show : Stmt := topS 27
abbrev N_is_show : List Str := ["thing", "one"]
abbrev A_is_show : List Str := ["thing"]
theorem sc_is_show : FnScope N_is_show A_is_show (defScope s_is_show) := ⟨rfl, rfl, rfl, by decide +kernel, rfl, by decide +kernel, by decide +kernel⟩
abbrev s_asked_tuners : Stmt := topS 28
abbrev N_asked_tuners : List Str := ["tuners"]
abbrev A_asked_tuners : List Str := ["tuners"]
theorem sc_asked_tuners : FnScope N_asked_tuners A_asked_tuners (defScope s_asked_tuners) := ⟨rfl, rfl, rfl, by decide +kernel, rfl, by decide +kernel, by decide +kernel⟩
abbrev s_asked_edges : Stmt := topS 29
abbrev N_asked_edges : List Str := ["edges", "one"]
abbrev A_asked_edges : List Str := ["edges"]
theorem sc_asked_edges : FnScope N_asked_edges A_asked_edges (defScope s_asked_edges) := ⟨rfl, rfl, rfl, by decide +kernel, rfl, by decide +kernel, by decide +kernel⟩
abbrev s_asked_shows : Stmt := topS 30
abbrev N_asked_shows : List Str := ["shows", "one"]
abbrev A_asked_shows : List Str := ["shows"]
theorem sc_asked_shows : FnScope N_asked_shows A_asked_shows (defScope s_asked_shows) := ⟨rfl, rfl, rfl, by decide +kernel, rfl, by decide +kernel, by decide +kernel⟩
abbrev s_are_places : Stmt := topS 31
abbrev N_are_places : List Str := ["shows", "some", "one", "at"]
abbrev A_are_places : List Str := ["shows", "some"]
theorem sc_are_places : FnScope N_are_places A_are_places (defScope s_are_places) := ⟨rfl, rfl, rfl, by decide +kernel, rfl, by decide +kernel, by decide +kernel⟩
abbrev s_asked_places : Stmt := topS 32
abbrev N_asked_places : List Str := ["shows", "some"]
abbrev A_asked_places : List Str := ["shows", "some"]
theorem sc_asked_places : FnScope N_asked_places A_asked_places (defScope s_asked_places) := ⟨rfl, rfl, rfl, by decide +kernel, rfl, by decide +kernel, by decide +kernel⟩
abbrev s_asked_wishes : Stmt := topS 33
abbrev N_asked_wishes : List Str := ["shows", "wishes", "row"]
abbrev A_asked_wishes : List Str := ["shows", "wishes"]
theorem sc_asked_wishes : FnScope N_asked_wishes A_asked_wishes (defScope s_asked_wishes) := ⟨rfl, rfl, rfl, by decide +kernel, rfl, by decide +kernel, by decide +kernel⟩
abbrev s_asked_all : Stmt := topS 34
abbrev N_asked_all : List Str := ["tuners", "edges", "shows"]
abbrev A_asked_all : List Str := ["tuners", "edges", "shows"]
theorem sc_asked_all : FnScope N_asked_all A_asked_all (defScope s_asked_all) := ⟨rfl, rfl, rfl, by decide +kernel, rfl, by decide +kernel, by decide +kernel⟩
abbrev s_laid_of : Stmt := topS 37
abbrev N_laid_of : List Str := ["tuners", "edges", "day", "some", "free", "found", "line", "at", "place", "held", "open_ones", "tuner"]
abbrev A_laid_of : List Str := ["tuners", "edges", "day", "some"]
theorem sc_laid_of : FnScope N_laid_of A_laid_of (defScope s_laid_of) := ⟨rfl, rfl, rfl, by decide +kernel, rfl, by decide +kernel, by decide +kernel⟩
abbrev s_judged : Stmt := topS 38
abbrev N_judged : List Str := ["tuners", "edges", "day", "some", "found", "moment"]
abbrev A_judged : List Str := ["tuners", "edges", "day", "some"]
theorem sc_judged : FnScope N_judged A_judged (defScope s_judged) := ⟨rfl, rfl, rfl, by decide +kernel, rfl, by decide +kernel, by decide +kernel⟩
abbrev s_ways_of : Stmt := topS 39
abbrev N_ways_of : List Str := ["tuners", "edges", "day", "some", "found", "at", "longer", "layed", "tuner"]
abbrev A_ways_of : List Str := ["tuners", "edges", "day", "some"]
theorem sc_ways_of : FnScope N_ways_of A_ways_of (defScope s_ways_of) := ⟨rfl, rfl, rfl, by decide +kernel, rfl, by decide +kernel, by decide +kernel⟩
abbrev s_unlike : Stmt := topS 40
abbrev N_unlike : List Str := ["one", "other", "at", "tuner"]
abbrev A_unlike : List Str := ["one", "other"]
theorem sc_unlike : FnScope N_unlike A_unlike (defScope s_unlike) := ⟨rfl, rfl, rfl, by decide +kernel, rfl, by decide +kernel, by decide +kernel⟩
abbrev s_laid_anew : Stmt := topS 41
abbrev N_laid_anew : List Str := ["tuners", "edges", "day", "some", "old", "tuner", "every", "layed"]
abbrev A_laid_anew : List Str := ["tuners", "edges", "day", "some", "old"]
theorem sc_laid_anew : FnScope N_laid_anew A_laid_anew (defScope s_laid_anew) := ⟨rfl, rfl, rfl, by decide +kernel, rfl, by decide +kernel, by decide +kernel⟩
abbrev s_kept_of : Stmt := topS 43
abbrev N_kept_of : List Str := ["tuners", "edges", "day", "wishes", "found", "some", "row", "more", "good"]
abbrev A_kept_of : List Str := ["tuners", "edges", "day", "wishes"]
theorem sc_kept_of : FnScope N_kept_of A_kept_of (defScope s_kept_of) := ⟨rfl, rfl, rfl, by decide +kernel, rfl, by decide +kernel, by decide +kernel⟩
abbrev s_kept : Stmt := topS 44
abbrev N_kept : List Str := ["tuners", "edges", "day", "wishes"]
abbrev A_kept : List Str := ["tuners", "edges", "day", "wishes"]
theorem sc_kept : FnScope N_kept A_kept (defScope s_kept) := ⟨rfl, rfl, rfl, by decide +kernel, rfl, by decide +kernel, by decide +kernel⟩
abbrev s_moved_of : Stmt := topS 45
abbrev N_moved_of : List Str := ["day", "place", "by", "begin", "end", "worth"]
abbrev A_moved_of : List Str := ["day", "place", "by"]
theorem sc_moved_of : FnScope N_moved_of A_moved_of (defScope s_moved_of) := ⟨rfl, rfl, rfl, by decide +kernel, rfl, by decide +kernel, by decide +kernel⟩
abbrev s_asked_move : Stmt := topS 46
abbrev N_asked_move : List Str := ["day", "place", "by"]
abbrev A_asked_move : List Str := ["day", "place", "by"]
theorem sc_asked_move : FnScope N_asked_move A_asked_move (defScope s_asked_move) := ⟨rfl, rfl, rfl, by decide +kernel, rfl, by decide +kernel, by decide +kernel⟩
abbrev s_moved : Stmt := topS 47
abbrev N_moved : List Str := ["day", "place", "by"]
abbrev A_moved : List Str := ["day", "place", "by"]
theorem sc_moved : FnScope N_moved A_moved (defScope s_moved) := ⟨rfl, rfl, rfl, by decide +kernel, rfl, by decide +kernel, by decide +kernel⟩
abbrev s_changes : Stmt := topS 48
abbrev N_changes : List Str := ["tuners", "edges", "day", "wishes", "place", "by", "before", "after", "at", "good"]
abbrev A_changes : List Str := ["tuners", "edges", "day", "wishes", "place", "by"]
theorem sc_changes : FnScope N_changes A_changes (defScope s_changes) := ⟨rfl, rfl, rfl, by decide +kernel, rfl, by decide +kernel, by decide +kernel⟩
abbrev s_fell_of : Stmt := topS 50
abbrev N_fell_of : List Str := ["edges", "day", "used", "cost", "way", "before", "moment", "place", "show", "first", "behind"]
abbrev A_fell_of : List Str := ["edges", "day", "used"]
theorem sc_fell_of : FnScope N_fell_of A_fell_of (defScope s_fell_of) := ⟨rfl, rfl, rfl, by decide +kernel, rfl, by decide +kernel, by decide +kernel⟩
abbrev s_idle_of : Stmt := topS 51
abbrev N_idle_of : List Str := ["tuners", "edges", "day", "some", "found", "place", "first", "behind", "moment"]
abbrev A_idle_of : List Str := ["tuners", "edges", "day", "some"]
theorem sc_idle_of : FnScope N_idle_of A_idle_of (defScope s_idle_of) := ⟨rfl, rfl, rfl, by decide +kernel, rfl, by decide +kernel, by decide +kernel⟩
abbrev s_best_of : Stmt := topS 52
abbrev N_best_of : List Str := ["tuners", "edges", "day", "some", "cost", "many", "way", "here", "place", "one", "moment"]
abbrev A_best_of : List Str := ["tuners", "edges", "day"]
theorem sc_best_of : FnScope N_best_of A_best_of (defScope s_best_of) := ⟨rfl, rfl, rfl, by decide +kernel, rfl, by decide +kernel, by decide +kernel⟩
abbrev s_best : Stmt := topS 53
abbrev N_best : List Str := ["tuners", "edges", "day", "some", "prices"]
abbrev A_best : List Str := ["tuners", "edges", "day"]
theorem sc_best : FnScope N_best A_best (defScope s_best) := ⟨rfl, rfl, rfl, by decide +kernel, rfl, by decide +kernel, by decide +kernel⟩
abbrev s_most : Stmt := topS 54
abbrev N_most : List Str := ["tuners", "edges", "day", "place"]
abbrev A_most : List Str := ["tuners", "edges", "day"]
theorem sc_most : FnScope N_most A_most (defScope s_most) := ⟨rfl, rfl, rfl, by decide +kernel, rfl, by decide +kernel, by decide +kernel⟩
abbrev s__law_refused : Stmt := topS 56
abbrev N__law_refused : List Str := ["_law_ask", "_law_thing", "_law_due", "error", "_law_kinds", "_law_kind"]
abbrev A__law_refused : List Str := ["_law_ask", "_law_thing", "_law_due"]
theorem sc__law_refused : FnScope N__law_refused A__law_refused (defScope s__law_refused) := ⟨rfl, rfl, rfl, by decide +kernel, rfl, by decide +kernel, by decide +kernel⟩
abbrev s__law_each : Stmt := topS 57
abbrev N__law_each : List Str := ["_law_asks", "_law_things", "_law_due", "_law_ask", "_law_thing"]
abbrev A__law_each : List Str := ["_law_asks", "_law_things", "_law_due"]
theorem sc__law_each : FnScope N__law_each A__law_each (defScope s__law_each) := ⟨rfl, rfl, rfl, by decide +kernel, rfl, by decide +kernel, by decide +kernel⟩
abbrev s__law_no_numbers : Stmt := topS 58
abbrev N__law_no_numbers : List Str := ["_law_more"]
abbrev A__law_no_numbers : List Str := ["_law_more"]
theorem sc__law_no_numbers : FnScope N__law_no_numbers A__law_no_numbers (defScope s__law_no_numbers) := ⟨rfl, rfl, rfl, by decide +kernel, rfl, by decide +kernel, by decide +kernel⟩
abbrev s__law_no_places : Stmt := topS 59
abbrev N__law_no_places : List Str := ["_law_more", "_law_found", "_law_one"]
abbrev A__law_no_places : List Str := ["_law_more"]
theorem sc__law_no_places : FnScope N__law_no_places A__law_no_places (defScope s__law_no_places) := ⟨rfl, rfl, rfl, by decide +kernel, rfl, by decide +kernel, by decide +kernel⟩
abbrev s__law_day_right : Stmt := topS 60
abbrev N__law_day_right : List Str := ["_law_day", "_law_more", "_law_tuners", "_law_asks", "_law_edges", "_law_one", "_law_days"]
abbrev A__law_day_right : List Str := ["_law_day", "_law_more"]
theorem sc__law_day_right : FnScope N__law_day_right A__law_day_right (defScope s__law_day_right) := ⟨rfl, rfl, rfl, by decide +kernel, rfl, by decide +kernel, by decide +kernel⟩
abbrev s__law_rest_right : Stmt := topS 61
abbrev N__law_rest_right : List Str := ["_law_day", "_law_more", "_law_asks", "_law_spots", "_law_wishes", "_law_row", "_law_moves", "_law_layings", "_law_one", "_law_alike"]
abbrev A__law_rest_right : List Str := ["_law_day", "_law_more"]
theorem sc__law_rest_right : FnScope N__law_rest_right A__law_rest_right (defScope s__law_rest_right) := ⟨rfl, rfl, rfl, by decide +kernel, rfl, by decide +kernel, by decide +kernel⟩
abbrev s_law : Stmt := topS 62
abbrev N_law : List Str := ["_law_script", "_law_day", "_law_cell", "_law_more"]
abbrev A_law : List Str := ["_law_script"]
theorem sc_law : FnScope N_law A_law (defScope s_law) := ⟨rfl, rfl, rfl, by decide +kernel, rfl, by decide +kernel, by decide +kernel⟩
instance lams : LamTab := ⟨fun n => match n with
  | 0 => lamOf ((("_law_day_right" : Str) ++ ".<locals>.") ++ "<lambda>") ((exElts (stVal ((defBody s__law_day_right).getD 1 (.Pass ⟨0, 0, 0, 0⟩)))).getD 0 noEx)
  | 1 => lamOf ((("_law_day_right" : Str) ++ ".<locals>.") ++ "<lambda>") ((exElts (stVal ((defBody s__law_day_right).getD 1 (.Pass ⟨0, 0, 0, 0⟩)))).getD 1 noEx)
  | 2 => lamOf ((("_law_day_right" : Str) ++ ".<locals>.") ++ "<lambda>") ((exElts (exRight (stVal ((defBody s__law_day_right).getD 2 (.Pass ⟨0, 0, 0, 0⟩))))).getD 0 noEx)
  | 3 => lamOf ((("_law_day_right" : Str) ++ ".<locals>.") ++ "<lambda>") ((exElts (exRight (stVal ((defBody s__law_day_right).getD 2 (.Pass ⟨0, 0, 0, 0⟩))))).getD 1 noEx)
  | 4 => lamOf ((("_law_day_right" : Str) ++ ".<locals>.") ++ "<lambda>") ((exElts (exRight (stVal ((defBody s__law_day_right).getD 3 (.Pass ⟨0, 0, 0, 0⟩))))).getD 0 noEx)
  | 5 => lamOf ((("_law_day_right" : Str) ++ ".<locals>.") ++ "<lambda>") ((exElts (exRight (stVal ((defBody s__law_day_right).getD 3 (.Pass ⟨0, 0, 0, 0⟩))))).getD 1 noEx)
  | 6 => lamOf ((("_law_day_right" : Str) ++ ".<locals>.") ++ "<lambda>") ((exElts (stVal ((defBody s__law_day_right).getD 7 (.Pass ⟨0, 0, 0, 0⟩)))).getD 0 noEx)
  | 7 => lamOf ((("_law_day_right" : Str) ++ ".<locals>.") ++ "<lambda>") ((exElts (stVal ((defBody s__law_day_right).getD 7 (.Pass ⟨0, 0, 0, 0⟩)))).getD 1 noEx)
  | 8 => lamOf ((("_law_day_right" : Str) ++ ".<locals>.") ++ "<lambda>") ((exElts (exRight (stVal ((defBody s__law_day_right).getD 8 (.Pass ⟨0, 0, 0, 0⟩))))).getD 0 noEx)
  | 9 => lamOf ((("_law_day_right" : Str) ++ ".<locals>.") ++ "<lambda>") ((exElts (exRight (stVal ((defBody s__law_day_right).getD 8 (.Pass ⟨0, 0, 0, 0⟩))))).getD 1 noEx)
  | 10 => lamOf ((("_law_day_right" : Str) ++ ".<locals>.") ++ "<lambda>") ((exElts (exRight (stVal ((defBody s__law_day_right).getD 9 (.Pass ⟨0, 0, 0, 0⟩))))).getD 0 noEx)
  | 11 => lamOf ((("_law_day_right" : Str) ++ ".<locals>.") ++ "<lambda>") ((exElts (exRight (stVal ((defBody s__law_day_right).getD 9 (.Pass ⟨0, 0, 0, 0⟩))))).getD 1 noEx)
  | 12 => lamOf ((("_law_day_right" : Str) ++ ".<locals>.") ++ "<lambda>") ((exElts (stVal ((defBody s__law_day_right).getD 14 (.Pass ⟨0, 0, 0, 0⟩)))).getD 0 noEx)
  | 13 => lamOf ((("_law_day_right" : Str) ++ ".<locals>.") ++ "<lambda>") ((exElts (stVal ((defBody s__law_day_right).getD 14 (.Pass ⟨0, 0, 0, 0⟩)))).getD 1 noEx)
  | 14 => lamOf ((("_law_day_right" : Str) ++ ".<locals>.") ++ "<lambda>") ((exElts (exRight (stVal ((defBody s__law_day_right).getD 15 (.Pass ⟨0, 0, 0, 0⟩))))).getD 0 noEx)
  | 15 => lamOf ((("_law_day_right" : Str) ++ ".<locals>.") ++ "<lambda>") ((exElts (exRight (stVal ((defBody s__law_day_right).getD 15 (.Pass ⟨0, 0, 0, 0⟩))))).getD 1 noEx)
  | 16 => lamOf ((("_law_day_right" : Str) ++ ".<locals>.") ++ "<lambda>") ((exArgs (stExpr ((defBody s__law_day_right).getD 16 (.Pass ⟨0, 0, 0, 0⟩)))).getD 0 noEx)
  | 17 => lamOf ((("_law_day_right" : Str) ++ ".<locals>.") ++ "<lambda>") ((exElts (exRight (stVal ((defBody s__law_day_right).getD 17 (.Pass ⟨0, 0, 0, 0⟩))))).getD 0 noEx)
  | 18 => lamOf ((("_law_day_right" : Str) ++ ".<locals>.") ++ "<lambda>") ((exElts (exRight (stVal ((defBody s__law_day_right).getD 17 (.Pass ⟨0, 0, 0, 0⟩))))).getD 1 noEx)
  | 19 => lamOf ((("_law_rest_right" : Str) ++ ".<locals>.") ++ "<lambda>") ((exElts (stVal ((defBody s__law_rest_right).getD 0 (.Pass ⟨0, 0, 0, 0⟩)))).getD 0 noEx)
  | 20 => lamOf ((("_law_rest_right" : Str) ++ ".<locals>.") ++ "<lambda>") ((exElts (stVal ((defBody s__law_rest_right).getD 0 (.Pass ⟨0, 0, 0, 0⟩)))).getD 1 noEx)
  | 21 => lamOf ((("_law_rest_right" : Str) ++ ".<locals>.") ++ "<lambda>") ((exElts (stVal ((defBody s__law_rest_right).getD 3 (.Pass ⟨0, 0, 0, 0⟩)))).getD 0 noEx)
  | 22 => lamOf ((("_law_rest_right" : Str) ++ ".<locals>.") ++ "<lambda>") ((exElts (stVal ((defBody s__law_rest_right).getD 3 (.Pass ⟨0, 0, 0, 0⟩)))).getD 1 noEx)
  | 23 => lamOf ((("_law_rest_right" : Str) ++ ".<locals>.") ++ "<lambda>") ((exElts (stVal ((defBody s__law_rest_right).getD 7 (.Pass ⟨0, 0, 0, 0⟩)))).getD 0 noEx)
  | 24 => lamOf ((("_law_rest_right" : Str) ++ ".<locals>.") ++ "<lambda>") ((exElts (stVal ((defBody s__law_rest_right).getD 7 (.Pass ⟨0, 0, 0, 0⟩)))).getD 1 noEx)
  | 25 => lamOf ((("_law_rest_right" : Str) ++ ".<locals>.") ++ "<lambda>") ((exElts (stVal ((defBody s__law_rest_right).getD 10 (.Pass ⟨0, 0, 0, 0⟩)))).getD 0 noEx)
  | 26 => lamOf ((("_law_rest_right" : Str) ++ ".<locals>.") ++ "<lambda>") ((exElts (stVal ((defBody s__law_rest_right).getD 10 (.Pass ⟨0, 0, 0, 0⟩)))).getD 1 noEx)
  | 27 => lamOf ((("_law_rest_right" : Str) ++ ".<locals>.") ++ "<lambda>") ((exElts ((exArgs (exOper (stTest ((defBody s__law_rest_right).getD 14 (.Pass ⟨0, 0, 0, 0⟩))))).getD 0 noEx)).getD 0 noEx)
  | 28 => lamOf ((("_law_rest_right" : Str) ++ ".<locals>.") ++ "<lambda>") ((exElts (stVal ((defBody s__law_rest_right).getD 16 (.Pass ⟨0, 0, 0, 0⟩)))).getD 0 noEx)
  | _ => lamOf Str.empty noEx⟩
structure Txt (K : PySem.W.Frag) (mg : Str → Option Value) where
  fa_held_of : Addr
  fd_held_of : FuncData
  F_held_of : Fun K "held_of" "held_of" s_held_of fa_held_of fd_held_of
  g_held_of : mg "held_of" = some (.ref fa_held_of)
  fa_can_be : Addr
  fd_can_be : FuncData
  F_can_be : Fun K "can_be" "can_be" s_can_be fa_can_be fd_can_be
  g_can_be : mg "can_be" = some (.ref fa_can_be)
  fa_Laid_init : Addr
  fd_Laid_init : FuncData
  F_Laid_init : Fun K "__init__" "Laid.__init__" s_Laid_init fa_Laid_init fd_Laid_init
  fa_Crowd_init : Addr
  fd_Crowd_init : FuncData
  F_Crowd_init : Fun K "__init__" "Crowd.__init__" s_Crowd_init fa_Crowd_init fd_Crowd_init
  fa_Best_init : Addr
  fd_Best_init : FuncData
  F_Best_init : Fun K "__init__" "Best.__init__" s_Best_init fa_Best_init fd_Best_init
  fa_is_whole : Addr
  fd_is_whole : FuncData
  F_is_whole : Fun K "is_whole" "is_whole" s_is_whole fa_is_whole fd_is_whole
  g_is_whole : mg "is_whole" = some (.ref fa_is_whole)
  fa_is_show : Addr
  fd_is_show : FuncData
  F_is_show : Fun K "is_show" "is_show" s_is_show fa_is_show fd_is_show
  g_is_show : mg "is_show" = some (.ref fa_is_show)
  fa_asked_tuners : Addr
  fd_asked_tuners : FuncData
  F_asked_tuners : Fun K "asked_tuners" "asked_tuners" s_asked_tuners fa_asked_tuners fd_asked_tuners
  g_asked_tuners : mg "asked_tuners" = some (.ref fa_asked_tuners)
  fa_asked_edges : Addr
  fd_asked_edges : FuncData
  F_asked_edges : Fun K "asked_edges" "asked_edges" s_asked_edges fa_asked_edges fd_asked_edges
  g_asked_edges : mg "asked_edges" = some (.ref fa_asked_edges)
  fa_asked_shows : Addr
  fd_asked_shows : FuncData
  F_asked_shows : Fun K "asked_shows" "asked_shows" s_asked_shows fa_asked_shows fd_asked_shows
  g_asked_shows : mg "asked_shows" = some (.ref fa_asked_shows)
  fa_are_places : Addr
  fd_are_places : FuncData
  F_are_places : Fun K "are_places" "are_places" s_are_places fa_are_places fd_are_places
  g_are_places : mg "are_places" = some (.ref fa_are_places)
  fa_asked_places : Addr
  fd_asked_places : FuncData
  F_asked_places : Fun K "asked_places" "asked_places" s_asked_places fa_asked_places fd_asked_places
  g_asked_places : mg "asked_places" = some (.ref fa_asked_places)
  fa_asked_wishes : Addr
  fd_asked_wishes : FuncData
  F_asked_wishes : Fun K "asked_wishes" "asked_wishes" s_asked_wishes fa_asked_wishes fd_asked_wishes
  g_asked_wishes : mg "asked_wishes" = some (.ref fa_asked_wishes)
  fa_asked_all : Addr
  fd_asked_all : FuncData
  F_asked_all : Fun K "asked_all" "asked_all" s_asked_all fa_asked_all fd_asked_all
  g_asked_all : mg "asked_all" = some (.ref fa_asked_all)
  fa_laid_of : Addr
  fd_laid_of : FuncData
  F_laid_of : Fun K "laid_of" "laid_of" s_laid_of fa_laid_of fd_laid_of
  g_laid_of : mg "laid_of" = some (.ref fa_laid_of)
  fa_judged : Addr
  fd_judged : FuncData
  F_judged : Fun K "judged" "judged" s_judged fa_judged fd_judged
  g_judged : mg "judged" = some (.ref fa_judged)
  fa_ways_of : Addr
  fd_ways_of : FuncData
  F_ways_of : Fun K "ways_of" "ways_of" s_ways_of fa_ways_of fd_ways_of
  g_ways_of : mg "ways_of" = some (.ref fa_ways_of)
  fa_unlike : Addr
  fd_unlike : FuncData
  F_unlike : Fun K "unlike" "unlike" s_unlike fa_unlike fd_unlike
  g_unlike : mg "unlike" = some (.ref fa_unlike)
  fa_laid_anew : Addr
  fd_laid_anew : FuncData
  F_laid_anew : Fun K "laid_anew" "laid_anew" s_laid_anew fa_laid_anew fd_laid_anew
  g_laid_anew : mg "laid_anew" = some (.ref fa_laid_anew)
  fa_kept_of : Addr
  fd_kept_of : FuncData
  F_kept_of : Fun K "kept_of" "kept_of" s_kept_of fa_kept_of fd_kept_of
  g_kept_of : mg "kept_of" = some (.ref fa_kept_of)
  fa_kept : Addr
  fd_kept : FuncData
  F_kept : Fun K "kept" "kept" s_kept fa_kept fd_kept
  g_kept : mg "kept" = some (.ref fa_kept)
  fa_moved_of : Addr
  fd_moved_of : FuncData
  F_moved_of : Fun K "moved_of" "moved_of" s_moved_of fa_moved_of fd_moved_of
  g_moved_of : mg "moved_of" = some (.ref fa_moved_of)
  fa_asked_move : Addr
  fd_asked_move : FuncData
  F_asked_move : Fun K "asked_move" "asked_move" s_asked_move fa_asked_move fd_asked_move
  g_asked_move : mg "asked_move" = some (.ref fa_asked_move)
  fa_moved : Addr
  fd_moved : FuncData
  F_moved : Fun K "moved" "moved" s_moved fa_moved fd_moved
  g_moved : mg "moved" = some (.ref fa_moved)
  fa_changes : Addr
  fd_changes : FuncData
  F_changes : Fun K "changes" "changes" s_changes fa_changes fd_changes
  g_changes : mg "changes" = some (.ref fa_changes)
  fa_fell_of : Addr
  fd_fell_of : FuncData
  F_fell_of : Fun K "fell_of" "fell_of" s_fell_of fa_fell_of fd_fell_of
  g_fell_of : mg "fell_of" = some (.ref fa_fell_of)
  fa_idle_of : Addr
  fd_idle_of : FuncData
  F_idle_of : Fun K "idle_of" "idle_of" s_idle_of fa_idle_of fd_idle_of
  g_idle_of : mg "idle_of" = some (.ref fa_idle_of)
  fa_best_of : Addr
  fd_best_of : FuncData
  F_best_of : Fun K "best_of" "best_of" s_best_of fa_best_of fd_best_of
  g_best_of : mg "best_of" = some (.ref fa_best_of)
  fa_best : Addr
  fd_best : FuncData
  F_best : Fun K "best" "best" s_best fa_best fd_best
  g_best : mg "best" = some (.ref fa_best)
  fa_most : Addr
  fd_most : FuncData
  F_most : Fun K "most" "most" s_most fa_most fd_most
  g_most : mg "most" = some (.ref fa_most)
  fa__law_refused : Addr
  fd__law_refused : FuncData
  F__law_refused : Fun K "_law_refused" "_law_refused" s__law_refused fa__law_refused fd__law_refused
  g__law_refused : mg "_law_refused" = some (.ref fa__law_refused)
  fa__law_each : Addr
  fd__law_each : FuncData
  F__law_each : Fun K "_law_each" "_law_each" s__law_each fa__law_each fd__law_each
  g__law_each : mg "_law_each" = some (.ref fa__law_each)
  fa__law_no_numbers : Addr
  fd__law_no_numbers : FuncData
  F__law_no_numbers : Fun K "_law_no_numbers" "_law_no_numbers" s__law_no_numbers fa__law_no_numbers fd__law_no_numbers
  g__law_no_numbers : mg "_law_no_numbers" = some (.ref fa__law_no_numbers)
  fa__law_no_places : Addr
  fd__law_no_places : FuncData
  F__law_no_places : Fun K "_law_no_places" "_law_no_places" s__law_no_places fa__law_no_places fd__law_no_places
  g__law_no_places : mg "_law_no_places" = some (.ref fa__law_no_places)
  fa__law_day_right : Addr
  fd__law_day_right : FuncData
  F__law_day_right : Fun K "_law_day_right" "_law_day_right" s__law_day_right fa__law_day_right fd__law_day_right
  tc__law_day_right : Addr
  tp__law_day_right : Addr
  Fc__law_day_right : FunC K "_law_day_right" "_law_day_right" s__law_day_right fa__law_day_right fd__law_day_right tc__law_day_right
  g__law_day_right : mg "_law_day_right" = some (.ref fa__law_day_right)
  fa__law_rest_right : Addr
  fd__law_rest_right : FuncData
  F__law_rest_right : Fun K "_law_rest_right" "_law_rest_right" s__law_rest_right fa__law_rest_right fd__law_rest_right
  tc__law_rest_right : Addr
  tp__law_rest_right : Addr
  Fc__law_rest_right : FunC K "_law_rest_right" "_law_rest_right" s__law_rest_right fa__law_rest_right fd__law_rest_right tc__law_rest_right
  tne__law_day_right__law_rest_right : tp__law_day_right ≠ tp__law_rest_right
  g__law_rest_right : mg "_law_rest_right" = some (.ref fa__law_rest_right)
  fa_law : Addr
  fd_law : FuncData
  F_law : Fun K "law" "law" s_law fa_law fd_law
  g_law : mg "law" = some (.ref fa_law)
  C_AheadError : Addr
  g_AheadError : mg "AheadError" = some (.ref C_AheadError)
  C_BadEdges : Addr
  g_BadEdges : mg "BadEdges" = some (.ref C_BadEdges)
  C_BadLaying : Addr
  g_BadLaying : mg "BadLaying" = some (.ref C_BadLaying)
  C_BadMove : Addr
  g_BadMove : mg "BadMove" = some (.ref C_BadMove)
  C_BadPlaces : Addr
  g_BadPlaces : mg "BadPlaces" = some (.ref C_BadPlaces)
  C_BadShows : Addr
  g_BadShows : mg "BadShows" = some (.ref C_BadShows)
  C_BadTuners : Addr
  g_BadTuners : mg "BadTuners" = some (.ref C_BadTuners)
  C_BadWishes : Addr
  g_BadWishes : mg "BadWishes" = some (.ref C_BadWishes)
  C_Best : Addr
  g_Best : mg "Best" = some (.ref C_Best)
  C_Crowd : Addr
  g_Crowd : mg "Crowd" = some (.ref C_Crowd)
  C_Crowded : Addr
  g_Crowded : mg "Crowded" = some (.ref C_Crowded)
  C_Laid : Addr
  g_Laid : mg "Laid" = some (.ref C_Laid)
  C_TooMany : Addr
  g_TooMany : mg "TooMany" = some (.ref C_TooMany)
  ic_Best : IsC K C_Best
  na_Best_places : NoAttr K C_Best "places"
  na_Best_prices : NoAttr K C_Best "prices"
  mk_Best : Mk K C_Best fa_Best_init
  ic_Crowd : IsC K C_Crowd
  na_Crowd_moment : NoAttr K C_Crowd "moment"
  mk_Crowd : Mk K C_Crowd fa_Crowd_init
  ic_Laid : IsC K C_Laid
  na_Laid_tuners : NoAttr K C_Laid "tuners"
  mk_Laid : Mk K C_Laid fa_Laid_init
  rc_BadEdges : RfC K mg "BadEdges" C_BadEdges
  ec_BadEdges : ExcC K C_BadEdges
  em_BadEdges_AheadError : PySem.W.exmOne K (.ref C_BadEdges) (.ref C_AheadError) = some true
  iv_BadEdges : PySem.W.kitOne K (.ref C_BadEdges) (.type "ValueError") = some true
  ie_BadEdges_BadEdges : PySem.W.kitOne K (.ref C_BadEdges) (.ref C_BadEdges) = some true
  ie_BadEdges_BadLaying : PySem.W.kitOne K (.ref C_BadEdges) (.ref C_BadLaying) = some false
  ie_BadEdges_BadMove : PySem.W.kitOne K (.ref C_BadEdges) (.ref C_BadMove) = some false
  ie_BadEdges_BadPlaces : PySem.W.kitOne K (.ref C_BadEdges) (.ref C_BadPlaces) = some false
  ie_BadEdges_BadShows : PySem.W.kitOne K (.ref C_BadEdges) (.ref C_BadShows) = some false
  ie_BadEdges_BadTuners : PySem.W.kitOne K (.ref C_BadEdges) (.ref C_BadTuners) = some false
  ie_BadEdges_BadWishes : PySem.W.kitOne K (.ref C_BadEdges) (.ref C_BadWishes) = some false
  ie_BadEdges_Crowded : PySem.W.kitOne K (.ref C_BadEdges) (.ref C_Crowded) = some false
  ie_BadEdges_TooMany : PySem.W.kitOne K (.ref C_BadEdges) (.ref C_TooMany) = some false
  rc_BadLaying : RfC K mg "BadLaying" C_BadLaying
  ec_BadLaying : ExcC K C_BadLaying
  em_BadLaying_AheadError : PySem.W.exmOne K (.ref C_BadLaying) (.ref C_AheadError) = some true
  iv_BadLaying : PySem.W.kitOne K (.ref C_BadLaying) (.type "ValueError") = some true
  ie_BadLaying_BadEdges : PySem.W.kitOne K (.ref C_BadLaying) (.ref C_BadEdges) = some false
  ie_BadLaying_BadLaying : PySem.W.kitOne K (.ref C_BadLaying) (.ref C_BadLaying) = some true
  ie_BadLaying_BadMove : PySem.W.kitOne K (.ref C_BadLaying) (.ref C_BadMove) = some false
  ie_BadLaying_BadPlaces : PySem.W.kitOne K (.ref C_BadLaying) (.ref C_BadPlaces) = some false
  ie_BadLaying_BadShows : PySem.W.kitOne K (.ref C_BadLaying) (.ref C_BadShows) = some false
  ie_BadLaying_BadTuners : PySem.W.kitOne K (.ref C_BadLaying) (.ref C_BadTuners) = some false
  ie_BadLaying_BadWishes : PySem.W.kitOne K (.ref C_BadLaying) (.ref C_BadWishes) = some false
  ie_BadLaying_Crowded : PySem.W.kitOne K (.ref C_BadLaying) (.ref C_Crowded) = some false
  ie_BadLaying_TooMany : PySem.W.kitOne K (.ref C_BadLaying) (.ref C_TooMany) = some false
  rc_BadMove : RfC K mg "BadMove" C_BadMove
  ec_BadMove : ExcC K C_BadMove
  em_BadMove_AheadError : PySem.W.exmOne K (.ref C_BadMove) (.ref C_AheadError) = some true
  iv_BadMove : PySem.W.kitOne K (.ref C_BadMove) (.type "ValueError") = some true
  ie_BadMove_BadEdges : PySem.W.kitOne K (.ref C_BadMove) (.ref C_BadEdges) = some false
  ie_BadMove_BadLaying : PySem.W.kitOne K (.ref C_BadMove) (.ref C_BadLaying) = some false
  ie_BadMove_BadMove : PySem.W.kitOne K (.ref C_BadMove) (.ref C_BadMove) = some true
  ie_BadMove_BadPlaces : PySem.W.kitOne K (.ref C_BadMove) (.ref C_BadPlaces) = some false
  ie_BadMove_BadShows : PySem.W.kitOne K (.ref C_BadMove) (.ref C_BadShows) = some false
  ie_BadMove_BadTuners : PySem.W.kitOne K (.ref C_BadMove) (.ref C_BadTuners) = some false
  ie_BadMove_BadWishes : PySem.W.kitOne K (.ref C_BadMove) (.ref C_BadWishes) = some false
  ie_BadMove_Crowded : PySem.W.kitOne K (.ref C_BadMove) (.ref C_Crowded) = some false
  ie_BadMove_TooMany : PySem.W.kitOne K (.ref C_BadMove) (.ref C_TooMany) = some false
  rc_BadPlaces : RfC K mg "BadPlaces" C_BadPlaces
  ec_BadPlaces : ExcC K C_BadPlaces
  em_BadPlaces_AheadError : PySem.W.exmOne K (.ref C_BadPlaces) (.ref C_AheadError) = some true
  iv_BadPlaces : PySem.W.kitOne K (.ref C_BadPlaces) (.type "ValueError") = some true
  ie_BadPlaces_BadEdges : PySem.W.kitOne K (.ref C_BadPlaces) (.ref C_BadEdges) = some false
  ie_BadPlaces_BadLaying : PySem.W.kitOne K (.ref C_BadPlaces) (.ref C_BadLaying) = some false
  ie_BadPlaces_BadMove : PySem.W.kitOne K (.ref C_BadPlaces) (.ref C_BadMove) = some false
  ie_BadPlaces_BadPlaces : PySem.W.kitOne K (.ref C_BadPlaces) (.ref C_BadPlaces) = some true
  ie_BadPlaces_BadShows : PySem.W.kitOne K (.ref C_BadPlaces) (.ref C_BadShows) = some false
  ie_BadPlaces_BadTuners : PySem.W.kitOne K (.ref C_BadPlaces) (.ref C_BadTuners) = some false
  ie_BadPlaces_BadWishes : PySem.W.kitOne K (.ref C_BadPlaces) (.ref C_BadWishes) = some false
  ie_BadPlaces_Crowded : PySem.W.kitOne K (.ref C_BadPlaces) (.ref C_Crowded) = some false
  ie_BadPlaces_TooMany : PySem.W.kitOne K (.ref C_BadPlaces) (.ref C_TooMany) = some false
  rc_BadShows : RfC K mg "BadShows" C_BadShows
  ec_BadShows : ExcC K C_BadShows
  em_BadShows_AheadError : PySem.W.exmOne K (.ref C_BadShows) (.ref C_AheadError) = some true
  iv_BadShows : PySem.W.kitOne K (.ref C_BadShows) (.type "ValueError") = some true
  ie_BadShows_BadEdges : PySem.W.kitOne K (.ref C_BadShows) (.ref C_BadEdges) = some false
  ie_BadShows_BadLaying : PySem.W.kitOne K (.ref C_BadShows) (.ref C_BadLaying) = some false
  ie_BadShows_BadMove : PySem.W.kitOne K (.ref C_BadShows) (.ref C_BadMove) = some false
  ie_BadShows_BadPlaces : PySem.W.kitOne K (.ref C_BadShows) (.ref C_BadPlaces) = some false
  ie_BadShows_BadShows : PySem.W.kitOne K (.ref C_BadShows) (.ref C_BadShows) = some true
  ie_BadShows_BadTuners : PySem.W.kitOne K (.ref C_BadShows) (.ref C_BadTuners) = some false
  ie_BadShows_BadWishes : PySem.W.kitOne K (.ref C_BadShows) (.ref C_BadWishes) = some false
  ie_BadShows_Crowded : PySem.W.kitOne K (.ref C_BadShows) (.ref C_Crowded) = some false
  ie_BadShows_TooMany : PySem.W.kitOne K (.ref C_BadShows) (.ref C_TooMany) = some false
  rc_BadTuners : RfC K mg "BadTuners" C_BadTuners
  ec_BadTuners : ExcC K C_BadTuners
  em_BadTuners_AheadError : PySem.W.exmOne K (.ref C_BadTuners) (.ref C_AheadError) = some true
  iv_BadTuners : PySem.W.kitOne K (.ref C_BadTuners) (.type "ValueError") = some true
  ie_BadTuners_BadEdges : PySem.W.kitOne K (.ref C_BadTuners) (.ref C_BadEdges) = some false
  ie_BadTuners_BadLaying : PySem.W.kitOne K (.ref C_BadTuners) (.ref C_BadLaying) = some false
  ie_BadTuners_BadMove : PySem.W.kitOne K (.ref C_BadTuners) (.ref C_BadMove) = some false
  ie_BadTuners_BadPlaces : PySem.W.kitOne K (.ref C_BadTuners) (.ref C_BadPlaces) = some false
  ie_BadTuners_BadShows : PySem.W.kitOne K (.ref C_BadTuners) (.ref C_BadShows) = some false
  ie_BadTuners_BadTuners : PySem.W.kitOne K (.ref C_BadTuners) (.ref C_BadTuners) = some true
  ie_BadTuners_BadWishes : PySem.W.kitOne K (.ref C_BadTuners) (.ref C_BadWishes) = some false
  ie_BadTuners_Crowded : PySem.W.kitOne K (.ref C_BadTuners) (.ref C_Crowded) = some false
  ie_BadTuners_TooMany : PySem.W.kitOne K (.ref C_BadTuners) (.ref C_TooMany) = some false
  rc_BadWishes : RfC K mg "BadWishes" C_BadWishes
  ec_BadWishes : ExcC K C_BadWishes
  em_BadWishes_AheadError : PySem.W.exmOne K (.ref C_BadWishes) (.ref C_AheadError) = some true
  iv_BadWishes : PySem.W.kitOne K (.ref C_BadWishes) (.type "ValueError") = some true
  ie_BadWishes_BadEdges : PySem.W.kitOne K (.ref C_BadWishes) (.ref C_BadEdges) = some false
  ie_BadWishes_BadLaying : PySem.W.kitOne K (.ref C_BadWishes) (.ref C_BadLaying) = some false
  ie_BadWishes_BadMove : PySem.W.kitOne K (.ref C_BadWishes) (.ref C_BadMove) = some false
  ie_BadWishes_BadPlaces : PySem.W.kitOne K (.ref C_BadWishes) (.ref C_BadPlaces) = some false
  ie_BadWishes_BadShows : PySem.W.kitOne K (.ref C_BadWishes) (.ref C_BadShows) = some false
  ie_BadWishes_BadTuners : PySem.W.kitOne K (.ref C_BadWishes) (.ref C_BadTuners) = some false
  ie_BadWishes_BadWishes : PySem.W.kitOne K (.ref C_BadWishes) (.ref C_BadWishes) = some true
  ie_BadWishes_Crowded : PySem.W.kitOne K (.ref C_BadWishes) (.ref C_Crowded) = some false
  ie_BadWishes_TooMany : PySem.W.kitOne K (.ref C_BadWishes) (.ref C_TooMany) = some false
  rc_Crowded : RfC K mg "Crowded" C_Crowded
  ec_Crowded : ExcC K C_Crowded
  em_Crowded_AheadError : PySem.W.exmOne K (.ref C_Crowded) (.ref C_AheadError) = some true
  iv_Crowded : PySem.W.kitOne K (.ref C_Crowded) (.type "ValueError") = some true
  ie_Crowded_BadEdges : PySem.W.kitOne K (.ref C_Crowded) (.ref C_BadEdges) = some false
  ie_Crowded_BadLaying : PySem.W.kitOne K (.ref C_Crowded) (.ref C_BadLaying) = some false
  ie_Crowded_BadMove : PySem.W.kitOne K (.ref C_Crowded) (.ref C_BadMove) = some false
  ie_Crowded_BadPlaces : PySem.W.kitOne K (.ref C_Crowded) (.ref C_BadPlaces) = some false
  ie_Crowded_BadShows : PySem.W.kitOne K (.ref C_Crowded) (.ref C_BadShows) = some false
  ie_Crowded_BadTuners : PySem.W.kitOne K (.ref C_Crowded) (.ref C_BadTuners) = some false
  ie_Crowded_BadWishes : PySem.W.kitOne K (.ref C_Crowded) (.ref C_BadWishes) = some false
  ie_Crowded_Crowded : PySem.W.kitOne K (.ref C_Crowded) (.ref C_Crowded) = some true
  ie_Crowded_TooMany : PySem.W.kitOne K (.ref C_Crowded) (.ref C_TooMany) = some false
  rc_TooMany : RfC K mg "TooMany" C_TooMany
  ec_TooMany : ExcC K C_TooMany
  em_TooMany_AheadError : PySem.W.exmOne K (.ref C_TooMany) (.ref C_AheadError) = some true
  iv_TooMany : PySem.W.kitOne K (.ref C_TooMany) (.type "ValueError") = some true
  ie_TooMany_BadEdges : PySem.W.kitOne K (.ref C_TooMany) (.ref C_BadEdges) = some false
  ie_TooMany_BadLaying : PySem.W.kitOne K (.ref C_TooMany) (.ref C_BadLaying) = some false
  ie_TooMany_BadMove : PySem.W.kitOne K (.ref C_TooMany) (.ref C_BadMove) = some false
  ie_TooMany_BadPlaces : PySem.W.kitOne K (.ref C_TooMany) (.ref C_BadPlaces) = some false
  ie_TooMany_BadShows : PySem.W.kitOne K (.ref C_TooMany) (.ref C_BadShows) = some false
  ie_TooMany_BadTuners : PySem.W.kitOne K (.ref C_TooMany) (.ref C_BadTuners) = some false
  ie_TooMany_BadWishes : PySem.W.kitOne K (.ref C_TooMany) (.ref C_BadWishes) = some false
  ie_TooMany_Crowded : PySem.W.kitOne K (.ref C_TooMany) (.ref C_Crowded) = some false
  ie_TooMany_TooMany : PySem.W.kitOne K (.ref C_TooMany) (.ref C_TooMany) = some true
  n_ValueError : mg "ValueError" = none
  n_abs : mg "abs" = none
  n_all : mg "all" = none
  n_bool : mg "bool" = none
  n_enumerate : mg "enumerate" = none
  n_int : mg "int" = none
  n_isinstance : mg "isinstance" = none
  n_len : mg "len" = none
  n_list : mg "list" = none
  n_max : mg "max" = none
  n_min : mg "min" = none
  n_range : mg "range" = none
  n_set : mg "set" = none
  n_sorted : mg "sorted" = none
  n_sum : mg "sum" = none
  n_tuple : mg "tuple" = none
  t_DAY_answers : Tok
  c_DAY_answers : mg "DAY_answers" = some (.int 24 t_DAY_answers)
  t_DAY_days : Tok
  c_DAY_days : mg "DAY_days" = some (.int 24 t_DAY_days)
  t_MOST_SHOWS : Tok
  c_MOST_SHOWS : mg "MOST_SHOWS" = some (.int 10 t_MOST_SHOWS)
  t_MOST_SMALL : Tok
  c_MOST_SMALL : mg "MOST_SMALL" = some (.int 6 t_MOST_SMALL)
  t_MOST_WISHES : Tok
  c_MOST_WISHES : mg "MOST_WISHES" = some (.int 6 t_MOST_WISHES)
  t_MOST_WORTH : Tok
  c_MOST_WORTH : mg "MOST_WORTH" = some (.int 60 t_MOST_WORTH)
section
variable {K : PySem.W.Frag} {mg : Str → Option Value}
def mkNames : List Str := ["_law_day_right", "_law_rest_right"]
def cs (T : Txt K mg) : List (Addr × Addr) := [(T.tc__law_day_right, T.tp__law_day_right), (T.tc__law_rest_right, T.tp__law_rest_right)]
def tabs (T : Txt K mg) : List (Addr × Str) := [(T.tp__law_day_right, (("_law_day_right" : Str) ++ ".<locals>.") ++ "<lambda>"), (T.tp__law_rest_right, (("_law_rest_right" : Str) ++ ".<locals>.") ++ "<lambda>")]
theorem b_held_of (T : Txt K mg) : Binds K T.fd_held_of A_held_of [] := T.F_held_of.binds fun _ _ _ _ _ _ us hl => match us, hl with | [_, _], _ => rfl
theorem b_can_be (T : Txt K mg) : Binds K T.fd_can_be A_can_be [] := T.F_can_be.binds fun _ _ _ _ _ _ us hl => match us, hl with | [_, _, _, _], _ => rfl
theorem b_Laid_init (T : Txt K mg) : Binds K T.fd_Laid_init A_Laid_init [] := T.F_Laid_init.binds fun _ _ _ _ _ _ us hl => match us, hl with | [_, _], _ => rfl
theorem b_Crowd_init (T : Txt K mg) : Binds K T.fd_Crowd_init A_Crowd_init [] := T.F_Crowd_init.binds fun _ _ _ _ _ _ us hl => match us, hl with | [_, _], _ => rfl
theorem b_Best_init (T : Txt K mg) : Binds K T.fd_Best_init A_Best_init [] := T.F_Best_init.binds fun _ _ _ _ _ _ us hl => match us, hl with | [_, _, _], _ => rfl
theorem b_is_whole (T : Txt K mg) : Binds K T.fd_is_whole A_is_whole [] := T.F_is_whole.binds fun _ _ _ _ _ _ us hl => match us, hl with | [_], _ => rfl
theorem b_is_show (T : Txt K mg) : Binds K T.fd_is_show A_is_show [] := T.F_is_show.binds fun _ _ _ _ _ _ us hl => match us, hl with | [_], _ => rfl
theorem b_asked_tuners (T : Txt K mg) : Binds K T.fd_asked_tuners A_asked_tuners [] := T.F_asked_tuners.binds fun _ _ _ _ _ _ us hl => match us, hl with | [_], _ => rfl
theorem b_asked_edges (T : Txt K mg) : Binds K T.fd_asked_edges A_asked_edges [] := T.F_asked_edges.binds fun _ _ _ _ _ _ us hl => match us, hl with | [_], _ => rfl
theorem b_asked_shows (T : Txt K mg) : Binds K T.fd_asked_shows A_asked_shows [] := T.F_asked_shows.binds fun _ _ _ _ _ _ us hl => match us, hl with | [_], _ => rfl
theorem b_are_places (T : Txt K mg) : Binds K T.fd_are_places A_are_places [] := T.F_are_places.binds fun _ _ _ _ _ _ us hl => match us, hl with | [_, _], _ => rfl
theorem b_asked_places (T : Txt K mg) : Binds K T.fd_asked_places A_asked_places [] := T.F_asked_places.binds fun _ _ _ _ _ _ us hl => match us, hl with | [_, _], _ => rfl
theorem b_asked_wishes (T : Txt K mg) : Binds K T.fd_asked_wishes A_asked_wishes [] := T.F_asked_wishes.binds fun _ _ _ _ _ _ us hl => match us, hl with | [_, _], _ => rfl
theorem b_asked_all (T : Txt K mg) : Binds K T.fd_asked_all A_asked_all [] := T.F_asked_all.binds fun _ _ _ _ _ _ us hl => match us, hl with | [_, _, _], _ => rfl
theorem b_laid_of (T : Txt K mg) : Binds K T.fd_laid_of A_laid_of [] := T.F_laid_of.binds fun _ _ _ _ _ _ us hl => match us, hl with | [_, _, _, _], _ => rfl
theorem b_judged (T : Txt K mg) : Binds K T.fd_judged A_judged [] := T.F_judged.binds fun _ _ _ _ _ _ us hl => match us, hl with | [_, _, _, _], _ => rfl
theorem b_ways_of (T : Txt K mg) : Binds K T.fd_ways_of A_ways_of [] := T.F_ways_of.binds fun _ _ _ _ _ _ us hl => match us, hl with | [_, _, _, _], _ => rfl
theorem b_unlike (T : Txt K mg) : Binds K T.fd_unlike A_unlike [] := T.F_unlike.binds fun _ _ _ _ _ _ us hl => match us, hl with | [_, _], _ => rfl
theorem b_laid_anew (T : Txt K mg) : Binds K T.fd_laid_anew A_laid_anew [] := T.F_laid_anew.binds fun _ _ _ _ _ _ us hl => match us, hl with | [_, _, _, _, _], _ => rfl
theorem b_kept_of (T : Txt K mg) : Binds K T.fd_kept_of A_kept_of [] := T.F_kept_of.binds fun _ _ _ _ _ _ us hl => match us, hl with | [_, _, _, _], _ => rfl
theorem b_kept (T : Txt K mg) : Binds K T.fd_kept A_kept [] := T.F_kept.binds fun _ _ _ _ _ _ us hl => match us, hl with | [_, _, _, _], _ => rfl
theorem b_moved_of (T : Txt K mg) : Binds K T.fd_moved_of A_moved_of [] := T.F_moved_of.binds fun _ _ _ _ _ _ us hl => match us, hl with | [_, _, _], _ => rfl
theorem b_asked_move (T : Txt K mg) : Binds K T.fd_asked_move A_asked_move [] := T.F_asked_move.binds fun _ _ _ _ _ _ us hl => match us, hl with | [_, _, _], _ => rfl
theorem b_moved (T : Txt K mg) : Binds K T.fd_moved A_moved [] := T.F_moved.binds fun _ _ _ _ _ _ us hl => match us, hl with | [_, _, _], _ => rfl
theorem b_changes (T : Txt K mg) : Binds K T.fd_changes A_changes [] := T.F_changes.binds fun _ _ _ _ _ _ us hl => match us, hl with | [_, _, _, _, _, _], _ => rfl
theorem b_fell_of (T : Txt K mg) : Binds K T.fd_fell_of A_fell_of [] := T.F_fell_of.binds fun _ _ _ _ _ _ us hl => match us, hl with | [_, _, _], _ => rfl
theorem b_idle_of (T : Txt K mg) : Binds K T.fd_idle_of A_idle_of [] := T.F_idle_of.binds fun _ _ _ _ _ _ us hl => match us, hl with | [_, _, _, _], _ => rfl
theorem b_best_of (T : Txt K mg) : Binds K T.fd_best_of A_best_of [] := T.F_best_of.binds fun _ _ _ _ _ _ us hl => match us, hl with | [_, _, _], _ => rfl
theorem b_best (T : Txt K mg) : Binds K T.fd_best A_best [] := T.F_best.binds fun _ _ _ _ _ _ us hl => match us, hl with | [_, _, _], _ => rfl
theorem b_most (T : Txt K mg) : Binds K T.fd_most A_most [] := T.F_most.binds fun _ _ _ _ _ _ us hl => match us, hl with | [_, _, _], _ => rfl
theorem b__law_refused (T : Txt K mg) : Binds K T.fd__law_refused A__law_refused [] := T.F__law_refused.binds fun _ _ _ _ _ _ us hl => match us, hl with | [_, _, _], _ => rfl
theorem b__law_each (T : Txt K mg) : Binds K T.fd__law_each A__law_each [] := T.F__law_each.binds fun _ _ _ _ _ _ us hl => match us, hl with | [_, _, _], _ => rfl
theorem b__law_no_numbers (T : Txt K mg) : Binds K T.fd__law_no_numbers A__law_no_numbers [] := T.F__law_no_numbers.binds fun _ _ _ _ _ _ us hl => match us, hl with | [_], _ => rfl
theorem b__law_no_places (T : Txt K mg) : Binds K T.fd__law_no_places A__law_no_places [] := T.F__law_no_places.binds fun _ _ _ _ _ _ us hl => match us, hl with | [_], _ => rfl
theorem b__law_day_right (T : Txt K mg) : Binds K T.fd__law_day_right A__law_day_right [] := T.F__law_day_right.binds fun _ _ _ _ _ _ us hl => match us, hl with | [_, _], _ => rfl
theorem b__law_rest_right (T : Txt K mg) : Binds K T.fd__law_rest_right A__law_rest_right [] := T.F__law_rest_right.binds fun _ _ _ _ _ _ us hl => match us, hl with | [_, _], _ => rfl
theorem b_law (T : Txt K mg) : Binds K T.fd_law A_law [] := T.F_law.binds fun _ _ _ _ _ _ us hl => match us, hl with | [_], _ => rfl
end
section
variable {P : Program} {w : World} {K : PySem.W.Frag} {mg : Str → Option Value} {base : Heap}
def P_held_of (as : List Sl) (R : Sl → Prop) : Prop := ∃ (e : Int × Int) (s : Show), as = [.dat (dP e), .dat (dS s)] ∧ R (.dat (dP (held e s)))
theorem ok_held_of (T : Txt K mg) : FnOk P w K mg base CX0 1 T.fa_held_of T.fd_held_of A_held_of (spF K P_held_of) := by
  refine T.F_held_of.ok sc_held_of (spF_len (n := 2) fun as R h => ?_) fun cdv A outer s H vs Q E hr h => ⟨_, (pss_one (ps_ret (pe_tup (pa_cons (pe_callB (cr_mx2 rfl) (by rfl) T.n_max (by decide +kernel) (pa_cons pe_int (pa_cons (pe_op op_sub (pe_ix (ixK (K := K) rfl) (pv 1) pe_int (fun _ _ => rfl)) (pe_ix (ixK (K := K) rfl) (pv 0) pe_int (fun _ _ => rfl))) pa_nil))) (pa_cons (pe_callB (cr_mn2 rfl) (by rfl) T.n_min (by decide +kernel) (pa_cons (pe_glob (v := .int 24) (by rfl) T.c_DAY_answers ⟨_, rfl⟩) (pa_cons (pe_op op_addA (pe_ix (ixK (K := K) rfl) (pv 1) pe_int (fun _ _ => rfl)) (pe_ix (ixK (K := K) rfl) (pv 0) pe_int (fun _ _ => rfl))) pa_nil))) pa_nil))))), body_of (M := N_held_of) (fun as R h => ?_) vs H Q E h⟩
  · obtain ⟨_, _, rfl, _⟩ := h; rfl
  · obtain ⟨e, s, rfl, hR⟩ := h
    exact sd_ret (ed_pair (ed_max ed_int (ed_sub (ed_s0 (ed_var rfl)) (ed_p0 (ed_var rfl)))) (ed_min ed_int (ed_add (ed_s1 (ed_var rfl)) (ed_p1 (ed_var rfl))))) hR
def P_can_be (as : List Sl) (R : Sl → Prop) : Prop := ∃ (e : Int × Int) (day : List Show) (ps lay : List Int), as = [.dat (dP e), .dat (dDay day), .dat (dI ps), .dat (dI lay)] ∧ okP day.length ps ∧ ps.length ≤ lay.length ∧ ps.length ≤ 1000 ∧ R (.dat (.bool (canBe e day ps lay)))
theorem ok_can_be (T : Txt K mg) : FnOk P w K mg base CX0 2 T.fa_can_be T.fd_can_be A_can_be (spF K P_can_be) := by
  refine T.F_can_be.ok sc_can_be (spF_len (n := 4) fun as R h => ?_) fun cdv A outer s H vs Q E hr h => ⟨_, (pss_cons (ps_for PassesOwn.never rfl (enumK (K := K) rfl (by rfl) T.n_enumerate (pa_cons (pv 2) pa_nil)) (tupK (K := K) (n := 2) rfl rfl (pgs_cons (pg_name (i := 4) sc_can_be.nd rfl (Or.inl rfl)) (pgs_cons (pg_name (i := 5) sc_can_be.nd rfl (Or.inl rfl)) pgs_nil))) (pss_cons (ps_asg (pe_call (ok_held_of T) (hr.mono (by decide)) (by rfl) T.g_held_of T.F_held_of.kp (b_held_of T) .nil pass0 (pa_cons (pv 0) (pa_cons (pe_ix (ixK (K := K) rfl) (pv 1) (pv 5) (fun _ _ => rfl)) pa_nil))) (tupK (K := K) (n := 2) rfl rfl (pgs_cons (pg_name (i := 6) sc_can_be.nd rfl (Or.inl rfl)) (pgs_cons (pg_name (i := 7) sc_can_be.nd rfl (Or.inl rfl)) pgs_nil))))
  (pss_one (ps_for PassesOwn.never rfl (pi_range1 (by rfl) T.n_range (pa_cons (pv 4) pa_nil)) (pg_name (i := 8) sc_can_be.nd rfl (Or.inl rfl)) (pss_cons (ps_asg (pe_call (ok_held_of T) (hr.mono (by decide)) (by rfl) T.g_held_of T.F_held_of.kp (b_held_of T) .nil pass0 (pa_cons (pv 0) (pa_cons (pe_ix (ixK (K := K) rfl) (pv 1) (pe_ix (ixK (K := K) rfl) (pv 2) (pv 8) (fun _ _ => rfl)) (fun _ _ => rfl)) pa_nil))) (tupK (K := K) (n := 2) rfl rfl (pgs_cons (pg_name (i := 9) sc_can_be.nd rfl (Or.inl rfl)) (pgs_cons (pg_name (i := 10) sc_can_be.nd rfl (Or.inl rfl)) pgs_nil))))
  (pss_one (ps_if (PW.pt (pw_and (pt_cmpR (eqK (K := K) hr rfl) (pe_ix (ixK (K := K) rfl) (pv 3) (pv 4) (fun _ _ => rfl)) (pe_ix (ixK (K := K) rfl) (pv 3) (pv 8) (fun _ _ => rfl)) (nomark _)) (pw_and (pt_cmpR op_lt (pv 6) (pv 10) (nomark _)) (pw_and1 (pt_cmpR op_lt (pv 9) (pv 7) (nomark _)))))) (pss_one (ps_ret pe_bl)) pss_nil)))))))
  (pss_one (ps_ret pe_bl))), body_of (M := N_can_be) (fun as R h => ?_) vs H Q E h⟩
  · obtain ⟨_, _, _, _, rfl, _⟩ := h; rfl
  · obtain ⟨e, day, ps, lay, rfl, hP, hl, hl2, hR⟩ := h
    refine sd_seq (M := fun τ' => (∃ (s4 s5 s6 s7 s8 s9 s10 : Sl), τ' = [.dat (dP e), .dat (dDay day), .dat (dI ps), .dat (dI lay), s4, s5, s6, s7, s8, s9, s10]) ∧ canBe e day ps lay = true)
      (sd_for (its := ps.zipIdx.map fun x => .tuple [.int (x.2 : Nat), .int x.1]) (fun i τ' => (∃ (s4 s5 s6 s7 s8 s9 s10 : Sl), τ' = [.dat (dP e), .dat (dDay day), .dat (dI ps), .dat (dI lay), s4, s5, s6, s7, s8, s9, s10]) ∧ canN e day ps lay i = true) (ei_is (ei_enum (ea1 (ed_var rfl))) (enumD_map PyData.int ps)) ⟨⟨_, _, _, _, _, _, _, rfl⟩, by simp [canN]⟩ ?turn ?done) ?rest
    case done =>
      rintro τ1 ⟨h1, hc⟩
      rw [List.length_map, List.length_zipIdx] at hc
      exact ⟨h1, hc⟩
    case rest =>
      rintro _ ⟨⟨s4, s5, s6, s7, s8, s9, s10, rfl⟩, hc⟩
      rw [hc] at hR
      exact sd_ret ed_bl hR
    case turn =>
      rintro i d τ1 hd' ⟨⟨s4, s5, s6, s7, s8, s9, s10, rfl⟩, hc⟩
      obtain ⟨⟨p, i'⟩, hx, rfl⟩ := map_at hd'
      obtain ⟨ei, hpi⟩ := zipIdx_at hx
      dsimp only at ei hpi
      subst ei
      have hil : i' < ps.length := (List.getElem?_eq_some_iff.mp hpi).1
      obtain ⟨p0, p1⟩ := hP p (List.mem_of_getElem? hpi)
      have hgp := getI_of hpi
      refine ⟨[4, 5], _, tg2, ?_⟩
      refine sd_seq1 (sd_asgT (ed_call (ea2 (ed_var rfl) (ed_day (ed_var rfl) (ed_var rfl) p0 p1)) ⟨e, _, rfl, rfl⟩) tg2 rfl) ?_
      refine sd_for (its := (List.range i').map fun (j : Nat) => .int (j : Int)) (fun j τ' => (∃ (s8 s9 s10 : Sl), τ' = [.dat (dP e), .dat (dDay day), .dat (dI ps), .dat (dI lay), .dat (.int (i' : Int)), .dat (.int p), .dat (.int (held e (shAt day p)).1), .dat (.int (held e (shAt day p)).2), s8, s9, s10]) ∧ ∀ k, k < j → clash e day ps lay i' k = false) (ei_rngI (ea1 (ed_var rfl)) (by omega)) ⟨⟨_, _, _, rfl⟩, fun k hk => absurd hk (Nat.not_lt_zero _)⟩ ?turn2 ?done2
      case done2 =>
        rintro τ2 ⟨⟨s8, s9, s10, rfl⟩, hcl⟩
        refine ⟨⟨_, _, _, _, _, _, _, rfl⟩, ?_⟩
        rw [canN_iff] at hc ⊢
        intro a ha b hb
        by_cases q : a = i'
        · subst q
          exact hcl b (by simpa using hb)
        · exact hc a (by omega) b hb
      case turn2 =>
        rintro j d τ2 hd2 ⟨⟨s8, s9, s10, rfl⟩, hcl⟩
        obtain ⟨j', hj, rfl⟩ := map_at hd2
        obtain ⟨ej, hji⟩ := range_at hj
        subst ej
        obtain ⟨q0, q1⟩ := hP (iAt ps (j' : Int)) (iAt_mem (by omega) (by omega))
        refine ⟨[8], _, tg_name 8, ?_⟩
        refine sd_seq1 (sd_asgT (ed_call (ea2 (ed_var rfl) (ed_day (ed_var rfl) (ed_iat (ns := ps) (ed_var rfl) (ed_var rfl) (by omega) (by omega)) q0 q1)) ⟨e, _, rfl, rfl⟩) tg2 rfl) ?_
        refine sd_if (b := clash e day ps lay i' j') (et_is (et_and (et_test (ed_eqT nice_int (ed_iat (ns := lay) (ed_var rfl) (ed_var rfl) (by omega) (by omega)) (ed_iat (ns := lay) (ed_var rfl) (ed_var rfl) (by omega) (by omega)))) fun _ => et_and (et_test (ed_lt (ed_var rfl) (ed_var rfl))) fun _ => et_test (ed_lt (ed_var rfl) (ed_var rfl))) ?_) (fun hb => sd_ret (d := .bool false) ed_bl ?_) fun hb => sd_next ⟨⟨_, _, _, rfl⟩, fun k hk => ?_⟩
        · unfold clash Pl.hp
          rw [hgp]
          rfl
        · have : canBe e day ps lay = false := by
            cases q : canBe e day ps lay with
            | false => rfl
            | true =>
              have := canN_iff.mp q i' hil j' hji
              rw [hb] at this
              cases this
          rw [this] at hR
          exact hR
        · by_cases q : k = j'
          · subst q; exact hb
          · exact hcl k (by omega)
theorem ok_Laid_init (T : Txt K mg) : FnOk P w K mg base CX0 1 T.fa_Laid_init T.fd_Laid_init A_Laid_init (spI1 T.C_Laid "tuners") := by
  refine T.F_Laid_init.ok sc_Laid_init (fun vs H Q E h => ?_) fun cdv A outer s H vs Q E hr h => ⟨_, (pss_one (psfldK (K := K) rfl (pv 0) (pe_callTy (lstK (K := K) rfl) (by rfl) T.n_list (by decide +kernel) (pa_cons (pv 1) pa_nil)) rfl)), init1 T.ic_Laid.cl T.na_Laid_tuners h fun _ _ z => z⟩
  obtain ⟨_, _, _, _, rfl, _⟩ := h; rfl
theorem ok_Crowd_init (T : Txt K mg) : FnOk P w K mg base CX0 1 T.fa_Crowd_init T.fd_Crowd_init A_Crowd_init (spIV T.C_Crowd "moment") := by
  refine T.F_Crowd_init.ok sc_Crowd_init (fun vs H Q E h => ?_) fun cdv A outer s H vs Q E hr h => ⟨_, (pss_one (psfldK (K := K) rfl (pv 0) (pv 1) rfl)), initV T.ic_Crowd.cl T.na_Crowd_moment h fun _ _ z => z⟩
  obtain ⟨_, _, _, rfl, _⟩ := h; rfl
theorem ok_Best_init (T : Txt K mg) : FnOk P w K mg base CX0 1 T.fa_Best_init T.fd_Best_init A_Best_init (spI2 T.C_Best "places" "prices") := by
  refine T.F_Best_init.ok sc_Best_init (fun vs H Q E h => ?_) fun cdv A outer s H vs Q E hr h => ⟨_, (pss_cons (psfldK (K := K) rfl (pv 0) (pe_callTy (lstK (K := K) rfl) (by rfl) T.n_list (by decide +kernel) (pa_cons (pv 1) pa_nil)) rfl)
  (pss_one (psfldK (K := K) rfl (pv 0) (pe_callTy (lstK (K := K) rfl) (by rfl) T.n_list (by decide +kernel) (pa_cons (pv 2) pa_nil)) rfl))), init2 (by decide +kernel) T.ic_Best.cl T.na_Best_places T.na_Best_prices h fun _ _ z => z⟩
  obtain ⟨_, _, _, _, _, _, rfl, _⟩ := h; rfl
def P_is_whole (as : List Sl) (R : Sl → Prop) : Prop := ∃ d : PyData, as = [.dat d] ∧ notD d = true ∧ R (.dat (.bool (isWh d)))
theorem ok_is_whole (T : Txt K mg) : FnOk P w K mg base CX0 1 T.fa_is_whole T.fd_is_whole A_is_whole (spF K P_is_whole) := by
  refine T.F_is_whole.ok sc_is_whole (spF_len (n := 1) fun as R h => ?_) fun cdv A outer s H vs Q E hr h => ⟨_, (pss_one (ps_ret (pe_and (pe_callB (isiK (K := K) rfl) (by rfl) T.n_isinstance (by decide +kernel) (pa_cons (pv 0) (pa_cons (pe_bltn (v := .ty "int") (by rfl) T.n_int (by decide +kernel) rfl) pa_nil))) (pe_one (pe_not (pe_callB (isiK (K := K) rfl) (by rfl) T.n_isinstance (by decide +kernel) (pa_cons (pv 0) (pa_cons (pe_bltn (v := .ty "bool") (by rfl) T.n_bool (by decide +kernel) rfl) pa_nil)))))))), body_of (M := N_is_whole) (fun as R h => ?_) vs H Q E h⟩
  · obtain ⟨_, rfl, _⟩ := h; rfl
  · obtain ⟨d, rfl, hnd, hR⟩ := h
    exact sd_ret (ed_is (ed_andV (ed_isInt (ed_var rfl)) fun _ => ed_notV (ed_isBool (ed_var rfl))) (by rw [isWh_eq])) hR
def P_is_show (as : List Sl) (R : Sl → Prop) : Prop := ∃ d : PyData, as = [.dat d] ∧ layD d = true ∧ R (.dat (.bool (isShow d)))
theorem ok_is_show (T : Txt K mg) : FnOk P w K mg base CX0 2 T.fa_is_show T.fd_is_show A_is_show (spF K P_is_show) := by
  refine T.F_is_show.ok sc_is_show (spF_len (n := 1) fun as R h => ?_) fun cdv A outer s H vs Q E hr h => ⟨_, (pss_cons (ps_if (PW.pt (pw_or (pt_not (pt_val (pe_callB (isiK (K := K) rfl) (by rfl) T.n_isinstance (by decide +kernel) (pa_cons (pv 0) (pa_cons (pe_bltn (v := .ty "tuple") (by rfl) T.n_tuple (by decide +kernel) rfl) pa_nil))))) (pw_or (pt_cmpR (neK (K := K) hr rfl) (pe_callB (lenK (K := K) rfl) (by rfl) T.n_len (by decide +kernel) (pa_cons (pv 0) pa_nil)) pe_int (nomark _)) (pw_or1 (pt_not (pt_val (pe_callB (allK (K := K) rfl rfl) (by rfl) T.n_all (by decide +kernel) (pa_cons (pe_lc (own := [("one", 1)]) (by rfl) sc_is_show.nd (seqK (K := K) rfl (pv 0)) (blkOk_by (own := [("one", 1)]) (N := N_is_show) (sc := defScope s_is_show) (by decide +kernel)) (fun _ _ _ _ _ => (pg_name (i := 1) sc_is_show.nd rfl (Or.inl rfl))) (fun _ _ _ _ _ => pts_nil) (fun _ _ _ _ _ => (pe_call (ok_is_whole T) (hr.mono (by decide)) (by rfl) T.g_is_whole T.F_is_whole.kp (b_is_whole T) .nil pass0 (pa_cons (pv 1) pa_nil)))) pa_nil)))))))) (pss_one (ps_ret pe_bl)) pss_nil)
  (pss_one (ps_ret (pe_and (pe_chain3 op_le op_lt op_le pe_int (pe_ix (ixK (K := K) rfl) (pv 0) pe_int (fun _ _ => rfl)) (pe_ix (ixK (K := K) rfl) (pv 0) pe_int (fun _ _ => rfl)) (pe_glob (v := .int 24) (by rfl) T.c_DAY_days ⟨_, rfl⟩)) (pe_one (pe_chain op_le op_le pe_int (pe_ix (ixK (K := K) rfl) (pv 0) pe_int (fun _ _ => rfl)) (pe_glob (v := .int 60) (by rfl) T.c_MOST_WORTH ⟨_, rfl⟩))))))), body_of (M := N_is_show) (fun as R h => ?_) vs H Q E h⟩
  · obtain ⟨_, rfl, _⟩ := h; rfl
  · obtain ⟨d, rfl, hcl, hR⟩ := h
    have hnd := layD_not hcl
    by_cases ht : isA d "tuple" = true
    · obtain ⟨ds, rfl⟩ : ∃ ds, d = .tuple ds := by
        cases d with
        | tuple ds => exact ⟨ds, rfl⟩
        | _ => exact absurd ht (by simp [isA, isN, tyN])
      refine sd_seq (M := fun τ' => τ' = startS N_is_show [.dat (.tuple ds)] ∧ ds.length = 3 ∧ ds.all isWh = true) (sd_if (et_or (et_not (et_B (ed_isTup (ed_var rfl)))) fun _ => et_or (et_test (ed_neT nice_int (ed_lenT (ed_var rfl)) ed_int)) fun e =>
          et_not (et_B (ed_allF ds isWh (el_map ds id (fun x => .bool (isWh x)) (js := [1]) (ei_is (ei_anyT (ed_var (d := .tuple ds) rfl)) (by simp)) (by simp) (by simp at e; omega) fun x hxm => ⟨_, tg_name 1, ed_call (ea1 (ed_var rfl)) ⟨x, rfl, layD_not (layD_tup hcl x hxm), rfl⟩⟩)))) (fun e => ?_) fun e => sd_next ?_) ?_
      · refine sd_ret ed_bl ?_
        rw [isShow_no] at hR
        · exact hR
        · rintro ⟨h1, h2⟩
          rw [h1, h2] at e
          simp [isA, isN, tyN] at e
      · simp [isA, isN, tyN] at e
        refine ⟨rfl, by omega, ?_⟩
        rw [List.all_eq_true]
        exact e.2
      · rintro _ ⟨rfl, h1, h2⟩
        obtain ⟨a, b, c, rfl⟩ := all3 h1 h2
        exact sd_ret (ed_andV (ed_leLtLe ed_int (ed_ixT (ed_var rfl) ed_int rfl) (ed_ixT (ed_var rfl) ed_int rfl) ed_int) fun _ => ed_leLe ed_int (ed_ixT (ed_var rfl) ed_int rfl) ed_int) hR
    · have hf : isA d "tuple" = false := by simpa using ht
      have : isShow d = false := by
        cases d with
        | tuple ds => exact absurd rfl ht
        | _ => rfl
      rw [this] at hR
      exact sd_seq (M := fun _ => False) (sd_if (b := true) (et_is (et_or (b := false) (et_not (et_B (ed_isTup (ed_var rfl)))) fun e => by rw [hf] at e; cases e) (by rw [hf]; rfl)) (fun _ => sd_ret ed_bl hR) fun e => by cases e) fun _ z => z.elim
def P_asked_tuners (as : List Sl) (R : Sl → Prop) : Prop := ∃ m : Int, as = [.dat (.int m)] ∧ (1 ≤ m ∧ m ≤ 3) ∧ R (.dat .none)
theorem ok_asked_tuners (T : Txt K mg) : FnOk P w K mg base CX0 2 T.fa_asked_tuners T.fd_asked_tuners A_asked_tuners (spF K P_asked_tuners) := by
  refine T.F_asked_tuners.ok sc_asked_tuners (spF_len (n := 1) fun as R h => ?_) fun cdv A outer s H vs Q E hr h => ⟨_, (pss_one (ps_if (PW.pt (pw_or (pt_not (pt_val (pe_call (ok_is_whole T) (hr.mono (by decide)) (by rfl) T.g_is_whole T.F_is_whole.kp (b_is_whole T) .nil pass0 (pa_cons (pv 0) pa_nil)))) (pw_or1 (pt_not (pt_chain op_le op_le pe_int (pv 0) pe_int))))) (pss_one ps_never) pss_nil)), body_of (M := N_asked_tuners) (fun as R h => ?_) vs H Q E h⟩
  · obtain ⟨_, rfl, _⟩ := h; rfl
  · obtain ⟨m, rfl, hm, hR⟩ := h
    exact sd_if (b := false) (et_is (et_or (et_not (et_B (ed_call (ea1 (ed_var rfl)) ⟨_, rfl, rfl, rfl⟩))) fun _ => et_not (et_test (ed_leLe ed_int (ed_var rfl) ed_int))) (by simp [isWh]; omega)) (fun e => by cases e) fun _ => sd_next hR
def tunOk : PyData → Bool
  | .int m => decide (1 ≤ m ∧ m ≤ 3)
  | _ => false
def PR_asked_tuners (CT : Addr) (as : List Sl) (C : Addr) : Prop := ∃ d : PyData, as = [.dat d] ∧ C = CT ∧ notD d = true ∧ tunOk d = false
theorem okR_asked_tuners (T : Txt K mg) : FnOk P w K mg base (L2N.CX P w) 2 T.fa_asked_tuners T.fd_asked_tuners A_asked_tuners (spR K (PR_asked_tuners T.C_BadTuners)) := by
  refine Ab.okN T.F_asked_tuners sc_asked_tuners (spR_len (n := 1) fun as C h => ?_) fun cdv A outer s H vs Q E hr tk h => ⟨_, (pss_cons (ps_if (PW.pt (pw_or (pt_not (pt_val (pe_call (ok_is_whole T) (hr.mono (by decide)) (by rfl) T.g_is_whole T.F_is_whole.kp (b_is_whole T) .nil pass0 (pa_cons (pv 0) pa_nil)))) (pw_or1 (pt_not (pt_chain op_le op_le pe_int (pv 0) pe_int))))) (pss_one (ps_refuse rfl tk T.rc_BadTuners (by rfl))) pss_nil)
  Ab.pss_never), body_ofR (M := N_asked_tuners) (fun as C h => ?_) vs H Q h⟩
  · obtain ⟨_, rfl, _⟩ := h; rfl
  · obtain ⟨d, rfl, rfl, hnd, hb⟩ := h
    refine rd_here (rd_if ?_ rd_raise)
    by_cases hw : isWh d = true
    · obtain ⟨m, rfl⟩ : ∃ m, d = .int m := by
        cases d with
        | int m => exact ⟨m, rfl⟩
        | _ => exact absurd hw (by simp [isWh])
      have hb : decide (1 ≤ m ∧ m ≤ 3) = false := hb
      exact et_is (et_or (et_not (et_B (ed_call (ea1 (ed_var rfl)) ⟨_, rfl, rfl, rfl⟩))) fun _ => et_not (et_test (ed_leLe ed_int (ed_var rfl) ed_int))) (by rw [hb]; rfl)
    · have hw : isWh d = false := by simpa using hw
      exact et_is (et_or (b := false) (et_not (et_B (ed_call (ea1 (ed_var rfl)) ⟨d, rfl, hnd, rfl⟩))) fun e => by rw [hw] at e; cases e) (by rw [hw]; rfl)
def P_asked_edges (as : List Sl) (R : Sl → Prop) : Prop := ∃ e : Int × Int, as = [.dat (dP e)] ∧ okE e ∧ R (.dat .none)
theorem ok_asked_edges (T : Txt K mg) : FnOk P w K mg base CX0 2 T.fa_asked_edges T.fd_asked_edges A_asked_edges (spF K P_asked_edges) := by
  refine T.F_asked_edges.ok sc_asked_edges (spF_len (n := 1) fun as R h => ?_) fun cdv A outer s H vs Q E hr h => ⟨_, (pss_one (ps_if (PW.pt (pw_or (pt_not (pt_val (pe_callB (isiK (K := K) rfl) (by rfl) T.n_isinstance (by decide +kernel) (pa_cons (pv 0) (pa_cons (pe_bltn (v := .ty "tuple") (by rfl) T.n_tuple (by decide +kernel) rfl) pa_nil))))) (pw_or (pt_cmpR (neK (K := K) hr rfl) (pe_callB (lenK (K := K) rfl) (by rfl) T.n_len (by decide +kernel) (pa_cons (pv 0) pa_nil)) pe_int (nomark _)) (pw_or1 (pt_not (pt_val (pe_callB (allK (K := K) rfl rfl) (by rfl) T.n_all (by decide +kernel) (pa_cons (pe_lc (own := [("one", 1)]) (by rfl) sc_asked_edges.nd (seqK (K := K) rfl (pv 0)) (blkOk_by (own := [("one", 1)]) (N := N_asked_edges) (sc := defScope s_asked_edges) (by decide +kernel)) (fun _ _ _ _ _ => (pg_name (i := 1) sc_asked_edges.nd rfl (Or.inl rfl))) (fun _ _ _ _ _ => pts_nil) (fun _ _ _ _ _ => (pe_and (pe_call (ok_is_whole T) (hr.mono (by decide)) (by rfl) T.g_is_whole T.F_is_whole.kp (b_is_whole T) .nil pass0 (pa_cons (pv 1) pa_nil)) (pe_one (pe_chain op_le op_le pe_int (pv 1) pe_int))))) pa_nil)))))))) (pss_one ps_never) pss_nil)), body_of (M := N_asked_edges) (fun as R h => ?_) vs H Q E h⟩
  · obtain ⟨_, rfl, _⟩ := h; rfl
  · obtain ⟨e, rfl, he, hR⟩ := h
    refine sd_if (b := false) (et_is (et_or (et_not (et_B (ed_isTup (ed_var rfl)))) fun _ => et_or (et_test (ed_neT nice_int (ed_lenT (ds := [.int e.1, .int e.2]) (ed_var rfl)) ed_int)) fun _ =>
      et_not (et_B (ed_allF [e.1, e.2] (fun x => decide (0 ≤ x ∧ x ≤ 2)) (el_map [e.1, e.2] PyData.int _ (js := [1]) (ei_anyT (ed_var rfl)) (by simp) (by simp) fun x _ => ⟨_, tg_name 1, ed_andV (a := true) (ed_call (ea1 (ed_var rfl)) ⟨_, rfl, rfl, rfl⟩) fun _ => ed_leLe ed_int (ed_var rfl) ed_int⟩)))) ?_) (fun e => by cases e) fun _ => sd_next hR
    obtain ⟨a, b, c, d⟩ := he
    simp [isA, isN, tyN, dP, a, b, c, d]
def edIn (x : PyData) : Bool := isWh x && decide (0 ≤ toI x ∧ toI x ≤ 2)
def edOk : PyData → Bool
  | .tuple ds => decide (ds.length = 2) && ds.all edIn
  | _ => false
def PR_asked_edges (CE : Addr) (as : List Sl) (C : Addr) : Prop := ∃ d : PyData, as = [.dat d] ∧ C = CE ∧ layD d = true ∧ edOk d = false
theorem okR_asked_edges (T : Txt K mg) : FnOk P w K mg base (L2N.CX P w) 2 T.fa_asked_edges T.fd_asked_edges A_asked_edges (spR K (PR_asked_edges T.C_BadEdges)) := by
  refine Ab.okN T.F_asked_edges sc_asked_edges (spR_len (n := 1) fun as C h => ?_) fun cdv A outer s H vs Q E hr tk h => ⟨_, (pss_cons (ps_if (PW.pt (pw_or (pt_not (pt_val (pe_callB (isiK (K := K) rfl) (by rfl) T.n_isinstance (by decide +kernel) (pa_cons (pv 0) (pa_cons (pe_bltn (v := .ty "tuple") (by rfl) T.n_tuple (by decide +kernel) rfl) pa_nil))))) (pw_or (pt_cmpR (neK (K := K) hr rfl) (pe_callB (lenK (K := K) rfl) (by rfl) T.n_len (by decide +kernel) (pa_cons (pv 0) pa_nil)) pe_int (nomark _)) (pw_or1 (pt_not (pt_val (pe_callB (allK (K := K) rfl rfl) (by rfl) T.n_all (by decide +kernel) (pa_cons (pe_lc (own := [("one", 1)]) (by rfl) sc_asked_edges.nd (seqK (K := K) rfl (pv 0)) (blkOk_by (own := [("one", 1)]) (N := N_asked_edges) (sc := defScope s_asked_edges) (by decide +kernel)) (fun _ _ _ _ _ => (pg_name (i := 1) sc_asked_edges.nd rfl (Or.inl rfl))) (fun _ _ _ _ _ => pts_nil) (fun _ _ _ _ _ => (pe_and (pe_call (ok_is_whole T) (hr.mono (by decide)) (by rfl) T.g_is_whole T.F_is_whole.kp (b_is_whole T) .nil pass0 (pa_cons (pv 1) pa_nil)) (pe_one (pe_chain op_le op_le pe_int (pv 1) pe_int))))) pa_nil)))))))) (pss_one (ps_refuse rfl tk T.rc_BadEdges (by rfl))) pss_nil)
  Ab.pss_never), body_ofR (M := N_asked_edges) (fun as C h => ?_) vs H Q h⟩
  · obtain ⟨_, rfl, _⟩ := h; rfl
  · obtain ⟨d, rfl, rfl, hcl, hb⟩ := h
    have hnd := layD_not hcl
    refine rd_here (rd_if ?_ rd_raise)
    by_cases ht : isA d "tuple" = true
    · obtain ⟨ds, rfl⟩ : ∃ ds, d = .tuple ds := by
        cases d with
        | tuple ds => exact ⟨ds, rfl⟩
        | _ => exact absurd ht (by simp [isA, isN, tyN])
      refine et_is (et_or (et_not (et_B (ed_isTup (ed_var rfl)))) fun _ => et_or (et_test (ed_neT nice_int (ed_lenT (ed_var rfl)) ed_int)) fun e =>
          et_not (et_B (ed_allF ds edIn (el_map ds id (fun x => .bool (edIn x)) (js := [1]) (ei_is (ei_anyT (ed_var (d := .tuple ds) rfl)) (by simp)) (by simp) (by simp at e; omega) fun x hxm => ⟨_, tg_name 1, ed_is (ed_andV (b := decide (0 ≤ toI x ∧ toI x ≤ 2)) (ed_call (ea1 (ed_var rfl)) ⟨x, rfl, layD_not (layD_tup hcl x hxm), rfl⟩) fun hx => ?_) rfl⟩)))) ?_
      · cases x with
        | int k => exact ed_leLe ed_int (ed_var rfl) ed_int
        | _ => exact absurd hx (by simp [isWh])
      · have hb : (decide (ds.length = 2) && ds.all edIn) = false := hb
        by_cases c : ds.length = 2
        · rw [decide_eq_true c, Bool.true_and] at hb
          rw [hb]
          simp [isA, isN, tyN]
        · have : ¬ ((ds.length : Int) = 2) := by omega
          simp [isA, isN, tyN, this]
    · have hf : isA d "tuple" = false := by simpa using ht
      exact et_is (et_or (b := false) (et_not (et_B (ed_isTup (ed_var rfl)))) fun e => by rw [hf] at e; cases e) (by rw [hf]; rfl)
def P_asked_shows (as : List Sl) (R : Sl → Prop) : Prop := ∃ day : List Show, as = [.dat (dDay day)] ∧ okDay day ∧ R (.dat .none)
theorem ok_asked_shows (T : Txt K mg) : FnOk P w K mg base CX0 3 T.fa_asked_shows T.fd_asked_shows A_asked_shows (spF K P_asked_shows) := by
  refine T.F_asked_shows.ok sc_asked_shows (spF_len (n := 1) fun as R h => ?_) fun cdv A outer s H vs Q E hr h => ⟨_, (pss_one (ps_if (PW.pt (pw_or (pt_not (pt_val (pe_callB (isiK (K := K) rfl) (by rfl) T.n_isinstance (by decide +kernel) (pa_cons (pv 0) (pa_cons (pe_bltn (v := .ty "list") (by rfl) T.n_list (by decide +kernel) rfl) pa_nil))))) (pw_or (pt_cmpR op_gt (pe_callB (lenK (K := K) rfl) (by rfl) T.n_len (by decide +kernel) (pa_cons (pv 0) pa_nil)) (pe_glob (v := .int 10) (by rfl) T.c_MOST_SHOWS ⟨_, rfl⟩) (nomark _)) (pw_or1 (pt_not (pt_val (pe_callB (allK (K := K) rfl rfl) (by rfl) T.n_all (by decide +kernel) (pa_cons (pe_lc (own := [("one", 1)]) (by rfl) sc_asked_shows.nd (seqK (K := K) rfl (pv 0)) (blkOk_by (own := [("one", 1)]) (N := N_asked_shows) (sc := defScope s_asked_shows) (by decide +kernel)) (fun _ _ _ _ _ => (pg_name (i := 1) sc_asked_shows.nd rfl (Or.inl rfl))) (fun _ _ _ _ _ => pts_nil) (fun _ _ _ _ _ => (pe_call (ok_is_show T) (hr.mono (by decide)) (by rfl) T.g_is_show T.F_is_show.kp (b_is_show T) .nil pass0 (pa_cons (pv 1) pa_nil)))) pa_nil)))))))) (pss_one ps_never) pss_nil)), body_of (M := N_asked_shows) (fun as R h => ?_) vs H Q E h⟩
  · obtain ⟨_, rfl, _⟩ := h; rfl
  · obtain ⟨day, rfl, hd, hR⟩ := h
    refine sd_if (b := false) (et_is (et_or (et_not (et_B (ed_isLst (ed_var rfl)))) fun _ => et_or (et_test (ed_gt (ed_lenDay (ed_var rfl)) ed_int)) fun _ =>
      et_not (et_B (ed_allF day (fun s => isShow (dS s)) (el_map day dS _ (js := [1]) (ei_any (ed_var rfl)) (by simp) (by have := hd.1; omega) fun x _ => ⟨_, tg_name 1, ed_call (ea1 (ed_var rfl)) ⟨_, rfl, rfl, rfl⟩⟩)))) ?_) (fun e => by cases e) fun _ => sd_next hR
    have h1 : ¬ (10 : Int) < day.length := by have := hd.1; omega
    have h2 : (day.all fun s => isShow (dS s)) = true := List.all_eq_true.mpr fun s hs => isShow_dS (hd.2 s hs)
    rw [h2]
    simp [isA, isN, tyN, dDay, h1]
def shOk : PyData → Bool
  | .list ds => decide (ds.length ≤ 10) && ds.all isShow
  | _ => false
def PR_asked_shows (CS : Addr) (as : List Sl) (C : Addr) : Prop := ∃ d : PyData, as = [.dat d] ∧ C = CS ∧ layD d = true ∧ shOk d = false
theorem okR_asked_shows (T : Txt K mg) : FnOk P w K mg base (L2N.CX P w) 3 T.fa_asked_shows T.fd_asked_shows A_asked_shows (spR K (PR_asked_shows T.C_BadShows)) := by
  refine Ab.okN T.F_asked_shows sc_asked_shows (spR_len (n := 1) fun as C h => ?_) fun cdv A outer s H vs Q E hr tk h => ⟨_, (pss_cons (ps_if (PW.pt (pw_or (pt_not (pt_val (pe_callB (isiK (K := K) rfl) (by rfl) T.n_isinstance (by decide +kernel) (pa_cons (pv 0) (pa_cons (pe_bltn (v := .ty "list") (by rfl) T.n_list (by decide +kernel) rfl) pa_nil))))) (pw_or (pt_cmpR op_gt (pe_callB (lenK (K := K) rfl) (by rfl) T.n_len (by decide +kernel) (pa_cons (pv 0) pa_nil)) (pe_glob (v := .int 10) (by rfl) T.c_MOST_SHOWS ⟨_, rfl⟩) (nomark _)) (pw_or1 (pt_not (pt_val (pe_callB (allK (K := K) rfl rfl) (by rfl) T.n_all (by decide +kernel) (pa_cons (pe_lc (own := [("one", 1)]) (by rfl) sc_asked_shows.nd (seqK (K := K) rfl (pv 0)) (blkOk_by (own := [("one", 1)]) (N := N_asked_shows) (sc := defScope s_asked_shows) (by decide +kernel)) (fun _ _ _ _ _ => (pg_name (i := 1) sc_asked_shows.nd rfl (Or.inl rfl))) (fun _ _ _ _ _ => pts_nil) (fun _ _ _ _ _ => (pe_call (ok_is_show T) (hr.mono (by decide)) (by rfl) T.g_is_show T.F_is_show.kp (b_is_show T) .nil pass0 (pa_cons (pv 1) pa_nil)))) pa_nil)))))))) (pss_one (ps_refuse rfl tk T.rc_BadShows (by rfl))) pss_nil)
  Ab.pss_never), body_ofR (M := N_asked_shows) (fun as C h => ?_) vs H Q h⟩
  · obtain ⟨_, rfl, _⟩ := h; rfl
  · obtain ⟨d, rfl, rfl, hcl, hb⟩ := h
    have hnd := layD_not hcl
    refine rd_here (rd_if ?_ rd_raise)
    by_cases ht : isA d "list" = true
    · obtain ⟨ds, rfl⟩ : ∃ ds, d = .list ds := by
        cases d with
        | list ds => exact ⟨ds, rfl⟩
        | _ => exact absurd ht (by simp [isA, isN, tyN])
      refine et_is (et_or (et_not (et_B (ed_isLst (ed_var rfl)))) fun _ => et_or (et_test (ed_gt (ed_len (ed_var rfl)) ed_int)) fun e =>
          et_not (et_B (ed_allF ds isShow (el_map ds id (fun x => .bool (isShow x)) (js := [1]) (ei_is (ei_any (ed_var (d := .list ds) rfl)) (by simp)) (by simp) (by simp at e; omega) fun x hxm => ⟨_, tg_name 1, ed_call (ea1 (ed_var rfl)) ⟨x, rfl, layD_list hcl x hxm, rfl⟩⟩)))) ?_
      have hb : (decide (ds.length ≤ 10) && ds.all isShow) = false := hb
      by_cases c : ds.length ≤ 10
      · rw [decide_eq_true c, Bool.true_and] at hb
        rw [hb]
        simp [isA, isN, tyN]
      · have : (10 : Int) < ds.length := by omega
        simp [isA, isN, tyN, this]
    · have hf : isA d "list" = false := by simpa using ht
      exact et_is (et_or (b := false) (et_not (et_B (ed_isLst (ed_var rfl)))) fun e => by rw [hf] at e; cases e) (by rw [hf]; rfl)
def P_are_places (as : List Sl) (R : Sl → Prop) : Prop := ∃ (xs : List PyData) (d : PyData), as = [.dat (.list xs), .dat d] ∧ (∀ ds, d = .list ds → ds.length ≤ 1000) ∧ layD d = true ∧ R (.dat (.bool (arePl xs.length d)))
theorem ok_are_places (T : Txt K mg) : FnOk P w K mg base CX0 2 T.fa_are_places T.fd_are_places A_are_places (spF K P_are_places) := by
  refine T.F_are_places.ok sc_are_places (spF_len (n := 2) fun as R h => ?_) fun cdv A outer s H vs Q E hr h => ⟨_, (pss_cons (ps_if (PW.pt (pw_or (pt_not (pt_val (pe_callB (isiK (K := K) rfl) (by rfl) T.n_isinstance (by decide +kernel) (pa_cons (pv 1) (pa_cons (pe_bltn (v := .ty "list") (by rfl) T.n_list (by decide +kernel) rfl) pa_nil))))) (pw_or1 (pt_not (pt_val (pe_callB (allK (K := K) rfl rfl) (by rfl) T.n_all (by decide +kernel) (pa_cons (pe_lc (own := [("one", 2)]) (by rfl) sc_are_places.nd (seqK (K := K) rfl (pv 1)) (blkOk_by (own := [("one", 2)]) (N := N_are_places) (sc := defScope s_are_places) (by decide +kernel)) (fun _ _ _ _ _ => (pg_name (i := 2) sc_are_places.nd rfl (Or.inl rfl))) (fun _ _ _ _ _ => pts_nil) (fun _ _ _ _ _ => (pe_and (pe_call (ok_is_whole T) (hr.mono (by decide)) (by rfl) T.g_is_whole T.F_is_whole.kp (b_is_whole T) .nil pass0 (pa_cons (pv 2) pa_nil)) (pe_one (pe_chain op_le op_lt pe_int (pv 2) (pe_callB (lenK (K := K) rfl) (by rfl) T.n_len (by decide +kernel) (pa_cons (pv 0) pa_nil))))))) pa_nil))))))) (pss_one (ps_ret pe_bl)) pss_nil)
  (pss_one (ps_ret (pe_callB (allK (K := K) rfl rfl) (by rfl) T.n_all (by decide +kernel) (pa_cons (pe_lc (own := [("at", 3)]) (by rfl) sc_are_places.nd (pi_range2 (by rfl) T.n_range (pa_cons pe_int (pa_cons (pe_callB (lenK (K := K) rfl) (by rfl) T.n_len (by decide +kernel) (pa_cons (pv 1) pa_nil)) pa_nil))) (blkOk_by (own := [("at", 3)]) (N := N_are_places) (sc := defScope s_are_places) (by decide +kernel)) (fun _ _ _ _ _ => (pg_name (i := 3) sc_are_places.nd rfl (Or.inl rfl))) (fun _ _ _ _ _ => pts_nil) (fun _ _ _ _ _ => (pe_cmpR op_lt (pe_ix (ixK (K := K) rfl) (pv 1) (pe_op op_sub (pv 3) pe_int) (fun _ _ => rfl)) (pe_ix (ixK (K := K) rfl) (pv 1) (pv 3) (fun _ _ => rfl)) (nomark _)))) pa_nil))))), body_of (M := N_are_places) (fun as R h => ?_) vs H Q E h⟩
  · obtain ⟨_, _, rfl, _⟩ := h; rfl
  · obtain ⟨xs, d, rfl, hl, hcl, hR⟩ := h
    have hnd := layD_not hcl
    by_cases ht : isA d "list" = true
    · obtain ⟨ds, rfl⟩ : ∃ ds, d = .list ds := by
        cases d with
        | list ds => exact ⟨ds, rfl⟩
        | _ => exact absurd ht (by simp [isA, isN, tyN])
      have hl := hl ds rfl
      refine sd_seq (M := fun τ' => τ' = startS N_are_places [.dat (.list xs), .dat (.list ds)] ∧ ds.all (inPl xs.length) = true) (sd_if (et_or (et_not (et_B (ed_isLst (ed_var rfl)))) fun _ => et_not (et_B (ed_allF ds (inPl xs.length) (el_map ds id (fun x => .bool (inPl xs.length x)) (js := [2]) (ei_is (ei_any (ed_var (d := .list ds) rfl)) (by simp)) (by simp) (by omega) fun x hxm => ⟨_, tg_name 2, ?_⟩)))) (fun e => ?_) fun e => sd_next ?_) ?_
      · refine ed_is (ed_andV (b := inPl xs.length x) (ed_call (ea1 (ed_var rfl)) ⟨x, rfl, layD_not (layD_list hcl x hxm), rfl⟩) fun hx => ?_) ?_
        · cases x with
          | int k => exact ed_leLt ed_int (ed_var rfl) (ed_len (ed_var rfl))
          | _ => exact absurd hx (by simp [isWh])
        · cases x <;> rfl
      · have hb : ds.all (inPl xs.length) = false := by
          cases q : ds.all (inPl xs.length) with
          | true => rw [q] at e; simp [isA, isN, tyN] at e
          | false => rfl
        have hp : arePl xs.length (.list ds) = false := by
          show (ds.all (inPl xs.length) && _) = false
          rw [hb]; rfl
        rw [hp] at hR
        exact sd_ret ed_bl hR
      · refine ⟨rfl, ?_⟩
        cases q : ds.all (inPl xs.length) with
        | true => rfl
        | false => rw [q] at e; simp at e
      · rintro _ ⟨rfl, hb⟩
        have e := inPl_int hb
        generalize hns : ds.map toI = ns at e
        subst e
        have hp : arePl xs.length (.list (ns.map PyData.int)) = rising ns := by
          show ((ns.map PyData.int).all (inPl xs.length) && rising ((ns.map PyData.int).map toI)) = _
          rw [hb, toI_map]; rfl
        rw [hp] at hR
        have hln : ns.length ≤ 1000 := by simpa using hl
        refine sd_ret (ed_allF (List.range (ns.length - 1)) (fun (i : Nat) => decide (iAt ns (1 + (i : Int) - 1) < iAt ns (1 + (i : Int)))) (el_map (List.range (ns.length - 1)) (fun i => .int (1 + (i : Nat))) _ (js := [3]) (ei_is (ei_rng2 (ea2 ed_int (ed_lenI (ns := ns) (ed_var rfl))) (by omega) (by omega) (by omega) (by omega)) ?_) (by simp) (by simp; omega) fun i hi => ⟨_, tg_name 3, ?_⟩)) hR
        · unfold rngD
          have : ((ns.length : Int) - 1).toNat = ns.length - 1 := by omega
          rw [this]
        · have hi' := List.mem_range.mp hi
          exact ed_lt (ed_iat (ns := ns) (ed_var rfl) (ed_sub (ed_var rfl) ed_int) (by omega) (by omega)) (ed_iat (ns := ns) (ed_var rfl) (ed_var rfl) (by omega) (by omega))
    · have hf : isA d "list" = false := by simpa using ht
      have : arePl xs.length d = false := by
        cases d with
        | list ds => exact absurd rfl ht
        | _ => rfl
      rw [this] at hR
      exact sd_seq (M := fun _ => False) (sd_if (b := true) (et_is (et_or (b := false) (et_not (et_B (ed_isLst (ed_var rfl)))) fun e => by rw [hf] at e; cases e) (by rw [hf]; rfl)) (fun _ => sd_ret ed_bl hR) fun e => by cases e) fun _ z => z.elim
def P_asked_places (as : List Sl) (R : Sl → Prop) : Prop := ∃ (xs : List PyData) (d : PyData), as = [.dat (.list xs), .dat d] ∧ (∀ ds, d = .list ds → ds.length ≤ 1000) ∧ layD d = true ∧ arePl xs.length d = true ∧ R (.dat .none)
theorem ok_asked_places (T : Txt K mg) : FnOk P w K mg base CX0 3 T.fa_asked_places T.fd_asked_places A_asked_places (spF K P_asked_places) := by
  refine T.F_asked_places.ok sc_asked_places (spF_len (n := 2) fun as R h => ?_) fun cdv A outer s H vs Q E hr h => ⟨_, (pss_one (ps_if (pt_not (pt_val (pe_call (ok_are_places T) (hr.mono (by decide)) (by rfl) T.g_are_places T.F_are_places.kp (b_are_places T) .nil pass0 (pa_cons (pv 0) (pa_cons (pv 1) pa_nil))))) (pss_one ps_never) pss_nil)), body_of (M := N_asked_places) (fun as R h => ?_) vs H Q E h⟩
  · obtain ⟨_, _, rfl, _⟩ := h; rfl
  · obtain ⟨xs, d, rfl, hl, hcl, hp, hR⟩ := h
    exact sd_if (b := false) (et_is (et_not (et_B (ed_call (ea2 (ed_var rfl) (ed_var rfl)) ⟨xs, d, rfl, hl, hcl, rfl⟩))) (by rw [hp]; rfl)) (fun e => by cases e) fun _ => sd_next hR
def PR_asked_places (CP : Addr) (as : List Sl) (C : Addr) : Prop := ∃ (xs : List PyData) (d : PyData), as = [.dat (.list xs), .dat d] ∧ C = CP ∧ (∀ ds, d = .list ds → ds.length ≤ 1000) ∧ layD d = true ∧ arePl xs.length d = false
theorem okR_asked_places (T : Txt K mg) : FnOk P w K mg base (L2N.CX P w) 3 T.fa_asked_places T.fd_asked_places A_asked_places (spR K (PR_asked_places T.C_BadPlaces)) := by
  refine Ab.okN T.F_asked_places sc_asked_places (spR_len (n := 2) fun as C h => ?_) fun cdv A outer s H vs Q E hr tk h => ⟨_, (pss_cons (ps_if (pt_not (pt_val (pe_call (ok_are_places T) (hr.mono (by decide)) (by rfl) T.g_are_places T.F_are_places.kp (b_are_places T) .nil pass0 (pa_cons (pv 0) (pa_cons (pv 1) pa_nil))))) (pss_one (ps_refuse rfl tk T.rc_BadPlaces (by rfl))) pss_nil)
  Ab.pss_never), body_ofR (M := N_asked_places) (fun as C h => ?_) vs H Q h⟩
  · obtain ⟨_, _, rfl, _⟩ := h; rfl
  · obtain ⟨xs, d, rfl, rfl, hl, hcl, hp⟩ := h
    exact rd_here (rd_if (et_is (et_not (et_B (ed_call (ea2 (ed_var rfl) (ed_var rfl)) ⟨xs, d, rfl, hl, hcl, rfl⟩))) (by rw [hp]; rfl)) rd_raise)
def P_asked_wishes (as : List Sl) (R : Sl → Prop) : Prop := ∃ (xs : List PyData) (rows : List (List Int)), as = [.dat (.list xs), .dat (dII rows)] ∧ rows.length ≤ 6 ∧ (∀ r ∈ rows, r.length ≤ 1000 ∧ arePl xs.length (dI r) = true ∧ r ≠ []) ∧ R (.dat .none)
theorem ok_asked_wishes (T : Txt K mg) : FnOk P w K mg base CX0 3 T.fa_asked_wishes T.fd_asked_wishes A_asked_wishes (spF K P_asked_wishes) := by
  refine T.F_asked_wishes.ok sc_asked_wishes (spF_len (n := 2) fun as R h => ?_) fun cdv A outer s H vs Q E hr h => ⟨_, (pss_cons (ps_if (PW.pt (pw_or (pt_not (pt_val (pe_callB (isiK (K := K) rfl) (by rfl) T.n_isinstance (by decide +kernel) (pa_cons (pv 1) (pa_cons (pe_bltn (v := .ty "list") (by rfl) T.n_list (by decide +kernel) rfl) pa_nil))))) (pw_or1 (pt_cmpR op_gt (pe_callB (lenK (K := K) rfl) (by rfl) T.n_len (by decide +kernel) (pa_cons (pv 1) pa_nil)) (pe_glob (v := .int 6) (by rfl) T.c_MOST_WISHES ⟨_, rfl⟩) (nomark _))))) (pss_one ps_never) pss_nil)
  (pss_one (ps_if (pt_not (pt_val (pe_callB (allK (K := K) rfl rfl) (by rfl) T.n_all (by decide +kernel) (pa_cons (pe_lc (own := [("row", 2)]) (by rfl) sc_asked_wishes.nd (seqK (K := K) rfl (pv 1)) (blkOk_by (own := [("row", 2)]) (N := N_asked_wishes) (sc := defScope s_asked_wishes) (by decide +kernel)) (fun _ _ _ _ _ => (pg_name (i := 2) sc_asked_wishes.nd rfl (Or.inl rfl))) (fun _ _ _ _ _ => pts_nil) (fun _ _ _ _ _ => (pe_and (pe_call (ok_are_places T) (hr.mono (by decide)) (by rfl) T.g_are_places T.F_are_places.kp (b_are_places T) .nil pass0 (pa_cons (pv 0) (pa_cons (pv 2) pa_nil))) (pe_one (pe_cmpR (neK (K := K) hr rfl) (pv 2) (pe_lst pa_nil) (nomark _)))))) pa_nil)))) (pss_one ps_never) pss_nil))), body_of (M := N_asked_wishes) (fun as R h => ?_) vs H Q E h⟩
  · obtain ⟨_, _, rfl, _⟩ := h; rfl
  · obtain ⟨xs, rows, rfl, hl, hr', hR⟩ := h
    refine sd_seq1 (sd_if (b := false) (et_is (et_or (et_not (et_B (ed_isLst (ed_var rfl)))) fun _ => et_test (ed_gt (ed_lenII (ed_var rfl)) ed_int)) ?_) (fun e => by cases e) fun _ => sd_next rfl) (sd_if (b := false) (et_is (et_not (et_B (ed_allF rows (fun r => arePl xs.length (dI r) && !decide (r = [])) (el_map rows dI _ (js := [2]) (ei_any (ed_var rfl)) (by simp) (by omega) fun r hr0 => ⟨_, tg_name 2, ed_andV (ed_call (ea2 (ed_var rfl) (ed_var rfl)) ⟨xs, dI r, rfl, ?_, layD_of (nice_dI.lay r), rfl⟩) fun _ => ed_neT nice_dI (ed_var rfl) (el_lst (ds := []) ea_nil (by simp)).ed⟩)))) ?_) (fun e => by cases e) fun _ => sd_next hR)
    · have h1 : ¬ (6 : Int) < rows.length := by omega
      simp [isA, isN, tyN, dII, h1]
    · intro ds e
      cases e
      rw [List.length_map]
      exact (hr' r hr0).1
    · have : (rows.all fun r => arePl xs.length (dI r) && !decide (r = [])) = true := List.all_eq_true.mpr fun r hr0 => by
        obtain ⟨_, a, b⟩ := hr' r hr0
        rw [a]
        simp [b]
      rw [this]
      rfl
def neL : PyData → Bool
  | .list (_ :: _) => true
  | _ => false
def wishOk (n : Nat) : PyData → Bool
  | .list ds => decide (ds.length ≤ 6) && ds.all fun r => arePl n r && neL r
  | _ => false
theorem arePl_dI {n : Nat} {r : PyData} (h : arePl n r = true) : ∃ ps : List Int, r = dI ps := by
  cases r with
  | list ds =>
    have h : (ds.all (inPl n) && rising (ds.map toI)) = true := h
    rw [Bool.and_eq_true] at h
    exact ⟨ds.map toI, congrArg PyData.list (inPl_int h.1)⟩
  | _ => cases h
def PR_asked_wishes (CW : Addr) (as : List Sl) (C : Addr) : Prop := ∃ (xs : List PyData) (d : PyData), as = [.dat (.list xs), .dat d] ∧ C = CW ∧ layD d = true ∧ (∀ ds, d = .list ds → ∀ r ∈ ds, ∀ rs, r = .list rs → rs.length ≤ 1000) ∧ wishOk xs.length d = false
theorem okR_asked_wishes (T : Txt K mg) : FnOk P w K mg base (L2N.CX P w) 3 T.fa_asked_wishes T.fd_asked_wishes A_asked_wishes (spR K (PR_asked_wishes T.C_BadWishes)) := by
  refine Ab.okN T.F_asked_wishes sc_asked_wishes (spR_len (n := 2) fun as C h => ?_) fun cdv A outer s H vs Q E hr tk h => ⟨_, (pss_cons (ps_if (PW.pt (pw_or (pt_not (pt_val (pe_callB (isiK (K := K) rfl) (by rfl) T.n_isinstance (by decide +kernel) (pa_cons (pv 1) (pa_cons (pe_bltn (v := .ty "list") (by rfl) T.n_list (by decide +kernel) rfl) pa_nil))))) (pw_or1 (pt_cmpR op_gt (pe_callB (lenK (K := K) rfl) (by rfl) T.n_len (by decide +kernel) (pa_cons (pv 1) pa_nil)) (pe_glob (v := .int 6) (by rfl) T.c_MOST_WISHES ⟨_, rfl⟩) (nomark _))))) (pss_one (ps_refuse rfl tk T.rc_BadWishes (by rfl))) pss_nil)
  (pss_cons (ps_if (pt_not (pt_val (pe_callB (allK (K := K) rfl rfl) (by rfl) T.n_all (by decide +kernel) (pa_cons (pe_lc (own := [("row", 2)]) (by rfl) sc_asked_wishes.nd (seqK (K := K) rfl (pv 1)) (blkOk_by (own := [("row", 2)]) (N := N_asked_wishes) (sc := defScope s_asked_wishes) (by decide +kernel)) (fun _ _ _ _ _ => (pg_name (i := 2) sc_asked_wishes.nd rfl (Or.inl rfl))) (fun _ _ _ _ _ => pts_nil) (fun _ _ _ _ _ => (pe_and (pe_call (ok_are_places T) (hr.mono (by decide)) (by rfl) T.g_are_places T.F_are_places.kp (b_are_places T) .nil pass0 (pa_cons (pv 0) (pa_cons (pv 2) pa_nil))) (pe_one (pe_cmpR (neK (K := K) hr rfl) (pv 2) (pe_lst pa_nil) (nomark _)))))) pa_nil)))) (pss_one (ps_refuse rfl tk T.rc_BadWishes (by rfl))) pss_nil)
  Ab.pss_never)), body_ofR (M := N_asked_wishes) (fun as C h => ?_) vs H Q h⟩
  · obtain ⟨_, _, rfl, _⟩ := h; rfl
  · obtain ⟨xs, d, rfl, rfl, hcl, hrl, hb⟩ := h
    have hnd := layD_not hcl
    by_cases ht : isA d "list" = true
    · obtain ⟨ds, rfl⟩ : ∃ ds, d = .list ds := by
        cases d with
        | list ds => exact ⟨ds, rfl⟩
        | _ => exact absurd ht (by simp [isA, isN, tyN])
      have hb : (decide (ds.length ≤ 6) && ds.all fun r => arePl xs.length r && neL r) = false := hb
      by_cases c : ds.length ≤ 6
      · rw [decide_eq_true c, Bool.true_and] at hb
        have c6 : ¬ (6 : Int) < ds.length := by omega
        refine rd_next (sd_if (b := false) (et_is (et_or (et_not (et_B (ed_isLst (ed_var rfl)))) fun _ => et_test (ed_gt (ed_len (ed_var rfl)) ed_int)) (by simp [isA, isN, tyN, c6])) (fun z => by cases z) fun _ => sd_next rfl) ?_
        refine rd_here (rd_if (et_is (et_not (et_B (ed_allF ds (fun r => arePl xs.length r && neL r) (el_map ds id (fun r => .bool (arePl xs.length r && neL r)) (js := [2]) (ei_is (ei_any (ed_var (d := .list ds) rfl)) (by simp)) (by simp) (by omega) fun r hr0 => ⟨_, tg_name 2, ed_andV (ed_call (ea2 (ed_var rfl) (ed_var rfl)) ⟨xs, r, rfl, hrl ds rfl r hr0, layD_list hcl r hr0, rfl⟩) fun hp => ?_⟩)))) (by rw [hb]; rfl)) rd_raise)
        obtain ⟨ps, rfl⟩ := arePl_dI hp
        exact ed_is (ed_neT nice_dI (b := []) (ed_var rfl) (el_lst (ds := []) ea_nil (by simp)).ed) (by cases ps <;> simp [neL, dI])
      · have c6 : (6 : Int) < ds.length := by omega
        exact rd_here (rd_if (et_is (et_or (et_not (et_B (ed_isLst (ed_var rfl)))) fun _ => et_test (ed_gt (ed_len (ed_var rfl)) ed_int)) (by simp [isA, isN, tyN, c6])) rd_raise)
    · have hf : isA d "list" = false := by simpa using ht
      exact rd_here (rd_if (et_is (et_or (b := false) (et_not (et_B (ed_isLst (ed_var rfl)))) fun e => by rw [hf] at e; cases e) (by rw [hf]; rfl)) rd_raise)
def P_asked_all (as : List Sl) (R : Sl → Prop) : Prop := ∃ (m : Int) (e : Int × Int) (day : List Show), as = [.dat (.int m), .dat (dP e), .dat (dDay day)] ∧ (1 ≤ m ∧ m ≤ 3) ∧ okE e ∧ okDay day ∧ R (.dat .none)
theorem ok_asked_all (T : Txt K mg) : FnOk P w K mg base CX0 4 T.fa_asked_all T.fd_asked_all A_asked_all (spF K P_asked_all) := by
  refine T.F_asked_all.ok sc_asked_all (spF_len (n := 3) fun as R h => ?_) fun cdv A outer s H vs Q E hr h => ⟨_, (pss_cons (ps_expr (pe_call (ok_asked_tuners T) (hr.mono (by decide)) (by rfl) T.g_asked_tuners T.F_asked_tuners.kp (b_asked_tuners T) .nil pass0 (pa_cons (pv 0) pa_nil)))
  (pss_cons (ps_expr (pe_call (ok_asked_edges T) (hr.mono (by decide)) (by rfl) T.g_asked_edges T.F_asked_edges.kp (b_asked_edges T) .nil pass0 (pa_cons (pv 1) pa_nil)))
  (pss_one (ps_expr (pe_call (ok_asked_shows T) (hr.mono (by decide)) (by rfl) T.g_asked_shows T.F_asked_shows.kp (b_asked_shows T) .nil pass0 (pa_cons (pv 2) pa_nil)))))), body_of (M := N_asked_all) (fun as R h => ?_) vs H Q E h⟩
  · obtain ⟨_, _, _, rfl, _⟩ := h; rfl
  · obtain ⟨m, e, day, rfl, hm, he, hd, hR⟩ := h
    exact sd_seq1 (sd_drop (ed_call (ea1 (ed_var rfl)) ⟨m, rfl, hm, rfl⟩) rfl) (sd_seq1 (sd_drop (ed_call (ea1 (ed_var rfl)) ⟨e, rfl, he, rfl⟩) rfl) (sd_drop (ed_call (ea1 (ed_var rfl)) ⟨day, rfl, hd, rfl⟩) hR))
def PR_asked_all (CT CE CS : Addr) (as : List Sl) (C : Addr) : Prop := ∃ d1 d2 d3 : PyData, as = [.dat d1, .dat d2, .dat d3] ∧ (PR_asked_tuners CT [.dat d1] C ∨ (∃ m : Int, d1 = .int m ∧ (1 ≤ m ∧ m ≤ 3) ∧ PR_asked_edges CE [.dat d2] C) ∨ ∃ (m : Int) (e : Int × Int), d1 = .int m ∧ (1 ≤ m ∧ m ≤ 3) ∧ d2 = dP e ∧ okE e ∧ PR_asked_shows CS [.dat d3] C)
theorem okR_asked_all (T : Txt K mg) : FnOk P w K mg base (L2N.CX P w) 4 T.fa_asked_all T.fd_asked_all A_asked_all (spR K (PR_asked_all T.C_BadTuners T.C_BadEdges T.C_BadShows)) := by
  refine Ab.okN T.F_asked_all sc_asked_all (spR_len (n := 3) fun as C h => ?_) fun cdv A outer s H vs Q E hr tk h => ⟨_, (pss_cons (ps_expr (pe_alt (pe_call (ok_asked_tuners T) (hr.mono (by decide)) (by rfl) T.g_asked_tuners T.F_asked_tuners.kp (b_asked_tuners T) .nil pass0 (pa_cons (pv 0) pa_nil)) (pe_callS (okR_asked_tuners T) (hr.mono (by decide)) (by rfl) T.g_asked_tuners T.F_asked_tuners.kp (b_asked_tuners T) (fun σ => L2N.passAt tk σ) (pa_cons (pv 0) pa_nil))))
  (pss_cons (ps_expr (pe_alt (pe_call (ok_asked_edges T) (hr.mono (by decide)) (by rfl) T.g_asked_edges T.F_asked_edges.kp (b_asked_edges T) .nil pass0 (pa_cons (pv 1) pa_nil)) (pe_callS (okR_asked_edges T) (hr.mono (by decide)) (by rfl) T.g_asked_edges T.F_asked_edges.kp (b_asked_edges T) (fun σ => L2N.passAt tk σ) (pa_cons (pv 1) pa_nil))))
  (pss_cons (ps_expr (pe_alt (pe_call (ok_asked_shows T) (hr.mono (by decide)) (by rfl) T.g_asked_shows T.F_asked_shows.kp (b_asked_shows T) .nil pass0 (pa_cons (pv 2) pa_nil)) (pe_callS (okR_asked_shows T) (hr.mono (by decide)) (by rfl) T.g_asked_shows T.F_asked_shows.kp (b_asked_shows T) (fun σ => L2N.passAt tk σ) (pa_cons (pv 2) pa_nil))))
  Ab.pss_never))), body_ofR (M := N_asked_all) (fun as C h => ?_) vs H Q h⟩
  · obtain ⟨_, _, _, rfl, _⟩ := h; rfl
  · obtain ⟨d1, d2, d3, rfl, h1 | ⟨m, rfl, hm, h2⟩ | ⟨m, e, rfl, hm, rfl, he, h3⟩⟩ := h
    · exact rd_here (rd_altR (rd_call (ea1 (ed_var rfl)) h1))
    · exact rd_next (sd_drop (ed_altL (ed_call (ea1 (ed_var rfl)) ⟨m, rfl, hm, rfl⟩)) rfl) (rd_here (rd_altR (rd_call (ea1 (ed_var rfl)) h2)))
    · exact rd_next (sd_drop (ed_altL (ed_call (ea1 (ed_var rfl)) ⟨m, rfl, hm, rfl⟩)) rfl) (rd_next (sd_drop (ed_altL (ed_call (ea1 (ed_var rfl)) ⟨e, rfl, he, rfl⟩)) rfl) (rd_here (rd_altR (rd_call (ea1 (ed_var rfl)) h3))))
def P_laid_of (as : List Sl) (R : Sl → Prop) : Prop := ∃ (m : Nat) (e : Int × Int) (day : List Show) (ps : List Int), as = [.dat (.int m), .dat (dP e), .dat (dDay day), .dat (dI ps)] ∧ m ≤ 100 ∧ okP day.length ps ∧ ps.length ≤ 1000 ∧ R (.dat (dRes (laidOf m e day ps)))
theorem ok_laid_of (T : Txt K mg) : FnOk P w K mg base CX0 2 T.fa_laid_of T.fd_laid_of A_laid_of (spF K P_laid_of) := by
  refine T.F_laid_of.ok sc_laid_of (spF_len (n := 4) fun as R h => ?_) fun cdv A outer s H vs Q E hr h => ⟨_, (pss_cons (ps_asg (pe_tup (pa_cons (pe_op op_mulA (pe_lst (pa_cons pe_int pa_nil)) (pv 0)) (pa_cons (pe_op op_mulA (pe_lst (pa_cons pe_int pa_nil)) (pe_callB (lenK (K := K) rfl) (by rfl) T.n_len (by decide +kernel) (pa_cons (pv 3) pa_nil))) pa_nil))) (tupK (K := K) (n := 2) rfl rfl (pgs_cons (pg_name (i := 4) sc_laid_of.nd rfl (Or.inr rfl)) (pgs_cons (pg_name (i := 5) sc_laid_of.nd rfl (Or.inl rfl)) pgs_nil))))
  (pss_cons (ps_set (i := 6) sc_laid_of.nd rfl (Or.inl rfl) (pe_callB (sortK (K := K) rfl hr rfl) (by rfl) T.n_sorted (by decide +kernel) (pa_cons (pe_lc (own := [("at", 7), ("place", 8)]) (by rfl) sc_laid_of.nd (enumK (K := K) rfl (by rfl) T.n_enumerate (pa_cons (pv 3) pa_nil)) (blkOk_by (own := [("at", 7), ("place", 8)]) (N := N_laid_of) (sc := defScope s_laid_of) (by decide +kernel)) (fun _ _ _ _ _ => (tupK (K := K) (n := 2) rfl rfl (pgs_cons (pg_name (i := 7) sc_laid_of.nd rfl (Or.inl rfl)) (pgs_cons (pg_name (i := 8) sc_laid_of.nd rfl (Or.inl rfl)) pgs_nil)))) (fun _ _ _ _ _ => pts_nil) (fun _ _ _ _ _ => (pe_tup (pa_cons (pe_call (ok_held_of T) (hr.mono (by decide)) (by rfl) T.g_held_of T.F_held_of.kp (b_held_of T) .nil pass0 (pa_cons (pv 1) (pa_cons (pe_ix (ixK (K := K) rfl) (pv 2) (pv 8) (fun _ _ => rfl)) pa_nil))) (pa_cons (pv 7) pa_nil))))) pa_nil)))
  (pss_cons (ps_for PassesOwn.never rfl (seqK (K := K) rfl (pv 6)) (tupK (K := K) (n := 2) rfl rfl (pgs_cons (pg_name (i := 9) sc_laid_of.nd rfl (Or.inr rfl)) (pgs_cons (pg_name (i := 7) sc_laid_of.nd rfl (Or.inl rfl)) pgs_nil))) (pss_cons (ps_setLc (i := 10) (own := [("tuner", 11)]) (by rfl) sc_laid_of.nd rfl rfl (sw_true rfl rfl rfl (by decide +kernel)) (pi_range1 (by rfl) T.n_range (pa_cons (pv 0) pa_nil)) (blkOk_by (own := [("tuner", 11)]) (N := N_laid_of) (sc := defScope s_laid_of) (by decide +kernel)) (fun _ _ _ _ _ => (pg_name (i := 11) sc_laid_of.nd rfl (Or.inl rfl))) (fun _ _ _ _ _ => (pts_one (pt_cmpR op_le (pe_ix (ixK (K := K) rfl) (pv 4) (pv 11) (fun _ _ => rfl)) (pe_ix (ixK (K := K) rfl) (pv 9) pe_int (fun _ _ => rfl)) (nomark _)))) (fun _ _ _ _ _ => (pv 11)))
  (pss_cons (ps_if (pt_cmpR (eqK (K := K) hr rfl) (pv 10) (pe_lst pa_nil) (nomark _)) (pss_one (ps_ret (pe_tup (pa_cons (pv 5) (pa_cons (pe_ix (ixK (K := K) rfl) (pv 9) pe_int (fun _ _ => rfl)) pa_nil))))) pss_nil)
  (pss_cons (ps_asg (pe_ix (ixK (K := K) rfl) (pv 10) pe_int (fun _ _ => rfl)) (pg_sub (pv 5) (pv 7) set_list))
  (pss_one (ps_asg (pe_ix (ixK (K := K) rfl) (pv 9) pe_int (fun _ _ => rfl)) (pg_sub (pv 4) (pe_ix (ixK (K := K) rfl) (pv 10) pe_int (fun _ _ => rfl)) set_list)))))))
  (pss_one (ps_ret (pe_tup (pa_cons (pv 5) (pa_cons pe_non pa_nil)))))))), body_of (M := N_laid_of) (fun as R h => ?_) vs H Q E h⟩
  · obtain ⟨_, _, _, _, rfl, _⟩ := h; rfl
  · obtain ⟨m, e, day, ps, rfl, hm, hp, hl, hR⟩ := h
    refine sd_seq1 (sd_mk2 (.own (el_repI ed_int (ed_var rfl) (by omega) (by omega))) (.own (el_repI ed_int (ed_lenI (ed_var rfl)) (by omega) (by omega))) rfl) ?_
    refine sd_seq1 (sd_asg (EL.ed (el_is (el_sort (EL.ed (el_is (el_map ps.zipIdx (fun x => .tuple [.int (x.2 : Nat), .int x.1]) (fun x => dLn (held e (shAt day x.1), (x.2 : Int))) (js := [7, 8]) (ei_is (ei_enum (ea1 (ed_var rfl))) (enumD_map PyData.int ps)) (by decide) (by rw [List.length_zipIdx]; omega) fun x hx => ⟨_, tg2, ed_tup (ds := [_, _]) (ea2 (ed_call (ea2 (ed_var rfl) (ed_day (ed_var rfl) (ed_var rfl) (hp x.1 (zipIdx_mem hx).1).1 (hp x.1 (zipIdx_mem hx).1).2)) ⟨_, _, rfl, rfl⟩) (ed_var rfl)) (by simp)⟩)
      (show _ = (lineOf e day ps).map dLn by rw [lineOf_eq, List.map_map]; rfl))) (dLn_alike _) (dLn_sortable _) (dLn_depth _) (canLayAll_map (fun _ => rfl) _)) (sort_dLn _))) rfl) ?_
    generalize hline : (lineOf e day ps).mergeSort leL = line
    have hat : ∀ x ∈ line, 0 ≤ x.2 ∧ x.2 < ps.length := fun x hx => line_at (by rw [hline]; exact hx)
    have hres : laidGo m line (List.replicate m 0) (List.replicate ps.length 0) = laidOf m e day ps := by unfold laidOf; rw [hline]
    refine sd_seq (M := fun τ' => ∃ (free found : List Int) (s7 s8 s9 s10 s11 : Sl), τ' = [.dat (.int m), .dat (dP e), .dat (dDay day), .dat (dI ps), .own (free.map PyData.int), .own (found.map PyData.int), .dat (.list (line.map dLn)), s7, s8, s9, s10, s11] ∧ laidOf m e day ps = (found, none))
      (sd_for (fun i τ' => ∃ (free found : List Int) (s7 s8 s9 s10 s11 : Sl), τ' = [.dat (.int m), .dat (dP e), .dat (dDay day), .dat (dI ps), .own (free.map PyData.int), .own (found.map PyData.int), .dat (.list (line.map dLn)), s7, s8, s9, s10, s11] ∧ free.length = m ∧ found.length = ps.length ∧ laidGo m (line.drop i) free found = laidOf m e day ps)
        (ei_any (ed_var rfl)) ⟨List.replicate m 0, List.replicate ps.length 0, .unk, .unk, .unk, .unk, .unk, by simp [startS, List.replicate, List.set, dRes], by simp, by simp, hres⟩ ?turn ?done) ?rest
    case turn =>
      rintro i d τ1 hd ⟨free, found, s7, s8, s9, s10, s11, rfl, hf, hfo, hgo⟩
      obtain ⟨x, hx, rfl⟩ : ∃ x, line[i]? = some x ∧ d = dLn x := by
        rw [List.getElem?_map] at hd
        cases q : line[i]? with
        | none => rw [q] at hd; cases hd
        | some x => rw [q] at hd; cases hd; exact ⟨x, rfl, rfl⟩
      obtain ⟨a0, a1⟩ := hat x (List.mem_of_getElem? hx)
      have hdrop : line.drop i = x :: line.drop (i + 1) := by
        obtain ⟨hi, he⟩ := List.getElem?_eq_some_iff.mp hx
        rw [← he]
        exact List.drop_eq_getElem_cons hi
      rw [hdrop] at hgo
      refine ⟨[9, 7], _, tg2, ?_⟩
      refine sd_seq1 (sd_asgL (el_is (el_filt (List.range m) (fun i => .int (0 + (i : Nat))) (fun i => .int (0 + (i : Nat))) (fun o => decide (getI free o ≤ x.1.1)) (js := [11]) (ei_rngN (ea1 (ed_var rfl)) (by omega)) (by decide) (by simp; omega) fun o ho => ⟨_, tg_name 11, et_frz 4 rfl (et_test (ed_is (ed_le (ed_iat (ns := free) (ed_var rfl) (ed_var rfl) (by omega) (by have := List.mem_range.mp ho; omega)) (ed_p0 (e := x.1) (ed_var rfl))) ?_)), fun _ => ed_var rfl⟩) (show _ = ((opens m free x.1.1).map fun (o : Nat) => (o : Int)).map PyData.int from ?_)) rfl) ?_
      · show PyData.bool (decide (iAt free (0 + (o : Int)) ≤ x.1.1)) = _
        have : iAt free (0 + (o : Int)) = getI free o := by unfold iAt getI; rw [Int.zero_add, Int.toNat_natCast]
        rw [this]
      · rw [List.map_map]
        refine List.map_congr_left fun o _ => ?_
        show PyData.int (0 + (o : Int)) = .int (o : Int)
        rw [Int.zero_add]
      · unfold laidGo at hgo
        refine sd_seq (M := fun τ' => ∃ o os, opens m free x.1.1 = o :: os ∧ τ' = [.dat (.int m), .dat (dP e), .dat (dDay day), .dat (dI ps), .own (free.map PyData.int), .own (found.map PyData.int), .dat (.list (line.map dLn)), .dat (.int x.2), s8, .dat (dP x.1), .own (((opens m free x.1.1).map fun (o : Nat) => (o : Int)).map PyData.int), s11]) (sd_if (et_frz 10 rfl (et_test (ed_eqT nice_dI (a := (opens m free x.1.1).map fun (o : Nat) => (o : Int)) (b := []) (ed_var rfl) (el_lst (ds := []) ea_nil (by simp)).ed))) (fun hb => ?_) fun hb => sd_next ?_) ?_
        · have hnil : opens m free x.1.1 = [] := by simpa using hb
          rw [hnil] at hgo
          refine sd_frz (i := 5) rfl (sd_ret (ed_tup (ds := [_, _]) (ea2 (ed_var rfl) (ed_p0 (e := x.1) (ed_var rfl))) (by simp)) ?_)
          rw [← hgo] at hR
          exact hR
        · have hne : opens m free x.1.1 ≠ [] := by
            intro z
            rw [z] at hb
            simp at hb
          cases q : opens m free x.1.1 with
          | nil => exact absurd q hne
          | cons o os => exact ⟨o, os, rfl, by rw [← q]; rfl⟩
        · rintro _ ⟨o, os, ho, rfl⟩
          rw [ho] at hgo
          have om : o < m := (mem_opens.mp (show o ∈ opens m free x.1.1 by rw [ho]; simp)).1
          have o0 : ∀ {τ : Sls}, τ[10]? = some (.own (((opens m free x.1.1).map fun (o : Nat) => (o : Int)).map PyData.int)) → ED K (tOp (rIxA K) (tVar 10) (tC (.int 0))) τ (.int (o : Int)) := fun {τ} ht => ed_frz 10 ht (ed_is (ed_ixL (ds := ((opens m free x.1.1).map fun (o : Nat) => (o : Int)).map PyData.int) (ed_var (by
            have : 10 < τ.length := by
              by_cases c : 10 < τ.length
              · exact c
              · rw [List.getElem?_eq_none (by omega)] at ht; cases ht
            rw [List.getElem?_set_self this])) ed_int (by rw [ho]; exact atI_nat (j := 0) rfl)) rfl)
          refine sd_seq1 (sd_put (i := 5) (ds := found.map PyData.int) (k := x.2) (j := x.2.toNat) rfl (o0 rfl) (ed_var rfl) (ixN_in a0 (by rw [List.length_map, hfo]; exact a1)) rfl) ?_
          refine sd_put (i := 4) (ds := free.map PyData.int) (k := (o : Int)) (j := o) rfl (ed_p1 (e := x.1) (ed_var rfl)) (o0 rfl) (by rw [ixN_in (by omega) (by rw [List.length_map, hf]; omega), Int.toNat_natCast]) ?_
          refine ⟨free.set o x.1.2, found.set x.2.toNat (o : Int), ?a, ?b, ?c, ?d, ?f, ?eq, by rw [List.length_set]; exact hf, by rw [List.length_set]; exact hfo, hgo⟩
          case eq =>
            rw [List.map_set, List.map_set]
            rfl
    case done =>
      rintro τ1 ⟨free, found, s7, s8, s9, s10, s11, rfl, hf, hfo, hgo⟩
      refine ⟨free, found, s7, s8, s9, s10, s11, rfl, ?_⟩
      rw [List.length_map, List.drop_length] at hgo
      rw [← hgo]
      rfl
    case rest =>
      rintro _ ⟨free, found, s7, s8, s9, s10, s11, rfl, hq⟩
      rw [hq] at hR
      exact sd_frz (i := 5) rfl (sd_ret (ed_tup (ds := [_, _]) (ea2 (ed_var rfl) ed_non) (by simp)) hR)
def P_judged (CL CC : Addr) (as : List Sl) (R : Sl → Prop) : Prop := ∃ (m : Nat) (e : Int × Int) (day : List Show) (ps : List Int), as = [.dat (.int (m : Int)), .dat (dP e), .dat (dDay day), .dat (dI ps)] ∧ (1 ≤ m ∧ m ≤ 3) ∧ okE e ∧ okDay day ∧ okR day.length ps ∧ ((laidOf m e day ps).2 = none → ∀ x dx p, R (.obj x CL dx [("tuners", p, (laidOf m e day ps).1.map PyData.int)])) ∧ ∀ t, (laidOf m e day ps).2 = some t → R (.dat (dCrowd CC t))
theorem ok_judged (T : Txt K mg) : FnOk P w K mg base CX0 5 T.fa_judged T.fd_judged A_judged (spF K (P_judged T.C_Laid T.C_Crowd)) := by
  refine T.F_judged.ok sc_judged (spF_len (n := 4) fun as R h => ?_) fun cdv A outer s H vs Q E hr h => ⟨_, (pss_cons (ps_expr (pe_call (ok_asked_all T) (hr.mono (by decide)) (by rfl) T.g_asked_all T.F_asked_all.kp (b_asked_all T) .nil pass0 (pa_cons (pv 0) (pa_cons (pv 1) (pa_cons (pv 2) pa_nil)))))
  (pss_cons (ps_expr (pe_call (ok_asked_places T) (hr.mono (by decide)) (by rfl) T.g_asked_places T.F_asked_places.kp (b_asked_places T) .nil pass0 (pa_cons (pv 2) (pa_cons (pv 3) pa_nil))))
  (pss_cons (ps_asg (pe_call (ok_laid_of T) (hr.mono (by decide)) (by rfl) T.g_laid_of T.F_laid_of.kp (b_laid_of T) .nil pass0 (pa_cons (pv 0) (pa_cons (pv 1) (pa_cons (pv 2) (pa_cons (pv 3) pa_nil))))) (tupK (K := K) (n := 2) rfl rfl (pgs_cons (pg_name (i := 4) sc_judged.nd rfl (Or.inl rfl)) (pgs_cons (pg_name (i := 5) sc_judged.nd rfl (Or.inl rfl)) pgs_nil))))
  (pss_one (ps_ret (pe_ifExp (pt_cmpR op_isNn (pv 5) pe_non (nomark _)) (pe_make T.mk_Laid (ok_Laid_init T) (hr.mono (by decide)) (by rfl) T.g_Laid (b_Laid_init T) .nil pass0 (pa_cons (pv 4) pa_nil)) (pe_make T.mk_Crowd (ok_Crowd_init T) (hr.mono (by decide)) (by rfl) T.g_Crowd (b_Crowd_init T) .nil pass0 (pa_cons (pv 5) pa_nil)))))))), body_of (M := N_judged) (fun as R h => ?_) vs H Q E h⟩
  · obtain ⟨_, _, _, _, rfl, _⟩ := h; rfl
  · obtain ⟨m, e, day, ps, rfl, hm, he, hd, hp, hR1, hR2⟩ := h
    have hd1 := hd.1
    have hpl := okR_len hp
    refine sd_seq1 (sd_drop (ed_call (ea_cons (ed_var rfl) (ea2 (ed_var rfl) (ed_var rfl))) ⟨m, e, day, rfl, by omega, he, hd, rfl⟩) rfl) ?_
    refine sd_seq1 (sd_drop (ed_call (ea2 (ed_var rfl) (ed_var rfl)) ⟨day.map dS, dI ps, rfl, fun ds e => by cases e; simp; omega, layD_of (nice_dI.lay _), by rw [List.length_map]; exact arePl_ok hp, rfl⟩) rfl) ?_
    refine sd_seq1 (sd_asgT (ed_call (ea_cons (ed_var rfl) (ea_cons (ed_var rfl) (ea2 (ed_var rfl) (ed_var rfl)))) ⟨m, e, day, ps, rfl, by omega, hp.1, by omega, rfl⟩) tg2 rfl) ?_
    generalize laidOf m e day ps = r at *
    obtain ⟨lay, o⟩ := r
    cases o with
    | none => exact sd_retN (en_if (b := true) (et_test (ed_is (ed_isN (ed_var rfl)) rfl)) (fun _ => en_mk1 (es_ed (es := lay.map PyData.int) (ed_var rfl)) fun x dx p => hR1 rfl x dx p) fun z => by cases z)
    | some t => exact sd_retN (en_if (b := false) (et_test (ed_is (ed_isN (ed_var rfl)) rfl)) (fun z => by cases z) fun _ => en_ed (ed_mkV (d := .int t) (ed_var rfl)) (hR2 t rfl))
def Good3 (m : Nat) (e : Int × Int) (day : List Show) (d1 d2 d3 : PyData) : Prop := (d1 = .int (m : Int) ∧ 1 ≤ m ∧ m ≤ 3) ∧ (d2 = dP e ∧ okE e) ∧ d3 = dDay day ∧ okDay day
def PR_judged (CT CE CS CP : Addr) (as : List Sl) (C : Addr) : Prop := ∃ d1 d2 d3 d4 : PyData, as = [.dat d1, .dat d2, .dat d3, .dat d4] ∧ (PR_asked_all CT CE CS [.dat d1, .dat d2, .dat d3] C ∨ ∃ m e day, Good3 m e day d1 d2 d3 ∧ PR_asked_places CP [.dat (dDay day), .dat d4] C)
theorem okR_judged (T : Txt K mg) : FnOk P w K mg base (L2N.CX P w) 5 T.fa_judged T.fd_judged A_judged (spR K (PR_judged T.C_BadTuners T.C_BadEdges T.C_BadShows T.C_BadPlaces)) := by
  refine Ab.okN T.F_judged sc_judged (spR_len (n := 4) fun as C h => ?_) fun cdv A outer s H vs Q E hr tk h => ⟨_, (pss_cons (ps_expr (pe_alt (pe_call (ok_asked_all T) (hr.mono (by decide)) (by rfl) T.g_asked_all T.F_asked_all.kp (b_asked_all T) .nil pass0 (pa_cons (pv 0) (pa_cons (pv 1) (pa_cons (pv 2) pa_nil)))) (pe_callS (okR_asked_all T) (hr.mono (by decide)) (by rfl) T.g_asked_all T.F_asked_all.kp (b_asked_all T) (fun σ => L2N.passAt tk σ) (pa_cons (pv 0) (pa_cons (pv 1) (pa_cons (pv 2) pa_nil))))))
  (pss_cons (ps_expr (pe_alt (pe_call (ok_asked_places T) (hr.mono (by decide)) (by rfl) T.g_asked_places T.F_asked_places.kp (b_asked_places T) .nil pass0 (pa_cons (pv 2) (pa_cons (pv 3) pa_nil))) (pe_callS (okR_asked_places T) (hr.mono (by decide)) (by rfl) T.g_asked_places T.F_asked_places.kp (b_asked_places T) (fun σ => L2N.passAt tk σ) (pa_cons (pv 2) (pa_cons (pv 3) pa_nil)))))
  Ab.pss_never)), body_ofR (M := N_judged) (fun as C h => ?_) vs H Q h⟩
  · obtain ⟨_, _, _, _, rfl, _⟩ := h; rfl
  · obtain ⟨d1, d2, d3, d4, rfl, h1 | ⟨m, e, day, ⟨⟨rfl, hm⟩, ⟨rfl, he⟩, rfl, hd⟩, h2⟩⟩ := h
    · exact rd_here (rd_altR (rd_call (ea_cons (ed_var rfl) (ea2 (ed_var rfl) (ed_var rfl))) h1))
    · exact rd_next (sd_drop (ed_altL (ed_call (ea_cons (ed_var rfl) (ea2 (ed_var rfl) (ed_var rfl))) ⟨m, e, day, rfl, by omega, he, hd, rfl⟩)) rfl) (rd_here (rd_altR (rd_call (ea2 (ed_var rfl) (ed_var rfl)) h2)))
def P_ways_of (as : List Sl) (R : Sl → Prop) : Prop := ∃ (m : Nat) (e : Int × Int) (day : List Show) (ps : List Int), as = [.dat (.int (m : Int)), .dat (dP e), .dat (dDay day), .dat (dI ps)] ∧ m ≤ 3 ∧ okP day.length ps ∧ ps.length ≤ 6 ∧ R (.own ((ways m e day ps).map dI))
theorem ok_ways_of (T : Txt K mg) : FnOk P w K mg base CX0 3 T.fa_ways_of T.fd_ways_of A_ways_of (spF K P_ways_of) := by
  refine T.F_ways_of.ok sc_ways_of (spF_len (n := 4) fun as R h => ?_) fun cdv A outer s H vs Q E hr h => ⟨_, (pss_cons (ps_set (i := 4) sc_ways_of.nd rfl (Or.inl rfl) (pe_lst (pa_cons (pe_lst pa_nil) pa_nil)))
  (pss_cons (ps_for PassesOwn.never rfl (pi_range1 (by rfl) T.n_range (pa_cons (pe_callB (lenK (K := K) rfl) (by rfl) T.n_len (by decide +kernel) (pa_cons (pv 3) pa_nil)) pa_nil)) (pg_name (i := 5) sc_ways_of.nd rfl (Or.inr rfl)) (pss_cons (ps_set (i := 6) sc_ways_of.nd rfl (Or.inl rfl) (pe_lst pa_nil))
  (pss_cons (ps_for PassesOwn.never rfl (seqK (K := K) rfl (pv 4)) (pg_name (i := 7) sc_ways_of.nd rfl (Or.inr rfl)) (pss_one (ps_expr (bmK (K := K) rfl PySem.F.plainAttrs_list PySem.F.slot_list_extend PySem.F.type_list_extend mt_extend (pv 6) (pa_cons (pe_lc (own := [("tuner", 8)]) (by rfl) sc_ways_of.nd (pi_range1 (by rfl) T.n_range (pa_cons (pv 0) pa_nil)) (blkOk_by (own := [("tuner", 8)]) (N := N_ways_of) (sc := defScope s_ways_of) (by decide +kernel)) (fun _ _ _ _ _ => (pg_name (i := 8) sc_ways_of.nd rfl (Or.inl rfl))) (fun _ _ _ _ _ => pts_nil) (fun _ _ _ _ _ => (pe_op op_addA (pv 7) (pe_lst (pa_cons (pv 8) pa_nil))))) pa_nil)))))
  (pss_one (ps_setLc (i := 4) (own := [("layed", 7)]) (by rfl) sc_ways_of.nd rfl rfl (sw_true rfl rfl rfl (by decide +kernel)) (seqK (K := K) rfl (pv 6)) (blkOk_by (own := [("layed", 7)]) (N := N_ways_of) (sc := defScope s_ways_of) (by decide +kernel)) (fun _ _ _ _ _ => (pg_name (i := 7) sc_ways_of.nd rfl (Or.inl rfl))) (fun _ _ _ _ _ => (pts_one (pt_val (pe_call (ok_can_be T) (hr.mono (by decide)) (by rfl) T.g_can_be T.F_can_be.kp (b_can_be T) .nil pass0 (pa_cons (pv 1) (pa_cons (pv 2) (pa_cons (pe_slice (slK (K := K) rfl) (pv 3) po_none (po_some (pe_op op_addA (pv 5) pe_int))) (pa_cons (pv 7) pa_nil)))))))) (fun _ _ _ _ _ => (pv 7)))))))
  (pss_one (ps_ret (pv 4))))), body_of (M := N_ways_of) (fun as R h => ?_) vs H Q E h⟩
  · obtain ⟨_, _, _, _, rfl, _⟩ := h; rfl
  · obtain ⟨m, e, day, ps, rfl, hm, hP, hl, hR⟩ := h
    have few : ∀ n, n ≤ 6 → (waysN m e day ps n).length ≤ 729 := fun n hn => Nat.le_trans (waysN_le n) (Nat.le_trans (Nat.pow_le_pow_left hm n) (Nat.le_trans (Nat.pow_le_pow_right (by decide) hn) (by decide)))
    refine sd_seq1 (sd_asgL (el_lst (ds := [dI []]) (ea1 ed_nil) (by simp)) rfl) ?_
    refine sd_seq (M := fun τ' => ∃ (s5 s6 s7 s8 : Sl), τ' = [.dat (.int (m : Int)), .dat (dP e), .dat (dDay day), .dat (dI ps), .own ((ways m e day ps).map dI), s5, s6, s7, s8])
      (sd_for (its := (List.range ps.length).map fun (i : Nat) => .int (i : Int)) (fun i τ' => ∃ (s5 s6 s7 s8 : Sl), τ' = [.dat (.int (m : Int)), .dat (dP e), .dat (dDay day), .dat (dI ps), .own ((waysN m e day ps i).map dI), s5, s6, s7, s8]) (ei_rngI (ea1 (ed_lenI (ns := ps) (ed_var rfl))) (by omega)) ⟨_, _, _, _, rfl⟩ ?turn ?done) ?rest
    case done =>
      rintro τ1 ⟨s5, s6, s7, s8, rfl⟩
      rw [List.length_map, List.length_range]
      exact ⟨_, _, _, _, rfl⟩
    case rest =>
      rintro _ ⟨s5, s6, s7, s8, rfl⟩
      exact sd_retO rfl hR
    case turn =>
      rintro i d τ1 hd' ⟨s5, s6, s7, s8, rfl⟩
      obtain ⟨i', hi, rfl⟩ := map_at hd'
      obtain ⟨ei, hil⟩ := range_at hi
      subst ei
      have hw := few i' (by omega)
      have hwl : ∀ l ∈ waysN m e day ps i', l.length = i' := fun l hl' => ((mem_waysN (by omega)).mp hl').1
      rw [waysN_succ]
      unfold wayStep
      generalize waysN m e day ps i' = W at *
      refine ⟨[5], _, tg_name 5, ?_⟩
      refine sd_seq1 (sd_asgL (el_lst (ds := []) ea_nil (by simp)) rfl) ?_
      refine sd_frz (i := 4) rfl ?_
      refine sd_seq (M := fun τ' => ∃ (s7 s8 : Sl), τ' = [.dat (.int (m : Int)), .dat (dP e), .dat (dDay day), .dat (dI ps), .dat (dII W), .dat (.int (i' : Int)), .own ((longer m W).map dI), s7, s8])
        (sd_for (its := W.map dI) (fun j τ' => ∃ (s7 s8 : Sl), τ' = [.dat (.int (m : Int)), .dat (dP e), .dat (dDay day), .dat (dI ps), .dat (dII W), .dat (.int (i' : Int)), .own ((longer m (W.take j)).map dI), s7, s8]) (ei_any (ed_var rfl)) ⟨_, _, rfl⟩ ?turn2 ?done2) ?rest2
      case done2 =>
        rintro τ2 ⟨s7, s8, rfl⟩
        rw [List.length_map, List.take_length]
        exact ⟨_, _, rfl⟩
      case turn2 =>
        rintro j d τ2 hd2 ⟨s7, s8, rfl⟩
        obtain ⟨l, hj, rfl⟩ := map_at hd2
        have hll := hwl l (List.mem_of_getElem? hj)
        have hn : longer m (W.take (j + 1)) = longer m (W.take j) ++ (List.range m).map fun (t : Nat) => l ++ [(t : Int)] := by
          unfold longer
          rw [List.take_add_one, hj, List.flatMap_append]
          simp
        have hjl : j < W.length := (List.getElem?_eq_some_iff.mp hj).1
        have h3 : (longer m (W.take j)).length ≤ 3 * 729 := by
          rw [longer_len]
          exact Nat.mul_le_mul hm (Nat.le_trans (List.length_take_le _ _) (by omega))
        rw [hn]
        refine ⟨[7], _, tg_name 7, ?_⟩
        refine sd_extend (i := 6) (es := ((List.range m).map fun (t : Nat) => l ++ [(t : Int)]).map dI) rfl (ed_is (el_map (List.range m) (fun (t : Nat) => .int (t : Int)) (fun (t : Nat) => dI (l ++ [(t : Int)])) (js := [8]) (ei_rngI (ea1 (ed_var rfl)) (by omega)) (by decide) (by simp; omega) fun t _ => ⟨_, tg_name 8, ed_catI (ns := l) (ed_var rfl) (ed_oneI (ed_var rfl)) (by simp; omega)⟩).ed (by rw [List.map_map]; rfl)) (by simp; omega) ⟨.dat (dI l), s8, ?_⟩
        rw [List.map_append]
        rfl
      case rest2 =>
        rintro _ ⟨s7, s8, rfl⟩
        have h3 : (longer m W).length ≤ 3 * 729 := by
          rw [longer_len]
          exact Nat.mul_le_mul hm hw
        refine sd_frz (i := 6) rfl ?_
        have e1 : ((i' : Int) + 1).toNat = i' + 1 := by omega
        refine sd_asgL (el_filt (longer m W) dI dI (fun l => canBe e day (ps.take (i' + 1)) l) (js := [7]) (ei_any (ed_var rfl)) (by decide) (by omega) fun l hlm => ⟨_, tg_name 7, et_B (ed_call (ea_cons (ed_var rfl) (ea_cons (ed_var rfl) (ea2 (ed_takeI (ns := ps) (ed_var rfl) (ed_add (ed_var rfl) ed_int) (by omega)) (ed_var rfl)))) ⟨e, day, ps.take (i' + 1), l, by rw [e1], fun p hp => hP p (List.mem_of_mem_take hp), ?_, by simp; omega, rfl⟩), fun _ => ed_var rfl⟩) ⟨_, _, _, _, rfl⟩
        obtain ⟨r, hr', t, _, rfl⟩ := mem_longer.mp hlm
        have := hwl r hr'
        simp
        omega
def P_unlike (as : List Sl) (R : Sl → Prop) : Prop := ∃ (l : List Int) (old : List (Option Int)), as = [.dat (dI l), .dat (dOs old)] ∧ l.length ≤ 1000 ∧ l.length ≤ old.length ∧ R (.dat (.int (Pl.unlike l old : Int)))
theorem ok_unlike (T : Txt K mg) : FnOk P w K mg base CX0 1 T.fa_unlike T.fd_unlike A_unlike (spF K P_unlike) := by
  refine T.F_unlike.ok sc_unlike (spF_len (n := 2) fun as R h => ?_) fun cdv A outer s H vs Q E hr h => ⟨_, (pss_one (ps_ret (pe_callB (lenK (K := K) rfl) (by rfl) T.n_len (by decide +kernel) (pa_cons (pe_lc (own := [("at", 2), ("tuner", 3)]) (by rfl) sc_unlike.nd (enumK (K := K) rfl (by rfl) T.n_enumerate (pa_cons (pv 0) pa_nil)) (blkOk_by (own := [("at", 2), ("tuner", 3)]) (N := N_unlike) (sc := defScope s_unlike) (by decide +kernel)) (fun _ _ _ _ _ => (tupK (K := K) (n := 2) rfl rfl (pgs_cons (pg_name (i := 2) sc_unlike.nd rfl (Or.inl rfl)) (pgs_cons (pg_name (i := 3) sc_unlike.nd rfl (Or.inl rfl)) pgs_nil)))) (fun _ _ _ _ _ => (pts_one (pt_cmpR (neK (K := K) hr rfl) (pv 3) (pe_ix (ixK (K := K) rfl) (pv 1) (pv 2) (fun _ _ => rfl)) (nomark _)))) (fun _ _ _ _ _ => (pv 2))) pa_nil)))), body_of (M := N_unlike) (fun as R h => ?_) vs H Q E h⟩
  · obtain ⟨_, _, rfl, _⟩ := h; rfl
  · obtain ⟨l, old, rfl, hl, ho, hR⟩ := h
    refine sd_ret (d := .int (Pl.unlike l old : Int)) (ed_is (ed_len (el_filt l.zipIdx (fun x => .tuple [.int (x.2 : Nat), .int x.1]) (fun x => .int (x.2 : Nat)) (fun x => !decide (some x.1 = old.getD x.2 none)) (js := [2, 3]) (ei_is (ei_enum (ea1 (ed_var rfl))) (enumD_map PyData.int l)) (by decide) (by rw [List.length_zipIdx]; omega) fun x hx => ⟨_, tg2, et_test (ed_neT nice_dO (a := some x.1) (b := old.getD x.2 none) (ed_var rfl) (ed_ixL (ds := old.map dO) (ed_var rfl) (ed_var rfl) ?_)), fun _ => ed_var rfl⟩).ed) ?_) hR
    · have h2 := (zipIdx_mem hx).2.1
      have := atI_map (f := dO) (xs := old) (p := ((x.2 : Nat) : Int)) none (by omega) (by omega)
      exact this
    · rw [List.length_map]
      rfl
def P_laid_anew (as : List Sl) (R : Sl → Prop) : Prop := ∃ (m : Nat) (e : Int × Int) (day : List Show) (ps : List Int) (old : List (Option Int)), as = [.dat (.int (m : Int)), .dat (dP e), .dat (dDay day), .dat (dI ps), .dat (dOs old)] ∧ (1 ≤ m ∧ m ≤ 3) ∧ okE e ∧ okDay day ∧ okR day.length ps ∧ old.length = ps.length ∧ (∀ t, some t ∈ old → 0 ≤ t ∧ t < m) ∧ ps.length ≤ 6 ∧ ways m e day ps ≠ [] ∧ R (.dat (dI (anew (ways m e day ps) old)))
theorem ok_laid_anew (T : Txt K mg) : FnOk P w K mg base CX0 5 T.fa_laid_anew T.fd_laid_anew A_laid_anew (spF K P_laid_anew) := by
  refine T.F_laid_anew.ok sc_laid_anew (spF_len (n := 5) fun as R h => ?_) fun cdv A outer s H vs Q E hr h => ⟨_, (pss_cons (ps_expr (pe_call (ok_asked_all T) (hr.mono (by decide)) (by rfl) T.g_asked_all T.F_asked_all.kp (b_asked_all T) .nil pass0 (pa_cons (pv 0) (pa_cons (pv 1) (pa_cons (pv 2) pa_nil)))))
  (pss_cons (ps_expr (pe_call (ok_asked_places T) (hr.mono (by decide)) (by rfl) T.g_asked_places T.F_asked_places.kp (b_asked_places T) .nil pass0 (pa_cons (pv 2) (pa_cons (pv 3) pa_nil))))
  (pss_cons (ps_if (PW.pt (pw_or (pt_not (pt_val (pe_callB (isiK (K := K) rfl) (by rfl) T.n_isinstance (by decide +kernel) (pa_cons (pv 4) (pa_cons (pe_bltn (v := .ty "list") (by rfl) T.n_list (by decide +kernel) rfl) pa_nil))))) (pw_or1 (pt_cmpR (neK (K := K) hr rfl) (pe_callB (lenK (K := K) rfl) (by rfl) T.n_len (by decide +kernel) (pa_cons (pv 4) pa_nil)) (pe_callB (lenK (K := K) rfl) (by rfl) T.n_len (by decide +kernel) (pa_cons (pv 3) pa_nil)) (nomark _))))) (pss_one ps_never) pss_nil)
  (pss_cons (ps_if (pt_not (pt_val (pe_callB (allK (K := K) rfl rfl) (by rfl) T.n_all (by decide +kernel) (pa_cons (pe_lc (own := [("tuner", 5)]) (by rfl) sc_laid_anew.nd (seqK (K := K) rfl (pv 4)) (blkOk_by (own := [("tuner", 5)]) (N := N_laid_anew) (sc := defScope s_laid_anew) (by decide +kernel)) (fun _ _ _ _ _ => (pg_name (i := 5) sc_laid_anew.nd rfl (Or.inl rfl))) (fun _ _ _ _ _ => pts_nil) (fun _ _ _ _ _ => (pe_or (pe_cmpR op_isNn (pv 5) pe_non (nomark _)) (pe_one (pe_and (pe_call (ok_is_whole T) (hr.mono (by decide)) (by rfl) T.g_is_whole T.F_is_whole.kp (b_is_whole T) .nil pass0 (pa_cons (pv 5) pa_nil)) (pe_one (pe_chain op_le op_lt pe_int (pv 5) (pv 0)))))))) pa_nil)))) (pss_one ps_never) pss_nil)
  (pss_cons (ps_if (pt_cmpR op_gt (pe_callB (lenK (K := K) rfl) (by rfl) T.n_len (by decide +kernel) (pa_cons (pv 3) pa_nil)) (pe_glob (v := .int 6) (by rfl) T.c_MOST_SMALL ⟨_, rfl⟩) (nomark _)) (pss_one ps_never) pss_nil)
  (pss_cons (ps_set (i := 6) sc_laid_anew.nd rfl (Or.inl rfl) (pe_call (ok_ways_of T) (hr.mono (by decide)) (by rfl) T.g_ways_of T.F_ways_of.kp (b_ways_of T) .nil pass0 (pa_cons (pv 0) (pa_cons (pv 1) (pa_cons (pv 2) (pa_cons (pv 3) pa_nil))))))
  (pss_cons (ps_if (pt_cmpR (eqK (K := K) hr rfl) (pv 6) (pe_lst pa_nil) (nomark _)) (pss_one ps_never) pss_nil)
  (pss_one (ps_ret (pe_ix (ixK (K := K) rfl) (pe_callB (minDK (K := K) rfl hr rfl) (by rfl) T.n_min (by decide +kernel) (pa_cons (pe_lc (own := [("layed", 7)]) (by rfl) sc_laid_anew.nd (seqK (K := K) rfl (pv 6)) (blkOk_by (own := [("layed", 7)]) (N := N_laid_anew) (sc := defScope s_laid_anew) (by decide +kernel)) (fun _ _ _ _ _ => (pg_name (i := 7) sc_laid_anew.nd rfl (Or.inl rfl))) (fun _ _ _ _ _ => pts_nil) (fun _ _ _ _ _ => (pe_tup (pa_cons (pe_call (ok_unlike T) (hr.mono (by decide)) (by rfl) T.g_unlike T.F_unlike.kp (b_unlike T) .nil pass0 (pa_cons (pv 7) (pa_cons (pv 4) pa_nil))) (pa_cons (pv 7) pa_nil))))) pa_nil)) pe_int (fun _ _ => rfl))))))))))), body_of (M := N_laid_anew) (fun as R h => ?_) vs H Q E h⟩
  · obtain ⟨_, _, _, _, _, rfl, _⟩ := h; rfl
  · obtain ⟨m, e, day, ps, old, rfl, hm, he, hd, hp, hol, hot, hl, hw, hR⟩ := h
    have hd1 := hd.1
    have hpl := okR_len hp
    refine sd_seq1 (sd_drop (ed_call (ea_cons (ed_var rfl) (ea2 (ed_var rfl) (ed_var rfl))) ⟨m, e, day, rfl, by omega, he, hd, rfl⟩) rfl) ?_
    refine sd_seq1 (sd_drop (ed_call (ea2 (ed_var rfl) (ed_var rfl)) ⟨day.map dS, dI ps, rfl, fun ds e => by cases e; simp; omega, layD_of (nice_dI.lay _), by rw [List.length_map]; exact arePl_ok hp, rfl⟩) rfl) ?_
    refine sd_seq1 (sd_if (b := false) (et_is (et_or (et_not (et_B (ed_isLst (ed_var rfl)))) fun _ => et_test (ed_neT nice_int (ed_is (ed_len (ds := old.map dO) (ed_var rfl)) (by rw [List.length_map])) (ed_lenI (ns := ps) (ed_var rfl)))) (by simp [isA, isN, tyN, dOs, hol])) (fun z => by cases z) fun _ => sd_next rfl) ?_
    refine sd_seq1 (sd_if (b := false) (et_is (et_not (et_B (ed_allF old (fun o => isNone (dO o) || (isWh (dO o) && decide (0 ≤ toI (dO o) ∧ toI (dO o) < (m : Int)))) (el_map old dO _ (js := [5]) (ei_any (ed_var rfl)) (by decide) (by omega) fun o _ => ⟨_, tg_name 5, ed_orV (ed_isN (ed_var rfl)) fun z => ed_andV (ed_call (ea1 (ed_var rfl)) ⟨dO o, rfl, notD_of (nice_dO.lay o), rfl⟩) fun _ => ?_⟩)))) ?_) (fun z => by cases z) fun _ => sd_next rfl) ?_
    · cases o with
      | none => cases z
      | some t => exact ed_leLt ed_int (ed_var rfl) (ed_var rfl)
    · have : (old.all fun o => isNone (dO o) || (isWh (dO o) && decide (0 ≤ toI (dO o) ∧ toI (dO o) < (m : Int)))) = true := List.all_eq_true.mpr fun o ho => by
        cases o with
        | none => rfl
        | some t =>
          have := hot t ho
          show (false || (true && decide (0 ≤ t ∧ t < (m : Int)))) = true
          simp
          omega
      rw [this]
      rfl
    refine sd_seq1 (sd_if (b := false) (et_is (et_test (ed_gt (ed_lenI (ns := ps) (ed_var rfl)) ed_int)) (by simp; omega)) (fun z => by cases z) fun _ => sd_next rfl) ?_
    refine sd_seq1 (sd_asg (el_call (ea_cons (ed_var rfl) (ea_cons (ed_var rfl) (ea2 (ed_var rfl) (ed_var rfl)))) ⟨m, e, day, ps, rfl, by omega, hp.1, hl, rfl⟩).ed rfl) ?_
    have hwl : ∀ l ∈ ways m e day ps, l.length = ps.length := fun l hl' => (mem_ways.mp hl').1
    have hwn : (ways m e day ps).length ≤ 729 := Nat.le_trans (waysN_le _) (Nat.le_trans (Nat.pow_le_pow_left hm.2 _) (Nat.le_trans (Nat.pow_le_pow_right (by decide) hl) (by decide)))
    generalize ways m e day ps = W at *
    refine sd_seq1 (sd_if (b := false) (et_is (et_test (ed_eqT nice_dII (a := W) (b := []) (ed_var rfl) (el_lst (ds := []) ea_nil (by simp)).ed)) (by simpa using hw)) (fun z => by cases z) fun _ => sd_next rfl) ?_
    cases W with
    | nil => exact absurd rfl hw
    | cons l r => exact sd_ret (d := dI (anew (l :: r) old)) (ed_minUL (x := (Pl.unlike l old, l)) (xs := r.map fun l => (Pl.unlike l old, l)) (ed_is (el_map (l :: r) dI (fun l => dUL (Pl.unlike l old, l)) (js := [7]) (ei_any (ed_var rfl)) (by decide) (by omega) fun x hx => ⟨_, tg_name 7, ed_tup (ds := [_, _]) (ea2 (ed_call (ea2 (ed_var rfl) (ed_var rfl)) ⟨x, old, rfl, by rw [hwl x hx]; omega, by rw [hwl x hx]; omega, rfl⟩) (ed_var rfl)) (by simp)⟩).ed (by rw [List.map_cons, List.map_map]; rfl))) hR
def Good3l (m : Nat) (e : Int × Int) (day : List Show) (d1 d2 d3 : PyData) : Prop := (d1 = .int (m : Int) ∧ 1 ≤ m ∧ m ≤ 3) ∧ (d2 = dP e ∧ okE e) ∧ d3 = dDay day ∧ okDay day
def oldIn (m : Nat) (x : PyData) : Bool := isNone x || (isWh x && decide (0 ≤ toI x ∧ toI x < (m : Int)))
def oldOk (m n : Nat) : PyData → Bool
  | .list ds => decide (ds.length = n) && ds.all (oldIn m)
  | _ => false
def PR_laid_anew (CT CE CS CP CL CM CC : Addr) (as : List Sl) (C : Addr) : Prop := ∃ d1 d2 d3 d4 d5 : PyData, as = [.dat d1, .dat d2, .dat d3, .dat d4, .dat d5] ∧ (PR_asked_all CT CE CS [.dat d1, .dat d2, .dat d3] C ∨ ∃ m e day, Good3l m e day d1 d2 d3 ∧ (PR_asked_places CP [.dat (dDay day), .dat d4] C ∨ ∃ ps : List Int, d4 = dI ps ∧ okR day.length ps ∧
  ((C = CL ∧ layD d5 = true ∧ oldOk m ps.length d5 = false) ∨ ∃ old : List (Option Int), d5 = dOs old ∧ old.length = ps.length ∧ (∀ t, some t ∈ old → 0 ≤ t ∧ t < (m : Int)) ∧ ((C = CM ∧ 6 < ps.length) ∨ (C = CC ∧ ps.length ≤ 6 ∧ ways m e day ps = [])))))
theorem okR_laid_anew (T : Txt K mg) : FnOk P w K mg base (L2N.CX P w) 5 T.fa_laid_anew T.fd_laid_anew A_laid_anew (spR K (PR_laid_anew T.C_BadTuners T.C_BadEdges T.C_BadShows T.C_BadPlaces T.C_BadLaying T.C_TooMany T.C_Crowded)) := by
  refine Ab.okN T.F_laid_anew sc_laid_anew (spR_len (n := 5) fun as C h => ?_) fun cdv A outer s H vs Q E hr tk h => ⟨_, (pss_cons (ps_expr (pe_alt (pe_call (ok_asked_all T) (hr.mono (by decide)) (by rfl) T.g_asked_all T.F_asked_all.kp (b_asked_all T) .nil pass0 (pa_cons (pv 0) (pa_cons (pv 1) (pa_cons (pv 2) pa_nil)))) (pe_callS (okR_asked_all T) (hr.mono (by decide)) (by rfl) T.g_asked_all T.F_asked_all.kp (b_asked_all T) (fun σ => L2N.passAt tk σ) (pa_cons (pv 0) (pa_cons (pv 1) (pa_cons (pv 2) pa_nil))))))
  (pss_cons (ps_expr (pe_alt (pe_call (ok_asked_places T) (hr.mono (by decide)) (by rfl) T.g_asked_places T.F_asked_places.kp (b_asked_places T) .nil pass0 (pa_cons (pv 2) (pa_cons (pv 3) pa_nil))) (pe_callS (okR_asked_places T) (hr.mono (by decide)) (by rfl) T.g_asked_places T.F_asked_places.kp (b_asked_places T) (fun σ => L2N.passAt tk σ) (pa_cons (pv 2) (pa_cons (pv 3) pa_nil)))))
  (pss_cons (ps_if (PW.pt (pw_or (pt_not (pt_val (pe_callB (isiK (K := K) rfl) (by rfl) T.n_isinstance (by decide +kernel) (pa_cons (pv 4) (pa_cons (pe_bltn (v := .ty "list") (by rfl) T.n_list (by decide +kernel) rfl) pa_nil))))) (pw_or1 (pt_cmpR (neK (K := K) hr rfl) (pe_callB (lenK (K := K) rfl) (by rfl) T.n_len (by decide +kernel) (pa_cons (pv 4) pa_nil)) (pe_callB (lenK (K := K) rfl) (by rfl) T.n_len (by decide +kernel) (pa_cons (pv 3) pa_nil)) (nomark _))))) (pss_one (ps_refuse rfl tk T.rc_BadLaying (by rfl))) pss_nil)
  (pss_cons (ps_if (pt_not (pt_val (pe_callB (allK (K := K) rfl rfl) (by rfl) T.n_all (by decide +kernel) (pa_cons (pe_lc (own := [("tuner", 5)]) (by rfl) sc_laid_anew.nd (seqK (K := K) rfl (pv 4)) (blkOk_by (own := [("tuner", 5)]) (N := N_laid_anew) (sc := defScope s_laid_anew) (by decide +kernel)) (fun _ _ _ _ _ => (pg_name (i := 5) sc_laid_anew.nd rfl (Or.inl rfl))) (fun _ _ _ _ _ => pts_nil) (fun _ _ _ _ _ => (pe_or (pe_cmpR op_isNn (pv 5) pe_non (nomark _)) (pe_one (pe_and (pe_call (ok_is_whole T) (hr.mono (by decide)) (by rfl) T.g_is_whole T.F_is_whole.kp (b_is_whole T) .nil pass0 (pa_cons (pv 5) pa_nil)) (pe_one (pe_chain op_le op_lt pe_int (pv 5) (pv 0)))))))) pa_nil)))) (pss_one (ps_refuse rfl tk T.rc_BadLaying (by rfl))) pss_nil)
  (pss_cons (ps_if (pt_cmpR op_gt (pe_callB (lenK (K := K) rfl) (by rfl) T.n_len (by decide +kernel) (pa_cons (pv 3) pa_nil)) (pe_glob (v := .int 6) (by rfl) T.c_MOST_SMALL ⟨_, rfl⟩) (nomark _)) (pss_one (ps_refuse rfl tk T.rc_TooMany (by rfl))) pss_nil)
  (pss_cons (ps_set (i := 6) sc_laid_anew.nd rfl (Or.inl rfl) (pe_call (ok_ways_of T) (hr.mono (by decide)) (by rfl) T.g_ways_of T.F_ways_of.kp (b_ways_of T) .nil pass0 (pa_cons (pv 0) (pa_cons (pv 1) (pa_cons (pv 2) (pa_cons (pv 3) pa_nil))))))
  (pss_cons (ps_if (pt_cmpR (eqK (K := K) hr rfl) (pv 6) (pe_lst pa_nil) (nomark _)) (pss_one (ps_refuse rfl tk T.rc_Crowded (by rfl))) pss_nil)
  Ab.pss_never))))))), body_ofR (M := N_laid_anew) (fun as C h => ?_) vs H Q h⟩
  · obtain ⟨_, _, _, _, _, rfl, _⟩ := h; rfl
  · obtain ⟨d1, d2, d3, d4, d5, rfl, h1 | ⟨m, e, day, ⟨⟨rfl, hm⟩, ⟨rfl, he⟩, rfl, hd⟩, h2 | ⟨ps, rfl, hp, h3⟩⟩⟩ := h
    · exact rd_here (rd_altR (rd_call (ea_cons (ed_var rfl) (ea2 (ed_var rfl) (ed_var rfl))) h1))
    · exact rd_next (sd_drop (ed_altL (ed_call (ea_cons (ed_var rfl) (ea2 (ed_var rfl) (ed_var rfl))) ⟨m, e, day, rfl, by omega, he, hd, rfl⟩)) rfl) (rd_here (rd_altR (rd_call (ea2 (ed_var rfl) (ed_var rfl)) h2)))
    have hd1 := hd.1
    have hpl := okR_len hp
    refine rd_next (sd_drop (ed_altL (ed_call (ea_cons (ed_var rfl) (ea2 (ed_var rfl) (ed_var rfl))) ⟨m, e, day, rfl, by omega, he, hd, rfl⟩)) rfl) ?_
    refine rd_next (sd_drop (ed_altL (ed_call (ea2 (ed_var rfl) (ed_var rfl)) ⟨day.map dS, dI ps, rfl, fun ds e => by cases e; simp; omega, layD_of (nice_dI.lay _), by rw [List.length_map]; exact arePl_ok hp, rfl⟩)) rfl) ?_
    rcases h3 with ⟨rfl, hcl, hb⟩ | ⟨old, rfl, hol, hot, h4⟩
    · have hnd := layD_not hcl
      by_cases ht : isA d5 "list" = true
      · obtain ⟨ds, rfl⟩ : ∃ ds, d5 = .list ds := by
          cases d5 with
          | list ds => exact ⟨ds, rfl⟩
          | _ => exact absurd ht (by simp [isA, isN, tyN])
        have hb : (decide (ds.length = ps.length) && ds.all (oldIn m)) = false := hb
        by_cases c : ds.length = ps.length
        · rw [decide_eq_true c, Bool.true_and] at hb
          refine rd_next (sd_if (b := false) (et_is (et_or (et_not (et_B (ed_isLst (ed_var rfl)))) fun _ => et_test (ed_neT nice_int (ed_len (ds := ds) (ed_var rfl)) (ed_lenI (ns := ps) (ed_var rfl)))) (by simp [isA, isN, tyN, c])) (fun z => by cases z) fun _ => sd_next rfl) ?_
          refine rd_here (rd_if (et_is (et_not (et_B (ed_allF ds (oldIn m) (el_map ds id (fun x => .bool (oldIn m x)) (js := [5]) (ei_is (ei_any (ed_var (d := .list ds) rfl)) (by simp)) (by decide) (by omega) fun x hx => ⟨_, tg_name 5, ed_orV (ed_isN (ed_var rfl)) fun z => ed_andV (b := decide (0 ≤ toI x ∧ toI x < (m : Int))) (ed_call (ea1 (ed_var rfl)) ⟨x, rfl, layD_not (layD_list hcl x hx), rfl⟩) fun hx2 => ?_⟩)))) (by rw [hb]; rfl)) rd_raise)
          cases x with
          | int k => exact ed_leLt ed_int (ed_var rfl) (ed_var rfl)
          | _ => exact absurd hx2 (by simp [isWh])
        · have c' : ¬ ((ds.length : Int) = (ps.length : Int)) := by omega
          exact rd_here (rd_if (et_is (et_or (et_not (et_B (ed_isLst (ed_var rfl)))) fun _ => et_test (ed_neT nice_int (ed_len (ds := ds) (ed_var rfl)) (ed_lenI (ns := ps) (ed_var rfl)))) (by simp [isA, isN, tyN, c'])) rd_raise)
      · have hf : isA d5 "list" = false := by simpa using ht
        exact rd_here (rd_if (et_is (et_or (b := false) (et_not (et_B (ed_isLst (ed_var rfl)))) fun e => by rw [hf] at e; cases e) (by rw [hf]; rfl)) rd_raise)
    refine rd_next (sd_if (b := false) (et_is (et_or (et_not (et_B (ed_isLst (ed_var rfl)))) fun _ => et_test (ed_neT nice_int (ed_is (ed_len (ds := old.map dO) (ed_var rfl)) (by rw [List.length_map])) (ed_lenI (ns := ps) (ed_var rfl)))) (by simp [isA, isN, tyN, dOs, hol])) (fun z => by cases z) fun _ => sd_next rfl) ?_
    refine rd_next (sd_if (b := false) (et_is (et_not (et_B (ed_allF old (fun o => isNone (dO o) || (isWh (dO o) && decide (0 ≤ toI (dO o) ∧ toI (dO o) < (m : Int)))) (el_map old dO _ (js := [5]) (ei_any (ed_var rfl)) (by decide) (by omega) fun o _ => ⟨_, tg_name 5, ed_orV (ed_isN (ed_var rfl)) fun z => ed_andV (ed_call (ea1 (ed_var rfl)) ⟨dO o, rfl, notD_of (nice_dO.lay o), rfl⟩) fun _ => ?_⟩)))) ?_) (fun z => by cases z) fun _ => sd_next rfl) ?_
    · cases o with
      | none => cases z
      | some t => exact ed_leLt ed_int (ed_var rfl) (ed_var rfl)
    · have : (old.all fun o => isNone (dO o) || (isWh (dO o) && decide (0 ≤ toI (dO o) ∧ toI (dO o) < (m : Int)))) = true := List.all_eq_true.mpr fun o ho => by
        cases o with
        | none => rfl
        | some t =>
          have := hot t ho
          show (false || (true && decide (0 ≤ t ∧ t < (m : Int)))) = true
          simp
          omega
      rw [this]
      rfl
    rcases h4 with ⟨rfl, hl⟩ | ⟨rfl, hl, hw⟩
    · have hl' : (6 : Int) < ps.length := by omega
      exact rd_here (rd_if (et_is (et_test (ed_gt (ed_lenI (ns := ps) (ed_var rfl)) ed_int)) (by simp [hl'])) rd_raise)
    refine rd_next (sd_if (b := false) (et_is (et_test (ed_gt (ed_lenI (ns := ps) (ed_var rfl)) ed_int)) (by simp; omega)) (fun z => by cases z) fun _ => sd_next rfl) ?_
    refine rd_next (sd_asg (el_call (ea_cons (ed_var rfl) (ea_cons (ed_var rfl) (ea2 (ed_var rfl) (ed_var rfl)))) ⟨m, e, day, ps, rfl, by omega, hp.1, hl, rfl⟩).ed rfl) ?_
    exact rd_here (rd_if (et_is (et_test (ed_eqT nice_dII (a := ways m e day ps) (b := []) (ed_var rfl) (el_lst (ds := []) ea_nil (by simp)).ed)) (by rw [hw]; rfl)) rd_raise)
def P_kept_of (as : List Sl) (R : Sl → Prop) : Prop := ∃ (m : Nat) (e : Int × Int) (day : List Show) (rows : List (List Int)), as = [.dat (.int m), .dat (dP e), .dat (dDay day), .dat (dII rows)] ∧ m ≤ 100 ∧ day.length ≤ 20 ∧ rows.length ≤ 1000 ∧ (∀ r ∈ rows, okR day.length r) ∧ R (.own ((keptOf m e day rows).map PyData.bool))
theorem ok_kept_of (T : Txt K mg) : FnOk P w K mg base CX0 3 T.fa_kept_of T.fd_kept_of A_kept_of (spF K P_kept_of) := by
  refine T.F_kept_of.ok sc_kept_of (spF_len (n := 4) fun as R h => ?_) fun cdv A outer s H vs Q E hr h => ⟨_, (pss_cons (ps_par (i := 4) (j := 5) rfl sc_kept_of.nd rfl rfl (by decide) rfl rfl (pa_cons (pe_lst pa_nil) (pa_cons (pe_lst pa_nil) pa_nil)) rfl)
  (pss_cons (ps_for PassesOwn.never rfl (seqK (K := K) rfl (pv 3)) (pg_name (i := 6) sc_kept_of.nd rfl (Or.inl rfl)) (pss_cons (ps_set (i := 7) sc_kept_of.nd rfl (Or.inl rfl) (pe_callB (sortSetK (w := w) rfl rfl) (by rfl) T.n_sorted (by decide +kernel) (pa_cons (pe_callTy (setLK (K := K) (w := w) rfl rfl rfl) (by rfl) T.n_set (by decide +kernel) (pa_cons (pe_op op_addA (pv 5) (pv 6)) pa_nil)) pa_nil)))
  (pss_cons (ps_set (i := 8) sc_kept_of.nd rfl (Or.inl rfl) (pe_cmpR op_isNn (pe_ix (ixK (K := K) rfl) (pe_call (ok_laid_of T) (hr.mono (by decide)) (by rfl) T.g_laid_of T.F_laid_of.kp (b_laid_of T) .nil pass0 (pa_cons (pv 0) (pa_cons (pv 1) (pa_cons (pv 2) (pa_cons (pv 7) pa_nil))))) pe_int (fun _ _ => rfl)) pe_non (nomark _)))
  (pss_cons (ps_set (i := 5) sc_kept_of.nd rfl (Or.inl rfl) (pe_ifExp (pt_val (pv 8)) (pv 7) (pv 5)))
  (pss_one (ps_expr (bmK (K := K) rfl PySem.F.plainAttrs_list PySem.F.slot_list_append PySem.F.type_list_append mt_append (pv 4) (pa_cons (pv 8) pa_nil))))))))
  (pss_one (ps_ret (pv 4))))), body_of (M := N_kept_of) (fun as R h => ?_) vs H Q E h⟩
  · obtain ⟨_, _, _, _, rfl, _⟩ := h; rfl
  · obtain ⟨m, e, day, rows, rfl, hm, hd, hl, hrow, hR⟩ := h
    refine sd_seq1 (sd_par (.own (el_lst (ds := []) ea_nil (by simp))) (.dat ed_nil) rfl) ?_
    refine sd_seq (M := fun τ' => ∃ (s5 s6 s7 s8 : Sl), τ' = [.dat (.int m), .dat (dP e), .dat (dDay day), .dat (dII rows), .own ((keptOf m e day rows).map PyData.bool), s5, s6, s7, s8])
      (sd_for (fun i τ' => ∃ (found : List Bool) (sm : List Int) (s6 s7 s8 : Sl), τ' = [.dat (.int m), .dat (dP e), .dat (dDay day), .dat (dII rows), .own (found.map PyData.bool), .dat (dI sm), s6, s7, s8] ∧ okR day.length sm ∧ found.length = i ∧ found ++ keptGo m e day (rows.drop i) sm = keptOf m e day rows)
        (ei_any (ed_var rfl)) ⟨[], [], .unk, .unk, .unk, rfl, ⟨fun p hp => (by cases hp), List.Pairwise.nil⟩, rfl, rfl⟩ ?turn ?done) ?rest
    case turn =>
      rintro i d τ1 hd' ⟨found, sm, s6, s7, s8, rfl, hsm, hfl, hgo⟩
      obtain ⟨row, hx, rfl⟩ := map_at hd'
      have hr0 := hrow row (List.mem_of_getElem? hx)
      have hil : i < rows.length := (List.getElem?_eq_some_iff.mp hx).1
      rw [drop_at hx] at hgo
      unfold keptGo at hgo
      have ok := okR_sset hsm.1 hr0.1
      have l1 := okR_len hsm
      have l2 := okR_len hr0
      have l3 := okR_len ok
      refine ⟨[6], _, tg_name 6, ?_⟩
      refine sd_seq1 (sd_asg (el_sortSet (ns := sm ++ row) (ms := sset (sm ++ row)) (ed_is (el_cat (ed_var rfl) (ed_var rfl) (by simp; omega)).ed (by rw [List.map_append])) (by simp; omega) (sset_pw _) fun k => sset_mem).ed rfl) ?_
      refine sd_seq1 (sd_asg (d := .bool (fits m e day (sset (sm ++ row)))) (ed_is (ed_isN (ed_ixT (ed_call (ea_cons (ed_var rfl) (ea_cons (ed_var rfl) (ea2 (ed_var rfl) (ed_var rfl)))) ⟨m, e, day, sset (sm ++ row), rfl, hm, ok.1, by omega, rfl⟩) ed_int rfl)) (congrArg PyData.bool (isNone_dO _))) rfl) ?_
      refine sd_seq1 (τ1 := [.dat (.int m), .dat (dP e), .dat (dDay day), .dat (dII rows), .own (found.map PyData.bool), .dat (dI (if fits m e day (sset (sm ++ row)) = true then sset (sm ++ row) else sm)), .dat (dI row), .dat (dI (sset (sm ++ row))), .dat (.bool (fits m e day (sset (sm ++ row))))]) (sd_asg (d := dI (if fits m e day (sset (sm ++ row)) = true then sset (sm ++ row) else sm)) (ed_if (et_B (ed_var rfl)) (fun c => ed_is (ed_var rfl) (by rw [if_pos c]; rfl)) fun c => ed_is (ed_var rfl) (by rw [c, if_neg Bool.false_ne_true])) rfl) ?_
      refine sd_append (i := 4) rfl (ed_var rfl) (by simp; omega) ⟨found ++ [fits m e day (sset (sm ++ row))], if fits m e day (sset (sm ++ row)) = true then sset (sm ++ row) else sm, .dat (dI row), .dat (dI (sset (sm ++ row))), .dat (.bool (fits m e day (sset (sm ++ row)))), ?_, ?_, by simp [hfl], ?_⟩
      · rw [List.map_append]; rfl
      · by_cases c : fits m e day (sset (sm ++ row)) = true
        · rw [if_pos c]; exact ok
        · rw [if_neg c]; exact hsm
      · rw [List.append_assoc]
        exact hgo
    case done =>
      rintro τ1 ⟨found, sm, s6, s7, s8, rfl, hsm, hfl, hgo⟩
      have e1 : rows.drop (rows.map dI).length = [] := by rw [List.length_map]; exact List.drop_length
      rw [e1] at hgo
      unfold keptGo at hgo
      rw [List.append_nil] at hgo
      exact ⟨.dat (dI sm), s6, s7, s8, by rw [← hgo]⟩
    case rest =>
      rintro _ ⟨s5, s6, s7, s8, rfl⟩
      exact sd_retO rfl hR
def P_kept (as : List Sl) (R : Sl → Prop) : Prop := ∃ (m : Nat) (e : Int × Int) (day : List Show) (rows : List (List Int)), as = [.dat (.int m), .dat (dP e), .dat (dDay day), .dat (dII rows)] ∧ (1 ≤ m ∧ m ≤ 3) ∧ okE e ∧ okDay day ∧ rows.length ≤ 6 ∧ (∀ r ∈ rows, okR day.length r ∧ r ≠ []) ∧ R (.own ((keptOf m e day rows).map PyData.bool))
theorem ok_kept (T : Txt K mg) : FnOk P w K mg base CX0 5 T.fa_kept T.fd_kept A_kept (spF K P_kept) := by
  refine T.F_kept.ok sc_kept (spF_len (n := 4) fun as R h => ?_) fun cdv A outer s H vs Q E hr h => ⟨_, (pss_cons (ps_expr (pe_call (ok_asked_all T) (hr.mono (by decide)) (by rfl) T.g_asked_all T.F_asked_all.kp (b_asked_all T) .nil pass0 (pa_cons (pv 0) (pa_cons (pv 1) (pa_cons (pv 2) pa_nil)))))
  (pss_cons (ps_expr (pe_call (ok_asked_wishes T) (hr.mono (by decide)) (by rfl) T.g_asked_wishes T.F_asked_wishes.kp (b_asked_wishes T) .nil pass0 (pa_cons (pv 2) (pa_cons (pv 3) pa_nil))))
  (pss_one (ps_ret (pe_call (ok_kept_of T) (hr.mono (by decide)) (by rfl) T.g_kept_of T.F_kept_of.kp (b_kept_of T) .nil pass0 (pa_cons (pv 0) (pa_cons (pv 1) (pa_cons (pv 2) (pa_cons (pv 3) pa_nil))))))))), body_of (M := N_kept) (fun as R h => ?_) vs H Q E h⟩
  · obtain ⟨_, _, _, _, rfl, _⟩ := h; rfl
  · obtain ⟨m, e, day, rows, rfl, hm, he, hd, hl, hrow, hR⟩ := h
    refine sd_seq1 (sd_drop (ed_call (ea_cons (ed_var rfl) (ea2 (ed_var rfl) (ed_var rfl))) ⟨m, e, day, rfl, by omega, he, hd, rfl⟩) rfl) ?_
    refine sd_seq1 (sd_drop (ed_call (ea2 (ed_var rfl) (ed_var rfl)) ⟨day.map dS, rows, rfl, hl, fun r hr0 => ?_, rfl⟩) rfl) ?_
    · have := okR_len (hrow r hr0).1
      have := hd.1
      exact ⟨by omega, by rw [List.length_map]; exact arePl_ok (hrow r hr0).1, (hrow r hr0).2⟩
    · exact sd_retL (el_call (ea_cons (ed_var rfl) (ea_cons (ed_var rfl) (ea2 (ed_var rfl) (ed_var rfl)))) ⟨m, e, day, rows, rfl, by omega, by have := hd.1; omega, by omega, fun r hr0 => (hrow r hr0).1, rfl⟩) hR
def Good3k (m : Nat) (e : Int × Int) (day : List Show) (d1 d2 d3 : PyData) : Prop := (d1 = .int (m : Int) ∧ 1 ≤ m ∧ m ≤ 3) ∧ (d2 = dP e ∧ okE e) ∧ d3 = dDay day ∧ okDay day
def PR_kept (CT CE CS CW : Addr) (as : List Sl) (C : Addr) : Prop := ∃ d1 d2 d3 d4 : PyData, as = [.dat d1, .dat d2, .dat d3, .dat d4] ∧ (PR_asked_all CT CE CS [.dat d1, .dat d2, .dat d3] C ∨ ∃ m e day, Good3k m e day d1 d2 d3 ∧ PR_asked_wishes CW [.dat (dDay day), .dat d4] C)
theorem okR_kept (T : Txt K mg) : FnOk P w K mg base (L2N.CX P w) 5 T.fa_kept T.fd_kept A_kept (spR K (PR_kept T.C_BadTuners T.C_BadEdges T.C_BadShows T.C_BadWishes)) := by
  refine Ab.okN T.F_kept sc_kept (spR_len (n := 4) fun as C h => ?_) fun cdv A outer s H vs Q E hr tk h => ⟨_, (pss_cons (ps_expr (pe_alt (pe_call (ok_asked_all T) (hr.mono (by decide)) (by rfl) T.g_asked_all T.F_asked_all.kp (b_asked_all T) .nil pass0 (pa_cons (pv 0) (pa_cons (pv 1) (pa_cons (pv 2) pa_nil)))) (pe_callS (okR_asked_all T) (hr.mono (by decide)) (by rfl) T.g_asked_all T.F_asked_all.kp (b_asked_all T) (fun σ => L2N.passAt tk σ) (pa_cons (pv 0) (pa_cons (pv 1) (pa_cons (pv 2) pa_nil))))))
  (pss_cons (ps_expr (pe_alt (pe_call (ok_asked_wishes T) (hr.mono (by decide)) (by rfl) T.g_asked_wishes T.F_asked_wishes.kp (b_asked_wishes T) .nil pass0 (pa_cons (pv 2) (pa_cons (pv 3) pa_nil))) (pe_callS (okR_asked_wishes T) (hr.mono (by decide)) (by rfl) T.g_asked_wishes T.F_asked_wishes.kp (b_asked_wishes T) (fun σ => L2N.passAt tk σ) (pa_cons (pv 2) (pa_cons (pv 3) pa_nil)))))
  Ab.pss_never)), body_ofR (M := N_kept) (fun as C h => ?_) vs H Q h⟩
  · obtain ⟨_, _, _, _, rfl, _⟩ := h; rfl
  · obtain ⟨d1, d2, d3, d4, rfl, h1 | ⟨m, e, day, ⟨⟨rfl, hm⟩, ⟨rfl, he⟩, rfl, hd⟩, h2⟩⟩ := h
    · exact rd_here (rd_altR (rd_call (ea_cons (ed_var rfl) (ea2 (ed_var rfl) (ed_var rfl))) h1))
    · exact rd_next (sd_drop (ed_altL (ed_call (ea_cons (ed_var rfl) (ea2 (ed_var rfl) (ed_var rfl))) ⟨m, e, day, rfl, by omega, he, hd, rfl⟩)) rfl) (rd_here (rd_altR (rd_call (ea2 (ed_var rfl) (ed_var rfl)) h2)))
def P_moved_of (as : List Sl) (R : Sl → Prop) : Prop := ∃ (day : List Show) (p b : Int), as = [.dat (dDay day), .dat (.int p), .dat (.int b)] ∧ day.length ≤ 1000 ∧ 0 ≤ p ∧ p < day.length ∧ R (.own ((movedOf day p b).map dS))
theorem ok_moved_of (T : Txt K mg) : FnOk P w K mg base CX0 1 T.fa_moved_of T.fd_moved_of A_moved_of (spF K P_moved_of) := by
  refine T.F_moved_of.ok sc_moved_of (spF_len (n := 3) fun as R h => ?_) fun cdv A outer s H vs Q E hr h => ⟨_, (pss_cons (ps_asg (pe_ix (ixK (K := K) rfl) (pv 0) (pv 1) (fun _ _ => rfl)) (tupK (K := K) (n := 3) rfl rfl (pgs_cons (pg_name (i := 3) sc_moved_of.nd rfl (Or.inl rfl)) (pgs_cons (pg_name (i := 4) sc_moved_of.nd rfl (Or.inl rfl)) (pgs_cons (pg_name (i := 5) sc_moved_of.nd rfl (Or.inl rfl)) pgs_nil)))))
  (pss_one (ps_ret (pe_op op_addA (pe_op op_addA (pe_slice (slK (K := K) rfl) (pv 0) po_none (po_some (pv 1))) (pe_lst (pa_cons (pe_tup (pa_cons (pe_op op_addA (pv 3) (pv 2)) (pa_cons (pe_op op_addA (pv 4) (pv 2)) (pa_cons (pv 5) pa_nil)))) pa_nil))) (pe_slice (slK (K := K) rfl) (pv 0) (po_some (pe_op op_addA (pv 1) pe_int)) po_none))))), body_of (M := N_moved_of) (fun as R h => ?_) vs H Q E h⟩
  · obtain ⟨_, _, _, rfl, _⟩ := h; rfl
  · obtain ⟨day, p, b, rfl, hl, h0, h1, hR⟩ := h
    refine sd_seq1 (sd_asgT (ed_day (ed_var rfl) (ed_var rfl) h0 h1) tg3 rfl) ?_
    refine sd_retL (el_is (el_cat (el_cat (el_sl (ed_var rfl) eo_none (eo_some (ed_var rfl))).ed (el_lst (ds := [dS (mvS (shAt day p) b)]) (ea1 (ed_trip (ed_add (ed_var rfl) (ed_var rfl)) (ed_add (ed_var rfl) (ed_var rfl)) (ed_var rfl))) (by simp)).ed ?_).ed (el_sl (ed_var rfl) (eo_some (ed_add (ed_var rfl) ed_int)) eo_none).ed ?_) ?_) hR
    · rw [cutD_take h0]; simp; omega
    · rw [cutD_take h0, cutD_drop (by omega)]; simp; omega
    · rw [cutD_take h0, cutD_drop (by omega)]
      have e : (p + 1).toNat = p.toNat + 1 := by omega
      rw [e, set_cut (by rw [List.length_map]; omega)]
      unfold movedOf
      rw [List.map_set]
def P_asked_move (as : List Sl) (R : Sl → Prop) : Prop := ∃ (day : List Show) (p b : Int), as = [.dat (dDay day), .dat (.int p), .dat (.int b)] ∧ 0 ≤ p ∧ p < day.length ∧ 0 ≤ (shAt day p).1 + b ∧ (shAt day p).2.1 + b ≤ 24 ∧ R (.dat .none)
theorem ok_asked_move (T : Txt K mg) : FnOk P w K mg base CX0 4 T.fa_asked_move T.fd_asked_move A_asked_move (spF K P_asked_move) := by
  refine T.F_asked_move.ok sc_asked_move (spF_len (n := 3) fun as R h => ?_) fun cdv A outer s H vs Q E hr h => ⟨_, (pss_cons (ps_expr (pe_call (ok_asked_places T) (hr.mono (by decide)) (by rfl) T.g_asked_places T.F_asked_places.kp (b_asked_places T) .nil pass0 (pa_cons (pv 0) (pa_cons (pe_lst (pa_cons (pv 1) pa_nil)) pa_nil))))
  (pss_one (ps_if (PW.pt (pw_or (pt_not (pt_val (pe_call (ok_is_whole T) (hr.mono (by decide)) (by rfl) T.g_is_whole T.F_is_whole.kp (b_is_whole T) .nil pass0 (pa_cons (pv 2) pa_nil)))) (pw_or (pt_cmpR op_lt (pe_op op_addA (pe_ix (ixK (K := K) rfl) (pe_ix (ixK (K := K) rfl) (pv 0) (pv 1) (fun _ _ => rfl)) pe_int (fun _ _ => rfl)) (pv 2)) pe_int (nomark _)) (pw_or1 (pt_cmpR op_gt (pe_op op_addA (pe_ix (ixK (K := K) rfl) (pe_ix (ixK (K := K) rfl) (pv 0) (pv 1) (fun _ _ => rfl)) pe_int (fun _ _ => rfl)) (pv 2)) pe_int (nomark _)))))) (pss_one ps_never) pss_nil))), body_of (M := N_asked_move) (fun as R h => ?_) vs H Q E h⟩
  · obtain ⟨_, _, _, rfl, _⟩ := h; rfl
  · obtain ⟨day, p, b, rfl, h0, h1, b0, b1, hR⟩ := h
    refine sd_seq1 (sd_drop (ed_call (ea2 (ed_var rfl) (el_lst (ds := [.int p]) (ea1 (ed_var rfl)) (by simp)).ed) ⟨day.map dS, dI [p], rfl, fun ds e => by cases e; simp, layD_of (nice_dI.lay _), ?_, rfl⟩) rfl) ?_
    · rw [List.length_map]
      refine arePl_ok ⟨fun q hq => ?_, List.pairwise_singleton _ _⟩
      have : q = p := by simpa using hq
      subst this
      exact ⟨h0, h1⟩
    · refine sd_if (b := false) (et_is (et_or (et_not (et_B (ed_call (ea1 (ed_var rfl)) ⟨_, rfl, rfl, rfl⟩))) fun _ => et_or (et_test (ed_lt (ed_add (ed_s0 (ed_day (ed_var rfl) (ed_var rfl) h0 h1)) (ed_var rfl)) ed_int)) fun _ => et_test (ed_gt (ed_add (ed_s1 (ed_day (ed_var rfl) (ed_var rfl) h0 h1)) (ed_var rfl)) ed_int)) ?_) (fun e => by cases e) fun _ => sd_next hR
      simp [isWh]
      omega
def PR_asked_move (CP CM : Addr) (as : List Sl) (C : Addr) : Prop := ∃ (day : List Show) (d2 d3 : PyData), as = [.dat (dDay day), .dat d2, .dat d3] ∧ okDay day ∧ layD d2 = true ∧ notD d3 = true ∧ ((C = CP ∧ arePl day.length (.list [d2]) = false) ∨ ∃ p : Int, d2 = .int p ∧ (0 ≤ p ∧ p < day.length) ∧ C = CM ∧ ∀ by_ : Int, d3 = .int by_ → (shAt day p).1 + by_ < 0 ∨ (shAt day p).2.1 + by_ > 24)
theorem okR_asked_move (T : Txt K mg) : FnOk P w K mg base (L2N.CX P w) 4 T.fa_asked_move T.fd_asked_move A_asked_move (spR K (PR_asked_move T.C_BadPlaces T.C_BadMove)) := by
  refine Ab.okN T.F_asked_move sc_asked_move (spR_len (n := 3) fun as C h => ?_) fun cdv A outer s H vs Q E hr tk h => ⟨_, (pss_cons (ps_expr (pe_alt (pe_call (ok_asked_places T) (hr.mono (by decide)) (by rfl) T.g_asked_places T.F_asked_places.kp (b_asked_places T) .nil pass0 (pa_cons (pv 0) (pa_cons (pe_lst (pa_cons (pv 1) pa_nil)) pa_nil))) (pe_callS (okR_asked_places T) (hr.mono (by decide)) (by rfl) T.g_asked_places T.F_asked_places.kp (b_asked_places T) (fun σ => L2N.passAt tk σ) (pa_cons (pv 0) (pa_cons (pe_lst (pa_cons (pv 1) pa_nil)) pa_nil)))))
  (pss_cons (ps_if (PW.pt (pw_or (pt_not (pt_val (pe_call (ok_is_whole T) (hr.mono (by decide)) (by rfl) T.g_is_whole T.F_is_whole.kp (b_is_whole T) .nil pass0 (pa_cons (pv 2) pa_nil)))) (pw_or (pt_cmpR op_lt (pe_op op_addA (pe_ix (ixK (K := K) rfl) (pe_ix (ixK (K := K) rfl) (pv 0) (pv 1) (fun _ _ => rfl)) pe_int (fun _ _ => rfl)) (pv 2)) pe_int (nomark _)) (pw_or1 (pt_cmpR op_gt (pe_op op_addA (pe_ix (ixK (K := K) rfl) (pe_ix (ixK (K := K) rfl) (pv 0) (pv 1) (fun _ _ => rfl)) pe_int (fun _ _ => rfl)) (pv 2)) pe_int (nomark _)))))) (pss_one (ps_refuse rfl tk T.rc_BadMove (by rfl))) pss_nil)
  Ab.pss_never)), body_ofR (M := N_asked_move) (fun as C h => ?_) vs H Q h⟩
  · obtain ⟨_, _, _, rfl, _⟩ := h; rfl
  · obtain ⟨day, d2, d3, rfl, hd, hc2, hn3, ⟨rfl, hp⟩ | ⟨p, rfl, hp, rfl, hby⟩⟩ := h
    · exact rd_here (rd_altR (rd_call (ea2 (ed_var rfl) (el_lst (ds := [d2]) (ea1 (ed_var rfl)) (by simp)).ed) ⟨day.map dS, .list [d2], rfl, rfl, fun ds e => by cases e; simp, by simp [layD, layDs, hc2], by rw [List.length_map]; exact hp⟩))
    refine rd_next (sd_drop (ed_altL (ed_call (ea2 (ed_var rfl) (el_lst (ds := [.int p]) (ea1 (ed_var rfl)) (by simp)).ed) ⟨day.map dS, .list [.int p], rfl, fun ds e => by cases e; simp, rfl, ?_, rfl⟩)) rfl) (rd_here (rd_if ?_ rd_raise))
    · rw [List.length_map]
      refine arePl_ok (ps := [p]) ⟨fun q hq => ?_, by simp⟩
      have e1 : q = p := by simpa using hq
      subst e1
      exact hp
    by_cases hw : isWh d3 = true
    · obtain ⟨by_, rfl⟩ : ∃ m, d3 = .int m := by
        cases d3 with
        | int m => exact ⟨m, rfl⟩
        | _ => exact absurd hw (by simp [isWh])
      refine et_is (et_or (et_not (et_B (ed_call (ea1 (ed_var rfl)) ⟨_, rfl, rfl, rfl⟩))) fun _ => et_or (et_test (ed_lt (ed_add (ed_s0 (ed_day (ed_var rfl) (ed_var rfl) hp.1 hp.2)) (ed_var rfl)) ed_int)) fun _ => et_test (ed_gt (ed_add (ed_s1 (ed_day (ed_var rfl) (ed_var rfl) hp.1 hp.2)) (ed_var rfl)) ed_int)) ?_
      rcases hby by_ rfl with h | h
      · simp [isWh, h]
      · have h : 24 < (shAt day p).2.1 + by_ := h
        simp [isWh, h]
    · have hw : isWh d3 = false := by simpa using hw
      exact et_is (et_or (b := false) (et_not (et_B (ed_call (ea1 (ed_var rfl)) ⟨d3, rfl, hn3, rfl⟩))) fun e => by rw [hw] at e; cases e) (by rw [hw]; rfl)
def P_moved (as : List Sl) (R : Sl → Prop) : Prop := ∃ (day : List Show) (p b : Int), as = [.dat (dDay day), .dat (.int p), .dat (.int b)] ∧ okDay day ∧ 0 ≤ p ∧ p < day.length ∧ 0 ≤ (shAt day p).1 + b ∧ (shAt day p).2.1 + b ≤ 24 ∧ R (.own ((movedOf day p b).map dS))
theorem ok_moved (T : Txt K mg) : FnOk P w K mg base CX0 5 T.fa_moved T.fd_moved A_moved (spF K P_moved) := by
  refine T.F_moved.ok sc_moved (spF_len (n := 3) fun as R h => ?_) fun cdv A outer s H vs Q E hr h => ⟨_, (pss_cons (ps_expr (pe_call (ok_asked_shows T) (hr.mono (by decide)) (by rfl) T.g_asked_shows T.F_asked_shows.kp (b_asked_shows T) .nil pass0 (pa_cons (pv 0) pa_nil)))
  (pss_cons (ps_expr (pe_call (ok_asked_move T) (hr.mono (by decide)) (by rfl) T.g_asked_move T.F_asked_move.kp (b_asked_move T) .nil pass0 (pa_cons (pv 0) (pa_cons (pv 1) (pa_cons (pv 2) pa_nil)))))
  (pss_one (ps_ret (pe_call (ok_moved_of T) (hr.mono (by decide)) (by rfl) T.g_moved_of T.F_moved_of.kp (b_moved_of T) .nil pass0 (pa_cons (pv 0) (pa_cons (pv 1) (pa_cons (pv 2) pa_nil)))))))), body_of (M := N_moved) (fun as R h => ?_) vs H Q E h⟩
  · obtain ⟨_, _, _, rfl, _⟩ := h; rfl
  · obtain ⟨day, p, b, rfl, hd, h0, h1, b0, b1, hR⟩ := h
    refine sd_seq1 (sd_drop (ed_call (ea1 (ed_var rfl)) ⟨day, rfl, hd, rfl⟩) rfl) ?_
    refine sd_seq1 (sd_drop (ed_call (ea_cons (ed_var rfl) (ea2 (ed_var rfl) (ed_var rfl))) ⟨day, p, b, rfl, h0, h1, b0, b1, rfl⟩) rfl) ?_
    exact sd_retL (el_call (ea_cons (ed_var rfl) (ea2 (ed_var rfl) (ed_var rfl))) ⟨day, p, b, rfl, by have := hd.1; omega, h0, h1, rfl⟩) hR
def PR_moved (CS CP CM : Addr) (as : List Sl) (C : Addr) : Prop := ∃ d1 d2 d3 : PyData, as = [.dat d1, .dat d2, .dat d3] ∧ (PR_asked_shows CS [.dat d1] C ∨ ∃ day : List Show, d1 = dDay day ∧ okDay day ∧ PR_asked_move CP CM [.dat (dDay day), .dat d2, .dat d3] C)
theorem okR_moved (T : Txt K mg) : FnOk P w K mg base (L2N.CX P w) 5 T.fa_moved T.fd_moved A_moved (spR K (PR_moved T.C_BadShows T.C_BadPlaces T.C_BadMove)) := by
  refine Ab.okN T.F_moved sc_moved (spR_len (n := 3) fun as C h => ?_) fun cdv A outer s H vs Q E hr tk h => ⟨_, (pss_cons (ps_expr (pe_alt (pe_call (ok_asked_shows T) (hr.mono (by decide)) (by rfl) T.g_asked_shows T.F_asked_shows.kp (b_asked_shows T) .nil pass0 (pa_cons (pv 0) pa_nil)) (pe_callS (okR_asked_shows T) (hr.mono (by decide)) (by rfl) T.g_asked_shows T.F_asked_shows.kp (b_asked_shows T) (fun σ => L2N.passAt tk σ) (pa_cons (pv 0) pa_nil))))
  (pss_cons (ps_expr (pe_alt (pe_call (ok_asked_move T) (hr.mono (by decide)) (by rfl) T.g_asked_move T.F_asked_move.kp (b_asked_move T) .nil pass0 (pa_cons (pv 0) (pa_cons (pv 1) (pa_cons (pv 2) pa_nil)))) (pe_callS (okR_asked_move T) (hr.mono (by decide)) (by rfl) T.g_asked_move T.F_asked_move.kp (b_asked_move T) (fun σ => L2N.passAt tk σ) (pa_cons (pv 0) (pa_cons (pv 1) (pa_cons (pv 2) pa_nil))))))
  Ab.pss_never)), body_ofR (M := N_moved) (fun as C h => ?_) vs H Q h⟩
  · obtain ⟨_, _, _, rfl, _⟩ := h; rfl
  · obtain ⟨d1, d2, d3, rfl, h1 | ⟨day, rfl, hd, h2⟩⟩ := h
    · exact rd_here (rd_altR (rd_call (ea1 (ed_var rfl)) h1))
    · exact rd_next (sd_drop (ed_altL (ed_call (ea1 (ed_var rfl)) ⟨day, rfl, hd, rfl⟩)) rfl) (rd_here (rd_altR (rd_call (ea_cons (ed_var rfl) (ea2 (ed_var rfl) (ed_var rfl))) h2)))
def P_changes (as : List Sl) (R : Sl → Prop) : Prop := ∃ (m : Nat) (e : Int × Int) (day : List Show) (rows : List (List Int)) (p b : Int), as = [.dat (.int m), .dat (dP e), .dat (dDay day), .dat (dII rows), .dat (.int p), .dat (.int b)] ∧ (1 ≤ m ∧ m ≤ 3) ∧ okE e ∧ okDay day ∧ rows.length ≤ 6 ∧ (∀ r ∈ rows, okR day.length r ∧ r ≠ []) ∧ 0 ≤ p ∧ p < day.length ∧ 0 ≤ (shAt day p).1 + b ∧ (shAt day p).2.1 + b ≤ 24 ∧ R (.own ((changeOf (keptOf m e day rows) (keptOf m e (movedOf day p b) rows)).map dC))
theorem ok_changes (T : Txt K mg) : FnOk P w K mg base CX0 5 T.fa_changes T.fd_changes A_changes (spF K P_changes) := by
  refine T.F_changes.ok sc_changes (spF_len (n := 6) fun as R h => ?_) fun cdv A outer s H vs Q E hr h => ⟨_, (pss_cons (ps_expr (pe_call (ok_asked_all T) (hr.mono (by decide)) (by rfl) T.g_asked_all T.F_asked_all.kp (b_asked_all T) .nil pass0 (pa_cons (pv 0) (pa_cons (pv 1) (pa_cons (pv 2) pa_nil)))))
  (pss_cons (ps_expr (pe_call (ok_asked_wishes T) (hr.mono (by decide)) (by rfl) T.g_asked_wishes T.F_asked_wishes.kp (b_asked_wishes T) .nil pass0 (pa_cons (pv 2) (pa_cons (pv 3) pa_nil))))
  (pss_cons (ps_expr (pe_call (ok_asked_move T) (hr.mono (by decide)) (by rfl) T.g_asked_move T.F_asked_move.kp (b_asked_move T) .nil pass0 (pa_cons (pv 2) (pa_cons (pv 4) (pa_cons (pv 5) pa_nil)))))
  (pss_cons (ps_set (i := 6) sc_changes.nd rfl (Or.inr rfl) (pe_call (ok_kept_of T) (hr.mono (by decide)) (by rfl) T.g_kept_of T.F_kept_of.kp (b_kept_of T) .nil pass0 (pa_cons (pv 0) (pa_cons (pv 1) (pa_cons (pv 2) (pa_cons (pv 3) pa_nil))))))
  (pss_cons (ps_set (i := 7) sc_changes.nd rfl (Or.inl rfl) (pe_call (ok_kept_of T) (hr.mono (by decide)) (by rfl) T.g_kept_of T.F_kept_of.kp (b_kept_of T) .nil pass0 (pa_cons (pv 0) (pa_cons (pv 1) (pa_cons (pe_call (ok_moved_of T) (hr.mono (by decide)) (by rfl) T.g_moved_of T.F_moved_of.kp (b_moved_of T) .nil pass0 (pa_cons (pv 2) (pa_cons (pv 4) (pa_cons (pv 5) pa_nil)))) (pa_cons (pv 3) pa_nil))))))
  (pss_one (ps_ret (pe_lc (own := [("at", 8), ("good", 9)]) (by rfl) sc_changes.nd (enumK (K := K) rfl (by rfl) T.n_enumerate (pa_cons (pv 7) pa_nil)) (blkOk_by (own := [("at", 8), ("good", 9)]) (N := N_changes) (sc := defScope s_changes) (by decide +kernel)) (fun _ _ _ _ _ => (tupK (K := K) (n := 2) rfl rfl (pgs_cons (pg_name (i := 8) sc_changes.nd rfl (Or.inl rfl)) (pgs_cons (pg_name (i := 9) sc_changes.nd rfl (Or.inl rfl)) pgs_nil)))) (fun _ _ _ _ _ => (pts_one (pt_cmpR (neK (K := K) hr rfl) (pv 9) (pe_ix (ixK (K := K) rfl) (pv 6) (pv 8) (fun _ _ => rfl)) (nomark _)))) (fun _ _ _ _ _ => (pe_tup (pa_cons (pv 8) (pa_cons (pv 9) pa_nil)))))))))))), body_of (M := N_changes) (fun as R h => ?_) vs H Q E h⟩
  · obtain ⟨_, _, _, _, _, _, rfl, _⟩ := h; rfl
  · obtain ⟨m, e, day, rows, p, b, rfl, hm, he, hd, hl, hrow, h0, h1, b0, b1, hR⟩ := h
    refine sd_seq1 (sd_drop (ed_call (ea_cons (ed_var rfl) (ea2 (ed_var rfl) (ed_var rfl))) ⟨m, e, day, rfl, by omega, he, hd, rfl⟩) rfl) ?_
    refine sd_seq1 (sd_drop (ed_call (ea2 (ed_var rfl) (ed_var rfl)) ⟨day.map dS, rows, rfl, hl, fun r hr0 => ?_, rfl⟩) rfl) ?_
    · have := okR_len (hrow r hr0).1
      have := hd.1
      exact ⟨by omega, by rw [List.length_map]; exact arePl_ok (hrow r hr0).1, (hrow r hr0).2⟩
    refine sd_seq1 (sd_drop (ed_call (ea_cons (ed_var rfl) (ea2 (ed_var rfl) (ed_var rfl))) ⟨day, p, b, rfl, h0, h1, b0, b1, rfl⟩) rfl) ?_
    have hd1 := hd.1
    refine sd_seq1 (sd_asg (el_call (ea_cons (ed_var rfl) (ea_cons (ed_var rfl) (ea2 (ed_var rfl) (ed_var rfl)))) ⟨m, e, day, rows, rfl, by omega, by omega, by omega, fun r hr0 => (hrow r hr0).1, rfl⟩).ed rfl) ?_
    refine sd_seq1 (sd_asg (el_call (ea_cons (ed_var rfl) (ea_cons (ed_var rfl) (ea2 (el_call (ea_cons (ed_var rfl) (ea2 (ed_var rfl) (ed_var rfl))) ⟨day, p, b, rfl, by omega, h0, h1, rfl⟩).ed (ed_var rfl)))) ⟨m, e, movedOf day p b, rows, rfl, by omega, by rw [len_moved]; omega, by omega, fun r hr0 => by rw [len_moved]; exact (hrow r hr0).1, rfl⟩).ed rfl) ?_
    have lb : (keptOf m e day rows).length = rows.length := keptGo_len _ _
    have la : (keptOf m e (movedOf day p b) rows).length = rows.length := keptGo_len _ _
    generalize keptOf m e day rows = before at *
    generalize keptOf m e (movedOf day p b) rows = after at *
    refine sd_retL (el_is (el_filt after.zipIdx (fun x => .tuple [.int (x.2 : Nat), .bool x.1]) (fun x => dC ((x.2 : Int), x.1)) (fun x => !decide (x.1 = before.getD x.2 false)) (js := [8, 9]) (ei_is (ei_enum (ea1 (ed_var rfl))) (enumD_map PyData.bool after)) (by decide) (by rw [List.length_zipIdx]; omega) fun x hx => ⟨_, tg2, et_test (ed_neT nice_bool (ed_var rfl) (ed_batN (ed_var rfl) (ed_var rfl) (by have := (zipIdx_mem hx).2.1; omega))), fun _ => ed_tup (ds := [_, _]) (ea2 (ed_var rfl) (ed_var rfl)) (by simp)⟩) ?_) hR
    unfold changeOf
    rw [List.map_map]
    rfl
def Good3c (m : Nat) (e : Int × Int) (day : List Show) (d1 d2 d3 : PyData) : Prop := (d1 = .int (m : Int) ∧ 1 ≤ m ∧ m ≤ 3) ∧ (d2 = dP e ∧ okE e) ∧ d3 = dDay day ∧ okDay day
def PR_changes (CT CE CS CW CP CM : Addr) (as : List Sl) (C : Addr) : Prop := ∃ d1 d2 d3 d4 d5 d6 : PyData, as = [.dat d1, .dat d2, .dat d3, .dat d4, .dat d5, .dat d6] ∧ (PR_asked_all CT CE CS [.dat d1, .dat d2, .dat d3] C ∨ ∃ m e day, Good3c m e day d1 d2 d3 ∧ (PR_asked_wishes CW [.dat (dDay day), .dat d4] C ∨ ∃ rows : List (List Int), d4 = dII rows ∧ rows.length ≤ 6 ∧ (∀ r ∈ rows, okR day.length r ∧ r ≠ []) ∧ PR_asked_move CP CM [.dat (dDay day), .dat d5, .dat d6] C))
theorem okR_changes (T : Txt K mg) : FnOk P w K mg base (L2N.CX P w) 5 T.fa_changes T.fd_changes A_changes (spR K (PR_changes T.C_BadTuners T.C_BadEdges T.C_BadShows T.C_BadWishes T.C_BadPlaces T.C_BadMove)) := by
  refine Ab.okN T.F_changes sc_changes (spR_len (n := 6) fun as C h => ?_) fun cdv A outer s H vs Q E hr tk h => ⟨_, (pss_cons (ps_expr (pe_alt (pe_call (ok_asked_all T) (hr.mono (by decide)) (by rfl) T.g_asked_all T.F_asked_all.kp (b_asked_all T) .nil pass0 (pa_cons (pv 0) (pa_cons (pv 1) (pa_cons (pv 2) pa_nil)))) (pe_callS (okR_asked_all T) (hr.mono (by decide)) (by rfl) T.g_asked_all T.F_asked_all.kp (b_asked_all T) (fun σ => L2N.passAt tk σ) (pa_cons (pv 0) (pa_cons (pv 1) (pa_cons (pv 2) pa_nil))))))
  (pss_cons (ps_expr (pe_alt (pe_call (ok_asked_wishes T) (hr.mono (by decide)) (by rfl) T.g_asked_wishes T.F_asked_wishes.kp (b_asked_wishes T) .nil pass0 (pa_cons (pv 2) (pa_cons (pv 3) pa_nil))) (pe_callS (okR_asked_wishes T) (hr.mono (by decide)) (by rfl) T.g_asked_wishes T.F_asked_wishes.kp (b_asked_wishes T) (fun σ => L2N.passAt tk σ) (pa_cons (pv 2) (pa_cons (pv 3) pa_nil)))))
  (pss_cons (ps_expr (pe_alt (pe_call (ok_asked_move T) (hr.mono (by decide)) (by rfl) T.g_asked_move T.F_asked_move.kp (b_asked_move T) .nil pass0 (pa_cons (pv 2) (pa_cons (pv 4) (pa_cons (pv 5) pa_nil)))) (pe_callS (okR_asked_move T) (hr.mono (by decide)) (by rfl) T.g_asked_move T.F_asked_move.kp (b_asked_move T) (fun σ => L2N.passAt tk σ) (pa_cons (pv 2) (pa_cons (pv 4) (pa_cons (pv 5) pa_nil))))))
  Ab.pss_never))), body_ofR (M := N_changes) (fun as C h => ?_) vs H Q h⟩
  · obtain ⟨_, _, _, _, _, _, rfl, _⟩ := h; rfl
  · obtain ⟨d1, d2, d3, d4, d5, d6, rfl, h1 | ⟨m, e, day, ⟨⟨rfl, hm⟩, ⟨rfl, he⟩, rfl, hd⟩, h2 | ⟨rows, rfl, hl, hrow, h3⟩⟩⟩ := h
    · exact rd_here (rd_altR (rd_call (ea_cons (ed_var rfl) (ea2 (ed_var rfl) (ed_var rfl))) h1))
    · exact rd_next (sd_drop (ed_altL (ed_call (ea_cons (ed_var rfl) (ea2 (ed_var rfl) (ed_var rfl))) ⟨m, e, day, rfl, by omega, he, hd, rfl⟩)) rfl) (rd_here (rd_altR (rd_call (ea2 (ed_var rfl) (ed_var rfl)) h2)))
    · refine rd_next (sd_drop (ed_altL (ed_call (ea_cons (ed_var rfl) (ea2 (ed_var rfl) (ed_var rfl))) ⟨m, e, day, rfl, by omega, he, hd, rfl⟩)) rfl) (rd_next (sd_drop (ed_altL (ed_call (ea2 (ed_var rfl) (ed_var rfl)) ⟨day.map dS, rows, rfl, hl, fun r hr0 => ?_, rfl⟩)) rfl) (rd_here (rd_altR (rd_call (ea_cons (ed_var rfl) (ea2 (ed_var rfl) (ed_var rfl))) h3))))
      have := okR_len (hrow r hr0).1
      have := hd.1
      exact ⟨by omega, by rw [List.length_map]; exact arePl_ok (hrow r hr0).1, (hrow r hr0).2⟩
abbrev stF (e : Int × Int) (day : List Show) (fs sm : List Int) (s : FS) (s5 s6 s7 s8 s9 s10 : Sl) : Sls := [.dat (dP e), .dat (dDay day), .dat (dU fs sm), .own (s.1.map PyData.int), .own (s.2.map dW), s5, s6, s7, s8, s9, s10]
theorem stF_set {e : Int × Int} {day : List Show} {fs sm c : List Int} {w : List Wy} {j : Nat} {x : Int} {y : Wy} {s5 s6 s7 s8 s9 s10 : Sl} : stF e day fs sm (c.set j x, w.set j y) s5 s6 s7 s8 s9 s10 = [.dat (dP e), .dat (dDay day), .dat (dU fs sm), .own ((c.map PyData.int).set j (.int x)), .own ((w.map dW).set j (dW y)), s5, s6, s7, s8, s9, s10] := by
  unfold stF
  rw [List.map_set, List.map_set]
def P_fell_of (as : List Sl) (R : Sl → Prop) : Prop := ∃ (e : Int × Int) (day : List Show) (fs sm : List Int) (s' : FS), as = [.dat (dP e), .dat (dDay day), .dat (dU fs sm)] ∧ okE e ∧ (∀ s ∈ day, okS s) ∧ day.length ≤ 1000 ∧ fs.length = 24 ∧ FellTo (edgs (getI fs) e day sm) s' ∧ R (.dat (dFell s'))
theorem ok_fell_of (T : Txt K mg) : FnOk P w K mg base CX0 2 T.fa_fell_of T.fd_fell_of A_fell_of (spF K P_fell_of) := by
  refine T.F_fell_of.ok sc_fell_of (spF_len (n := 3) fun as R h => ?_) fun cdv A outer s H vs Q E hr h => ⟨_, (pss_cons (ps_par (i := 3) (j := 4) rfl sc_fell_of.nd rfl rfl (by decide) rfl rfl (pa_cons (pe_op op_addA (pe_lst (pa_cons pe_int pa_nil)) (pe_op op_mulA (pe_lst (pa_cons (pe_op op_pow pe_int pe_int) pa_nil)) (pe_glob (v := .int 24) (by rfl) T.c_DAY_answers ⟨_, rfl⟩))) (pa_cons (pe_op op_mulA (pe_lst (pa_cons pe_non pa_nil)) (pe_op op_addA (pe_glob (v := .int 24) (by rfl) T.c_DAY_answers ⟨_, rfl⟩) pe_int)) pa_nil)) rfl)
  (pss_cons (ps_set (i := 5) sc_fell_of.nd rfl (Or.inl rfl) (pe_lst pa_nil))
  (pss_cons (ps_while PassesOwn.never (pt_cmpR (neK (K := K) hr rfl) (pv 5) (pv 3) (nomark _)) (pss_cons (ps_set (i := 5) sc_fell_of.nd rfl (Or.inl rfl) (pe_callTy (lstK (K := K) rfl) (by rfl) T.n_list (by decide +kernel) (pa_cons (pv 3) pa_nil)))
  (pss_cons (ps_for PassesOwn.never rfl (pi_range1 (by rfl) T.n_range (pa_cons (pe_glob (v := .int 24) (by rfl) T.c_DAY_answers ⟨_, rfl⟩) pa_nil)) (pg_name (i := 6) sc_fell_of.nd rfl (Or.inl rfl)) (pss_cons (ps_if (pt_cmpR op_lt (pe_ix (ixK (K := K) rfl) (pv 3) (pv 6) (fun _ _ => rfl)) (pe_ix (ixK (K := K) rfl) (pv 3) (pe_op op_addA (pv 6) pe_int) (fun _ _ => rfl)) (nomark _)) (pss_one (ps_asg (pe_tup (pa_cons (pe_ix (ixK (K := K) rfl) (pv 3) (pv 6) (fun _ _ => rfl)) (pa_cons (pe_tup (pa_cons (pv 6) (pa_cons pe_non pa_nil))) pa_nil))) (tupK (K := K) (n := 2) rfl rfl (pgs_cons (pg_sub (pv 3) (pe_op op_addA (pv 6) pe_int) set_list) (pgs_cons (pg_sub (pv 4) (pe_op op_addA (pv 6) pe_int) set_list) pgs_nil))))) pss_nil)
  (pss_one (ps_if (PW.pt (pw_and (pt_cmpR op_gt (pe_ix (ixK (K := K) rfl) (pv 2) (pv 6) (fun _ _ => rfl)) pe_int (nomark _)) (pw_and1 (pt_cmpR op_lt (pe_ix (ixK (K := K) rfl) (pv 3) (pe_op op_addA (pv 6) pe_int) (fun _ _ => rfl)) (pe_ix (ixK (K := K) rfl) (pv 3) (pv 6) (fun _ _ => rfl)) (nomark _))))) (pss_one (ps_asg (pe_tup (pa_cons (pe_ix (ixK (K := K) rfl) (pv 3) (pe_op op_addA (pv 6) pe_int) (fun _ _ => rfl)) (pa_cons (pe_tup (pa_cons (pe_op op_addA (pv 6) pe_int) (pa_cons pe_non pa_nil))) pa_nil))) (tupK (K := K) (n := 2) rfl rfl (pgs_cons (pg_sub (pv 3) (pv 6) set_list) (pgs_cons (pg_sub (pv 4) (pv 6) set_list) pgs_nil))))) pss_nil))))
  (pss_one (ps_for PassesOwn.never rfl (enumK (K := K) rfl (by rfl) T.n_enumerate (pa_cons (pv 1) pa_nil)) (tupK (K := K) (n := 2) rfl rfl (pgs_cons (pg_name (i := 7) sc_fell_of.nd rfl (Or.inl rfl)) (pgs_cons (pg_name (i := 8) sc_fell_of.nd rfl (Or.inl rfl)) pgs_nil))) (pss_cons (ps_asg (pe_call (ok_held_of T) (hr.mono (by decide)) (by rfl) T.g_held_of T.F_held_of.kp (b_held_of T) .nil pass0 (pa_cons (pv 0) (pa_cons (pv 8) pa_nil))) (tupK (K := K) (n := 2) rfl rfl (pgs_cons (pg_name (i := 9) sc_fell_of.nd rfl (Or.inl rfl)) (pgs_cons (pg_name (i := 10) sc_fell_of.nd rfl (Or.inl rfl)) pgs_nil))))
  (pss_cons (ps_if (PW.pt (pw_and (pt_cmpR (ninK (K := K) rfl) (pv 7) (pe_ix (ixK (K := K) rfl) (pv 2) (pe_glob (v := .int 24) (by rfl) T.c_DAY_answers ⟨_, rfl⟩) (fun _ _ => rfl)) (by rfl)) (pw_and1 (pt_cmpR op_lt (pe_op op_sub (pe_ix (ixK (K := K) rfl) (pv 3) (pv 9) (fun _ _ => rfl)) (pe_ix (ixK (K := K) rfl) (pv 8) pe_int (fun _ _ => rfl))) (pe_ix (ixK (K := K) rfl) (pv 3) (pv 10) (fun _ _ => rfl)) (nomark _))))) (pss_one (ps_asg (pe_tup (pa_cons (pe_op op_sub (pe_ix (ixK (K := K) rfl) (pv 3) (pv 9) (fun _ _ => rfl)) (pe_ix (ixK (K := K) rfl) (pv 8) pe_int (fun _ _ => rfl))) (pa_cons (pe_tup (pa_cons (pv 9) (pa_cons (pv 7) pa_nil))) pa_nil))) (tupK (K := K) (n := 2) rfl rfl (pgs_cons (pg_sub (pv 3) (pv 10) set_list) (pgs_cons (pg_sub (pv 4) (pv 10) set_list) pgs_nil))))) pss_nil)
  (pss_one (ps_if (PW.pt (pw_and (pt_cmpR (inK (K := K) rfl) (pv 7) (pe_ix (ixK (K := K) rfl) (pv 2) (pe_glob (v := .int 24) (by rfl) T.c_DAY_answers ⟨_, rfl⟩) (fun _ _ => rfl)) (by rfl)) (pw_and1 (pt_cmpR op_lt (pe_op op_addA (pe_ix (ixK (K := K) rfl) (pv 3) (pv 10) (fun _ _ => rfl)) (pe_ix (ixK (K := K) rfl) (pv 8) pe_int (fun _ _ => rfl))) (pe_ix (ixK (K := K) rfl) (pv 3) (pv 9) (fun _ _ => rfl)) (nomark _))))) (pss_one (ps_asg (pe_tup (pa_cons (pe_op op_addA (pe_ix (ixK (K := K) rfl) (pv 3) (pv 10) (fun _ _ => rfl)) (pe_ix (ixK (K := K) rfl) (pv 8) pe_int (fun _ _ => rfl))) (pa_cons (pe_tup (pa_cons (pv 10) (pa_cons (pv 7) pa_nil))) pa_nil))) (tupK (K := K) (n := 2) rfl rfl (pgs_cons (pg_sub (pv 3) (pv 9) set_list) (pgs_cons (pg_sub (pv 4) (pv 9) set_list) pgs_nil))))) pss_nil)))))))))
  (pss_one (ps_ret (pe_tup (pa_cons (pv 3) (pa_cons (pv 4) pa_nil)))))))), body_of (M := N_fell_of) (fun as R h => ?_) vs H Q E h⟩
  · obtain ⟨_, _, _, _, _, rfl, _⟩ := h; rfl
  · obtain ⟨e, day, fs, sm, s', rfl, he, hd, hl, hf, ⟨n0, hF⟩, hR⟩ := h
    refine sd_seq1 (sd_par (.own (el_is (el_cat (el_lst (ds := [.int 0]) (ea1 ed_int) (by simp)).ed (el_repI (ed_pow ed_int ed_int ⟨by decide, by decide, by decide⟩) ed_int (by decide) (by decide)).ed (by decide)) (show _ = st0.1.map PyData.int by rfl))) (.own (el_is (el_rep (el_lst (ds := [.none]) (ea1 ed_non) (by simp)).ed (ed_add ed_int ed_int) (by decide) (by decide) (by decide)) (show _ = st0.2.map dW by rfl))) rfl) ?_
    refine sd_seq1 (sd_asg ed_nil rfl) ?_
    refine sd_seq (M := fun τ' => ∃ s5 s6 s7 s8 s9 s10, τ' = stF e day fs sm s' s5 s6 s7 s8 s9 s10) (sd_while (fun m τ' => ∃ (s : FS) (bf : List Int) (s6 s7 s8 s9 s10 : Sl), τ' = stF e day fs sm s (.dat (dI bf)) s6 s7 s8 s9 s10 ∧ (s.1.length = 25 ∧ s.2.length = 25) ∧ ((bf ≠ s.1 ∧ fellN (edgs (getI fs) e day sm) m s = some s') ∨ (bf = s.1 ∧ s = s')))
      ⟨n0, st0, [], .unk, .unk, .unk, .unk, .unk, rfl, ⟨rfl, rfl⟩, .inl ⟨by decide, hF⟩⟩ ?turn) ?rest
    case rest =>
      rintro _ ⟨s5, s6, s7, s8, s9, s10, rfl⟩
      exact sd_frz (i := 3) rfl (sd_frz (i := 4) rfl (sd_ret (ed_tup (ds := [_, _]) (ea2 (ed_var rfl) (ed_var rfl)) (by simp)) hR))
    case turn =>
      rintro m τ1 ⟨s, bf, s6, s7, s8, s9, s10, rfl, ⟨hl1, hl2⟩, alt⟩
      refine ⟨!decide (bf = s.1), et_frz 3 rfl (et_test (ed_neT nice_dI (ed_var rfl) (ed_var rfl))), fun hb => ?body, fun hb => ?out⟩
      case out =>
        have e1 : bf = s.1 := by simpa using hb
        rcases alt with ⟨a, _⟩ | ⟨_, rfl⟩
        · exact absurd e1 a
        · exact ⟨_, _, _, _, _, _, rfl⟩
      case body =>
        have ne : bf ≠ s.1 := by simpa using hb
        have hN : fellN (edgs (getI fs) e day sm) m s = some s' := by
          rcases alt with ⟨_, a⟩ | ⟨a, _⟩
          · exact a
          · exact absurd a ne
        cases m with
        | zero => cases hN
        | succ n =>
        refine sd_seq1 (sd_asg (el_frz 3 rfl (el_list (ed_var rfl)) (scal_ints _)).ed rfl) ?_
        refine sd_seq (M := fun τ' => ∃ s6 s7 s8 s9 s10, τ' = stF e day fs sm (sweep ((List.range 24).flatMap (edgM (getI fs))) s) (.dat (dI s.1)) s6 s7 s8 s9 s10)
          (sd_for (fun i τ' => ∃ s6 s7 s8 s9 s10, τ' = stF e day fs sm (sweep ((List.range i).flatMap (edgM (getI fs))) s) (.dat (dI s.1)) s6 s7 s8 s9 s10) (ei_rngI (m := 24) (ea1 ed_int) (by decide)) ⟨_, _, _, _, _, rfl⟩ ?turn1 ?done1) ?rest1
        case done1 =>
          rintro τ1 ⟨s6, s7, s8, s9, s10, rfl⟩
          rw [List.length_map, List.length_range]
          exact ⟨_, _, _, _, _, rfl⟩
        case turn1 =>
          rintro i d τ1 hd' ⟨s6, s7, s8, s9, s10, rfl⟩
          obtain ⟨i', hx, rfl⟩ := map_at hd'
          obtain ⟨rfl, hi⟩ := range_at hx
          have hn : sweep ((List.range (i' + 1)).flatMap (edgM (getI fs))) s = sweep (edgM (getI fs) i') (sweep ((List.range i').flatMap (edgM (getI fs))) s) := by
            rw [List.range_succ, List.flatMap_append, sweep_app]
            simp
          rw [hn]
          obtain ⟨l1, l2⟩ := sweep_len ((List.range i').flatMap (edgM (getI fs))) s ⟨hl1, hl2⟩
          generalize sweep ((List.range i').flatMap (edgM (getI fs))) s = r at *
          refine ⟨[6], _, tg_name 6, ?_⟩
          refine sd_seq1 (τ1 := stF e day fs sm (stepE r ⟨i', i' + 1, 0, none⟩) (.dat (dI s.1)) (.dat (.int (i' : Int))) s7 s8 s9 s10) (sd_if (b := decide (getI r.1 i' < getI r.1 (i' + 1))) (et_frz 3 rfl (et_test (ed_lt (ed_get (ed_var rfl) (ed_var rfl) rfl (by omega)) (ed_get (n := i' + 1) (ed_var rfl) (ed_add (ed_var rfl) ed_int) rfl (by omega))))) (fun hb => ?_) fun hb => sd_next ?_) ?_
          · rw [step_idle, if_pos (by simpa using hb)]
            refine sd_put2 (i := 3) (j := 4) (a := i' + 1) (b := i' + 1) (by decide) rfl rfl (ed_frz 3 rfl (ed_get (ed_var rfl) (ed_var rfl) rfl (by omega))) (ed_tup (ds := [.int (i' : Int), .none]) (ea2 (ed_var rfl) ed_non) (by simp)) (ed_add (ed_var rfl) ed_int) (ed_add (ed_var rfl) ed_int) (by rw [ixN_in (by omega) (by rw [List.length_map]; omega)]; rfl) (by rw [ixN_in (by omega) (by rw [List.length_map]; omega)]; rfl) ?_
            rw [stF_set]
            rfl
          · rw [step_idle, if_neg (by simpa using hb)]
            rfl
          · obtain ⟨l3, l4⟩ := step_len (x := ⟨i', i' + 1, 0, none⟩) ⟨l1, l2⟩
            refine sd_if (b := decide (0 < getI fs i') && decide (getI (stepE r ⟨i', i' + 1, 0, none⟩).1 (i' + 1) < getI (stepE r ⟨i', i' + 1, 0, none⟩).1 i')) (et_and (et_test (ed_gt (ed_used (ed_var rfl) (ed_var rfl) rfl (by omega)) ed_int)) fun _ => et_frz 3 rfl (et_test (ed_lt (ed_get (n := i' + 1) (ed_var rfl) (ed_add (ed_var rfl) ed_int) rfl (by omega)) (ed_get (ed_var rfl) (ed_var rfl) rfl (by omega))))) (fun hb => ?_) fun hb => sd_next ⟨.dat (.int (i' : Int)), s7, s8, s9, s10, ?_⟩
            · rw [Bool.and_eq_true] at hb
              have c1 := of_decide_eq_true hb.1
              have c2 := of_decide_eq_true hb.2
              unfold edgM
              rw [if_pos c1]
              have e2 : sweep [⟨i', i' + 1, 0, none⟩, ⟨i' + 1, i', 0, none⟩] r = stepE (stepE r ⟨i', i' + 1, 0, none⟩) ⟨i' + 1, i', 0, none⟩ := rfl
              rw [e2]
              generalize stepE r ⟨i', i' + 1, 0, none⟩ = r2 at *
              rw [step_idle, if_pos c2]
              refine sd_put2 (i := 3) (j := 4) (a := i') (b := i') (by decide) rfl rfl (ed_frz 3 rfl (ed_get (n := i' + 1) (ed_var rfl) (ed_add (ed_var rfl) ed_int) rfl (by omega))) (ed_tup (ds := [.int ((i' : Int) + 1), .none]) (ea2 (ed_add (ed_var rfl) ed_int) ed_non) (by simp)) (ed_var rfl) (ed_var rfl) (by rw [ixN_in (by omega) (by rw [List.length_map]; omega)]; rfl) (by rw [ixN_in (by omega) (by rw [List.length_map]; omega)]; rfl) ⟨.dat (.int (i' : Int)), s7, s8, s9, s10, ?_⟩
              rw [stF_set]
              rfl
            · unfold edgM
              by_cases c1 : 0 < getI fs i'
              · rw [if_pos c1]
                rw [decide_eq_true c1, Bool.true_and] at hb
                have e2 : sweep [⟨i', i' + 1, 0, none⟩, ⟨i' + 1, i', 0, none⟩] r = stepE (stepE r ⟨i', i' + 1, 0, none⟩) ⟨i' + 1, i', 0, none⟩ := rfl
                rw [e2, step_idle (s := stepE r ⟨i', i' + 1, 0, none⟩), if_neg (of_decide_eq_false hb)]
              · rw [if_neg c1]
                rfl
        case rest1 =>
          rintro _ ⟨s6, s7, s8, s9, s10, rfl⟩
          obtain ⟨l1, l2⟩ := sweep_len ((List.range 24).flatMap (edgM (getI fs))) s ⟨hl1, hl2⟩
          have hE : sweep (edgs (getI fs) e day sm) s = sweep (day.zipIdx.map (edgP e sm)) (sweep ((List.range 24).flatMap (edgM (getI fs))) s) := sweep_app _ _ _
          obtain ⟨l5, l6⟩ := sweep_len (edgs (getI fs) e day sm) s ⟨hl1, hl2⟩
          generalize sweep ((List.range 24).flatMap (edgM (getI fs))) s = r0 at *
          refine sd_for (fun i τ' => ∃ s6 s7 s8 s9 s10, τ' = stF e day fs sm (sweep ((day.zipIdx.take i).map (edgP e sm)) r0) (.dat (dI s.1)) s6 s7 s8 s9 s10) (ei_is (ei_enum (ea1 (ed_var rfl))) (enumD_map dS day)) ⟨_, _, _, _, _, rfl⟩ ?turn2 ?done2
          case done2 =>
            rintro τ1 ⟨s6, s7, s8, s9, s10, rfl⟩
            rw [List.length_map, List.take_length, ← hE]
            unfold fellN at hN
            by_cases c : (sweep (edgs (getI fs) e day sm) s).1 = s.1
            · rw [if_pos c] at hN
              exact ⟨0, by omega, _, _, _, _, _, _, _, rfl, ⟨l5, l6⟩, .inr ⟨c.symm, Option.some.inj hN⟩⟩
            · rw [if_neg c] at hN
              exact ⟨n, by omega, _, _, _, _, _, _, _, rfl, ⟨l5, l6⟩, .inl ⟨fun z => c z.symm, hN⟩⟩
          case turn2 =>
            rintro i d τ1 hd' ⟨s6, s7, s8, s9, s10, rfl⟩
            obtain ⟨x, hx, rfl⟩ := map_at hd'
            have hn : sweep ((day.zipIdx.take (i + 1)).map (edgP e sm)) r0 = stepE (sweep ((day.zipIdx.take i).map (edgP e sm)) r0) (edgP e sm x) := by
              rw [List.take_add_one, hx, List.map_append, sweep_app]
              rfl
            rw [hn]
            obtain ⟨l1, l2⟩ := sweep_len ((day.zipIdx.take i).map (edgP e sm)) r0 ⟨l1, l2⟩
            generalize sweep ((day.zipIdx.take i).map (edgP e sm)) r0 = r at *
            obtain ⟨hx1, hx2, _⟩ := zipIdx_mem (List.mem_of_getElem? hx)
            obtain ⟨o1, o2, o3, o4⟩ := held_ok he (hd _ hx1)
            generalize hh : held e x.1 = hv at *
            obtain ⟨a, ha⟩ : ∃ a : Nat, hv.1 = (a : Int) := nat_of o1
            obtain ⟨b, hb⟩ : ∃ b : Nat, hv.2 = (b : Int) := nat_of (by omega)
            have eP : edgP e sm x = if sm.contains (x.2 : Int) then ⟨b, a, x.1.2.2, some (x.2 : Int)⟩ else ⟨a, b, -x.1.2.2, some (x.2 : Int)⟩ := by
              unfold edgP
              rw [hh, ha, hb]
              rfl
            rw [eP]
            refine ⟨[7, 8], _, tg2, ?_⟩
            refine sd_seq1 (sd_asgT (d := dP hv) (ed_is (ed_call (ea2 (ed_var rfl) (ed_var rfl)) ⟨e, x.1, rfl, rfl⟩) (by rw [hh])) tg2 rfl) ?_
            refine sd_seq1 (τ1 := stF e day fs sm (if sm.contains (x.2 : Int) then r else stepE r ⟨a, b, -x.1.2.2, some (x.2 : Int)⟩) (.dat (dI s.1)) s6 (.dat (.int (x.2 : Nat))) (.dat (dS x.1)) (.dat (.int hv.1)) (.dat (.int hv.2))) (sd_if (b := (!sm.contains (x.2 : Int)) && decide (getI r.1 a - x.1.2.2 < getI r.1 b)) (et_and (et_test (ed_nin (ed_var rfl) (ed_usedL (ed_var rfl) ed_int hf))) fun _ => et_frz 3 rfl (et_test (ed_lt (ed_sub (ed_get (ed_var rfl) (ed_var rfl) ha (by omega)) (ed_s2 (ed_var rfl))) (ed_get (ed_var rfl) (ed_var rfl) hb (by omega))))) (fun hc => ?_) fun hc => sd_next ?_) ?_
            · rw [Bool.and_eq_true] at hc
              have c1 : sm.contains (x.2 : Int) = false := by simpa using hc.1
              have c2 := of_decide_eq_true hc.2
              rw [c1, if_neg Bool.false_ne_true]
              unfold stepE
              rw [if_pos (show getI r.1 a + -x.1.2.2 < getI r.1 b by omega)]
              refine sd_put2 (i := 3) (j := 4) (a := b) (b := b) (by decide) rfl rfl (ed_frz 3 rfl (ed_sub (ed_get (ed_var rfl) (ed_var rfl) ha (by omega)) (ed_s2 (ed_var rfl)))) (ed_tup (ds := [.int hv.1, .int (x.2 : Nat)]) (ea2 (ed_var rfl) (ed_var rfl)) (by simp)) (ed_var rfl) (ed_var rfl) (by rw [ixN_in (by omega) (by rw [List.length_map]; omega), hb]; rfl) (by rw [ixN_in (by omega) (by rw [List.length_map]; omega), hb]; rfl) ?_
              rw [stF_set, ha]
              rfl
            · by_cases c1 : sm.contains (x.2 : Int) = true
              · rw [if_pos c1]
                rfl
              · have c1' : sm.contains (x.2 : Int) = false := by simpa using c1
                rw [c1', Bool.not_false, Bool.true_and] at hc
                have c2 := of_decide_eq_false hc
                rw [if_neg c1]
                unfold stepE
                rw [if_neg (show ¬ getI r.1 a + -x.1.2.2 < getI r.1 b by omega)]
                rfl
            · by_cases c1 : sm.contains (x.2 : Int) = true
              · rw [if_pos c1, if_pos c1]
                refine sd_if (b := true && decide (getI r.1 b + x.1.2.2 < getI r.1 a)) (et_and (et_test (ed_is (ed_in (ed_var rfl) (ed_usedL (ed_var rfl) ed_int hf)) (by rw [c1]))) fun _ => et_frz 3 rfl (et_test (ed_lt (ed_add (ed_get (ed_var rfl) (ed_var rfl) hb (by omega)) (ed_s2 (ed_var rfl))) (ed_get (ed_var rfl) (ed_var rfl) ha (by omega))))) (fun hc => ?_) fun hc => sd_next ⟨s6, .dat (.int (x.2 : Nat)), .dat (dS x.1), .dat (.int hv.1), .dat (.int hv.2), ?_⟩
                · rw [Bool.true_and] at hc
                  have c2 := of_decide_eq_true hc
                  unfold stepE
                  rw [if_pos c2]
                  refine sd_put2 (i := 3) (j := 4) (a := a) (b := a) (by decide) rfl rfl (ed_frz 3 rfl (ed_add (ed_get (ed_var rfl) (ed_var rfl) hb (by omega)) (ed_s2 (ed_var rfl)))) (ed_tup (ds := [.int hv.2, .int (x.2 : Nat)]) (ea2 (ed_var rfl) (ed_var rfl)) (by simp)) (ed_var rfl) (ed_var rfl) (by rw [ixN_in (by omega) (by rw [List.length_map]; omega), ha]; rfl) (by rw [ixN_in (by omega) (by rw [List.length_map]; omega), ha]; rfl) ⟨s6, .dat (.int (x.2 : Nat)), .dat (dS x.1), .dat (.int hv.1), .dat (.int hv.2), ?_⟩
                  rw [stF_set, hb]
                  rfl
                · rw [Bool.true_and] at hc
                  have c2 := of_decide_eq_false hc
                  unfold stepE
                  rw [if_neg c2]
              · have c1' : sm.contains (x.2 : Int) = false := by simpa using c1
                rw [if_neg c1, if_neg c1]
                exact sd_if (b := false && false) (et_and (et_test (ed_is (ed_in (ed_var rfl) (ed_usedL (ed_var rfl) ed_int hf)) (by rw [c1']))) fun z => absurd z Bool.false_ne_true) (fun z => absurd z Bool.false_ne_true) fun hc => sd_next ⟨s6, .dat (.int (x.2 : Nat)), .dat (dS x.1), .dat (.int hv.1), .dat (.int hv.2), rfl⟩
def P_idle_of (as : List Sl) (R : Sl → Prop) : Prop := ∃ (k : Nat) (e : Int × Int) (day : List Show) (sm : List Int), as = [.dat (.int (k : Int)), .dat (dP e), .dat (dDay day), .dat (dI sm)] ∧ okE e ∧ (∀ s ∈ day, okS s) ∧ okP day.length sm ∧ R (.own ((idlL k e day sm).map PyData.int ++ [dI sm]))
theorem ok_idle_of (T : Txt K mg) : FnOk P w K mg base CX0 2 T.fa_idle_of T.fd_idle_of A_idle_of (spF K P_idle_of) := by
  refine T.F_idle_of.ok sc_idle_of (spF_len (n := 4) fun as R h => ?_) fun cdv A outer s H vs Q E hr h => ⟨_, (pss_cons (ps_set (i := 4) sc_idle_of.nd rfl (Or.inl rfl) (pe_op op_mulA (pe_lst (pa_cons (pv 0) pa_nil)) (pe_glob (v := .int 24) (by rfl) T.c_DAY_answers ⟨_, rfl⟩)))
  (pss_cons (ps_for PassesOwn.never rfl (seqK (K := K) rfl (pv 3)) (pg_name (i := 5) sc_idle_of.nd rfl (Or.inl rfl)) (pss_cons (ps_asg (pe_call (ok_held_of T) (hr.mono (by decide)) (by rfl) T.g_held_of T.F_held_of.kp (b_held_of T) .nil pass0 (pa_cons (pv 1) (pa_cons (pe_ix (ixK (K := K) rfl) (pv 2) (pv 5) (fun _ _ => rfl)) pa_nil))) (tupK (K := K) (n := 2) rfl rfl (pgs_cons (pg_name (i := 6) sc_idle_of.nd rfl (Or.inl rfl)) (pgs_cons (pg_name (i := 7) sc_idle_of.nd rfl (Or.inl rfl)) pgs_nil))))
  (pss_one (ps_for PassesOwn.never rfl (pi_range2 (by rfl) T.n_range (pa_cons (pv 6) (pa_cons (pv 7) pa_nil))) (pg_name (i := 8) sc_idle_of.nd rfl (Or.inl rfl)) (pss_one (ps_asg (pe_op op_sub (pe_ix (ixK (K := K) rfl) (pv 4) (pv 8) (fun _ _ => rfl)) pe_int) (pg_sub (pv 4) (pv 8) set_list)))))))
  (pss_one (ps_ret (pe_op op_addA (pv 4) (pe_lst (pa_cons (pv 3) pa_nil))))))), body_of (M := N_idle_of) (fun as R h => ?_) vs H Q E h⟩
  · obtain ⟨_, _, _, _, rfl, _⟩ := h; rfl
  · obtain ⟨k, e, day, sm, rfl, he, hd, hp, hR⟩ := h
    refine sd_seq1 (sd_asgL (el_is (el_repI (ed_var rfl) ed_int (by decide) (by decide)) (show _ = (idlL k e day []).map PyData.int by rw [← idlL_nil]; rfl)) rfl) ?_
    refine sd_seq (M := fun τ' => ∃ (s5 s6 s7 s8 : Sl), τ' = [.dat (.int (k : Int)), .dat (dP e), .dat (dDay day), .dat (dI sm), .own ((idlL k e day sm).map PyData.int), s5, s6, s7, s8])
      (sd_for (fun i τ' => ∃ (s5 s6 s7 s8 : Sl), τ' = [.dat (.int (k : Int)), .dat (dP e), .dat (dDay day), .dat (dI sm), .own ((idlL k e day (sm.take i)).map PyData.int), s5, s6, s7, s8]) (ei_any (ed_var rfl)) ⟨_, _, _, _, rfl⟩ ?turn ?done) ?rest
    case done =>
      rintro τ1 ⟨s5, s6, s7, s8, rfl⟩
      rw [List.length_map, List.take_length]
      exact ⟨_, _, _, _, rfl⟩
    case rest =>
      rintro _ ⟨s5, s6, s7, s8, rfl⟩
      refine sd_frz (i := 4) rfl (sd_retL (el_cat (ed_var rfl) (el_lst (ds := [dI sm]) (ea1 (ed_var rfl)) (by simp)).ed ?_) hR)
      rw [List.length_map, idlL_len]
      simp
    case turn =>
      rintro i d τ1 hd' ⟨s5, s6, s7, s8, rfl⟩
      obtain ⟨p, hx, rfl⟩ := map_at hd'
      obtain ⟨p0, p1⟩ := hp p (List.mem_of_getElem? hx)
      have hs := hd _ (shAt_mem p0 p1)
      obtain ⟨o1, o2, o3, o4⟩ := held_ok he hs
      have hn : sm.take (i + 1) = sm.take i ++ [p] := by rw [List.take_add_one, hx]; rfl
      refine ⟨[5], _, tg_name 5, ?_⟩
      refine sd_seq1 (sd_asgT (ed_call (ea2 (ed_var rfl) (ed_day (ed_var rfl) (ed_var rfl) p0 p1)) ⟨e, _, rfl, rfl⟩) tg2 rfl) ?_
      rw [hn, ← decr_all he hs]
      generalize held e (shAt day p) = hv at *
      obtain ⟨a, ha⟩ : ∃ a : Nat, hv.1 = (a : Int) := nat_of o1
      have lI : (idlL k e day (sm.take i)).length = 24 := idlL_len
      generalize idlL k e day (sm.take i) = l at *
      rw [ha, Int.toNat_natCast]
      refine sd_for (fun j τ' => ∃ (s8 : Sl), τ' = [.dat (.int (k : Int)), .dat (dP e), .dat (dDay day), .dat (dI sm), .own ((decr l a j).map PyData.int), .dat (.int p), .dat (.int (a : Int)), .dat (.int hv.2), s8]) (ei_rngJ (a := (a : Int)) (b := hv.2) (ea2 (ed_var rfl) (ed_var rfl)) (by omega) (by omega) (by omega) (by omega)) ⟨s8, by rw [decr0 lI]; rfl⟩ ?turn2 ?done2
      case turn2 =>
        rintro j d τ2 hd2 ⟨s8, rfl⟩
        obtain ⟨j', ht, rfl⟩ := map_at hd2
        obtain ⟨rfl, hj⟩ := range_at ht
        refine ⟨[8], _, tg_name 8, ?_⟩
        refine sd_put (i := 4) (ds := (decr l a j').map PyData.int) (k := (a : Int) + (j' : Int)) (j := a + j') rfl (ed_frz 4 rfl (ed_sub (ed_get (ns := decr l a j') (n := a + j') (ed_var rfl) (ed_var rfl) (by omega) (by rw [decr_len]; omega)) ed_int)) (ed_var rfl) (by rw [ixN_in (by omega) (by rw [List.length_map, decr_len]; omega)]; congr 1) ⟨.dat (.int ((a : Int) + (j' : Int))), ?_⟩
        rw [← decr_set (by omega), List.map_set]
        rfl
      case done2 =>
        rintro τ2 ⟨s8, rfl⟩
        rw [List.length_map, List.length_range]
        exact ⟨_, _, _, _, rfl⟩
def P_best_of (as : List Sl) (R : Sl → Prop) : Prop := ∃ (k : Nat) (e : Int × Int) (day : List Show), as = [.dat (.int (k : Int)), .dat (dP e), .dat (dDay day)] ∧ okE e ∧ okDay day ∧ k ≤ 100 ∧ R (.dat (.tuple [dI (bPl e day k), dI (bPr e day k)]))
theorem ok_best_of (T : Txt K mg) : FnOk P w K mg base CX0 3 T.fa_best_of T.fd_best_of A_best_of (spF K P_best_of) := by
  refine T.F_best_of.ok sc_best_of (spF_len (n := 3) fun as R h => ?_) fun cdv A outer s H vs Q E hr h => ⟨_, (pss_cons (ps_asg (pe_tup (pa_cons (pe_lst pa_nil) (pa_cons (pe_op op_mulA (pe_lst (pa_cons pe_int pa_nil)) (pe_op op_addA (pe_glob (v := .int 24) (by rfl) T.c_DAY_answers ⟨_, rfl⟩) pe_int)) pa_nil))) (tupK (K := K) (n := 2) rfl rfl (pgs_cons (pg_name (i := 3) sc_best_of.nd rfl (Or.inl rfl)) (pgs_cons (pg_name (i := 4) sc_best_of.nd rfl (Or.inr rfl)) pgs_nil))))
  (pss_cons (ps_for PassesOwn.never rfl (pi_range2 (by rfl) T.n_range (pa_cons pe_int (pa_cons (pe_op op_addA (pv 0) pe_int) pa_nil))) (pg_name (i := 5) sc_best_of.nd rfl (Or.inl rfl)) (pss_cons (ps_asg (pe_call (ok_fell_of T) (hr.mono (by decide)) (by rfl) T.g_fell_of T.F_fell_of.kp (b_fell_of T) .nil pass0 (pa_cons (pv 1) (pa_cons (pv 2) (pa_cons (pe_call (ok_idle_of T) (hr.mono (by decide)) (by rfl) T.g_idle_of T.F_idle_of.kp (b_idle_of T) .nil pass0 (pa_cons (pe_op op_sub (pv 5) pe_int) (pa_cons (pv 1) (pa_cons (pv 2) (pa_cons (pv 3) pa_nil))))) pa_nil)))) (tupK (K := K) (n := 2) rfl rfl (pgs_cons (pg_name (i := 4) sc_best_of.nd rfl (Or.inr rfl)) (pgs_cons (pg_name (i := 6) sc_best_of.nd rfl (Or.inl rfl)) pgs_nil))))
  (pss_cons (ps_set (i := 7) sc_best_of.nd rfl (Or.inl rfl) (pe_glob (v := .int 24) (by rfl) T.c_DAY_answers ⟨_, rfl⟩))
  (pss_cons (ps_while PassesOwn.never (pt_cmpR (neK (K := K) hr rfl) (pv 7) pe_int (nomark _)) (pss_cons (ps_asg (pe_ix (ixK (K := K) rfl) (pv 6) (pv 7) (fun _ _ => rfl)) (tupK (K := K) (n := 2) rfl rfl (pgs_cons (pg_name (i := 7) sc_best_of.nd rfl (Or.inl rfl)) (pgs_cons (pg_name (i := 8) sc_best_of.nd rfl (Or.inr rfl)) pgs_nil))))
  (pss_one (ps_if (pt_cmpR op_noNn (pv 8) pe_non (nomark _)) (pss_one (ps_set (i := 3) sc_best_of.nd rfl (Or.inl rfl) (pe_ifExp (pt_cmpR (inK (K := K) rfl) (pv 8) (pv 3) (by rfl)) (pe_lc (own := [("one", 9)]) (by rfl) sc_best_of.nd (seqK (K := K) rfl (pv 3)) (blkOk_by (own := [("one", 9)]) (N := N_best_of) (sc := defScope s_best_of) (by decide +kernel)) (fun _ _ _ _ _ => (pg_name (i := 9) sc_best_of.nd rfl (Or.inl rfl))) (fun _ _ _ _ _ => (pts_one (pt_cmpR (neK (K := K) hr rfl) (pv 9) (pv 8) (nomark _)))) (fun _ _ _ _ _ => (pv 9))) (pe_op op_addA (pv 3) (pe_lst (pa_cons (pv 8) pa_nil)))))) pss_nil))))
  (pss_one (ps_asg (pe_call (ok_fell_of T) (hr.mono (by decide)) (by rfl) T.g_fell_of T.F_fell_of.kp (b_fell_of T) .nil pass0 (pa_cons (pv 1) (pa_cons (pv 2) (pa_cons (pe_call (ok_idle_of T) (hr.mono (by decide)) (by rfl) T.g_idle_of T.F_idle_of.kp (b_idle_of T) .nil pass0 (pa_cons (pv 5) (pa_cons (pv 1) (pa_cons (pv 2) (pa_cons (pv 3) pa_nil))))) pa_nil)))) (tupK (K := K) (n := 2) rfl rfl (pgs_cons (pg_name (i := 4) sc_best_of.nd rfl (Or.inr rfl)) (pgs_cons (pg_name (i := 6) sc_best_of.nd rfl (Or.inl rfl)) pgs_nil)))))))))
  (pss_one (ps_ret (pe_tup (pa_cons (pe_callB (sortK (K := K) rfl hr rfl) (by rfl) T.n_sorted (by decide +kernel) (pa_cons (pv 3) pa_nil)) (pa_cons (pe_lc (own := [("moment", 10)]) (by rfl) sc_best_of.nd (pi_range1 (by rfl) T.n_range (pa_cons (pe_glob (v := .int 24) (by rfl) T.c_DAY_answers ⟨_, rfl⟩) pa_nil)) (blkOk_by (own := [("moment", 10)]) (N := N_best_of) (sc := defScope s_best_of) (by decide +kernel)) (fun _ _ _ _ _ => (pg_name (i := 10) sc_best_of.nd rfl (Or.inl rfl))) (fun _ _ _ _ _ => pts_nil) (fun _ _ _ _ _ => (pe_op op_sub (pe_ix (ixK (K := K) rfl) (pv 4) (pv 10) (fun _ _ => rfl)) (pe_ix (ixK (K := K) rfl) (pv 4) (pe_op op_addA (pv 10) pe_int) (fun _ _ => rfl))))) pa_nil))))))), body_of (M := N_best_of) (fun as R h => ?_) vs H Q E h⟩
  · obtain ⟨_, _, _, rfl, _⟩ := h; rfl
  · obtain ⟨k, e, day, rfl, he, ⟨hdl, hd⟩, hk, hR⟩ := h
    refine sd_seq1 (sd_mk2 (.dat ed_nil) (.dat (d := dI (List.replicate 25 0)) (el_repI ed_int (ed_add ed_int ed_int) (by decide) (by decide)).ed) rfl) ?_
    refine sd_seq (M := fun τ' => ∃ (s5 s6 s7 s8 s9 s10 : Sl), τ' = [.dat (.int (k : Int)), .dat (dP e), .dat (dDay day), .dat (dI (bestC e day k).1), .dat (dI (bestC e day k).2), s5, s6, s7, s8, s9, s10])
      (sd_for (fun i τ' => ∃ (s5 s6 s7 s8 s9 s10 : Sl), τ' = [.dat (.int (k : Int)), .dat (dP e), .dat (dDay day), .dat (dI (bestC e day i).1), .dat (dI (bestC e day i).2), s5, s6, s7, s8, s9, s10]) (ei_rngJ (a := 1) (b := (k : Int) + 1) (ea2 ed_int (ed_add (ed_var rfl) ed_int)) (by decide) (by decide) (by omega) (by omega)) ⟨_, _, _, _, _, _, rfl⟩ ?turn ?done) ?rest
    case done =>
      rintro τ1 ⟨s5, s6, s7, s8, s9, s10, rfl⟩
      rw [List.length_map, List.length_range]
      have e1 : ((k : Int) + 1 - 1).toNat = k := by omega
      rw [e1]
      exact ⟨_, _, _, _, _, _, rfl⟩
    case rest =>
      rintro _ ⟨s5, s6, s7, s8, s9, s10, rfl⟩
      obtain ⟨st, _, hpos⟩ := best_stand he hd k
      refine sd_ret (ed_tup (ds := [dI (bPl e day k), dI (bPr e day k)]) (ea2 (el_sortI (ed_var rfl) st.nd).ed ?_) (by simp)) hR
      have hlen : (bestC e day k).2.length = 25 := by
        cases k with
        | zero => simp [bestC]
        | succ k => exact (hpos (by omega)).2
      refine (el_is (el_map (List.range 24) (fun (i : Nat) => .int (i : Int)) (fun (i : Nat) => .int (getI (bestC e day k).2 i - getI (bestC e day k).2 (i + 1))) (js := [10]) (ei_rngI (m := 24) (ea1 ed_int) (by decide)) (by decide) (by decide) fun x hx => ⟨_, tg_name 10, ed_sub (ed_get (ed_var rfl) (ed_var rfl) rfl (by have := List.mem_range.mp hx; omega)) (ed_get (n := x + 1) (ed_var rfl) (ed_add (ed_var rfl) ed_int) rfl (by have := List.mem_range.mp hx; omega))⟩) ?_).ed
      unfold bPr pricesOf
      rw [List.map_map]
      rfl
    case turn =>
      rintro i d τ1 hd' ⟨s5, s6, s7, s8, s9, s10, rfl⟩
      obtain ⟨i', hx, rfl⟩ := map_at hd'
      obtain ⟨rfl, hi⟩ := range_at hx
      obtain ⟨st, _, _⟩ := best_stand he hd i'
      obtain ⟨r1, r2⟩ := best_runs he hd i'
      have eF : (bestC e day (i' + 1)).1 = (pathC (edgs (idl i' e day (bestC e day i').1) e day (bestC e day i').1) (fellC (edgs (idl i' e day (bestC e day i').1) e day (bestC e day i').1))).foldl tog (bestC e day i').1 := rfl
      have eC : (bestC e day (i' + 1)).2 = (fellC (edgs (idl (i' + 1) e day (bestC e day (i' + 1)).1) e day (bestC e day (i' + 1)).1)).1 := rfl
      obtain ⟨st2, _, _⟩ := best_stand he hd (i' + 1)
      have to1 := r1.to
      have to2 := r2.to
      have hw := path_way r1.way
      have h25 := in25 (f := idl i' e day (bestC e day i').1) (sm := (bestC e day i').1) he hd
      rw [eC]
      generalize hsm' : (bestC e day (i' + 1)).1 = sm' at *
      generalize hsm : (bestC e day i').1 = sm at *
      generalize hs2 : fellC (edgs (idl (i' + 1) e day sm') e day sm') = s2 at *
      generalize hs1 : fellC (edgs (idl i' e day sm) e day sm) = s1 at *
      generalize pathC (edgs (idl i' e day sm) e day sm) s1 = xs0 at *
      refine ⟨[5], _, tg_name 5, ?_⟩
      refine sd_seq1 (sd_asgT (d := .tuple [dI s1.1, .list (s1.2.map dW)]) (ed_call (ea_cons (ed_var rfl) (ea2 (ed_var rfl) (el_call (ea_cons (ed_is (ed_sub (ed_var rfl) ed_int) (show _ = PyData.int (i' : Int) by congr 1; omega)) (ea_cons (ed_var rfl) (ea2 (ed_var rfl) (ed_var rfl)))) ⟨i', e, day, sm, rfl, he, hd, st.ok, rfl⟩).ed)) ⟨e, day, idlL i' e day sm, sm, s1, rfl, he, hd, by omega, idlL_len, by rw [edgs_idl]; exact to1, rfl⟩) tg2 rfl) ?_
      refine sd_seq1 (sd_asg ed_int rfl) ?_
      refine sd_seq (M := fun τ' => ∃ (s6 s7 s8 s9 s10 : Sl), τ' = [.dat (.int (k : Int)), .dat (dP e), .dat (dDay day), .dat (dI sm'), .dat (dI s1.1), .dat (.int (1 + (i' : Int))), s6, s7, s8, s9, s10])
        (sd_while (fun m τ' => ∃ (xs : List Edg) (cur : List Int) (v : Nat) (s8 s9 s10 : Sl), τ' = [.dat (.int (k : Int)), .dat (dP e), .dat (dDay day), .dat (dI cur), .dat (dI s1.1), .dat (.int (1 + (i' : Int))), .dat (.list (s1.2.map dW)), .dat (.int (v : Int)), s8, s9, s10] ∧ Pth (edgs (idl i' e day sm) e day sm) s1 v xs ∧ xs.foldl tog cur = sm' ∧ cur.Nodup ∧ okP day.length cur ∧ xs.length = m)
          ⟨xs0.length, xs0, sm, 24, _, _, _, rfl, hw, eF.symm, st.nd, st.ok, rfl⟩ ?turn2) ?rest2
      case rest2 =>
        rintro _ ⟨s6, s7, s8, s9, s10, rfl⟩
        refine sd_asgT (d := .tuple [dI s2.1, .list (s2.2.map dW)]) (ed_call (ea_cons (ed_var rfl) (ea2 (ed_var rfl) (el_call (ea_cons (ed_is (ed_var rfl) (show _ = PyData.int ((i' + 1 : Nat) : Int) by congr 1; omega)) (ea_cons (ed_var rfl) (ea2 (ed_var rfl) (ed_var rfl)))) ⟨i' + 1, e, day, sm', rfl, he, hd, st2.ok, rfl⟩).ed)) ⟨e, day, idlL (i' + 1) e day sm', sm', s2, rfl, he, hd, by omega, idlL_len, by rw [edgs_idl]; exact to2, rfl⟩) tg2 ⟨_, _, _, _, _, _, rfl⟩
      case turn2 =>
        rintro m τ2 ⟨xs, cur, v, s8, s9, s10, rfl, hp, hfold, hnd, hok, hm⟩
        refine ⟨!decide ((v : Int) = 0), et_test (ed_neT nice_int (ed_var rfl) ed_int), fun hb => ?_, fun hb => ?_⟩
        · have v0 : v ≠ 0 := by
            intro z
            rw [z] at hb
            simp at hb
          cases hp with
          | nil => exact absurd rfl v0
          | @cons x xs hxE hg _ _ hp' =>
            have hv25 := (h25 x hxE).2
            have lc := len_okP hnd hok
            refine sd_seq1 (sd_asgT (d := .tuple [.int (x.u : Int), dO x.tag]) (ed_is (ed_ixL (ed_var rfl) (ed_var rfl) (atI_map (f := dW) none (by omega) (by rw [r1.l2]; omega))) (show dW (getW s1.2 x.v) = _ by rw [hg]; rfl)) tg2 rfl) ?_
            cases ht : x.tag with
            | none =>
              refine sd_if (b := false) (et_is (et_test (ed_noN (ed_var rfl))) rfl) (fun z => by cases z) fun _ => sd_next ⟨xs.length, by rw [← hm, List.length_cons]; omega, xs, cur, x.u, _, _, _, rfl, hp', ?_, hnd, hok, rfl⟩
              rw [← hfold, List.foldl_cons]
              unfold tog
              rw [ht]
              rfl
            | some p =>
              obtain ⟨p0, p1⟩ := tag_in hxE ht
              refine sd_if (b := true) (et_is (et_test (ed_noN (ed_var rfl))) rfl) (fun _ => ?_) fun z => by cases z
              refine sd_asg (d := dI (togT cur (some p))) (ed_if (et_test (ed_in (ed_var rfl) (ed_var rfl))) (fun c => ?_) fun c => ?_) ⟨xs.length, by rw [← hm, List.length_cons]; omega, xs, togT cur (some p), x.u, _, _, _, rfl, hp', ?_, nodup_tog hnd _, tog_ok hok p0 p1, rfl⟩
              · rw [togT_some, if_pos c]
                exact (el_filt cur (fun n => .int n) (fun n => .int n) (fun q => !decide (q = p)) (js := [9]) (ei_any (ed_var rfl)) (by decide) (by omega) fun y hy => ⟨_, tg_name 9, et_test (ed_neT nice_int (ed_var rfl) (ed_var rfl)), fun _ => ed_var rfl⟩).ed
              · rw [togT_some, c, if_neg Bool.false_ne_true]
                exact ed_is (el_cat (ed_var rfl) (el_lst (ds := [.int p]) (ea1 (ed_var rfl)) (by simp)).ed (by simp; omega)).ed (by unfold dI; rw [List.map_append]; rfl)
              · rw [← hfold, List.foldl_cons]
                unfold tog
                rw [ht]
        · have v0 : v = 0 := by
            have : (v : Int) = 0 := by simpa using hb
            omega
          subst v0
          generalize hz : (0 : Nat) = z at hp
          cases hp with
          | nil => exact ⟨_, _, _, _, _, by rw [← hfold]; rfl⟩
          | cons _ _ _ ne _ => exact absurd hz.symm ne
def P_best (C : Addr) (as : List Sl) (R : Sl → Prop) : Prop := ∃ (k : Nat) (e : Int × Int) (day : List Show), as = [.dat (.int (k : Int)), .dat (dP e), .dat (dDay day)] ∧ (1 ≤ k ∧ k ≤ 3) ∧ okE e ∧ okDay day ∧ ∀ x dx p q, R (.obj x C dx [("places", p, (bPl e day k).map PyData.int), ("prices", q, (bPr e day k).map PyData.int)])
theorem ok_best (T : Txt K mg) : FnOk P w K mg base CX0 5 T.fa_best T.fd_best A_best (spF K (P_best T.C_Best)) := by
  refine T.F_best.ok sc_best (spF_len (n := 3) fun as R h => ?_) fun cdv A outer s H vs Q E hr h => ⟨_, (pss_cons (ps_expr (pe_call (ok_asked_all T) (hr.mono (by decide)) (by rfl) T.g_asked_all T.F_asked_all.kp (b_asked_all T) .nil pass0 (pa_cons (pv 0) (pa_cons (pv 1) (pa_cons (pv 2) pa_nil)))))
  (pss_cons (ps_asg (pe_call (ok_best_of T) (hr.mono (by decide)) (by rfl) T.g_best_of T.F_best_of.kp (b_best_of T) .nil pass0 (pa_cons (pv 0) (pa_cons (pv 1) (pa_cons (pv 2) pa_nil)))) (tupK (K := K) (n := 2) rfl rfl (pgs_cons (pg_name (i := 3) sc_best.nd rfl (Or.inl rfl)) (pgs_cons (pg_name (i := 4) sc_best.nd rfl (Or.inl rfl)) pgs_nil))))
  (pss_one (ps_ret (pe_make T.mk_Best (ok_Best_init T) (hr.mono (by decide)) (by rfl) T.g_Best (b_Best_init T) .nil pass0 (pa_cons (pv 3) (pa_cons (pv 4) pa_nil))))))), body_of (M := N_best) (fun as R h => ?_) vs H Q E h⟩
  · obtain ⟨_, _, _, rfl, _⟩ := h; rfl
  · obtain ⟨k, e, day, rfl, hk, he, hd, hR⟩ := h
    refine sd_seq1 (sd_drop (ed_call (ea_cons (ed_var rfl) (ea2 (ed_var rfl) (ed_var rfl))) ⟨k, e, day, rfl, by omega, he, hd, rfl⟩) rfl) ?_
    refine sd_seq1 (sd_asgT (ed_call (ea_cons (ed_var rfl) (ea2 (ed_var rfl) (ed_var rfl))) ⟨k, e, day, rfl, he, hd, by omega, rfl⟩) tg2 rfl) ?_
    exact sd_retN (en_mk2 (es_ed (ed_var rfl)) (es_ed (ed_var rfl)) hR)
def PR_best (CT CE CS : Addr) (as : List Sl) (C : Addr) : Prop := ∃ d1 d2 d3 : PyData, as = [.dat d1, .dat d2, .dat d3] ∧ PR_asked_all CT CE CS [.dat d1, .dat d2, .dat d3] C
theorem okR_best (T : Txt K mg) : FnOk P w K mg base (L2N.CX P w) 5 T.fa_best T.fd_best A_best (spR K (PR_best T.C_BadTuners T.C_BadEdges T.C_BadShows)) := by
  refine Ab.okN T.F_best sc_best (spR_len (n := 3) fun as C h => ?_) fun cdv A outer s H vs Q E hr tk h => ⟨_, (pss_cons (ps_expr (pe_alt (pe_call (ok_asked_all T) (hr.mono (by decide)) (by rfl) T.g_asked_all T.F_asked_all.kp (b_asked_all T) .nil pass0 (pa_cons (pv 0) (pa_cons (pv 1) (pa_cons (pv 2) pa_nil)))) (pe_callS (okR_asked_all T) (hr.mono (by decide)) (by rfl) T.g_asked_all T.F_asked_all.kp (b_asked_all T) (fun σ => L2N.passAt tk σ) (pa_cons (pv 0) (pa_cons (pv 1) (pa_cons (pv 2) pa_nil))))))
  Ab.pss_never), body_ofR (M := N_best) (fun as C h => ?_) vs H Q h⟩
  · obtain ⟨_, _, _, rfl, _⟩ := h; rfl
  · obtain ⟨d1, d2, d3, rfl, h1⟩ := h
    exact rd_here (rd_altR (rd_call (ea_cons (ed_var rfl) (ea2 (ed_var rfl) (ed_var rfl))) h1))
def P_most (as : List Sl) (R : Sl → Prop) : Prop := ∃ (k : Nat) (e : Int × Int) (day : List Show), as = [.dat (.int (k : Int)), .dat (dP e), .dat (dDay day)] ∧ (1 ≤ k ∧ k ≤ 3) ∧ okE e ∧ okDay day ∧ R (.dat (.int (mostC e day k)))
theorem ok_most (T : Txt K mg) : FnOk P w K mg base CX0 5 T.fa_most T.fd_most A_most (spF K P_most) := by
  refine T.F_most.ok sc_most (spF_len (n := 3) fun as R h => ?_) fun cdv A outer s H vs Q E hr h => ⟨_, (pss_cons (ps_expr (pe_call (ok_asked_all T) (hr.mono (by decide)) (by rfl) T.g_asked_all T.F_asked_all.kp (b_asked_all T) .nil pass0 (pa_cons (pv 0) (pa_cons (pv 1) (pa_cons (pv 2) pa_nil)))))
  (pss_one (ps_ret (pe_callB (sumK (K := K) rfl rfl) (by rfl) T.n_sum (by decide +kernel) (pa_cons (pe_lc (own := [("place", 3)]) (by rfl) sc_most.nd (seqK (K := K) rfl (pe_ix (ixK (K := K) rfl) (pe_call (ok_best_of T) (hr.mono (by decide)) (by rfl) T.g_best_of T.F_best_of.kp (b_best_of T) .nil pass0 (pa_cons (pv 0) (pa_cons (pv 1) (pa_cons (pv 2) pa_nil)))) pe_int (fun _ _ => rfl))) (blkOk_by (own := [("place", 3)]) (N := N_most) (sc := defScope s_most) (by decide +kernel)) (fun _ _ _ _ _ => (pg_name (i := 3) sc_most.nd rfl (Or.inl rfl))) (fun _ _ _ _ _ => pts_nil) (fun _ _ _ _ _ => (pe_ix (ixK (K := K) rfl) (pe_ix (ixK (K := K) rfl) (pv 2) (pv 3) (fun _ _ => rfl)) pe_int (fun _ _ => rfl)))) pa_nil))))), body_of (M := N_most) (fun as R h => ?_) vs H Q E h⟩
  · obtain ⟨_, _, _, rfl, _⟩ := h; rfl
  · obtain ⟨k, e, day, rfl, hk, he, hd, hR⟩ := h
    refine sd_seq1 (sd_drop (ed_call (ea_cons (ed_var rfl) (ea2 (ed_var rfl) (ed_var rfl))) ⟨k, e, day, rfl, by omega, he, hd, rfl⟩) rfl) ?_
    obtain ⟨⟨ok, _⟩, _⟩ := bpl_ok he hd.2 k
    have hl := okR_len (bpl_ok he hd.2 k).1
    have hd1 := hd.1
    refine sd_ret (ed_is (ed_sum (ns := (bPl e day k).map fun p => (shAt day p).2.2) (ed_is (el_map (bPl e day k) (fun p => .int p) (fun p => .int (shAt day p).2.2) (js := [3]) (ei_any (ed_ixT (d := dI (bPl e day k)) (ed_call (ea_cons (ed_var rfl) (ea2 (ed_var rfl) (ed_var rfl))) ⟨k, e, day, rfl, he, hd, by omega, rfl⟩) ed_int rfl)) (by decide) (by omega) fun p hp => ⟨_, tg_name 3, ed_s2 (ed_day (ed_var rfl) (ed_var rfl) (ok p hp).1 (ok p hp).2)⟩).ed (by rw [List.map_map]; rfl))) rfl) hR
def PR_most (CT CE CS : Addr) (as : List Sl) (C : Addr) : Prop := ∃ d1 d2 d3 : PyData, as = [.dat d1, .dat d2, .dat d3] ∧ PR_asked_all CT CE CS [.dat d1, .dat d2, .dat d3] C
theorem okR_most (T : Txt K mg) : FnOk P w K mg base (L2N.CX P w) 5 T.fa_most T.fd_most A_most (spR K (PR_most T.C_BadTuners T.C_BadEdges T.C_BadShows)) := by
  refine Ab.okN T.F_most sc_most (spR_len (n := 3) fun as C h => ?_) fun cdv A outer s H vs Q E hr tk h => ⟨_, (pss_cons (ps_expr (pe_alt (pe_call (ok_asked_all T) (hr.mono (by decide)) (by rfl) T.g_asked_all T.F_asked_all.kp (b_asked_all T) .nil pass0 (pa_cons (pv 0) (pa_cons (pv 1) (pa_cons (pv 2) pa_nil)))) (pe_callS (okR_asked_all T) (hr.mono (by decide)) (by rfl) T.g_asked_all T.F_asked_all.kp (b_asked_all T) (fun σ => L2N.passAt tk σ) (pa_cons (pv 0) (pa_cons (pv 1) (pa_cons (pv 2) pa_nil))))))
  Ab.pss_never), body_ofR (M := N_most) (fun as C h => ?_) vs H Q h⟩
  · obtain ⟨_, _, _, rfl, _⟩ := h; rfl
  · obtain ⟨d1, d2, d3, rfl, h1⟩ := h
    exact rd_here (rd_altR (rd_call (ea_cons (ed_var rfl) (ea2 (ed_var rfl) (ed_var rfl))) h1))
def nine (T : Txt K mg) : List Addr := [T.C_BadShows, T.C_BadEdges, T.C_BadTuners, T.C_BadPlaces, T.C_BadWishes, T.C_BadMove, T.C_BadLaying, T.C_TooMany, T.C_Crowded]
/-- what is known of a class by which is refused -/
def IsDue (T : Txt K mg) (C : Addr) (due : Int) : Prop := PySem.W.exmOne K (.ref C) (.ref T.C_AheadError) = some true ∧ ExcC K C ∧ PySem.W.kitOne K (.ref C) (.type "ValueError") = some true ∧ ∀ (i : Nat) (y : Addr), (nine T)[i]? = some y → PySem.W.kitOne K (.ref C) (.ref y) = some (decide ((i : Int) = due))
theorem ok__law_refused (T : Txt K mg) (k : Nat) (hk : k ≤ 40) : FnOkS P w K mg base L2.CX0 (k + 1) T.fa__law_refused T.fd__law_refused A__law_refused (spAsk P w K mg base k (IsDue T)) := by
  refine okS T.F__law_refused sc__law_refused (fun o s vs H Q E h => ?_) fun cdv A outer s H vs Q E hr h => ?_
  · obtain ⟨f, v, due, C, G, dv, rfl, _⟩ := h; rfl
  obtain ⟨f, v, due, C, G, dv, rfl, ex, hv, hR, hI, hQ⟩ := h
  obtain ⟨em, ec, iv, ie⟩ := hI
  refine ⟨_, (pss_cons (L2N.ps_try_as (i := 3) rfl rfl sc__law_refused.nd rfl rfl ⟨by rfl, by decide, .inl T.g_AheadError⟩ takesF (fun W pn xe tk hp => pss_one (ps_expr (pe_ask (i := 0) (j := 1) hR rfl hr tk rfl (Or.inl rfl) rfl (Or.inl rfl)))) (fun a oe cls d pn hz hf => pss_cls (K := K) (cls := cls) (d := d) fun D e1 e2 ec => (pss_cons (ps_set (i := 4) sc__law_refused.nd rfl (Or.inl rfl) (pe_lst (pa_cons (pe_callB (call_isE ec (zc_of hz e1 e2) hf) (by rfl) T.n_isinstance (by decide +kernel) (pa_cons (pv 3) (pa_cons (pe_glob (v := .ref T.C_BadShows) (by rfl) T.g_BadShows rfl) pa_nil))) (pa_cons (pe_callB (call_isE ec (zc_of hz e1 e2) hf) (by rfl) T.n_isinstance (by decide +kernel) (pa_cons (pv 3) (pa_cons (pe_glob (v := .ref T.C_BadEdges) (by rfl) T.g_BadEdges rfl) pa_nil))) (pa_cons (pe_callB (call_isE ec (zc_of hz e1 e2) hf) (by rfl) T.n_isinstance (by decide +kernel) (pa_cons (pv 3) (pa_cons (pe_glob (v := .ref T.C_BadTuners) (by rfl) T.g_BadTuners rfl) pa_nil))) pa_nil)))))
  (pss_cons (ps_set (i := 4) sc__law_refused.nd rfl (Or.inl rfl) (pe_op op_addA (pv 4) (pe_lst (pa_cons (pe_callB (call_isE ec (zc_of hz e1 e2) hf) (by rfl) T.n_isinstance (by decide +kernel) (pa_cons (pv 3) (pa_cons (pe_glob (v := .ref T.C_BadPlaces) (by rfl) T.g_BadPlaces rfl) pa_nil))) (pa_cons (pe_callB (call_isE ec (zc_of hz e1 e2) hf) (by rfl) T.n_isinstance (by decide +kernel) (pa_cons (pv 3) (pa_cons (pe_glob (v := .ref T.C_BadWishes) (by rfl) T.g_BadWishes rfl) pa_nil))) (pa_cons (pe_callB (call_isE ec (zc_of hz e1 e2) hf) (by rfl) T.n_isinstance (by decide +kernel) (pa_cons (pv 3) (pa_cons (pe_glob (v := .ref T.C_BadMove) (by rfl) T.g_BadMove rfl) pa_nil))) pa_nil))))))
  (pss_cons (ps_set (i := 4) sc__law_refused.nd rfl (Or.inl rfl) (pe_op op_addA (pv 4) (pe_lst (pa_cons (pe_callB (call_isE ec (zc_of hz e1 e2) hf) (by rfl) T.n_isinstance (by decide +kernel) (pa_cons (pv 3) (pa_cons (pe_glob (v := .ref T.C_BadLaying) (by rfl) T.g_BadLaying rfl) pa_nil))) (pa_cons (pe_callB (call_isE ec (zc_of hz e1 e2) hf) (by rfl) T.n_isinstance (by decide +kernel) (pa_cons (pv 3) (pa_cons (pe_glob (v := .ref T.C_TooMany) (by rfl) T.g_TooMany rfl) pa_nil))) (pa_cons (pe_callB (call_isE ec (zc_of hz e1 e2) hf) (by rfl) T.n_isinstance (by decide +kernel) (pa_cons (pv 3) (pa_cons (pe_glob (v := .ref T.C_Crowded) (by rfl) T.g_Crowded rfl) pa_nil))) pa_nil))))))
  (pss_one (ps_ret (pe_and (pe_cmpR (eqU (K := K) hr.units rfl) (pv 4) (pe_lcH (own := [("_law_kind", 5)]) (hot_suite hz hf) sc__law_refused.nd (L2H.pi_range1H (by rfl) T.n_range (pa_cons pe_int pa_nil)) (blkOk_by (own := [("_law_kind", 5)]) (N := N__law_refused) (sc := defScope s__law_refused) (by decide +kernel)) (fun _ _ _ _ _ => (pg_name (i := 5) sc__law_refused.nd rfl (Or.inl rfl))) (fun _ _ _ _ _ => (pe_cmpR (eqU (K := K) hr.units rfl) (pv 5) (pv 2) (nomark _)))) (nomark _)) (pe_one (pe_callB (call_isE ec (zc_of hz e1 e2) hf) (by rfl) T.n_isinstance (by decide +kernel) (pa_cons (pv 3) (pa_cons (pe_bltn (v := .ty "ValueError") (by rfl) T.n_ValueError (by decide +kernel) rfl) pa_nil))))))))))))
  (pss_one (ps_ret pe_bl))), ?_⟩
  have r0 := rel_start (K := K) (M := N__law_refused) (vs := [.ref f, v, .int due]) (as := [.unk, .dat dv, .dat (.int due)]) ex (.cons trivial (.cons hv (.cons (.int due) .nil)))
  refine ⟨rfl, rfl, ex, fun H' x => ⟨true, em, fun _ a na => ⟨C, rfl, rfl, ec, ?_⟩, fun z => nomatch z⟩⟩
  have r1 : Rel K G H G H' ((start N__law_refused [.ref f, v, .int due]).set 3 (some (.ref a))) ((startS N__law_refused [.unk, .dat dv, .dat (.int due)]).set 3 (.at_ a)) := (r0.step (Ext.grow ex x)).setX 3 (s := .at_ a) rfl fun p o => o.elim
  refine (?sd : SD K _ ((startS N__law_refused [.unk, .dat dv, .dat (.int due)]).set 3 (.at_ a)) (fun _ => False) (· = .dat (.bool true))) G H G H' _ r1 _ (fun _ _ _ _ z => z.elim) fun s v' G' H'' hs e rt => ?fin
  case fin =>
    subst hs
    have := Dt.bl_of (show Dt G' v' (.bool true) from rt)
    subst this
    exact hQ H'' e.hh
  let b : Nat → Bool := fun i => decide ((i : Int) = due)
  refine sd_seq1 (sd_asg (d := .list [.bool (b 0), .bool (b 1), .bool (b 2)]) (el_lst (ds := [_, _, _]) (ea_cons (ed_isE rfl (ie 0 _ rfl)) (ea2 (ed_isE rfl (ie 1 _ rfl)) (ed_isE rfl (ie 2 _ rfl)))) (by simp)).ed rfl) ?_
  refine sd_seq1 (sd_asg (d := .list [.bool (b 0), .bool (b 1), .bool (b 2), .bool (b 3), .bool (b 4), .bool (b 5)]) (el_cat (ds := [_, _, _]) (es := [_, _, _]) (ed_var rfl) (el_lst (ds := [_, _, _]) (ea_cons (ed_isE rfl (ie 3 _ rfl)) (ea2 (ed_isE rfl (ie 4 _ rfl)) (ed_isE rfl (ie 5 _ rfl)))) (by simp)).ed (by simp)).ed rfl) ?_
  refine sd_seq1 (sd_asg (d := .list [.bool (b 0), .bool (b 1), .bool (b 2), .bool (b 3), .bool (b 4), .bool (b 5), .bool (b 6), .bool (b 7), .bool (b 8)]) (el_cat (ds := [_, _, _, _, _, _]) (es := [_, _, _]) (ed_var rfl) (el_lst (ds := [_, _, _]) (ea_cons (ed_isE rfl (ie 6 _ rfl)) (ea2 (ed_isE rfl (ie 7 _ rfl)) (ed_isE rfl (ie 8 _ rfl)))) (by simp)).ed (by simp)).ed rfl) ?_
  refine sd_ret (ed_is (ed_andV (ed_eqT nice_dB (a := [b 0, b 1, b 2, b 3, b 4, b 5, b 6, b 7, b 8]) (b := (List.range 9).map b) (ed_var rfl) (ed_is (el_map (List.range 9) (fun (i : Nat) => .int (i : Int)) (fun (i : Nat) => .bool (b i)) (js := [5]) (ei_rngI (m := 9) (ea1 ed_int) (by decide)) (by decide) (by simp) fun i _ => ⟨_, tg_name 5, ed_eqT nice_int (ed_var rfl) (ed_var rfl)⟩).ed (by unfold dB; rw [List.map_map]; rfl))) fun _ => ed_isET rfl iv) ?_) rfl
  have : [b 0, b 1, b 2, b 3, b 4, b 5, b 6, b 7, b 8] = (List.range 9).map b := rfl
  rw [decide_eq_true this]
  rfl

theorem ok__law_each (T : Txt K mg) : FnOkS P w K mg base L2.CX0 15 T.fa__law_each T.fd__law_each A__law_each (spEach P w K mg base 13 (IsDue T)) := by
  refine okS T.F__law_each sc__law_each (fun o s vs H Q E h => ?_) fun cdv A outer s H vs Q E hr h => ?_
  · obtain ⟨G, asks, things, due, _, ha, _⟩ := h; rw [ha.len]; rfl
  obtain ⟨G, asks, things, due, ex, ha, l1, l2, he, hQ⟩ := h
  refine ⟨_, (pss_cons (ps_for PassesOwn.never rfl (seqK (K := K) rfl (pv 0)) (pg_name (i := 3) sc__law_each.nd rfl (Or.inr rfl)) (pss_one (ps_if (pt_not (pt_val (pe_callB (allK (K := K) rfl rfl) (by rfl) T.n_all (by decide +kernel) (pa_cons (pe_lcG (own := [("_law_thing", 4)]) (Cd := Calm) (fun _ _ _ _ => rfl) (one_at rfl) sc__law_each.nd (pic_calm (seqK (K := K) rfl (pv 1))) (blkOk_by (own := [("_law_thing", 4)]) (N := N__law_each) (sc := defScope s__law_each) (by decide +kernel)) (fun _ _ _ _ _ => (pg_name (i := 4) sc__law_each.nd rfl (Or.inl rfl))) (fun _ _ _ _ _ _ _ => pts_nil) (fun σ0 s1 H1 C cl fp fa => (pe_callM (ok__law_refused T 13 (by decide)) (hr.mono (by decide)) (by rfl) T.g__law_refused T.F__law_refused.kp (b__law_refused T) (one_conv fa) (pa_cons (pv 3) (pa_cons (pv 4) (pa_cons (pv 2) pa_nil)))))) pa_nil)))) (pss_one (ps_ret pe_bl)) pss_nil)))
  (pss_one (ps_ret pe_bl))), ?_⟩
  have r0 := rel_start (K := K) (M := N__law_each) ex ha
  refine (?sd : SD K _ (startS N__law_each [.dat (.list asks), .dat (.list things), .dat (.int due)]) (fun _ => False) (· = .dat (.bool true))) G H G H _ r0 _ (fun _ _ _ _ z => z.elim) fun s v' G' H'' hs e rt => ?fin
  case fin =>
    subst hs
    have := Dt.bl_of (show Dt G' v' (.bool true) from rt)
    subst this
    exact hQ H'' e.hh
  refine sd_seq (M := fun τ' => ∃ s3 : Sl, τ' = [.dat (.list asks), .dat (.list things), .dat (.int due), s3, .unk]) (sd_for (its := asks) (fun _ τ' => ∃ s3 : Sl, τ' = [.dat (.list asks), .dat (.list things), .dat (.int due), s3, .unk]) (ei_any (ed_var rfl)) ⟨_, rfl⟩ ?turn fun τ1 h => h) ?rest
  case rest =>
    rintro _ ⟨s3, rfl⟩
    exact sd_ret ed_bl rfl
  case turn =>
    rintro i a τ1 ha' ⟨s3, rfl⟩
    have ham : a ∈ asks := List.mem_of_getElem? ha'
    refine ⟨[3], _, tg_name 3, ?_⟩
    refine sd_if (b := false) (et_is (et_not (et_B (ed_allF things (fun _ => true) (el_map things id (fun _ => .bool true) (js := [4]) (ei_is (ei_any (ed_var rfl)) (by simp)) (by simp) (by omega) fun t ht => ⟨_, tg_name 4, ed_one (ed_var rfl) (ed_var rfl) (ed_var rfl) (he a ham t ht)⟩)))) (by simp)) (fun e => by cases e) fun _ => sd_next ⟨_, rfl⟩

def noNums (more : Int) : List PyData := [.none, .str "1", .bool true, .bool false, .list [.int 1], .tuple [.int 1], .dict [], .int (-1), .int (-1 - more)]
def P__law_no_numbers (as : List Sl) (R : Sl → Prop) : Prop := ∃ more : Int, as = [.dat (.int more)] ∧ R (.own (noNums more))
theorem ok__law_no_numbers (T : Txt K mg) : FnOk P w K mg base CX0 1 T.fa__law_no_numbers T.fd__law_no_numbers A__law_no_numbers (spF K P__law_no_numbers) := by
  refine T.F__law_no_numbers.ok sc__law_no_numbers (spF_len (n := 1) fun as R h => ?_) fun cdv A outer s H vs Q E hr h => ⟨_, (pss_one (ps_ret (pe_lst (pa_cons pe_non (pa_cons pe_str (pa_cons pe_bl (pa_cons pe_bl (pa_cons (pe_lst (pa_cons pe_int pa_nil)) (pa_cons (pe_tup (pa_cons pe_int pa_nil)) (pa_cons pe_dnewK (pa_cons (pe_un un_neg pe_int) (pa_cons (pe_op op_sub (pe_un un_neg pe_int) (pv 0)) pa_nil)))))))))))), body_of (M := N__law_no_numbers) (fun as R h => ?_) vs H Q E h⟩
  · obtain ⟨_, rfl, _⟩ := h; rfl
  · obtain ⟨more, rfl, hR⟩ := h
    exact sd_retL (el_lst (ds := noNums more) (ea_cons ed_non (ea_cons ed_str (ea_cons ed_bl (ea_cons ed_bl (ea_cons (el_lst (ds := [.int 1]) (ea1 ed_int) (by simp)).ed (ea_cons (ed_tup (ds := [.int 1]) (ea1 ed_int) (by simp)) (ea_cons ed_dct (ea2 (ed_neg ed_int) (ed_sub (ed_neg ed_int) (ed_var rfl)))))))))) (by simp [noNums])) hR
def noPls0 (more : Int) : List PyData := [.none, .int 5, .str "01", .tuple [], .tuple [.int 0, .int 1], .dict [], .list [.int 1, .int 0], .list [.int 1, .int 1], .list [.int 3], .list [.int 0, .int (3 + more)]]
def noPls (more : Int) : List PyData := noPls0 more ++ (noNums more).flatMap fun o => [.list [o], .list [.int 0, o]]
theorem flat_take {f : PyData → List PyData} {l : List PyData} {i : Nat} {d : PyData} (h : l[i]? = some d) : (l.take (i + 1)).flatMap f = (l.take i).flatMap f ++ f d := by
  rw [List.take_add_one, h, List.flatMap_append]
  simp
theorem flat_len {f : PyData → List PyData} {n : Nat} (hf : ∀ d, (f d).length ≤ n) : ∀ l : List PyData, (l.flatMap f).length ≤ n * l.length
  | [] => by simp
  | d :: l => by
    rw [List.flatMap_cons, List.length_append, List.length_cons, Nat.mul_succ]
    have h1 := hf d
    have h2 := flat_len hf l
    omega
def P__law_no_places (as : List Sl) (R : Sl → Prop) : Prop := ∃ more : Int, as = [.dat (.int more)] ∧ R (.own (noPls more))
theorem ok__law_no_places (T : Txt K mg) : FnOk P w K mg base CX0 2 T.fa__law_no_places T.fd__law_no_places A__law_no_places (spF K P__law_no_places) := by
  refine T.F__law_no_places.ok sc__law_no_places (spF_len (n := 1) fun as R h => ?_) fun cdv A outer s H vs Q E hr h => ⟨_, (pss_cons (ps_set (i := 1) sc__law_no_places.nd rfl (Or.inl rfl) (pe_lst (pa_cons pe_non (pa_cons pe_int (pa_cons pe_str (pa_cons (pe_tup pa_nil) (pa_cons (pe_tup (pa_cons pe_int (pa_cons pe_int pa_nil))) (pa_cons pe_dnewK (pa_cons (pe_lst (pa_cons pe_int (pa_cons pe_int pa_nil))) (pa_cons (pe_lst (pa_cons pe_int (pa_cons pe_int pa_nil))) (pa_cons (pe_lst (pa_cons pe_int pa_nil)) (pa_cons (pe_lst (pa_cons pe_int (pa_cons (pe_op op_addA pe_int (pv 0)) pa_nil))) pa_nil))))))))))))
  (pss_cons (ps_for PassesOwn.never rfl (seqK (K := K) rfl (pe_call (ok__law_no_numbers T) (hr.mono (by decide)) (by rfl) T.g__law_no_numbers T.F__law_no_numbers.kp (b__law_no_numbers T) .nil pass0 (pa_cons (pv 0) pa_nil))) (pg_name (i := 2) sc__law_no_places.nd rfl (Or.inl rfl)) (pss_one (ps_expr (bmK (K := K) rfl PySem.F.plainAttrs_list PySem.F.slot_list_extend PySem.F.type_list_extend mt_extend (pv 1) (pa_cons (pe_lst (pa_cons (pe_lst (pa_cons (pv 2) pa_nil)) (pa_cons (pe_lst (pa_cons pe_int (pa_cons (pv 2) pa_nil))) pa_nil))) pa_nil)))))
  (pss_one (ps_ret (pv 1))))), body_of (M := N__law_no_places) (fun as R h => ?_) vs H Q E h⟩
  · obtain ⟨_, rfl, _⟩ := h; rfl
  · obtain ⟨more, rfl, hR⟩ := h
    refine sd_seq1 (sd_asgL (el_lst (ds := noPls0 more) (ea_cons ed_non (ea_cons ed_int (ea_cons ed_str (ea_cons (ed_tup (ds := []) ea_nil (by simp)) (ea_cons (ed_tup (ds := [.int 0, .int 1]) (ea2 ed_int ed_int) (by simp)) (ea_cons ed_dct (ea_cons (el_lst (ds := [.int 1, .int 0]) (ea2 ed_int ed_int) (by simp)).ed (ea_cons (el_lst (ds := [.int 1, .int 1]) (ea2 ed_int ed_int) (by simp)).ed (ea2 (el_lst (ds := [.int 3]) (ea1 ed_int) (by simp)).ed (el_lst (ds := [.int 0, .int (3 + more)]) (ea2 ed_int (ed_add ed_int (ed_var rfl))) (by simp)).ed))))))))) (by simp [noPls0])) rfl) ?_
    refine sd_seq (M := fun τ' => ∃ s2 : Sl, τ' = [.dat (.int more), .own (noPls more), s2]) (sd_for (its := noNums more) (fun i τ' => ∃ s2 : Sl, τ' = [.dat (.int more), .own (noPls0 more ++ ((noNums more).take i).flatMap fun o => [.list [o], .list [.int 0, o]]), s2]) (ei_any (el_call (ea1 (ed_var rfl)) ⟨more, rfl, rfl⟩).ed) ⟨_, by simp; rfl⟩ ?turn ?out) ?rest
    case rest =>
      rintro _ ⟨s2, rfl⟩
      exact sd_retO (i := 1) rfl hR
    case out =>
      rintro τ1 ⟨s2, rfl⟩
      exact ⟨s2, by rw [List.take_of_length_le (Nat.le_refl _)]; rfl⟩
    case turn =>
      rintro i d τ1 hd' ⟨s2, rfl⟩
      have hi : i < 9 := (List.getElem?_eq_some_iff.mp hd').1
      refine ⟨[2], _, tg_name 2, sd_extend (i := 1) (es := [.list [d], .list [.int 0, d]]) rfl (el_lst (ds := [.list [d], .list [.int 0, d]]) (ea2 (el_lst (ds := [d]) (ea1 (ed_var rfl)) (by simp)).ed (el_lst (ds := [.int 0, d]) (ea2 ed_int (ed_var rfl)) (by simp)).ed) (by simp)).ed ?len ⟨.dat d, ?eq⟩⟩
      case eq =>
        rw [flat_take hd', ← List.append_assoc]
        rfl
      case len =>
        have h1 : (((noNums more).take i).flatMap fun o => [PyData.list [o], .list [.int 0, o]]).length ≤ 2 * 9 := by
          refine Nat.le_trans (flat_len (n := 2) (fun d => by simp) _) ?_
          rw [List.length_take]
          simp only [noNums, List.length_cons, List.length_nil]
          omega
        rw [List.length_append]
        simp only [noPls0, List.length_cons, List.length_nil]
        omega
theorem dueOf (T : Txt K mg) (C : Addr) (due : Int) (h1 : PySem.W.exmOne K (.ref C) (.ref T.C_AheadError) = some true) (h2 : ExcC K C) (h3 : PySem.W.kitOne K (.ref C) (.type "ValueError") = some true) (h4 : ∀ i : Nat, i < 9 → PySem.W.kitOne K (.ref C) (.ref ((nine T).getD i 0)) = some (decide ((i : Int) = due))) : IsDue T C due := ⟨h1, h2, h3, fun i y h => by
  have hi : i < 9 := (List.getElem?_eq_some_iff.mp h).1
  have h5 := h4 i hi
  rw [List.getD_eq_getElem?_getD, h] at h5
  exact h5⟩
theorem due_BadShows (T : Txt K mg) : IsDue T T.C_BadShows 0 := dueOf T _ _ T.em_BadShows_AheadError T.ec_BadShows T.iv_BadShows fun i hi => match i, hi with
  | 0, _ => T.ie_BadShows_BadShows | 1, _ => T.ie_BadShows_BadEdges | 2, _ => T.ie_BadShows_BadTuners | 3, _ => T.ie_BadShows_BadPlaces | 4, _ => T.ie_BadShows_BadWishes | 5, _ => T.ie_BadShows_BadMove | 6, _ => T.ie_BadShows_BadLaying | 7, _ => T.ie_BadShows_TooMany | 8, _ => T.ie_BadShows_Crowded | n + 9, h => absurd h (by omega)
theorem due_BadEdges (T : Txt K mg) : IsDue T T.C_BadEdges 1 := dueOf T _ _ T.em_BadEdges_AheadError T.ec_BadEdges T.iv_BadEdges fun i hi => match i, hi with
  | 0, _ => T.ie_BadEdges_BadShows | 1, _ => T.ie_BadEdges_BadEdges | 2, _ => T.ie_BadEdges_BadTuners | 3, _ => T.ie_BadEdges_BadPlaces | 4, _ => T.ie_BadEdges_BadWishes | 5, _ => T.ie_BadEdges_BadMove | 6, _ => T.ie_BadEdges_BadLaying | 7, _ => T.ie_BadEdges_TooMany | 8, _ => T.ie_BadEdges_Crowded | n + 9, h => absurd h (by omega)
theorem due_BadTuners (T : Txt K mg) : IsDue T T.C_BadTuners 2 := dueOf T _ _ T.em_BadTuners_AheadError T.ec_BadTuners T.iv_BadTuners fun i hi => match i, hi with
  | 0, _ => T.ie_BadTuners_BadShows | 1, _ => T.ie_BadTuners_BadEdges | 2, _ => T.ie_BadTuners_BadTuners | 3, _ => T.ie_BadTuners_BadPlaces | 4, _ => T.ie_BadTuners_BadWishes | 5, _ => T.ie_BadTuners_BadMove | 6, _ => T.ie_BadTuners_BadLaying | 7, _ => T.ie_BadTuners_TooMany | 8, _ => T.ie_BadTuners_Crowded | n + 9, h => absurd h (by omega)
theorem due_BadPlaces (T : Txt K mg) : IsDue T T.C_BadPlaces 3 := dueOf T _ _ T.em_BadPlaces_AheadError T.ec_BadPlaces T.iv_BadPlaces fun i hi => match i, hi with
  | 0, _ => T.ie_BadPlaces_BadShows | 1, _ => T.ie_BadPlaces_BadEdges | 2, _ => T.ie_BadPlaces_BadTuners | 3, _ => T.ie_BadPlaces_BadPlaces | 4, _ => T.ie_BadPlaces_BadWishes | 5, _ => T.ie_BadPlaces_BadMove | 6, _ => T.ie_BadPlaces_BadLaying | 7, _ => T.ie_BadPlaces_TooMany | 8, _ => T.ie_BadPlaces_Crowded | n + 9, h => absurd h (by omega)
theorem due_BadWishes (T : Txt K mg) : IsDue T T.C_BadWishes 4 := dueOf T _ _ T.em_BadWishes_AheadError T.ec_BadWishes T.iv_BadWishes fun i hi => match i, hi with
  | 0, _ => T.ie_BadWishes_BadShows | 1, _ => T.ie_BadWishes_BadEdges | 2, _ => T.ie_BadWishes_BadTuners | 3, _ => T.ie_BadWishes_BadPlaces | 4, _ => T.ie_BadWishes_BadWishes | 5, _ => T.ie_BadWishes_BadMove | 6, _ => T.ie_BadWishes_BadLaying | 7, _ => T.ie_BadWishes_TooMany | 8, _ => T.ie_BadWishes_Crowded | n + 9, h => absurd h (by omega)
theorem due_BadMove (T : Txt K mg) : IsDue T T.C_BadMove 5 := dueOf T _ _ T.em_BadMove_AheadError T.ec_BadMove T.iv_BadMove fun i hi => match i, hi with
  | 0, _ => T.ie_BadMove_BadShows | 1, _ => T.ie_BadMove_BadEdges | 2, _ => T.ie_BadMove_BadTuners | 3, _ => T.ie_BadMove_BadPlaces | 4, _ => T.ie_BadMove_BadWishes | 5, _ => T.ie_BadMove_BadMove | 6, _ => T.ie_BadMove_BadLaying | 7, _ => T.ie_BadMove_TooMany | 8, _ => T.ie_BadMove_Crowded | n + 9, h => absurd h (by omega)
theorem due_BadLaying (T : Txt K mg) : IsDue T T.C_BadLaying 6 := dueOf T _ _ T.em_BadLaying_AheadError T.ec_BadLaying T.iv_BadLaying fun i hi => match i, hi with
  | 0, _ => T.ie_BadLaying_BadShows | 1, _ => T.ie_BadLaying_BadEdges | 2, _ => T.ie_BadLaying_BadTuners | 3, _ => T.ie_BadLaying_BadPlaces | 4, _ => T.ie_BadLaying_BadWishes | 5, _ => T.ie_BadLaying_BadMove | 6, _ => T.ie_BadLaying_BadLaying | 7, _ => T.ie_BadLaying_TooMany | 8, _ => T.ie_BadLaying_Crowded | n + 9, h => absurd h (by omega)
theorem due_TooMany (T : Txt K mg) : IsDue T T.C_TooMany 7 := dueOf T _ _ T.em_TooMany_AheadError T.ec_TooMany T.iv_TooMany fun i hi => match i, hi with
  | 0, _ => T.ie_TooMany_BadShows | 1, _ => T.ie_TooMany_BadEdges | 2, _ => T.ie_TooMany_BadTuners | 3, _ => T.ie_TooMany_BadPlaces | 4, _ => T.ie_TooMany_BadWishes | 5, _ => T.ie_TooMany_BadMove | 6, _ => T.ie_TooMany_BadLaying | 7, _ => T.ie_TooMany_TooMany | 8, _ => T.ie_TooMany_Crowded | n + 9, h => absurd h (by omega)
theorem due_Crowded (T : Txt K mg) : IsDue T T.C_Crowded 8 := dueOf T _ _ T.em_Crowded_AheadError T.ec_Crowded T.iv_Crowded fun i hi => match i, hi with
  | 0, _ => T.ie_Crowded_BadShows | 1, _ => T.ie_Crowded_BadEdges | 2, _ => T.ie_Crowded_BadTuners | 3, _ => T.ie_Crowded_BadPlaces | 4, _ => T.ie_Crowded_BadWishes | 5, _ => T.ie_Crowded_BadMove | 6, _ => T.ie_Crowded_BadLaying | 7, _ => T.ie_Crowded_TooMany | 8, _ => T.ie_Crowded_Crowded | n + 9, h => absurd h (by omega)
theorem allT (T : Txt K mg) {d1 d2 d3 : PyData} (h1 : notD d1 = true) (h2 : tunOk d1 = false) : PR_asked_all T.C_BadTuners T.C_BadEdges T.C_BadShows [.dat d1, .dat d2, .dat d3] T.C_BadTuners := ⟨_, _, _, rfl, .inl ⟨_, rfl, rfl, h1, h2⟩⟩
theorem allE (T : Txt K mg) {m : Int} {d2 d3 : PyData} (hm : 1 ≤ m ∧ m ≤ 3) (h1 : layD d2 = true) (h2 : edOk d2 = false) : PR_asked_all T.C_BadTuners T.C_BadEdges T.C_BadShows [.dat (.int m), .dat d2, .dat d3] T.C_BadEdges := ⟨_, _, _, rfl, .inr (.inl ⟨m, rfl, hm, _, rfl, rfl, h1, h2⟩)⟩
theorem allS (T : Txt K mg) {m : Int} {e : Int × Int} {d3 : PyData} (hm : 1 ≤ m ∧ m ≤ 3) (he : okE e) (h1 : layD d3 = true) (h2 : shOk d3 = false) : PR_asked_all T.C_BadTuners T.C_BadEdges T.C_BadShows [.dat (.int m), .dat (dP e), .dat d3] T.C_BadShows := ⟨_, _, _, rfl, .inr (.inr ⟨m, e, rfl, hm, rfl, he, _, rfl, rfl, h1, h2⟩)⟩
def badTun (more : Int) : List PyData := noNums more ++ [.int 0, .int 4, .int (4 + more)]
theorem badTun_is {more : Int} (hm : 0 ≤ more) : ∀ t ∈ badTun more, notD t = true ∧ tunOk t = false := fun t ht => by
  simp only [badTun, noNums, List.cons_append, List.nil_append, List.mem_cons, List.not_mem_nil, or_false] at ht
  rcases ht with rfl | rfl | rfl | rfl | rfl | rfl | rfl | rfl | rfl | rfl | rfl | rfl <;> refine ⟨rfl, ?_⟩ <;> first | rfl | exact decide_eq_false (by omega)
def badEd0 (more : Int) : List PyData := [.none, .int 5, .str "12", .list [.int 0, .int 1], .tuple [], .tuple [.int 1], .tuple [.int 0, .int 1, .int 2], .dict [], .tuple [.int 3, .int 0], .tuple [.int 0, .int (3 + more)]]
def fEd (o : PyData) : List PyData := [.tuple [o, .int 0], .tuple [.int 1, o]]
def badEd (more : Int) : List PyData := badEd0 more ++ (noNums more).flatMap fEd
/-- what is no number from 0 on -/
theorem noNum_is {more : Int} (hm : 0 ≤ more) : ∀ o ∈ noNums more, layD o = true ∧ (isWh o && decide (0 ≤ toI o)) = false := fun t ht => by
  simp only [noNums, List.mem_cons, List.not_mem_nil, or_false] at ht
  rcases ht with rfl | rfl | rfl | rfl | rfl | rfl | rfl | rfl | rfl <;> refine ⟨rfl, ?_⟩ <;> first | rfl | (show (true && decide _) = false; rw [Bool.true_and]; exact decide_eq_false (by simp [toI]; omega))
theorem edIn_no {o : PyData} (h : (isWh o && decide (0 ≤ toI o)) = false) : edIn o = false := by
  unfold edIn
  cases hw : isWh o with
  | false => rfl
  | true =>
    rw [hw, Bool.true_and] at h
    have := of_decide_eq_false h
    rw [Bool.true_and]
    exact decide_eq_false (by omega)
theorem badEd_is {more : Int} (hm : 0 ≤ more) : ∀ t ∈ badEd more, layD t = true ∧ edOk t = false := fun t ht => by
  rcases List.mem_append.mp ht with ht | ht
  · simp only [badEd0, List.mem_cons, List.not_mem_nil, or_false] at ht
    rcases ht with rfl | rfl | rfl | rfl | rfl | rfl | rfl | rfl | rfl | rfl <;> refine ⟨rfl, ?_⟩ <;> first | rfl | (simp [edOk, edIn, toI, isWh]; exact decide_eq_false (by omega))
  · obtain ⟨o, ho, ht⟩ := List.mem_flatMap.mp ht
    obtain ⟨h1, h2⟩ := noNum_is hm o ho
    have h3 := edIn_no h2
    simp only [fEd, List.mem_cons, List.not_mem_nil, or_false] at ht
    rcases ht with rfl | rfl
    · exact ⟨by simp [layD, layDs, h1], by simp [edOk, h3]⟩
    · exact ⟨by simp [layD, layDs, h1], by simp [edOk, h3]⟩
def badDay0 (more : Int) : List PyData := [.none, .int 5, .str "day", .tuple [], .tuple [dS (0, 4, 3)], .dict [], .list (List.replicate 11 (dS (0, 1, 0))), .list [.none], .list [.tuple []], .list [.tuple [.int 0, .int 1]], .list [.tuple [.int 0, .int 1, .int 2, .int 3]], .list [.list [.int 0, .int 1, .int 2]]]
def badDay1 (more : Int) : List PyData := [.list [dS (1, 1, 0)], .list [dS (2, 1, 0)], .list [dS (0, 25, 0)], .list [dS (0, 25 + more, 1)], .list [dS (23, 24, 61)], .list [dS (0, 1, 61 + more)]]
def fDay (o : PyData) : List PyData := [.list [.tuple [o, .int 9, .int 1]], .list [.tuple [.int 0, o, .int 1]], .list [.tuple [.int 0, .int 9, o]], .list [dS (0, 4, 3), .tuple [.int 3, .int 9, o]]]
def badDay (more : Int) : List PyData := badDay0 more ++ badDay1 more ++ (noNums more).flatMap fDay
theorem badDay_is {more : Int} (hm : 0 ≤ more) : ∀ t ∈ badDay more, layD t = true ∧ shOk t = false := fun t ht => by
  rcases List.mem_append.mp ht with ht | ht
  · rcases List.mem_append.mp ht with ht | ht
    · simp only [badDay0, List.mem_cons, List.not_mem_nil, or_false] at ht
      rcases ht with rfl | rfl | rfl | rfl | rfl | rfl | rfl | rfl | rfl | rfl | rfl | rfl <;> exact ⟨rfl, rfl⟩
    · simp only [badDay1, List.mem_cons, List.not_mem_nil, or_false] at ht
      rcases ht with rfl | rfl | rfl | rfl | rfl | rfl <;> refine ⟨rfl, ?_⟩ <;> first | rfl | (simp [shOk, dS, isShow]; try omega)
  · obtain ⟨o, ho, ht⟩ := List.mem_flatMap.mp ht
    simp only [noNums, List.mem_cons, List.not_mem_nil, or_false] at ho
    simp only [fDay, List.mem_cons, List.not_mem_nil, or_false] at ht
    rcases ho with rfl | rfl | rfl | rfl | rfl | rfl | rfl | rfl | rfl <;> rcases ht with rfl | rfl | rfl | rfl <;> refine ⟨rfl, ?_⟩ <;> first | rfl | (simp [shOk, dS, isShow]; try omega)
theorem badEd_len (more : Int) : (badEd more).length ≤ 1000 := by
  unfold badEd
  rw [List.length_append]
  have := flat_len (f := fEd) (n := 2) (fun d => by simp [fEd]) (noNums more)
  rw [show (noNums more).length = 9 from rfl] at this
  simp only [badEd0, List.length_cons, List.length_nil]
  omega
theorem badDay_len (more : Int) : (badDay more).length ≤ 1000 := by
  unfold badDay
  rw [List.length_append, List.length_append]
  have := flat_len (f := fDay) (n := 4) (fun d => by simp [fDay]) (noNums more)
  rw [show (noNums more).length = 9 from rfl] at this
  simp only [badDay0, badDay1, List.length_cons, List.length_nil]
  omega
theorem ed_tup2 {τ : Sls} {ta tb : TE} {a b : PyData} (h1 : ED K ta τ a) (h2 : ED K tb τ b) : ED K (tTup (tCons ta (tCons tb tNil))) τ (.tuple [a, b]) := ed_tup (ds := [a, b]) (ea2 h1 h2) (by simp)
def famL (T : Txt K mg) (cells : List (Str × Addr)) (n : Nat) : Fam := match n with
  | 0 => ⟨cloFrom cells (LamTab.tab 0).scope.names [], [], [], fun E => tCallS (spR K (PR_judged T.C_BadTuners T.C_BadEdges T.C_BadShows T.C_BadPlaces)) (WE fun cls d _ H => E cls d H) (tCons (tVar 0) (tCons (tC .non) (tCons (tC .non) (tCons (tC .non) tNil))))⟩
  | 1 => ⟨cloFrom cells (LamTab.tab 1).scope.names [], [], [], fun E => tCallS (spR K (PR_laid_anew T.C_BadTuners T.C_BadEdges T.C_BadShows T.C_BadPlaces T.C_BadLaying T.C_TooMany T.C_Crowded)) (WE fun cls d _ H => E cls d H) (tCons (tVar 0) (tCons (tC .non) (tCons (tC .non) (tCons (tC .non) (tCons (tC .non) tNil)))))⟩
  | 2 => ⟨cloFrom cells (LamTab.tab 2).scope.names [], [], [], fun E => tCallS (spR K (PR_best T.C_BadTuners T.C_BadEdges T.C_BadShows)) (WE fun cls d _ H => E cls d H) (tCons (tVar 0) (tCons (tC .non) (tCons (tC .non) tNil)))⟩
  | 3 => ⟨cloFrom cells (LamTab.tab 3).scope.names [], [], [], fun E => tCallS (spR K (PR_most T.C_BadTuners T.C_BadEdges T.C_BadShows)) (WE fun cls d _ H => E cls d H) (tCons (tVar 0) (tCons (tC .non) (tCons (tC .non) tNil)))⟩
  | 4 => ⟨cloFrom cells (LamTab.tab 4).scope.names [], [], [], fun E => tCallS (spR K (PR_kept T.C_BadTuners T.C_BadEdges T.C_BadShows T.C_BadWishes)) (WE fun cls d _ H => E cls d H) (tCons (tVar 0) (tCons (tC .non) (tCons (tC .non) (tCons (tC .non) tNil))))⟩
  | 5 => ⟨cloFrom cells (LamTab.tab 5).scope.names [], [], [], fun E => tCallS (spR K (PR_changes T.C_BadTuners T.C_BadEdges T.C_BadShows T.C_BadWishes T.C_BadPlaces T.C_BadMove)) (WE fun cls d _ H => E cls d H) (tCons (tVar 0) (tCons (tC .non) (tCons (tC .non) (tCons (tC .non) (tCons (tC .non) (tCons (tC .non) tNil))))))⟩
  | 6 => ⟨cloFrom cells (LamTab.tab 6).scope.names [], [], [], fun E => tCallS (spR K (PR_judged T.C_BadTuners T.C_BadEdges T.C_BadShows T.C_BadPlaces)) (WE fun cls d _ H => E cls d H) (tCons (tC (.int 1)) (tCons (tVar 0) (tCons (tC .non) (tCons (tC .non) tNil))))⟩
  | 7 => ⟨cloFrom cells (LamTab.tab 7).scope.names [], [], [], fun E => tCallS (spR K (PR_laid_anew T.C_BadTuners T.C_BadEdges T.C_BadShows T.C_BadPlaces T.C_BadLaying T.C_TooMany T.C_Crowded)) (WE fun cls d _ H => E cls d H) (tCons (tC (.int 2)) (tCons (tVar 0) (tCons (tC .non) (tCons (tC .non) (tCons (tC .non) tNil)))))⟩
  | 8 => ⟨cloFrom cells (LamTab.tab 8).scope.names [], [], [], fun E => tCallS (spR K (PR_best T.C_BadTuners T.C_BadEdges T.C_BadShows)) (WE fun cls d _ H => E cls d H) (tCons (tC (.int 3)) (tCons (tVar 0) (tCons (tC .non) tNil)))⟩
  | 9 => ⟨cloFrom cells (LamTab.tab 9).scope.names [], [], [], fun E => tCallS (spR K (PR_most T.C_BadTuners T.C_BadEdges T.C_BadShows)) (WE fun cls d _ H => E cls d H) (tCons (tC (.int 1)) (tCons (tVar 0) (tCons (tC .non) tNil)))⟩
  | 10 => ⟨cloFrom cells (LamTab.tab 10).scope.names [], [], [], fun E => tCallS (spR K (PR_kept T.C_BadTuners T.C_BadEdges T.C_BadShows T.C_BadWishes)) (WE fun cls d _ H => E cls d H) (tCons (tC (.int 1)) (tCons (tVar 0) (tCons (tC .non) (tCons (tC .non) tNil))))⟩
  | 11 => ⟨cloFrom cells (LamTab.tab 11).scope.names [], [], [], fun E => tCallS (spR K (PR_changes T.C_BadTuners T.C_BadEdges T.C_BadShows T.C_BadWishes T.C_BadPlaces T.C_BadMove)) (WE fun cls d _ H => E cls d H) (tCons (tC (.int 2)) (tCons (tVar 0) (tCons (tC .non) (tCons (tC .non) (tCons (tC .non) (tCons (tC .non) tNil))))))⟩
  | 12 => ⟨cloFrom cells (LamTab.tab 12).scope.names [], [], [], fun E => tCallS (spR K (PR_judged T.C_BadTuners T.C_BadEdges T.C_BadShows T.C_BadPlaces)) (WE fun cls d _ H => E cls d H) (tCons (tC (.int 1)) (tCons (tTup (tCons (tC (.int 0)) (tCons (tC (.int 2)) tNil))) (tCons (tVar 0) (tCons (tC .non) tNil))))⟩
  | 13 => ⟨cloFrom cells (LamTab.tab 13).scope.names [], [], [], fun E => tCallS (spR K (PR_laid_anew T.C_BadTuners T.C_BadEdges T.C_BadShows T.C_BadPlaces T.C_BadLaying T.C_TooMany T.C_Crowded)) (WE fun cls d _ H => E cls d H) (tCons (tC (.int 2)) (tCons (tTup (tCons (tC (.int 0)) (tCons (tC (.int 0)) tNil))) (tCons (tVar 0) (tCons (tC .non) (tCons (tC .non) tNil)))))⟩
  | 14 => ⟨cloFrom cells (LamTab.tab 14).scope.names [], [], [], fun E => tCallS (spR K (PR_best T.C_BadTuners T.C_BadEdges T.C_BadShows)) (WE fun cls d _ H => E cls d H) (tCons (tC (.int 3)) (tCons (tTup (tCons (tC (.int 1)) (tCons (tC (.int 1)) tNil))) (tCons (tVar 0) tNil)))⟩
  | 15 => ⟨cloFrom cells (LamTab.tab 15).scope.names [], [], [], fun E => tCallS (spR K (PR_most T.C_BadTuners T.C_BadEdges T.C_BadShows)) (WE fun cls d _ H => E cls d H) (tCons (tC (.int 1)) (tCons (tTup (tCons (tC (.int 2)) (tCons (tC (.int 0)) tNil))) (tCons (tVar 0) tNil)))⟩
  | 16 => ⟨cloFrom cells (LamTab.tab 16).scope.names [], [], [], fun E => tCallS (spR K (PR_moved T.C_BadShows T.C_BadPlaces T.C_BadMove)) (WE fun cls d _ H => E cls d H) (tCons (tVar 0) (tCons (tC .non) (tCons (tC .non) tNil)))⟩
  | 17 => ⟨cloFrom cells (LamTab.tab 17).scope.names [], [], [], fun E => tCallS (spR K (PR_kept T.C_BadTuners T.C_BadEdges T.C_BadShows T.C_BadWishes)) (WE fun cls d _ H => E cls d H) (tCons (tC (.int 1)) (tCons (tTup (tCons (tC (.int 0)) (tCons (tC (.int 0)) tNil))) (tCons (tVar 0) (tCons (tC .non) tNil))))⟩
  | 18 => ⟨cloFrom cells (LamTab.tab 18).scope.names [], [], [], fun E => tCallS (spR K (PR_changes T.C_BadTuners T.C_BadEdges T.C_BadShows T.C_BadWishes T.C_BadPlaces T.C_BadMove)) (WE fun cls d _ H => E cls d H) (tCons (tC (.int 2)) (tCons (tTup (tCons (tC (.int 0)) (tCons (tC (.int 0)) tNil))) (tCons (tVar 0) (tCons (tC .non) (tCons (tC .non) (tCons (tC .non) tNil))))))⟩
  | 19 => ⟨cloFrom cells (LamTab.tab 19).scope.names [], [0], ["_law_day"], fun E => tCallS (spR K (PR_judged T.C_BadTuners T.C_BadEdges T.C_BadShows T.C_BadPlaces)) (WE fun cls d _ H => E cls d H) (tCons (tC (.int 1)) (tCons (tTup (tCons (tC (.int 0)) (tCons (tC (.int 0)) tNil))) (tCons (tVar 1) (tCons (tVar 0) tNil))))⟩
  | 20 => ⟨cloFrom cells (LamTab.tab 20).scope.names [], [0], ["_law_day"], fun E => tCallS (spR K (PR_laid_anew T.C_BadTuners T.C_BadEdges T.C_BadShows T.C_BadPlaces T.C_BadLaying T.C_TooMany T.C_Crowded)) (WE fun cls d _ H => E cls d H) (tCons (tC (.int 1)) (tCons (tTup (tCons (tC (.int 0)) (tCons (tC (.int 0)) tNil))) (tCons (tVar 1) (tCons (tVar 0) (tCons (tC .non) tNil)))))⟩
  | 21 => ⟨cloFrom cells (LamTab.tab 21).scope.names [], [0], ["_law_day"], fun E => tCallS (spR K (PR_moved T.C_BadShows T.C_BadPlaces T.C_BadMove)) (WE fun cls d _ H => E cls d H) (tCons (tVar 1) (tCons (tVar 0) (tCons (tC .non) tNil)))⟩
  | 22 => ⟨cloFrom cells (LamTab.tab 22).scope.names [], [0], ["_law_day"], fun E => tCallS (spR K (PR_changes T.C_BadTuners T.C_BadEdges T.C_BadShows T.C_BadWishes T.C_BadPlaces T.C_BadMove)) (WE fun cls d _ H => E cls d H) (tCons (tC (.int 1)) (tCons (tTup (tCons (tC (.int 0)) (tCons (tC (.int 0)) tNil))) (tCons (tVar 1) (tCons (tLst (tCons (tLst (tCons (tC (.int 0)) tNil)) tNil)) (tCons (tVar 0) (tCons (tC .non) tNil))))))⟩
  | 23 => ⟨cloFrom cells (LamTab.tab 23).scope.names [], [0], ["_law_day"], fun E => tCallS (spR K (PR_kept T.C_BadTuners T.C_BadEdges T.C_BadShows T.C_BadWishes)) (WE fun cls d _ H => E cls d H) (tCons (tC (.int 1)) (tCons (tTup (tCons (tC (.int 0)) (tCons (tC (.int 0)) tNil))) (tCons (tVar 1) (tCons (tVar 0) tNil))))⟩
  | 24 => ⟨cloFrom cells (LamTab.tab 24).scope.names [], [0], ["_law_day"], fun E => tCallS (spR K (PR_changes T.C_BadTuners T.C_BadEdges T.C_BadShows T.C_BadWishes T.C_BadPlaces T.C_BadMove)) (WE fun cls d _ H => E cls d H) (tCons (tC (.int 1)) (tCons (tTup (tCons (tC (.int 0)) (tCons (tC (.int 0)) tNil))) (tCons (tVar 1) (tCons (tVar 0) (tCons (tC .non) (tCons (tC .non) tNil))))))⟩
  | 25 => ⟨cloFrom cells (LamTab.tab 25).scope.names [], [0], ["_law_day"], fun E => tCallS (spR K (PR_moved T.C_BadShows T.C_BadPlaces T.C_BadMove)) (WE fun cls d _ H => E cls d H) (tCons (tVar 1) (tCons (tC (.int 1)) (tCons (tVar 0) tNil)))⟩
  | 26 => ⟨cloFrom cells (LamTab.tab 26).scope.names [], [0], ["_law_day"], fun E => tCallS (spR K (PR_changes T.C_BadTuners T.C_BadEdges T.C_BadShows T.C_BadWishes T.C_BadPlaces T.C_BadMove)) (WE fun cls d _ H => E cls d H) (tCons (tC (.int 1)) (tCons (tTup (tCons (tC (.int 0)) (tCons (tC (.int 0)) tNil))) (tCons (tVar 1) (tCons (tLst (tCons (tLst (tCons (tC (.int 0)) tNil)) tNil)) (tCons (tC (.int 1)) (tCons (tVar 0) tNil))))))⟩
  | 27 => ⟨cloFrom cells (LamTab.tab 27).scope.names [], [0], ["_law_day"], fun E => tCallS (spR K (PR_laid_anew T.C_BadTuners T.C_BadEdges T.C_BadShows T.C_BadPlaces T.C_BadLaying T.C_TooMany T.C_Crowded)) (WE fun cls d _ H => E cls d H) (tCons (tC (.int 2)) (tCons (tTup (tCons (tC (.int 0)) (tCons (tC (.int 0)) tNil))) (tCons (tVar 1) (tCons (tLst (tCons (tC (.int 0)) (tCons (tC (.int 1)) tNil))) (tCons (tVar 0) tNil)))))⟩
  | 28 => ⟨cloFrom cells (LamTab.tab 28).scope.names [], [9], ["_law_alike"], fun E => tCallS (spR K (PR_laid_anew T.C_BadTuners T.C_BadEdges T.C_BadShows T.C_BadPlaces T.C_BadLaying T.C_TooMany T.C_Crowded)) (WE fun cls d _ H => E cls d H) (tCons (tC (.int 1)) (tCons (tTup (tCons (tC (.int 0)) (tCons (tC (.int 0)) tNil))) (tCons (tVar 1) (tCons (tVar 0) (tCons (tOp rMulA (tLst (tCons (tC (.int 0)) tNil)) (tCB (rLenA K) (tCons (tVar 0) tNil))) tNil)))))⟩
  | _ => ⟨[], [], [], fun _ _ _ _ => False⟩
theorem famOk0 (T : Txt K mg) (cells : List (Str × Addr)) : FamOk P w K mg base 12 0 (famL T cells 0) := ⟨⟨["_law_one"], "_law_one", NdefX.nscope_by (fr := ([] : List Str)) (by decide +kernel), rfl, fun c' pm ctv us hl => match us, hl with | [_], _ => rfl, fun f c' A outer s H E hr tk => pe_callS (okR_judged T) (hr.mono (by decide)) (by rfl) T.g_judged T.F_judged.kp (b_judged T) (fun σ => L2N.passAt tk σ) (pa_cons (pv 0) (pa_cons pe_non (pa_cons pe_non (pa_cons pe_non pa_nil))))⟩⟩
theorem famOk1 (T : Txt K mg) (cells : List (Str × Addr)) : FamOk P w K mg base 12 1 (famL T cells 1) := ⟨⟨["_law_two"], "_law_two", NdefX.nscope_by (fr := ([] : List Str)) (by decide +kernel), rfl, fun c' pm ctv us hl => match us, hl with | [_], _ => rfl, fun f c' A outer s H E hr tk => pe_callS (okR_laid_anew T) (hr.mono (by decide)) (by rfl) T.g_laid_anew T.F_laid_anew.kp (b_laid_anew T) (fun σ => L2N.passAt tk σ) (pa_cons (pv 0) (pa_cons pe_non (pa_cons pe_non (pa_cons pe_non (pa_cons pe_non pa_nil)))))⟩⟩
theorem famOk2 (T : Txt K mg) (cells : List (Str × Addr)) : FamOk P w K mg base 12 2 (famL T cells 2) := ⟨⟨["_law_this"], "_law_this", NdefX.nscope_by (fr := ([] : List Str)) (by decide +kernel), rfl, fun c' pm ctv us hl => match us, hl with | [_], _ => rfl, fun f c' A outer s H E hr tk => pe_callS (okR_best T) (hr.mono (by decide)) (by rfl) T.g_best T.F_best.kp (b_best T) (fun σ => L2N.passAt tk σ) (pa_cons (pv 0) (pa_cons pe_non (pa_cons pe_non pa_nil)))⟩⟩
theorem famOk3 (T : Txt K mg) (cells : List (Str × Addr)) : FamOk P w K mg base 12 3 (famL T cells 3) := ⟨⟨["_law_that"], "_law_that", NdefX.nscope_by (fr := ([] : List Str)) (by decide +kernel), rfl, fun c' pm ctv us hl => match us, hl with | [_], _ => rfl, fun f c' A outer s H E hr tk => pe_callS (okR_most T) (hr.mono (by decide)) (by rfl) T.g_most T.F_most.kp (b_most T) (fun σ => L2N.passAt tk σ) (pa_cons (pv 0) (pa_cons pe_non (pa_cons pe_non pa_nil)))⟩⟩
theorem famOk4 (T : Txt K mg) (cells : List (Str × Addr)) : FamOk P w K mg base 12 4 (famL T cells 4) := ⟨⟨["_law_here"], "_law_here", NdefX.nscope_by (fr := ([] : List Str)) (by decide +kernel), rfl, fun c' pm ctv us hl => match us, hl with | [_], _ => rfl, fun f c' A outer s H E hr tk => pe_callS (okR_kept T) (hr.mono (by decide)) (by rfl) T.g_kept T.F_kept.kp (b_kept T) (fun σ => L2N.passAt tk σ) (pa_cons (pv 0) (pa_cons pe_non (pa_cons pe_non (pa_cons pe_non pa_nil))))⟩⟩
theorem famOk5 (T : Txt K mg) (cells : List (Str × Addr)) : FamOk P w K mg base 12 5 (famL T cells 5) := ⟨⟨["_law_far"], "_law_far", NdefX.nscope_by (fr := ([] : List Str)) (by decide +kernel), rfl, fun c' pm ctv us hl => match us, hl with | [_], _ => rfl, fun f c' A outer s H E hr tk => pe_callS (okR_changes T) (hr.mono (by decide)) (by rfl) T.g_changes T.F_changes.kp (b_changes T) (fun σ => L2N.passAt tk σ) (pa_cons (pv 0) (pa_cons pe_non (pa_cons pe_non (pa_cons pe_non (pa_cons pe_non (pa_cons pe_non pa_nil))))))⟩⟩
theorem famOk6 (T : Txt K mg) (cells : List (Str × Addr)) : FamOk P w K mg base 12 6 (famL T cells 6) := ⟨⟨["_law_one"], "_law_one", NdefX.nscope_by (fr := ([] : List Str)) (by decide +kernel), rfl, fun c' pm ctv us hl => match us, hl with | [_], _ => rfl, fun f c' A outer s H E hr tk => pe_callS (okR_judged T) (hr.mono (by decide)) (by rfl) T.g_judged T.F_judged.kp (b_judged T) (fun σ => L2N.passAt tk σ) (pa_cons pe_int (pa_cons (pv 0) (pa_cons pe_non (pa_cons pe_non pa_nil))))⟩⟩
theorem famOk7 (T : Txt K mg) (cells : List (Str × Addr)) : FamOk P w K mg base 12 7 (famL T cells 7) := ⟨⟨["_law_two"], "_law_two", NdefX.nscope_by (fr := ([] : List Str)) (by decide +kernel), rfl, fun c' pm ctv us hl => match us, hl with | [_], _ => rfl, fun f c' A outer s H E hr tk => pe_callS (okR_laid_anew T) (hr.mono (by decide)) (by rfl) T.g_laid_anew T.F_laid_anew.kp (b_laid_anew T) (fun σ => L2N.passAt tk σ) (pa_cons pe_int (pa_cons (pv 0) (pa_cons pe_non (pa_cons pe_non (pa_cons pe_non pa_nil)))))⟩⟩
theorem famOk8 (T : Txt K mg) (cells : List (Str × Addr)) : FamOk P w K mg base 12 8 (famL T cells 8) := ⟨⟨["_law_this"], "_law_this", NdefX.nscope_by (fr := ([] : List Str)) (by decide +kernel), rfl, fun c' pm ctv us hl => match us, hl with | [_], _ => rfl, fun f c' A outer s H E hr tk => pe_callS (okR_best T) (hr.mono (by decide)) (by rfl) T.g_best T.F_best.kp (b_best T) (fun σ => L2N.passAt tk σ) (pa_cons pe_int (pa_cons (pv 0) (pa_cons pe_non pa_nil)))⟩⟩
theorem famOk9 (T : Txt K mg) (cells : List (Str × Addr)) : FamOk P w K mg base 12 9 (famL T cells 9) := ⟨⟨["_law_that"], "_law_that", NdefX.nscope_by (fr := ([] : List Str)) (by decide +kernel), rfl, fun c' pm ctv us hl => match us, hl with | [_], _ => rfl, fun f c' A outer s H E hr tk => pe_callS (okR_most T) (hr.mono (by decide)) (by rfl) T.g_most T.F_most.kp (b_most T) (fun σ => L2N.passAt tk σ) (pa_cons pe_int (pa_cons (pv 0) (pa_cons pe_non pa_nil)))⟩⟩
theorem famOk10 (T : Txt K mg) (cells : List (Str × Addr)) : FamOk P w K mg base 12 10 (famL T cells 10) := ⟨⟨["_law_here"], "_law_here", NdefX.nscope_by (fr := ([] : List Str)) (by decide +kernel), rfl, fun c' pm ctv us hl => match us, hl with | [_], _ => rfl, fun f c' A outer s H E hr tk => pe_callS (okR_kept T) (hr.mono (by decide)) (by rfl) T.g_kept T.F_kept.kp (b_kept T) (fun σ => L2N.passAt tk σ) (pa_cons pe_int (pa_cons (pv 0) (pa_cons pe_non (pa_cons pe_non pa_nil))))⟩⟩
theorem famOk11 (T : Txt K mg) (cells : List (Str × Addr)) : FamOk P w K mg base 12 11 (famL T cells 11) := ⟨⟨["_law_far"], "_law_far", NdefX.nscope_by (fr := ([] : List Str)) (by decide +kernel), rfl, fun c' pm ctv us hl => match us, hl with | [_], _ => rfl, fun f c' A outer s H E hr tk => pe_callS (okR_changes T) (hr.mono (by decide)) (by rfl) T.g_changes T.F_changes.kp (b_changes T) (fun σ => L2N.passAt tk σ) (pa_cons pe_int (pa_cons (pv 0) (pa_cons pe_non (pa_cons pe_non (pa_cons pe_non (pa_cons pe_non pa_nil))))))⟩⟩
theorem famOk12 (T : Txt K mg) (cells : List (Str × Addr)) : FamOk P w K mg base 12 12 (famL T cells 12) := ⟨⟨["_law_one"], "_law_one", NdefX.nscope_by (fr := ([] : List Str)) (by decide +kernel), rfl, fun c' pm ctv us hl => match us, hl with | [_], _ => rfl, fun f c' A outer s H E hr tk => pe_callS (okR_judged T) (hr.mono (by decide)) (by rfl) T.g_judged T.F_judged.kp (b_judged T) (fun σ => L2N.passAt tk σ) (pa_cons pe_int (pa_cons (pe_tup (pa_cons pe_int (pa_cons pe_int pa_nil))) (pa_cons (pv 0) (pa_cons pe_non pa_nil))))⟩⟩
theorem famOk13 (T : Txt K mg) (cells : List (Str × Addr)) : FamOk P w K mg base 12 13 (famL T cells 13) := ⟨⟨["_law_two"], "_law_two", NdefX.nscope_by (fr := ([] : List Str)) (by decide +kernel), rfl, fun c' pm ctv us hl => match us, hl with | [_], _ => rfl, fun f c' A outer s H E hr tk => pe_callS (okR_laid_anew T) (hr.mono (by decide)) (by rfl) T.g_laid_anew T.F_laid_anew.kp (b_laid_anew T) (fun σ => L2N.passAt tk σ) (pa_cons pe_int (pa_cons (pe_tup (pa_cons pe_int (pa_cons pe_int pa_nil))) (pa_cons (pv 0) (pa_cons pe_non (pa_cons pe_non pa_nil)))))⟩⟩
theorem famOk14 (T : Txt K mg) (cells : List (Str × Addr)) : FamOk P w K mg base 12 14 (famL T cells 14) := ⟨⟨["_law_this"], "_law_this", NdefX.nscope_by (fr := ([] : List Str)) (by decide +kernel), rfl, fun c' pm ctv us hl => match us, hl with | [_], _ => rfl, fun f c' A outer s H E hr tk => pe_callS (okR_best T) (hr.mono (by decide)) (by rfl) T.g_best T.F_best.kp (b_best T) (fun σ => L2N.passAt tk σ) (pa_cons pe_int (pa_cons (pe_tup (pa_cons pe_int (pa_cons pe_int pa_nil))) (pa_cons (pv 0) pa_nil)))⟩⟩
theorem famOk15 (T : Txt K mg) (cells : List (Str × Addr)) : FamOk P w K mg base 12 15 (famL T cells 15) := ⟨⟨["_law_that"], "_law_that", NdefX.nscope_by (fr := ([] : List Str)) (by decide +kernel), rfl, fun c' pm ctv us hl => match us, hl with | [_], _ => rfl, fun f c' A outer s H E hr tk => pe_callS (okR_most T) (hr.mono (by decide)) (by rfl) T.g_most T.F_most.kp (b_most T) (fun σ => L2N.passAt tk σ) (pa_cons pe_int (pa_cons (pe_tup (pa_cons pe_int (pa_cons pe_int pa_nil))) (pa_cons (pv 0) pa_nil)))⟩⟩
theorem famOk16 (T : Txt K mg) (cells : List (Str × Addr)) : FamOk P w K mg base 12 16 (famL T cells 16) := ⟨⟨["_law_low"], "_law_low", NdefX.nscope_by (fr := ([] : List Str)) (by decide +kernel), rfl, fun c' pm ctv us hl => match us, hl with | [_], _ => rfl, fun f c' A outer s H E hr tk => pe_callS (okR_moved T) (hr.mono (by decide)) (by rfl) T.g_moved T.F_moved.kp (b_moved T) (fun σ => L2N.passAt tk σ) (pa_cons (pv 0) (pa_cons pe_non (pa_cons pe_non pa_nil)))⟩⟩
theorem famOk17 (T : Txt K mg) (cells : List (Str × Addr)) : FamOk P w K mg base 12 17 (famL T cells 17) := ⟨⟨["_law_here"], "_law_here", NdefX.nscope_by (fr := ([] : List Str)) (by decide +kernel), rfl, fun c' pm ctv us hl => match us, hl with | [_], _ => rfl, fun f c' A outer s H E hr tk => pe_callS (okR_kept T) (hr.mono (by decide)) (by rfl) T.g_kept T.F_kept.kp (b_kept T) (fun σ => L2N.passAt tk σ) (pa_cons pe_int (pa_cons (pe_tup (pa_cons pe_int (pa_cons pe_int pa_nil))) (pa_cons (pv 0) (pa_cons pe_non pa_nil))))⟩⟩
theorem famOk18 (T : Txt K mg) (cells : List (Str × Addr)) : FamOk P w K mg base 12 18 (famL T cells 18) := ⟨⟨["_law_far"], "_law_far", NdefX.nscope_by (fr := ([] : List Str)) (by decide +kernel), rfl, fun c' pm ctv us hl => match us, hl with | [_], _ => rfl, fun f c' A outer s H E hr tk => pe_callS (okR_changes T) (hr.mono (by decide)) (by rfl) T.g_changes T.F_changes.kp (b_changes T) (fun σ => L2N.passAt tk σ) (pa_cons pe_int (pa_cons (pe_tup (pa_cons pe_int (pa_cons pe_int pa_nil))) (pa_cons (pv 0) (pa_cons pe_non (pa_cons pe_non (pa_cons pe_non pa_nil))))))⟩⟩
theorem famOk19 (T : Txt K mg) (cells : List (Str × Addr)) : FamOk P w K mg base 12 19 (famL T cells 19) := ⟨⟨["_law_one", "_law_day"], "_law_one", NdefX.nscope_by (fr := ["_law_day"]) (by decide +kernel), rfl, fun c' pm ctv us hl => match us, hl with | [_], _ => rfl, fun f c' A outer s H E hr tk => pe_callS (okR_judged T) (hr.mono (by decide)) (by rfl) T.g_judged T.F_judged.kp (b_judged T) (fun σ => L2N.passAt tk σ) (pa_cons pe_int (pa_cons (pe_tup (pa_cons pe_int (pa_cons pe_int pa_nil))) (pa_cons (pv 1) (pa_cons (pv 0) pa_nil))))⟩⟩
theorem famOk20 (T : Txt K mg) (cells : List (Str × Addr)) : FamOk P w K mg base 12 20 (famL T cells 20) := ⟨⟨["_law_two", "_law_day"], "_law_two", NdefX.nscope_by (fr := ["_law_day"]) (by decide +kernel), rfl, fun c' pm ctv us hl => match us, hl with | [_], _ => rfl, fun f c' A outer s H E hr tk => pe_callS (okR_laid_anew T) (hr.mono (by decide)) (by rfl) T.g_laid_anew T.F_laid_anew.kp (b_laid_anew T) (fun σ => L2N.passAt tk σ) (pa_cons pe_int (pa_cons (pe_tup (pa_cons pe_int (pa_cons pe_int pa_nil))) (pa_cons (pv 1) (pa_cons (pv 0) (pa_cons pe_non pa_nil)))))⟩⟩
theorem famOk21 (T : Txt K mg) (cells : List (Str × Addr)) : FamOk P w K mg base 12 21 (famL T cells 21) := ⟨⟨["_law_one", "_law_day"], "_law_one", NdefX.nscope_by (fr := ["_law_day"]) (by decide +kernel), rfl, fun c' pm ctv us hl => match us, hl with | [_], _ => rfl, fun f c' A outer s H E hr tk => pe_callS (okR_moved T) (hr.mono (by decide)) (by rfl) T.g_moved T.F_moved.kp (b_moved T) (fun σ => L2N.passAt tk σ) (pa_cons (pv 1) (pa_cons (pv 0) (pa_cons pe_non pa_nil)))⟩⟩
theorem famOk22 (T : Txt K mg) (cells : List (Str × Addr)) : FamOk P w K mg base 12 22 (famL T cells 22) := ⟨⟨["_law_two", "_law_day"], "_law_two", NdefX.nscope_by (fr := ["_law_day"]) (by decide +kernel), rfl, fun c' pm ctv us hl => match us, hl with | [_], _ => rfl, fun f c' A outer s H E hr tk => pe_callS (okR_changes T) (hr.mono (by decide)) (by rfl) T.g_changes T.F_changes.kp (b_changes T) (fun σ => L2N.passAt tk σ) (pa_cons pe_int (pa_cons (pe_tup (pa_cons pe_int (pa_cons pe_int pa_nil))) (pa_cons (pv 1) (pa_cons (pe_lst (pa_cons (pe_lst (pa_cons pe_int pa_nil)) pa_nil)) (pa_cons (pv 0) (pa_cons pe_non pa_nil))))))⟩⟩
theorem famOk23 (T : Txt K mg) (cells : List (Str × Addr)) : FamOk P w K mg base 12 23 (famL T cells 23) := ⟨⟨["_law_one", "_law_day"], "_law_one", NdefX.nscope_by (fr := ["_law_day"]) (by decide +kernel), rfl, fun c' pm ctv us hl => match us, hl with | [_], _ => rfl, fun f c' A outer s H E hr tk => pe_callS (okR_kept T) (hr.mono (by decide)) (by rfl) T.g_kept T.F_kept.kp (b_kept T) (fun σ => L2N.passAt tk σ) (pa_cons pe_int (pa_cons (pe_tup (pa_cons pe_int (pa_cons pe_int pa_nil))) (pa_cons (pv 1) (pa_cons (pv 0) pa_nil))))⟩⟩
theorem famOk24 (T : Txt K mg) (cells : List (Str × Addr)) : FamOk P w K mg base 12 24 (famL T cells 24) := ⟨⟨["_law_two", "_law_day"], "_law_two", NdefX.nscope_by (fr := ["_law_day"]) (by decide +kernel), rfl, fun c' pm ctv us hl => match us, hl with | [_], _ => rfl, fun f c' A outer s H E hr tk => pe_callS (okR_changes T) (hr.mono (by decide)) (by rfl) T.g_changes T.F_changes.kp (b_changes T) (fun σ => L2N.passAt tk σ) (pa_cons pe_int (pa_cons (pe_tup (pa_cons pe_int (pa_cons pe_int pa_nil))) (pa_cons (pv 1) (pa_cons (pv 0) (pa_cons pe_non (pa_cons pe_non pa_nil))))))⟩⟩
theorem famOk25 (T : Txt K mg) (cells : List (Str × Addr)) : FamOk P w K mg base 12 25 (famL T cells 25) := ⟨⟨["_law_one", "_law_day"], "_law_one", NdefX.nscope_by (fr := ["_law_day"]) (by decide +kernel), rfl, fun c' pm ctv us hl => match us, hl with | [_], _ => rfl, fun f c' A outer s H E hr tk => pe_callS (okR_moved T) (hr.mono (by decide)) (by rfl) T.g_moved T.F_moved.kp (b_moved T) (fun σ => L2N.passAt tk σ) (pa_cons (pv 1) (pa_cons pe_int (pa_cons (pv 0) pa_nil)))⟩⟩
theorem famOk26 (T : Txt K mg) (cells : List (Str × Addr)) : FamOk P w K mg base 12 26 (famL T cells 26) := ⟨⟨["_law_two", "_law_day"], "_law_two", NdefX.nscope_by (fr := ["_law_day"]) (by decide +kernel), rfl, fun c' pm ctv us hl => match us, hl with | [_], _ => rfl, fun f c' A outer s H E hr tk => pe_callS (okR_changes T) (hr.mono (by decide)) (by rfl) T.g_changes T.F_changes.kp (b_changes T) (fun σ => L2N.passAt tk σ) (pa_cons pe_int (pa_cons (pe_tup (pa_cons pe_int (pa_cons pe_int pa_nil))) (pa_cons (pv 1) (pa_cons (pe_lst (pa_cons (pe_lst (pa_cons pe_int pa_nil)) pa_nil)) (pa_cons pe_int (pa_cons (pv 0) pa_nil))))))⟩⟩
theorem famOk27 (T : Txt K mg) (cells : List (Str × Addr)) : FamOk P w K mg base 12 27 (famL T cells 27) := ⟨⟨["_law_old", "_law_day"], "_law_old", NdefX.nscope_by (fr := ["_law_day"]) (by decide +kernel), rfl, fun c' pm ctv us hl => match us, hl with | [_], _ => rfl, fun f c' A outer s H E hr tk => pe_callS (okR_laid_anew T) (hr.mono (by decide)) (by rfl) T.g_laid_anew T.F_laid_anew.kp (b_laid_anew T) (fun σ => L2N.passAt tk σ) (pa_cons pe_int (pa_cons (pe_tup (pa_cons pe_int (pa_cons pe_int pa_nil))) (pa_cons (pv 1) (pa_cons (pe_lst (pa_cons pe_int (pa_cons pe_int pa_nil))) (pa_cons (pv 0) pa_nil)))))⟩⟩
theorem famOk28 (T : Txt K mg) (cells : List (Str × Addr)) : FamOk P w K mg base 12 28 (famL T cells 28) := ⟨⟨["_law_some", "_law_alike"], "_law_some", NdefX.nscope_by (fr := ["_law_alike"]) (by decide +kernel), rfl, fun c' pm ctv us hl => match us, hl with | [_], _ => rfl, fun f c' A outer s H E hr tk => pe_callS (okR_laid_anew T) (hr.mono (by decide)) (by rfl) T.g_laid_anew T.F_laid_anew.kp (b_laid_anew T) (fun σ => L2N.passAt tk σ) (pa_cons pe_int (pa_cons (pe_tup (pa_cons pe_int (pa_cons pe_int pa_nil))) (pa_cons (pv 1) (pa_cons (pv 0) (pa_cons (pe_op op_mulA (pe_lst (pa_cons pe_int pa_nil)) (pe_callB (lenK (K := K) rfl) (by rfl) T.n_len (by decide +kernel) (pa_cons (pv 0) pa_nil))) pa_nil)))))⟩⟩
theorem famOk (T : Txt K mg) (cells : List (Str × Addr)) : ∀ n, n < 29 → FamOk P w K mg base 12 n (famL T cells n)
  | 0, _ => famOk0 T cells
  | 1, _ => famOk1 T cells
  | 2, _ => famOk2 T cells
  | 3, _ => famOk3 T cells
  | 4, _ => famOk4 T cells
  | 5, _ => famOk5 T cells
  | 6, _ => famOk6 T cells
  | 7, _ => famOk7 T cells
  | 8, _ => famOk8 T cells
  | 9, _ => famOk9 T cells
  | 10, _ => famOk10 T cells
  | 11, _ => famOk11 T cells
  | 12, _ => famOk12 T cells
  | 13, _ => famOk13 T cells
  | 14, _ => famOk14 T cells
  | 15, _ => famOk15 T cells
  | 16, _ => famOk16 T cells
  | 17, _ => famOk17 T cells
  | 18, _ => famOk18 T cells
  | 19, _ => famOk19 T cells
  | 20, _ => famOk20 T cells
  | 21, _ => famOk21 T cells
  | 22, _ => famOk22 T cells
  | 23, _ => famOk23 T cells
  | 24, _ => famOk24 T cells
  | 25, _ => famOk25 T cells
  | 26, _ => famOk26 T cells
  | 27, _ => famOk27 T cells
  | 28, _ => famOk28 T cells
  | n + 29, h => absurd h (by omega)
abbrev day8 : List Show := [(0, 4, 3), (2, 8, 5), (20, 24, 60)]
def P__law_day_right (as : List Sl) (R : Sl → Prop) : Prop := ∃ (q : Addr) (more : Int), as = [.dat (dTag q (dDay day8)), .dat (.int more)] ∧ 0 ≤ more ∧ R (.dat (.bool true))
theorem ok__law_day_right (T : Txt K mg) (Bs : ∀ p ∈ cs T, LamX.TabB base mg p.1 p.2) : FnOk P w K mg base CX0 16 T.fa__law_day_right T.fd__law_day_right A__law_day_right (spT K (tabs T) P__law_day_right) := by
  have B : LamX.TabB base mg T.tc__law_day_right T.tp__law_day_right := Bs (T.tc__law_day_right, T.tp__law_day_right) (by simp [cs])
  have hm : (T.tp__law_day_right, (("_law_day_right" : Str) ++ ".<locals>.") ++ "<lambda>") ∈ tabs T := by simp [tabs]
  have hu : ∀ p ∈ tabs T, p.1 = T.tp__law_day_right → p.2 = (("_law_day_right" : Str) ++ ".<locals>.") ++ "<lambda>" := fun p hp e => by
    simp only [tabs, List.mem_cons, List.not_mem_nil, or_false] at hp
    rcases hp with rfl | rfl
    · rfl
    · exact absurd e.symm T.tne__law_day_right__law_rest_right
  refine okT T.Fc__law_day_right sc__law_day_right (spT_len (n := 2) fun as R h => ?_) fun A outer s H vs Q E hr h => ?_
  · obtain ⟨_, _, rfl, _⟩ := h; rfl
  have famOk : ∀ n, (0 ≤ n ∧ n < 19) → FamOk P w K mg base 12 n (famL T (cellsFrom (s.heap.objs.size + 1) (defScope s__law_day_right).names []) n) := fun n hn => famOk (P := P) (w := w) (base := base) T (cellsFrom (s.heap.objs.size + 1) (defScope s__law_day_right).names []) n (by omega)
  have cap : ∀ n, (0 ≤ n ∧ n < 19) → (cxOf CX0 P w K mg base N__law_day_right "_law_day_right" (defScope s__law_day_right) T.fa__law_day_right (.ref T.tc__law_day_right) A outer s H E).nox.Ok → NdefX.Caps (cxOf CX0 P w K mg base N__law_day_right "_law_day_right" (defScope s__law_day_right) T.fa__law_day_right (.ref T.tc__law_day_right) A outer s H E).nox (famL T (cellsFrom (s.heap.objs.size + 1) (defScope s__law_day_right).names []) n).cl (famL T (cellsFrom (s.heap.objs.size + 1) (defScope s__law_day_right).names []) n).fr (famL T (cellsFrom (s.heap.objs.size + 1) (defScope s__law_day_right).names []) n).js := fun n hn ok => by
    have h : n = 0 ∨ n = 1 ∨ n = 2 ∨ n = 3 ∨ n = 4 ∨ n = 5 ∨ n = 6 ∨ n = 7 ∨ n = 8 ∨ n = 9 ∨ n = 10 ∨ n = 11 ∨ n = 12 ∨ n = 13 ∨ n = 14 ∨ n = 15 ∨ n = 16 ∨ n = 17 ∨ n = 18 := by omega
    rcases h with rfl | rfl | rfl | rfl | rfl | rfl | rfl | rfl | rfl | rfl | rfl | rfl | rfl | rfl | rfl | rfl | rfl | rfl | rfl
    · exact NdefX.Caps.made (fr := []) (js := []) ok (NdefX.ndef_free (sc := defScope s__law_day_right) (fr := []) (by decide +kernel)) (NdefX.ndef_fr (sc := defScope s__law_day_right) (fr := []) (by decide +kernel)) rfl
    · exact NdefX.Caps.made (fr := []) (js := []) ok (NdefX.ndef_free (sc := defScope s__law_day_right) (fr := []) (by decide +kernel)) (NdefX.ndef_fr (sc := defScope s__law_day_right) (fr := []) (by decide +kernel)) rfl
    · exact NdefX.Caps.made (fr := []) (js := []) ok (NdefX.ndef_free (sc := defScope s__law_day_right) (fr := []) (by decide +kernel)) (NdefX.ndef_fr (sc := defScope s__law_day_right) (fr := []) (by decide +kernel)) rfl
    · exact NdefX.Caps.made (fr := []) (js := []) ok (NdefX.ndef_free (sc := defScope s__law_day_right) (fr := []) (by decide +kernel)) (NdefX.ndef_fr (sc := defScope s__law_day_right) (fr := []) (by decide +kernel)) rfl
    · exact NdefX.Caps.made (fr := []) (js := []) ok (NdefX.ndef_free (sc := defScope s__law_day_right) (fr := []) (by decide +kernel)) (NdefX.ndef_fr (sc := defScope s__law_day_right) (fr := []) (by decide +kernel)) rfl
    · exact NdefX.Caps.made (fr := []) (js := []) ok (NdefX.ndef_free (sc := defScope s__law_day_right) (fr := []) (by decide +kernel)) (NdefX.ndef_fr (sc := defScope s__law_day_right) (fr := []) (by decide +kernel)) rfl
    · exact NdefX.Caps.made (fr := []) (js := []) ok (NdefX.ndef_free (sc := defScope s__law_day_right) (fr := []) (by decide +kernel)) (NdefX.ndef_fr (sc := defScope s__law_day_right) (fr := []) (by decide +kernel)) rfl
    · exact NdefX.Caps.made (fr := []) (js := []) ok (NdefX.ndef_free (sc := defScope s__law_day_right) (fr := []) (by decide +kernel)) (NdefX.ndef_fr (sc := defScope s__law_day_right) (fr := []) (by decide +kernel)) rfl
    · exact NdefX.Caps.made (fr := []) (js := []) ok (NdefX.ndef_free (sc := defScope s__law_day_right) (fr := []) (by decide +kernel)) (NdefX.ndef_fr (sc := defScope s__law_day_right) (fr := []) (by decide +kernel)) rfl
    · exact NdefX.Caps.made (fr := []) (js := []) ok (NdefX.ndef_free (sc := defScope s__law_day_right) (fr := []) (by decide +kernel)) (NdefX.ndef_fr (sc := defScope s__law_day_right) (fr := []) (by decide +kernel)) rfl
    · exact NdefX.Caps.made (fr := []) (js := []) ok (NdefX.ndef_free (sc := defScope s__law_day_right) (fr := []) (by decide +kernel)) (NdefX.ndef_fr (sc := defScope s__law_day_right) (fr := []) (by decide +kernel)) rfl
    · exact NdefX.Caps.made (fr := []) (js := []) ok (NdefX.ndef_free (sc := defScope s__law_day_right) (fr := []) (by decide +kernel)) (NdefX.ndef_fr (sc := defScope s__law_day_right) (fr := []) (by decide +kernel)) rfl
    · exact NdefX.Caps.made (fr := []) (js := []) ok (NdefX.ndef_free (sc := defScope s__law_day_right) (fr := []) (by decide +kernel)) (NdefX.ndef_fr (sc := defScope s__law_day_right) (fr := []) (by decide +kernel)) rfl
    · exact NdefX.Caps.made (fr := []) (js := []) ok (NdefX.ndef_free (sc := defScope s__law_day_right) (fr := []) (by decide +kernel)) (NdefX.ndef_fr (sc := defScope s__law_day_right) (fr := []) (by decide +kernel)) rfl
    · exact NdefX.Caps.made (fr := []) (js := []) ok (NdefX.ndef_free (sc := defScope s__law_day_right) (fr := []) (by decide +kernel)) (NdefX.ndef_fr (sc := defScope s__law_day_right) (fr := []) (by decide +kernel)) rfl
    · exact NdefX.Caps.made (fr := []) (js := []) ok (NdefX.ndef_free (sc := defScope s__law_day_right) (fr := []) (by decide +kernel)) (NdefX.ndef_fr (sc := defScope s__law_day_right) (fr := []) (by decide +kernel)) rfl
    · exact NdefX.Caps.made (fr := []) (js := []) ok (NdefX.ndef_free (sc := defScope s__law_day_right) (fr := []) (by decide +kernel)) (NdefX.ndef_fr (sc := defScope s__law_day_right) (fr := []) (by decide +kernel)) rfl
    · exact NdefX.Caps.made (fr := []) (js := []) ok (NdefX.ndef_free (sc := defScope s__law_day_right) (fr := []) (by decide +kernel)) (NdefX.ndef_fr (sc := defScope s__law_day_right) (fr := []) (by decide +kernel)) rfl
    · exact NdefX.Caps.made (fr := []) (js := []) ok (NdefX.ndef_free (sc := defScope s__law_day_right) (fr := []) (by decide +kernel)) (NdefX.ndef_fr (sc := defScope s__law_day_right) (fr := []) (by decide +kernel)) rfl
  refine ⟨_, (pss_cons (ps_set (i := 2) sc__law_day_right.nd rfl (Or.inl rfl) (pe_op op_addA (pe_call (ok__law_no_numbers T) (hr.mono (by decide)) (by rfl) T.g__law_no_numbers T.F__law_no_numbers.kp (b__law_no_numbers T) .nil pass0 (pa_cons (pv 1) pa_nil)) (pe_lst (pa_cons pe_int (pa_cons pe_int (pa_cons (pe_op op_addA pe_int (pv 1)) pa_nil))))))
  (pss_cons (ps_set (i := 3) sc__law_day_right.nd rfl (Or.inl rfl) (pe_lst (pa_cons (pe_lam (T := tabs T) B rfl hm hu rfl (NdefX.ndef_free (sc := defScope s__law_day_right) (fr := []) (by decide +kernel))) (pa_cons (pe_lam (T := tabs T) B rfl hm hu rfl (NdefX.ndef_free (sc := defScope s__law_day_right) (fr := []) (by decide +kernel))) pa_nil))))
  (pss_cons (ps_set (i := 3) sc__law_day_right.nd rfl (Or.inl rfl) (pe_op op_addA (pv 3) (pe_lst (pa_cons (pe_lam (T := tabs T) B rfl hm hu rfl (NdefX.ndef_free (sc := defScope s__law_day_right) (fr := []) (by decide +kernel))) (pa_cons (pe_lam (T := tabs T) B rfl hm hu rfl (NdefX.ndef_free (sc := defScope s__law_day_right) (fr := []) (by decide +kernel))) pa_nil)))))
  (pss_cons (ps_set (i := 3) sc__law_day_right.nd rfl (Or.inl rfl) (pe_op op_addA (pv 3) (pe_lst (pa_cons (pe_lam (T := tabs T) B rfl hm hu rfl (NdefX.ndef_free (sc := defScope s__law_day_right) (fr := []) (by decide +kernel))) (pa_cons (pe_lam (T := tabs T) B rfl hm hu rfl (NdefX.ndef_free (sc := defScope s__law_day_right) (fr := []) (by decide +kernel))) pa_nil)))))
  (pss_cons (ps_if (pt_not (pt_val (pe_callM (ok__law_each T) (hr.mono (by decide)) (by rfl) T.g__law_each T.F__law_each.kp (b__law_each T) (each_conv cap famOk) (pa_cons (pv 3) (pa_cons (pv 2) (pa_cons pe_int pa_nil)))))) (pss_one (ps_ret pe_bl)) pss_nil)
  (pss_cons (ps_set (i := 4) sc__law_day_right.nd rfl (Or.inl rfl) (pe_lst (pa_cons pe_non (pa_cons pe_int (pa_cons pe_str (pa_cons (pe_lst (pa_cons pe_int (pa_cons pe_int pa_nil))) (pa_cons (pe_tup pa_nil) (pa_cons (pe_tup (pa_cons pe_int pa_nil)) (pa_cons (pe_tup (pa_cons pe_int (pa_cons pe_int (pa_cons pe_int pa_nil)))) (pa_cons pe_dnewK (pa_cons (pe_tup (pa_cons pe_int (pa_cons pe_int pa_nil))) (pa_cons (pe_tup (pa_cons pe_int (pa_cons (pe_op op_addA pe_int (pv 1)) pa_nil))) pa_nil))))))))))))
  (pss_cons (ps_for PassesOwn.never rfl (seqK (K := K) rfl (pe_call (ok__law_no_numbers T) (hr.mono (by decide)) (by rfl) T.g__law_no_numbers T.F__law_no_numbers.kp (b__law_no_numbers T) .nil pass0 (pa_cons (pv 1) pa_nil))) (pg_name (i := 5) sc__law_day_right.nd rfl (Or.inl rfl)) (pss_one (ps_expr (bmK (K := K) rfl PySem.F.plainAttrs_list PySem.F.slot_list_extend PySem.F.type_list_extend mt_extend (pv 4) (pa_cons (pe_lst (pa_cons (pe_tup (pa_cons (pv 5) (pa_cons pe_int pa_nil))) (pa_cons (pe_tup (pa_cons pe_int (pa_cons (pv 5) pa_nil))) pa_nil))) pa_nil)))))
  (pss_cons (ps_set (i := 3) sc__law_day_right.nd rfl (Or.inl rfl) (pe_lst (pa_cons (pe_lam (T := tabs T) B rfl hm hu rfl (NdefX.ndef_free (sc := defScope s__law_day_right) (fr := []) (by decide +kernel))) (pa_cons (pe_lam (T := tabs T) B rfl hm hu rfl (NdefX.ndef_free (sc := defScope s__law_day_right) (fr := []) (by decide +kernel))) pa_nil))))
  (pss_cons (ps_set (i := 3) sc__law_day_right.nd rfl (Or.inl rfl) (pe_op op_addA (pv 3) (pe_lst (pa_cons (pe_lam (T := tabs T) B rfl hm hu rfl (NdefX.ndef_free (sc := defScope s__law_day_right) (fr := []) (by decide +kernel))) (pa_cons (pe_lam (T := tabs T) B rfl hm hu rfl (NdefX.ndef_free (sc := defScope s__law_day_right) (fr := []) (by decide +kernel))) pa_nil)))))
  (pss_cons (ps_set (i := 3) sc__law_day_right.nd rfl (Or.inl rfl) (pe_op op_addA (pv 3) (pe_lst (pa_cons (pe_lam (T := tabs T) B rfl hm hu rfl (NdefX.ndef_free (sc := defScope s__law_day_right) (fr := []) (by decide +kernel))) (pa_cons (pe_lam (T := tabs T) B rfl hm hu rfl (NdefX.ndef_free (sc := defScope s__law_day_right) (fr := []) (by decide +kernel))) pa_nil)))))
  (pss_cons (ps_if (pt_not (pt_val (pe_callM (ok__law_each T) (hr.mono (by decide)) (by rfl) T.g__law_each T.F__law_each.kp (b__law_each T) (each_conv cap famOk) (pa_cons (pv 3) (pa_cons (pv 4) (pa_cons pe_int pa_nil)))))) (pss_one (ps_ret pe_bl)) pss_nil)
  (pss_cons (ps_set (i := 6) sc__law_day_right.nd rfl (Or.inl rfl) (pe_lst (pa_cons pe_non (pa_cons pe_int (pa_cons pe_str (pa_cons (pe_tup pa_nil) (pa_cons (pe_tup (pa_cons (pe_ix (ixK (K := K) rfl) (pv 0) pe_int (fun _ _ => rfl)) pa_nil)) (pa_cons pe_dnewK (pa_cons (pe_op op_mulA (pe_lst (pa_cons (pe_tup (pa_cons pe_int (pa_cons pe_int (pa_cons pe_int pa_nil)))) pa_nil)) pe_int) (pa_cons (pe_lst (pa_cons pe_non pa_nil)) (pa_cons (pe_lst (pa_cons (pe_tup pa_nil) pa_nil)) (pa_cons (pe_lst (pa_cons (pe_tup (pa_cons pe_int (pa_cons pe_int pa_nil))) pa_nil)) (pa_cons (pe_lst (pa_cons (pe_tup (pa_cons pe_int (pa_cons pe_int (pa_cons pe_int (pa_cons pe_int pa_nil))))) pa_nil)) (pa_cons (pe_lst (pa_cons (pe_lst (pa_cons pe_int (pa_cons pe_int (pa_cons pe_int pa_nil)))) pa_nil)) pa_nil))))))))))))))
  (pss_cons (ps_set (i := 6) sc__law_day_right.nd rfl (Or.inl rfl) (pe_op op_addA (pv 6) (pe_lst (pa_cons (pe_lst (pa_cons (pe_tup (pa_cons pe_int (pa_cons pe_int (pa_cons pe_int pa_nil)))) pa_nil)) (pa_cons (pe_lst (pa_cons (pe_tup (pa_cons pe_int (pa_cons pe_int (pa_cons pe_int pa_nil)))) pa_nil)) (pa_cons (pe_lst (pa_cons (pe_tup (pa_cons pe_int (pa_cons pe_int (pa_cons pe_int pa_nil)))) pa_nil)) (pa_cons (pe_lst (pa_cons (pe_tup (pa_cons pe_int (pa_cons (pe_op op_addA pe_int (pv 1)) (pa_cons pe_int pa_nil)))) pa_nil)) (pa_cons (pe_lst (pa_cons (pe_tup (pa_cons pe_int (pa_cons pe_int (pa_cons pe_int pa_nil)))) pa_nil)) (pa_cons (pe_lst (pa_cons (pe_tup (pa_cons pe_int (pa_cons pe_int (pa_cons (pe_op op_addA pe_int (pv 1)) pa_nil)))) pa_nil)) pa_nil)))))))))
  (pss_cons (ps_for PassesOwn.never rfl (seqK (K := K) rfl (pe_call (ok__law_no_numbers T) (hr.mono (by decide)) (by rfl) T.g__law_no_numbers T.F__law_no_numbers.kp (b__law_no_numbers T) .nil pass0 (pa_cons (pv 1) pa_nil))) (pg_name (i := 5) sc__law_day_right.nd rfl (Or.inl rfl)) (pss_one (ps_expr (bmK (K := K) rfl PySem.F.plainAttrs_list PySem.F.slot_list_extend PySem.F.type_list_extend mt_extend (pv 6) (pa_cons (pe_lst (pa_cons (pe_lst (pa_cons (pe_tup (pa_cons (pv 5) (pa_cons pe_int (pa_cons pe_int pa_nil)))) pa_nil)) (pa_cons (pe_lst (pa_cons (pe_tup (pa_cons pe_int (pa_cons (pv 5) (pa_cons pe_int pa_nil)))) pa_nil)) (pa_cons (pe_lst (pa_cons (pe_tup (pa_cons pe_int (pa_cons pe_int (pa_cons (pv 5) pa_nil)))) pa_nil)) (pa_cons (pe_lst (pa_cons (pe_ix (ixK (K := K) rfl) (pv 0) pe_int (fun _ _ => rfl)) (pa_cons (pe_tup (pa_cons pe_int (pa_cons pe_int (pa_cons (pv 5) pa_nil)))) pa_nil))) pa_nil))))) pa_nil)))))
  (pss_cons (ps_set (i := 3) sc__law_day_right.nd rfl (Or.inl rfl) (pe_lst (pa_cons (pe_lam (T := tabs T) B rfl hm hu rfl (NdefX.ndef_free (sc := defScope s__law_day_right) (fr := []) (by decide +kernel))) (pa_cons (pe_lam (T := tabs T) B rfl hm hu rfl (NdefX.ndef_free (sc := defScope s__law_day_right) (fr := []) (by decide +kernel))) pa_nil))))
  (pss_cons (ps_set (i := 3) sc__law_day_right.nd rfl (Or.inl rfl) (pe_op op_addA (pv 3) (pe_lst (pa_cons (pe_lam (T := tabs T) B rfl hm hu rfl (NdefX.ndef_free (sc := defScope s__law_day_right) (fr := []) (by decide +kernel))) (pa_cons (pe_lam (T := tabs T) B rfl hm hu rfl (NdefX.ndef_free (sc := defScope s__law_day_right) (fr := []) (by decide +kernel))) pa_nil)))))
  (pss_cons (ps_expr (bmK (K := K) rfl PySem.F.plainAttrs_list PySem.F.slot_list_append PySem.F.type_list_append mt_append (pv 3) (pa_cons (pe_lam (T := tabs T) B rfl hm hu rfl (NdefX.ndef_free (sc := defScope s__law_day_right) (fr := []) (by decide +kernel))) pa_nil)))
  (pss_cons (ps_set (i := 3) sc__law_day_right.nd rfl (Or.inl rfl) (pe_op op_addA (pv 3) (pe_lst (pa_cons (pe_lam (T := tabs T) B rfl hm hu rfl (NdefX.ndef_free (sc := defScope s__law_day_right) (fr := []) (by decide +kernel))) (pa_cons (pe_lam (T := tabs T) B rfl hm hu rfl (NdefX.ndef_free (sc := defScope s__law_day_right) (fr := []) (by decide +kernel))) pa_nil)))))
  (pss_one (ps_ret (pe_callM (ok__law_each T) (hr.mono (by decide)) (by rfl) T.g__law_each T.F__law_each.kp (b__law_each T) (each_conv cap famOk) (pa_cons (pv 3) (pa_cons (pv 6) (pa_cons pe_int pa_nil)))))))))))))))))))))))), body_ofT (M := N__law_day_right) (fun as R h => ?_) vs H Q E h⟩
  obtain ⟨q, more, rfl, hmo, hR⟩ := h
  -- DAY
  let cells := cellsFrom (s.heap.objs.size + 1) (defScope s__law_day_right).names []
  refine sdt_seq1 (sdt_sd (sd_asg (d := .list (badTun more)) (el_cat (el_call (ea1 (ed_var rfl)) ⟨more, rfl, rfl⟩).ed (el_lst (ds := [.int 0, .int 4, .int (4 + more)]) (ea_cons ed_int (ea2 ed_int (ed_add ed_int (ed_var rfl)))) (by simp)).ed (by simp [noNums])).ed rfl)) ?_
  refine sdt_seq1 (sdt_asg (edt_lst (eat_cons (edt_fn (n := 0) rfl) (eat_cons (edt_fn (n := 1) rfl) eat_nil)) (by simp)) rfl) ?_
  refine sdt_seq1 (sdt_asg (edt_op (edt_ed (ed_var rfl)) (edt_lst (eat_cons (edt_fn (n := 2) rfl) (eat_cons (edt_fn (n := 3) rfl) eat_nil)) (by simp)) (rd_cat (by simp))) rfl) ?_
  refine sdt_seq1 (sdt_asg (edt_op (edt_ed (ed_var rfl)) (edt_lst (eat_cons (edt_fn (n := 4) rfl) (eat_cons (edt_fn (n := 5) rfl) eat_nil)) (by simp)) (rd_cat (by simp))) rfl) ?_
  refine sdt_seq1 (sdt_if (b := false) (ett_is (ett_not (ett_B (edt_each (fam := famL T cells) (asks := [(0, none), (1, none), (2, none), (3, none), (4, none), (5, none)]) (things := badTun more) (due := 2) (eat_cons (edt_ed (ed_var rfl)) (eat_cons (edt_ed (ed_var rfl)) (eat_cons (edt_ed ed_int) eat_nil))) (by simp) (by simp [badTun, noNums]) ?ok1 ?r1))) rfl) (fun e => by cases e) fun _ => sdt_next rfl) ?_
  case ok1 =>
    intro a ha
    simp only [List.mem_cons, List.not_mem_nil, or_false] at ha
    rcases ha with rfl | rfl | rfl | rfl | rfl | rfl <;> exact ⟨by decide, rfl⟩
  case r1 =>
    intro a ha t ht
    obtain ⟨h1, h2⟩ := badTun_is hmo t ht
    simp only [List.mem_cons, List.not_mem_nil, or_false] at ha
    refine ⟨T.C_BadTuners, due_BadTuners T, fun E => ?_⟩
    rcases ha with rfl | rfl | rfl | rfl | rfl | rfl
    · exact rfe_callR (ea_cons (ed_var rfl) (ea_cons ed_non (ea2 ed_non ed_non))) ⟨_, _, _, _, rfl, .inl (allT T h1 h2)⟩
    · exact rfe_callR (ea_cons (ed_var rfl) (ea_cons ed_non (ea_cons ed_non (ea2 ed_non ed_non)))) ⟨_, _, _, _, _, rfl, .inl (allT T h1 h2)⟩
    · exact rfe_callR (ea_cons (ed_var rfl) (ea2 ed_non ed_non)) ⟨_, _, _, rfl, allT T h1 h2⟩
    · exact rfe_callR (ea_cons (ed_var rfl) (ea2 ed_non ed_non)) ⟨_, _, _, rfl, allT T h1 h2⟩
    · exact rfe_callR (ea_cons (ed_var rfl) (ea_cons ed_non (ea2 ed_non ed_non))) ⟨_, _, _, _, rfl, .inl (allT T h1 h2)⟩
    · exact rfe_callR (ea_cons (ed_var rfl) (ea_cons ed_non (ea_cons ed_non (ea_cons ed_non (ea2 ed_non ed_non))))) ⟨_, _, _, _, _, _, rfl, .inl (allT T h1 h2)⟩
  refine sdt_seq1 (sdt_sd (sd_asgL (i := 4) (el_lst (ds := badEd0 more) (ea_cons ed_non (ea_cons ed_int (ea_cons ed_str (ea_cons (el_lst (ds := [.int 0, .int 1]) (ea2 ed_int ed_int) (by simp)).ed (ea_cons (ed_tup (ds := []) ea_nil (by simp)) (ea_cons (ed_tup (ds := [.int 1]) (ea1 ed_int) (by simp)) (ea_cons (ed_trip ed_int ed_int ed_int) (ea_cons ed_dct (ea2 (ed_pair ed_int ed_int) (ed_pair ed_int (ed_add ed_int (ed_var rfl)))))))))))) (by simp [badEd0])) rfl)) ?_
  refine sdt_seq (M := fun τ' => ∃ s3 s5 : Sl, τ' = [.dat (dTag q (dDay day8)), .dat (.int more), .dat (.list (badTun more)), s3, .own (badEd more), s5, .unk]) (sdt_sd (sd_for (its := noNums more) (fun i τ' => ∃ s3 s5 : Sl, τ' = [.dat (dTag q (dDay day8)), .dat (.int more), .dat (.list (badTun more)), s3, .own (badEd0 more ++ ((noNums more).take i).flatMap fEd), s5, .unk]) (ei_any (el_call (ea1 (ed_var rfl)) ⟨more, rfl, rfl⟩).ed) ⟨_, _, by rw [List.take_zero, List.flatMap_nil, List.append_nil]; rfl⟩ ?turn1 ?out1)) ?rest1
  case out1 =>
    rintro τ1 ⟨s3, s5, rfl⟩
    exact ⟨s3, s5, by rw [List.take_of_length_le (Nat.le_refl _)]; rfl⟩
  case turn1 =>
    rintro i d τ1 hd' ⟨s3, s5, rfl⟩
    have hi : i < 9 := (List.getElem?_eq_some_iff.mp hd').1
    refine ⟨[5], _, tg_name 5, sd_extend (i := 4) (es := fEd d) rfl (el_lst (ds := fEd d) (ea2 (ed_tup2 (ed_var rfl) ed_int) (ed_tup2 ed_int (ed_var rfl))) (by simp [fEd])).ed ?len ⟨s3, .dat d, ?eq⟩⟩
    case eq =>
      rw [flat_take hd', ← List.append_assoc]
      rfl
    case len =>
      have h1 : (((noNums more).take i).flatMap fEd).length ≤ 4 * 9 := by
        refine Nat.le_trans (flat_len (n := 4) (fun d => by simp [fEd]) _) ?_
        rw [List.length_take]
        simp only [noNums, List.length_cons, List.length_nil]
        omega
      rw [List.length_append]
      have h2 : (fEd d).length ≤ 4 := by simp [fEd]
      have h3 : (badEd0 more).length ≤ 100 := by simp [badEd0, badDay0, badDay1]
      omega
  case rest1 =>
  rintro _ ⟨s3, s5, rfl⟩
  refine sdt_seq1 (sdt_asg (edt_lst (eat_cons (edt_fn (n := 6) rfl) (eat_cons (edt_fn (n := 7) rfl) eat_nil)) (by simp)) rfl) ?_
  refine sdt_seq1 (sdt_asg (edt_op (edt_ed (ed_var rfl)) (edt_lst (eat_cons (edt_fn (n := 8) rfl) (eat_cons (edt_fn (n := 9) rfl) eat_nil)) (by simp)) (rd_cat (by simp))) rfl) ?_
  refine sdt_seq1 (sdt_asg (edt_op (edt_ed (ed_var rfl)) (edt_lst (eat_cons (edt_fn (n := 10) rfl) (eat_cons (edt_fn (n := 11) rfl) eat_nil)) (by simp)) (rd_cat (by simp))) rfl) ?_
  refine sdt_frz (i := 4) rfl ?_
  refine sdt_seq1 (sdt_if (b := false) (ett_is (ett_not (ett_B (edt_each (fam := famL T cells) (asks := [(6, none), (7, none), (8, none), (9, none), (10, none), (11, none)]) (things := badEd more) (due := 1) (eat_cons (edt_ed (ed_var rfl)) (eat_cons (edt_ed (ed_var rfl)) (eat_cons (edt_ed ed_int) eat_nil))) (by simp) (badEd_len more) ?ok2 ?r2))) rfl) (fun e => by cases e) fun _ => sdt_next rfl) ?_
  case ok2 =>
    intro a ha
    simp only [List.mem_cons, List.not_mem_nil, or_false] at ha
    rcases ha with rfl | rfl | rfl | rfl | rfl | rfl <;> exact ⟨by decide, rfl⟩
  case r2 =>
    intro a ha t ht
    obtain ⟨h1, h2⟩ := badEd_is hmo t ht
    simp only [List.mem_cons, List.not_mem_nil, or_false] at ha
    refine ⟨T.C_BadEdges, due_BadEdges T, fun E => ?_⟩
    rcases ha with rfl | rfl | rfl | rfl | rfl | rfl
    · exact rfe_callR (ea_cons ed_int (ea_cons (ed_var rfl) (ea2 ed_non ed_non))) ⟨_, _, _, _, rfl, .inl (allE T (m := 1) (by decide) h1 h2)⟩
    · exact rfe_callR (ea_cons ed_int (ea_cons (ed_var rfl) (ea_cons ed_non (ea2 ed_non ed_non)))) ⟨_, _, _, _, _, rfl, .inl (allE T (m := 2) (by decide) h1 h2)⟩
    · exact rfe_callR (ea_cons ed_int (ea2 (ed_var rfl) ed_non)) ⟨_, _, _, rfl, allE T (m := 3) (by decide) h1 h2⟩
    · exact rfe_callR (ea_cons ed_int (ea2 (ed_var rfl) ed_non)) ⟨_, _, _, rfl, allE T (m := 1) (by decide) h1 h2⟩
    · exact rfe_callR (ea_cons ed_int (ea_cons (ed_var rfl) (ea2 ed_non ed_non))) ⟨_, _, _, _, rfl, .inl (allE T (m := 1) (by decide) h1 h2)⟩
    · exact rfe_callR (ea_cons ed_int (ea_cons (ed_var rfl) (ea_cons ed_non (ea_cons ed_non (ea2 ed_non ed_non))))) ⟨_, _, _, _, _, _, rfl, .inl (allE T (m := 2) (by decide) h1 h2)⟩
  refine sdt_seq1 (sdt_sd (sd_asg (d := .list (badDay0 more)) (el_lst (ds := badDay0 more) (ea_cons ed_non (ea_cons ed_int (ea_cons ed_str (ea_cons (ed_tup (ds := []) ea_nil (by simp)) (ea_cons (ed_tup (ds := [dS (0, 4, 3)]) (ea1 (ed_is (ed_day (day := day8) (ed_varT rfl) ed_int (by decide) (by decide)) rfl)) (by simp)) (ea_cons ed_dct (ea_cons (ed_is (el_rep (ds := [dS (0, 1, 0)]) (k := 11) (el_lst (ds := [dS (0, 1, 0)]) (ea1 (ed_trip ed_int ed_int ed_int)) (by simp)).ed ed_int (by decide) (by decide) (by decide)).ed rfl) (ea_cons (el_lst (ds := [.none]) (ea1 ed_non) (by simp)).ed (ea_cons (el_lst (ds := [.tuple []]) (ea1 (ed_tup (ds := []) ea_nil (by simp))) (by simp)).ed (ea_cons (el_lst (ds := [.tuple [.int 0, .int 1]]) (ea1 (ed_tup (ds := [.int 0, .int 1]) (ea2 ed_int ed_int) (by simp))) (by simp)).ed (ea2 (el_lst (ds := [.tuple [.int 0, .int 1, .int 2, .int 3]]) (ea1 (ed_tup (ds := [.int 0, .int 1, .int 2, .int 3]) (ea_cons ed_int (ea_cons ed_int (ea2 ed_int ed_int))) (by simp))) (by simp)).ed (el_lst (ds := [.list [.int 0, .int 1, .int 2]]) (ea1 (el_lst (ds := [.int 0, .int 1, .int 2]) (ea_cons ed_int (ea2 ed_int ed_int)) (by simp)).ed) (by simp)).ed))))))))))) (by simp [badDay0])).ed rfl)) ?_
  refine sdt_seq1 (sdt_sd (sd_asgL (i := 6) (el_cat (ds := badDay0 more) (es := badDay1 more) (ed_var rfl) (el_lst (ds := badDay1 more) (ea_cons (el_lst (ds := [dS (1, 1, 0)]) (ea1 (ed_trip ed_int ed_int ed_int)) (by simp)).ed (ea_cons (el_lst (ds := [dS (2, 1, 0)]) (ea1 (ed_trip ed_int ed_int ed_int)) (by simp)).ed (ea_cons (el_lst (ds := [dS (0, 25, 0)]) (ea1 (ed_trip ed_int ed_int ed_int)) (by simp)).ed (ea_cons (el_lst (ds := [dS (0, 25 + more, 1)]) (ea1 (ed_trip ed_int (ed_add ed_int (ed_var rfl)) ed_int)) (by simp)).ed (ea2 (el_lst (ds := [dS (23, 24, 61)]) (ea1 (ed_trip ed_int ed_int ed_int)) (by simp)).ed (el_lst (ds := [dS (0, 1, 61 + more)]) (ea1 (ed_trip ed_int ed_int (ed_add ed_int (ed_var rfl)))) (by simp)).ed))))) (by simp [badDay1])).ed (by simp [badDay0, badDay1])) rfl)) ?_
  refine sdt_seq (M := fun τ' => ∃ s3 s5 : Sl, τ' = [.dat (dTag q (dDay day8)), .dat (.int more), .dat (.list (badTun more)), s3, .dat (.list (badEd more)), s5, .own (badDay more)]) (sdt_sd (sd_for (its := noNums more) (fun i τ' => ∃ s3 s5 : Sl, τ' = [.dat (dTag q (dDay day8)), .dat (.int more), .dat (.list (badTun more)), s3, .dat (.list (badEd more)), s5, .own (badDay0 more ++ badDay1 more ++ ((noNums more).take i).flatMap fDay)]) (ei_any (el_call (ea1 (ed_var rfl)) ⟨more, rfl, rfl⟩).ed) ⟨_, _, by rw [List.take_zero, List.flatMap_nil, List.append_nil]; rfl⟩ ?turn2 ?out2)) ?rest2
  case out2 =>
    rintro τ1 ⟨s3, s5, rfl⟩
    exact ⟨s3, s5, by rw [List.take_of_length_le (Nat.le_refl _)]; rfl⟩
  case turn2 =>
    rintro i d τ1 hd' ⟨s3, s5, rfl⟩
    have hi : i < 9 := (List.getElem?_eq_some_iff.mp hd').1
    refine ⟨[5], _, tg_name 5, sd_extend (i := 6) (es := fDay d) rfl (el_lst (ds := fDay d) (ea_cons (el_lst (ds := [.tuple [d, .int 9, .int 1]]) (ea1 (ed_tup (ds := [d, .int 9, .int 1]) (ea_cons (ed_var rfl) (ea2 ed_int ed_int)) (by simp))) (by simp)).ed (ea_cons (el_lst (ds := [.tuple [.int 0, d, .int 1]]) (ea1 (ed_tup (ds := [.int 0, d, .int 1]) (ea_cons ed_int (ea2 (ed_var rfl) ed_int)) (by simp))) (by simp)).ed (ea2 (el_lst (ds := [.tuple [.int 0, .int 9, d]]) (ea1 (ed_tup (ds := [.int 0, .int 9, d]) (ea_cons ed_int (ea2 ed_int (ed_var rfl))) (by simp))) (by simp)).ed (el_lst (ds := [dS (0, 4, 3), .tuple [.int 3, .int 9, d]]) (ea2 (ed_is (ed_day (day := day8) (ed_varT rfl) ed_int (by decide) (by decide)) rfl) (ed_tup (ds := [.int 3, .int 9, d]) (ea_cons ed_int (ea2 ed_int (ed_var rfl))) (by simp))) (by simp)).ed))) (by simp [fDay])).ed ?len ⟨s3, .dat d, ?eq⟩⟩
    case eq =>
      rw [flat_take hd', ← List.append_assoc]
      rfl
    case len =>
      have h1 : (((noNums more).take i).flatMap fDay).length ≤ 4 * 9 := by
        refine Nat.le_trans (flat_len (n := 4) (fun d => by simp [fDay]) _) ?_
        rw [List.length_take]
        simp only [noNums, List.length_cons, List.length_nil]
        omega
      rw [List.length_append]
      have h2 : (fDay d).length ≤ 4 := by simp [fDay]
      have h3 : (badDay0 more ++ badDay1 more).length ≤ 100 := by simp [badEd0, badDay0, badDay1]
      omega
  case rest2 =>
  rintro _ ⟨s3, s5, rfl⟩
  refine sdt_seq1 (sdt_asg (edt_lst (eat_cons (edt_fn (n := 12) rfl) (eat_cons (edt_fn (n := 13) rfl) eat_nil)) (by simp)) rfl) ?_
  refine sdt_seq1 (sdt_asgL (elt_op (edt_ed (ed_var rfl)) (edt_lst (eat_cons (edt_fn (n := 14) rfl) (eat_cons (edt_fn (n := 15) rfl) eat_nil)) (by simp)) (rl_cat (by simp))) rfl) ?_
  refine sdt_seq1 (sdt_append (i := 3) rfl (edt_fn (n := 16) rfl) (by simp) rfl) ?_
  refine sdt_frz (i := 3) rfl ?_
  refine sdt_seq1 (sdt_asg (edt_op (edt_ed (ed_var rfl)) (edt_lst (eat_cons (edt_fn (n := 17) rfl) (eat_cons (edt_fn (n := 18) rfl) eat_nil)) (by simp)) (rd_cat (by simp))) rfl) ?_
  refine sdt_frz (i := 6) rfl ?_
  refine sdt_ret (edt_each (fam := famL T cells) (asks := [(12, none), (13, none), (14, none), (15, none), (16, none), (17, none), (18, none)]) (things := badDay more) (due := 0) (eat_cons (edt_ed (ed_var rfl)) (eat_cons (edt_ed (ed_var rfl)) (eat_cons (edt_ed ed_int) eat_nil))) (by simp) (badDay_len more) ?ok3 ?r3) hR
  case ok3 =>
    intro a ha
    simp only [List.mem_cons, List.not_mem_nil, or_false] at ha
    rcases ha with rfl | rfl | rfl | rfl | rfl | rfl | rfl <;> exact ⟨by decide, rfl⟩
  case r3 =>
    intro a ha t ht
    obtain ⟨h1, h2⟩ := badDay_is hmo t ht
    simp only [List.mem_cons, List.not_mem_nil, or_false] at ha
    refine ⟨T.C_BadShows, due_BadShows T, fun E => ?_⟩
    rcases ha with rfl | rfl | rfl | rfl | rfl | rfl | rfl
    · exact rfe_callR (ea_cons ed_int (ea_cons (ed_pair ed_int ed_int) (ea2 (ed_var rfl) ed_non))) ⟨_, _, _, _, rfl, .inl (allS T (m := 1) (e := (0, 2)) (by decide) (by simp [okE]) h1 h2)⟩
    · exact rfe_callR (ea_cons ed_int (ea_cons (ed_pair ed_int ed_int) (ea_cons (ed_var rfl) (ea2 ed_non ed_non)))) ⟨_, _, _, _, _, rfl, .inl (allS T (m := 2) (e := (0, 0)) (by decide) (by simp [okE]) h1 h2)⟩
    · exact rfe_callR (ea_cons ed_int (ea2 (ed_pair ed_int ed_int) (ed_var rfl))) ⟨_, _, _, rfl, allS T (m := 3) (e := (1, 1)) (by decide) (by simp [okE]) h1 h2⟩
    · exact rfe_callR (ea_cons ed_int (ea2 (ed_pair ed_int ed_int) (ed_var rfl))) ⟨_, _, _, rfl, allS T (m := 1) (e := (2, 0)) (by decide) (by simp [okE]) h1 h2⟩
    · exact rfe_callR (ea_cons (ed_var rfl) (ea2 ed_non ed_non)) ⟨_, _, _, rfl, .inl ⟨_, rfl, rfl, h1, h2⟩⟩
    · exact rfe_callR (ea_cons ed_int (ea_cons (ed_pair ed_int ed_int) (ea2 (ed_var rfl) ed_non))) ⟨_, _, _, _, rfl, .inl (allS T (m := 1) (e := (0, 0)) (by decide) (by simp [okE]) h1 h2)⟩
    · exact rfe_callR (ea_cons ed_int (ea_cons (ed_pair ed_int ed_int) (ea_cons (ed_var rfl) (ea_cons ed_non (ea2 ed_non ed_non))))) ⟨_, _, _, _, _, _, rfl, .inl (allS T (m := 2) (e := (0, 0)) (by decide) (by simp [okE]) h1 h2)⟩

theorem okDay8 : okDay day8 := ⟨by decide, fun s hs => by simp [day8] at hs; rcases hs with rfl | rfl | rfl <;> simp [Pl.okS]⟩
abbrev alike8 : List Show := List.replicate 8 (0, 1, 0)
theorem okAlike : okDay alike8 := ⟨by decide, fun s hs => by have := List.eq_of_mem_replicate hs; subst this; simp [Pl.okS]⟩
def rgI (n : Nat) : List Int := (List.range n).map fun (i : Nat) => (i : Int)
theorem okRg {n : Nat} (h : n ≤ 8) : okR alike8.length (rgI n) := ⟨fun p hp => by
  obtain ⟨i, hi, rfl⟩ := List.mem_map.mp hp
  have := List.mem_range.mp hi
  show 0 ≤ (i : Int) ∧ (i : Int) < 8
  omega, by
  unfold rgI
  rw [List.pairwise_map]
  exact List.pairwise_lt_range.imp fun h => by omega⟩
theorem okR01 : okR day8.length [0, 1] := ⟨fun p hp => by simp at hp; show 0 ≤ p ∧ p < 3; omega, by simp⟩
theorem row0 : ∀ r ∈ ([[0]] : List (List Int)), okR day8.length r ∧ r ≠ [] := fun r hr => by
  simp at hr
  subst hr
  exact ⟨⟨fun p hp => by simp at hp; subst hp; decide, by simp⟩, by simp⟩
theorem noPls_len (more : Int) : (noPls more).length ≤ 1000 := by
  unfold noPls
  rw [List.length_append]
  have := flat_len (f := fun o => [PyData.list [o], .list [.int 0, o]]) (n := 2) (fun d => by simp) (noNums more)
  rw [show (noNums more).length = 9 from rfl] at this
  simp only [noPls0, List.length_cons, List.length_nil]
  omega
/-- a row of few members that is no row of places -/
theorem noPl_is {more : Int} (hm : 0 ≤ more) : ∀ t ∈ noPls more, layD t = true ∧ (∀ ds, t = .list ds → ds.length ≤ 2) ∧ arePl 3 t = false := fun t ht => by
  rcases List.mem_append.mp ht with ht | ht
  · simp only [noPls0, List.mem_cons, List.not_mem_nil, or_false] at ht
    rcases ht with rfl | rfl | rfl | rfl | rfl | rfl | rfl | rfl | rfl | rfl <;> refine ⟨rfl, fun ds e => by first | (cases e; done) | (cases e; simp), ?_⟩ <;> first | rfl | (simp [arePl, inPl, toI, isWh]; try omega)
  · obtain ⟨o, ho, ht⟩ := List.mem_flatMap.mp ht
    simp only [noNums, List.mem_cons, List.not_mem_nil, or_false] at ho
    simp only [List.mem_cons, List.not_mem_nil, or_false] at ht
    rcases ho with rfl | rfl | rfl | rfl | rfl | rfl | rfl | rfl | rfl <;> rcases ht with rfl | rfl <;> refine ⟨rfl, fun ds e => by cases e; simp, ?_⟩ <;> first | rfl | (simp [arePl, inPl, toI, isWh]; try omega)
theorem badPl_is {more : Int} (hm : 0 ≤ more) : ∀ t ∈ noPls more, layD t = true ∧ (∀ ds, t = .list ds → ds.length ≤ 1000) ∧ arePl (day8.map dS).length t = false := fun t ht => by
  obtain ⟨h1, h2, h3⟩ := noPl_is hm t ht
  exact ⟨h1, fun ds e => Nat.le_trans (h2 ds e) (by decide), h3⟩
def badSpot (more : Int) : List PyData := noNums more ++ [.int 3, .int (3 + more)]
theorem badSpot_is {more : Int} (hm : 0 ≤ more) : ∀ t ∈ badSpot more, layD t = true ∧ arePl day8.length (.list [t]) = false := fun t ht => by
  simp only [badSpot, noNums, List.cons_append, List.nil_append, List.mem_cons, List.not_mem_nil, or_false] at ht
  rcases ht with rfl | rfl | rfl | rfl | rfl | rfl | rfl | rfl | rfl | rfl | rfl <;> refine ⟨rfl, ?_⟩ <;> first | rfl | (simp [arePl, inPl, toI, isWh, day8]; try omega)
def badW0 : List PyData := [.none, .int 5, .str "01", .tuple [], .tuple [.list [.int 0]], .dict [], .list (List.replicate 7 (.list [.int 0])), .list [.list []], .list [.list [.int 0], .list []]]
def fW1 (o : PyData) : PyData := .list [o]
def fW2 (o : PyData) : PyData := .list [.list [.int 0, .int 2], o]
def badW (more : Int) : List PyData := badW0 ++ (noPls more).map fW1 ++ (noPls more).map fW2
theorem badW_len (more : Int) : (badW more).length ≤ 1000 := by
  unfold badW
  rw [List.length_append, List.length_append, List.length_map, List.length_map]
  have : (noPls more).length = 28 := rfl
  rw [this]
  decide
theorem badW_is {more : Int} (hm : 0 ≤ more) : ∀ t ∈ badW more, layD t = true ∧ (∀ ds, t = .list ds → ∀ r ∈ ds, ∀ rs, r = .list rs → rs.length ≤ 1000) ∧ wishOk (day8.map dS).length t = false := fun t ht => by
  rcases List.mem_append.mp ht with ht | ht
  · rcases List.mem_append.mp ht with ht | ht
    · simp only [badW0, List.mem_cons, List.not_mem_nil, or_false] at ht
      rcases ht with rfl | rfl | rfl | rfl | rfl | rfl | rfl | rfl | rfl <;> refine ⟨rfl, fun ds e r hr rs e2 => ?_, rfl⟩
      all_goals first | (cases e; done) | skip
      · cases e
        have := List.eq_of_mem_replicate hr
        subst this
        cases e2
        decide
      · cases e
        simp at hr
        subst hr
        cases e2
        decide
      · cases e
        simp at hr
        rcases hr with rfl | rfl <;> cases e2 <;> decide
    · obtain ⟨o, ho, rfl⟩ := List.mem_map.mp ht
      obtain ⟨h1, h2, h3⟩ := noPl_is hm o ho
      refine ⟨by simp [fW1, layD, layDs, h1], fun ds e r hr rs e2 => ?_, ?_⟩
      · cases e
        simp at hr
        subst hr
        exact Nat.le_trans (h2 rs e2) (by decide)
      · show (decide ([o].length ≤ 6) && ([o].all fun r => arePl 3 r && neL r)) = false
        simp [h3]
  · obtain ⟨o, ho, rfl⟩ := List.mem_map.mp ht
    obtain ⟨h1, h2, h3⟩ := noPl_is hm o ho
    refine ⟨by simp [fW2, layD, layDs, h1], fun ds e r hr rs e2 => ?_, ?_⟩
    · cases e
      simp at hr
      rcases hr with rfl | rfl
      · cases e2; decide
      · exact Nat.le_trans (h2 rs e2) (by decide)
    · show (decide ([.list [.int 0, .int 2], o].length ≤ 6) && ([PyData.list [.int 0, .int 2], o].all fun r => arePl 3 r && neL r)) = false
      simp [h3]
def badMv (more : Int) : List PyData := [.none, .str "1", .bool true, .bool false, .list [.int 1], .tuple [.int 1], .dict [], .int (-3), .int (-3 - more), .int 17, .int (17 + more)]
theorem badMv_is {more : Int} (hm : 0 ≤ more) : ∀ t ∈ badMv more, notD t = true ∧ ∀ by_ : Int, t = .int by_ → (shAt day8 1).1 + by_ < 0 ∨ (shAt day8 1).2.1 + by_ > 24 := fun t ht => by
  have e0 : shAt day8 1 = (2, 8, 5) := rfl
  rw [e0]
  simp only [badMv, List.mem_cons, List.not_mem_nil, or_false] at ht
  rcases ht with rfl | rfl | rfl | rfl | rfl | rfl | rfl | rfl | rfl | rfl | rfl <;> refine ⟨rfl, fun by_ e => ?_⟩ <;> cases e <;> dsimp <;> omega
def badLy0 (more : Int) : List PyData := [.none, .int 5, .str "00", .tuple [], dP (0, 0), .dict [], .list [], .list [.int 0], .list [.int 0, .int 0, .int 0], .list [.int 0, .int 2], .list [.int 0, .int (2 + more)]]
def fLy (o : PyData) : List PyData := if isNone o = true then [] else [.list [o, .int 0], .list [.none, o]]
theorem fLy_len (o : PyData) : (fLy o).length ≤ 2 := by unfold fLy; split <;> simp
def badLy (more : Int) : List PyData := badLy0 more ++ (noNums more).flatMap fLy
theorem badLy_len (more : Int) : (badLy more).length ≤ 1000 := by
  unfold badLy
  rw [List.length_append]
  have := flat_len (f := fLy) (n := 2) fLy_len (noNums more)
  rw [show (noNums more).length = 9 from rfl] at this
  simp only [badLy0, List.length_cons, List.length_nil]
  omega
theorem badLy_is {more : Int} (hm : 0 ≤ more) : ∀ t ∈ badLy more, layD t = true ∧ oldOk 2 ([0, 1] : List Int).length t = false := fun t ht => by
  rcases List.mem_append.mp ht with ht | ht
  · simp only [badLy0, List.mem_cons, List.not_mem_nil, or_false] at ht
    rcases ht with rfl | rfl | rfl | rfl | rfl | rfl | rfl | rfl | rfl | rfl | rfl <;> refine ⟨rfl, ?_⟩ <;> first | rfl | (simp [oldOk, oldIn, isNone, toI, isWh]; done) | (simp [oldOk, oldIn, isNone, toI, isWh]; first | exact decide_eq_false (by omega) | omega)
  · obtain ⟨o, ho, ht⟩ := List.mem_flatMap.mp ht
    simp only [noNums, List.mem_cons, List.not_mem_nil, or_false] at ho
    rcases ho with rfl | rfl | rfl | rfl | rfl | rfl | rfl | rfl | rfl <;> simp only [fLy, isNone, if_pos, if_neg, Bool.false_eq_true, if_false, if_true, List.mem_cons, List.not_mem_nil, or_false] at ht <;> first | (exact ht.elim) | (rcases ht with rfl | rfl <;> refine ⟨rfl, ?_⟩ <;> first | rfl | (simp [oldOk, oldIn, isNone, toI, isWh]; done) | (simp [oldOk, oldIn, isNone, toI, isWh]; first | exact decide_eq_false (by omega) | omega))
def P__law_rest_right (as : List Sl) (R : Sl → Prop) : Prop := ∃ (q : Addr) (more : Int), as = [.dat (dTag q (dDay day8)), .dat (.int more)] ∧ 0 ≤ more ∧ R (.dat (.bool true))
theorem ok__law_rest_right (T : Txt K mg) (Bs : ∀ p ∈ cs T, LamX.TabB base mg p.1 p.2) : FnOk P w K mg base CX0 16 T.fa__law_rest_right T.fd__law_rest_right A__law_rest_right (spT K (tabs T) P__law_rest_right) := by
  have B : LamX.TabB base mg T.tc__law_rest_right T.tp__law_rest_right := Bs (T.tc__law_rest_right, T.tp__law_rest_right) (by simp [cs])
  have hm : (T.tp__law_rest_right, (("_law_rest_right" : Str) ++ ".<locals>.") ++ "<lambda>") ∈ tabs T := by simp [tabs]
  have hu : ∀ p ∈ tabs T, p.1 = T.tp__law_rest_right → p.2 = (("_law_rest_right" : Str) ++ ".<locals>.") ++ "<lambda>" := fun p hp e => by
    simp only [tabs, List.mem_cons, List.not_mem_nil, or_false] at hp
    rcases hp with rfl | rfl
    · exact absurd e T.tne__law_day_right__law_rest_right
    · rfl
  refine okT T.Fc__law_rest_right sc__law_rest_right (spT_len (n := 2) fun as R h => ?_) fun A outer s H vs Q E hr h => ?_
  · obtain ⟨_, _, rfl, _⟩ := h; rfl
  have famOk : ∀ n, (19 ≤ n ∧ n < 29) → FamOk P w K mg base 12 n (famL T (cellsFrom (s.heap.objs.size + 1) (defScope s__law_rest_right).names []) n) := fun n hn => famOk (P := P) (w := w) (base := base) T (cellsFrom (s.heap.objs.size + 1) (defScope s__law_rest_right).names []) n (by omega)
  have cap : ∀ n, (19 ≤ n ∧ n < 29) → (cxOf CX0 P w K mg base N__law_rest_right "_law_rest_right" (defScope s__law_rest_right) T.fa__law_rest_right (.ref T.tc__law_rest_right) A outer s H E).nox.Ok → NdefX.Caps (cxOf CX0 P w K mg base N__law_rest_right "_law_rest_right" (defScope s__law_rest_right) T.fa__law_rest_right (.ref T.tc__law_rest_right) A outer s H E).nox (famL T (cellsFrom (s.heap.objs.size + 1) (defScope s__law_rest_right).names []) n).cl (famL T (cellsFrom (s.heap.objs.size + 1) (defScope s__law_rest_right).names []) n).fr (famL T (cellsFrom (s.heap.objs.size + 1) (defScope s__law_rest_right).names []) n).js := fun n hn ok => by
    have h : n = 19 ∨ n = 20 ∨ n = 21 ∨ n = 22 ∨ n = 23 ∨ n = 24 ∨ n = 25 ∨ n = 26 ∨ n = 27 ∨ n = 28 := by omega
    rcases h with rfl | rfl | rfl | rfl | rfl | rfl | rfl | rfl | rfl | rfl
    · exact NdefX.Caps.made (fr := ["_law_day"]) (js := [0]) ok (NdefX.ndef_free (sc := defScope s__law_rest_right) (fr := ["_law_day"]) (by decide +kernel)) (NdefX.ndef_fr (sc := defScope s__law_rest_right) (fr := ["_law_day"]) (by decide +kernel)) rfl
    · exact NdefX.Caps.made (fr := ["_law_day"]) (js := [0]) ok (NdefX.ndef_free (sc := defScope s__law_rest_right) (fr := ["_law_day"]) (by decide +kernel)) (NdefX.ndef_fr (sc := defScope s__law_rest_right) (fr := ["_law_day"]) (by decide +kernel)) rfl
    · exact NdefX.Caps.made (fr := ["_law_day"]) (js := [0]) ok (NdefX.ndef_free (sc := defScope s__law_rest_right) (fr := ["_law_day"]) (by decide +kernel)) (NdefX.ndef_fr (sc := defScope s__law_rest_right) (fr := ["_law_day"]) (by decide +kernel)) rfl
    · exact NdefX.Caps.made (fr := ["_law_day"]) (js := [0]) ok (NdefX.ndef_free (sc := defScope s__law_rest_right) (fr := ["_law_day"]) (by decide +kernel)) (NdefX.ndef_fr (sc := defScope s__law_rest_right) (fr := ["_law_day"]) (by decide +kernel)) rfl
    · exact NdefX.Caps.made (fr := ["_law_day"]) (js := [0]) ok (NdefX.ndef_free (sc := defScope s__law_rest_right) (fr := ["_law_day"]) (by decide +kernel)) (NdefX.ndef_fr (sc := defScope s__law_rest_right) (fr := ["_law_day"]) (by decide +kernel)) rfl
    · exact NdefX.Caps.made (fr := ["_law_day"]) (js := [0]) ok (NdefX.ndef_free (sc := defScope s__law_rest_right) (fr := ["_law_day"]) (by decide +kernel)) (NdefX.ndef_fr (sc := defScope s__law_rest_right) (fr := ["_law_day"]) (by decide +kernel)) rfl
    · exact NdefX.Caps.made (fr := ["_law_day"]) (js := [0]) ok (NdefX.ndef_free (sc := defScope s__law_rest_right) (fr := ["_law_day"]) (by decide +kernel)) (NdefX.ndef_fr (sc := defScope s__law_rest_right) (fr := ["_law_day"]) (by decide +kernel)) rfl
    · exact NdefX.Caps.made (fr := ["_law_day"]) (js := [0]) ok (NdefX.ndef_free (sc := defScope s__law_rest_right) (fr := ["_law_day"]) (by decide +kernel)) (NdefX.ndef_fr (sc := defScope s__law_rest_right) (fr := ["_law_day"]) (by decide +kernel)) rfl
    · exact NdefX.Caps.made (fr := ["_law_day"]) (js := [0]) ok (NdefX.ndef_free (sc := defScope s__law_rest_right) (fr := ["_law_day"]) (by decide +kernel)) (NdefX.ndef_fr (sc := defScope s__law_rest_right) (fr := ["_law_day"]) (by decide +kernel)) rfl
    · exact NdefX.Caps.made (fr := ["_law_alike"]) (js := [9]) ok (NdefX.ndef_free (sc := defScope s__law_rest_right) (fr := ["_law_alike"]) (by decide +kernel)) (NdefX.ndef_fr (sc := defScope s__law_rest_right) (fr := ["_law_alike"]) (by decide +kernel)) rfl
  refine ⟨_, (pss_cons (ps_set (i := 2) sc__law_rest_right.nd rfl (Or.inl rfl) (pe_lst (pa_cons (pe_lam (T := tabs T) B rfl hm hu rfl (NdefX.ndef_free (sc := defScope s__law_rest_right) (fr := ["_law_day"]) (by decide +kernel))) (pa_cons (pe_lam (T := tabs T) B rfl hm hu rfl (NdefX.ndef_free (sc := defScope s__law_rest_right) (fr := ["_law_day"]) (by decide +kernel))) pa_nil))))
  (pss_cons (ps_if (pt_not (pt_val (pe_callM (ok__law_each T) (hr.mono (by decide)) (by rfl) T.g__law_each T.F__law_each.kp (b__law_each T) (each_conv cap famOk) (pa_cons (pv 2) (pa_cons (pe_call (ok__law_no_places T) (hr.mono (by decide)) (by rfl) T.g__law_no_places T.F__law_no_places.kp (b__law_no_places T) .nil pass0 (pa_cons (pv 1) pa_nil)) (pa_cons pe_int pa_nil)))))) (pss_one (ps_ret pe_bl)) pss_nil)
  (pss_cons (ps_set (i := 3) sc__law_rest_right.nd rfl (Or.inl rfl) (pe_op op_addA (pe_call (ok__law_no_numbers T) (hr.mono (by decide)) (by rfl) T.g__law_no_numbers T.F__law_no_numbers.kp (b__law_no_numbers T) .nil pass0 (pa_cons (pv 1) pa_nil)) (pe_lst (pa_cons pe_int (pa_cons (pe_op op_addA pe_int (pv 1)) pa_nil)))))
  (pss_cons (ps_set (i := 2) sc__law_rest_right.nd rfl (Or.inl rfl) (pe_lst (pa_cons (pe_lam (T := tabs T) B rfl hm hu rfl (NdefX.ndef_free (sc := defScope s__law_rest_right) (fr := ["_law_day"]) (by decide +kernel))) (pa_cons (pe_lam (T := tabs T) B rfl hm hu rfl (NdefX.ndef_free (sc := defScope s__law_rest_right) (fr := ["_law_day"]) (by decide +kernel))) pa_nil))))
  (pss_cons (ps_if (pt_not (pt_val (pe_callM (ok__law_each T) (hr.mono (by decide)) (by rfl) T.g__law_each T.F__law_each.kp (b__law_each T) (each_conv cap famOk) (pa_cons (pv 2) (pa_cons (pv 3) (pa_cons pe_int pa_nil)))))) (pss_one (ps_ret pe_bl)) pss_nil)
  (pss_cons (ps_set (i := 4) sc__law_rest_right.nd rfl (Or.inl rfl) (pe_lst (pa_cons pe_non (pa_cons pe_int (pa_cons pe_str (pa_cons (pe_tup pa_nil) (pa_cons (pe_tup (pa_cons (pe_lst (pa_cons pe_int pa_nil)) pa_nil)) (pa_cons pe_dnewK (pa_cons (pe_op op_mulA (pe_lst (pa_cons (pe_lst (pa_cons pe_int pa_nil)) pa_nil)) pe_int) (pa_cons (pe_lst (pa_cons (pe_lst pa_nil) pa_nil)) (pa_cons (pe_lst (pa_cons (pe_lst (pa_cons pe_int pa_nil)) (pa_cons (pe_lst pa_nil) pa_nil))) pa_nil)))))))))))
  (pss_cons (ps_set (i := 4) sc__law_rest_right.nd rfl (Or.inl rfl) (pe_op op_addA (pe_op op_addA (pv 4) (pe_lc (own := [("_law_row", 5)]) (by rfl) sc__law_rest_right.nd (seqK (K := K) rfl (pe_call (ok__law_no_places T) (hr.mono (by decide)) (by rfl) T.g__law_no_places T.F__law_no_places.kp (b__law_no_places T) .nil pass0 (pa_cons (pv 1) pa_nil))) (blkOk_by (own := [("_law_row", 5)]) (N := N__law_rest_right) (sc := defScope s__law_rest_right) (by decide +kernel)) (fun _ _ _ _ _ => (pg_name (i := 5) sc__law_rest_right.nd rfl (Or.inl rfl))) (fun _ _ _ _ _ => pts_nil) (fun _ _ _ _ _ => (pe_lst (pa_cons (pv 5) pa_nil))))) (pe_lc (own := [("_law_row", 5)]) (by rfl) sc__law_rest_right.nd (seqK (K := K) rfl (pe_call (ok__law_no_places T) (hr.mono (by decide)) (by rfl) T.g__law_no_places T.F__law_no_places.kp (b__law_no_places T) .nil pass0 (pa_cons (pv 1) pa_nil))) (blkOk_by (own := [("_law_row", 5)]) (N := N__law_rest_right) (sc := defScope s__law_rest_right) (by decide +kernel)) (fun _ _ _ _ _ => (pg_name (i := 5) sc__law_rest_right.nd rfl (Or.inl rfl))) (fun _ _ _ _ _ => pts_nil) (fun _ _ _ _ _ => (pe_lst (pa_cons (pe_lst (pa_cons pe_int (pa_cons pe_int pa_nil))) (pa_cons (pv 5) pa_nil)))))))
  (pss_cons (ps_set (i := 2) sc__law_rest_right.nd rfl (Or.inl rfl) (pe_lst (pa_cons (pe_lam (T := tabs T) B rfl hm hu rfl (NdefX.ndef_free (sc := defScope s__law_rest_right) (fr := ["_law_day"]) (by decide +kernel))) (pa_cons (pe_lam (T := tabs T) B rfl hm hu rfl (NdefX.ndef_free (sc := defScope s__law_rest_right) (fr := ["_law_day"]) (by decide +kernel))) pa_nil))))
  (pss_cons (ps_if (pt_not (pt_val (pe_callM (ok__law_each T) (hr.mono (by decide)) (by rfl) T.g__law_each T.F__law_each.kp (b__law_each T) (each_conv cap famOk) (pa_cons (pv 2) (pa_cons (pv 4) (pa_cons pe_int pa_nil)))))) (pss_one (ps_ret pe_bl)) pss_nil)
  (pss_cons (ps_set (i := 6) sc__law_rest_right.nd rfl (Or.inl rfl) (pe_lst (pa_cons pe_non (pa_cons pe_str (pa_cons pe_bl (pa_cons pe_bl (pa_cons (pe_lst (pa_cons pe_int pa_nil)) (pa_cons (pe_tup (pa_cons pe_int pa_nil)) (pa_cons pe_dnewK (pa_cons (pe_un un_neg pe_int) (pa_cons (pe_op op_sub (pe_un un_neg pe_int) (pv 1)) (pa_cons pe_int (pa_cons (pe_op op_addA pe_int (pv 1)) pa_nil)))))))))))))
  (pss_cons (ps_set (i := 2) sc__law_rest_right.nd rfl (Or.inl rfl) (pe_lst (pa_cons (pe_lam (T := tabs T) B rfl hm hu rfl (NdefX.ndef_free (sc := defScope s__law_rest_right) (fr := ["_law_day"]) (by decide +kernel))) (pa_cons (pe_lam (T := tabs T) B rfl hm hu rfl (NdefX.ndef_free (sc := defScope s__law_rest_right) (fr := ["_law_day"]) (by decide +kernel))) pa_nil))))
  (pss_cons (ps_if (pt_not (pt_val (pe_callM (ok__law_each T) (hr.mono (by decide)) (by rfl) T.g__law_each T.F__law_each.kp (b__law_each T) (each_conv cap famOk) (pa_cons (pv 2) (pa_cons (pv 6) (pa_cons pe_int pa_nil)))))) (pss_one (ps_ret pe_bl)) pss_nil)
  (pss_cons (ps_set (i := 7) sc__law_rest_right.nd rfl (Or.inl rfl) (pe_lst (pa_cons pe_non (pa_cons pe_int (pa_cons pe_str (pa_cons (pe_tup pa_nil) (pa_cons (pe_tup (pa_cons pe_int (pa_cons pe_int pa_nil))) (pa_cons pe_dnewK (pa_cons (pe_lst pa_nil) (pa_cons (pe_lst (pa_cons pe_int pa_nil)) (pa_cons (pe_lst (pa_cons pe_int (pa_cons pe_int (pa_cons pe_int pa_nil)))) (pa_cons (pe_lst (pa_cons pe_int (pa_cons pe_int pa_nil))) (pa_cons (pe_lst (pa_cons pe_int (pa_cons (pe_op op_addA pe_int (pv 1)) pa_nil))) pa_nil)))))))))))))
  (pss_cons (ps_for PassesOwn.never rfl (seqK (K := K) rfl (pe_call (ok__law_no_numbers T) (hr.mono (by decide)) (by rfl) T.g__law_no_numbers T.F__law_no_numbers.kp (b__law_no_numbers T) .nil pass0 (pa_cons (pv 1) pa_nil))) (pg_name (i := 8) sc__law_rest_right.nd rfl (Or.inl rfl)) (pss_one (ps_if (pt_cmpR op_noNn (pv 8) pe_non (nomark _)) (pss_one (ps_expr (bmK (K := K) rfl PySem.F.plainAttrs_list PySem.F.slot_list_extend PySem.F.type_list_extend mt_extend (pv 7) (pa_cons (pe_lst (pa_cons (pe_lst (pa_cons (pv 8) (pa_cons pe_int pa_nil))) (pa_cons (pe_lst (pa_cons pe_non (pa_cons (pv 8) pa_nil))) pa_nil))) pa_nil)))) pss_nil)))
  (pss_cons (ps_if (pt_not (pt_val (pe_callM (ok__law_each T) (hr.mono (by decide)) (by rfl) T.g__law_each T.F__law_each.kp (b__law_each T) (each_conv cap famOk) (pa_cons (pe_lst (pa_cons (pe_lam (T := tabs T) B rfl hm hu rfl (NdefX.ndef_free (sc := defScope s__law_rest_right) (fr := ["_law_day"]) (by decide +kernel))) pa_nil)) (pa_cons (pv 7) (pa_cons pe_int pa_nil)))))) (pss_one (ps_ret pe_bl)) pss_nil)
  (pss_cons (ps_set (i := 9) sc__law_rest_right.nd rfl (Or.inr rfl) (pe_op op_mulA (pe_lst (pa_cons (pe_tup (pa_cons pe_int (pa_cons pe_int (pa_cons pe_int pa_nil)))) pa_nil)) pe_int))
  (pss_cons (ps_set (i := 2) sc__law_rest_right.nd rfl (Or.inl rfl) (pe_lst (pa_cons (pe_lam (T := tabs T) B rfl hm hu rfl (NdefX.ndef_free (sc := defScope s__law_rest_right) (fr := ["_law_alike"]) (by decide +kernel))) pa_nil)))
  (pss_cons (ps_if (PW.pt (pw_or (pt_not (pt_val (pe_callM (ok__law_each T) (hr.mono (by decide)) (by rfl) T.g__law_each T.F__law_each.kp (b__law_each T) (each_conv cap famOk) (pa_cons (pv 2) (pa_cons (pe_lst (pa_cons (pe_listRg rfl (by rfl) T.n_list (prg_1 (by rfl) T.n_range pe_int)) (pa_cons (pe_listRg rfl (by rfl) T.n_list (prg_1 (by rfl) T.n_range pe_int)) pa_nil))) (pa_cons pe_int pa_nil)))))) (pw_or1 (pt_not (pt_val (pe_callM (ok__law_each T) (hr.mono (by decide)) (by rfl) T.g__law_each T.F__law_each.kp (b__law_each T) (each_conv cap famOk) (pa_cons (pv 2) (pa_cons (pe_lst (pa_cons (pe_lst (pa_cons pe_int (pa_cons pe_int pa_nil))) (pa_cons (pe_listRg rfl (by rfl) T.n_list (prg_1 (by rfl) T.n_range pe_int)) pa_nil))) (pa_cons pe_int pa_nil))))))))) (pss_one (ps_ret pe_bl)) pss_nil)
  (pss_one (ps_ret (pe_and (pe_cmpR (eqK (K := K) hr rfl) (pe_ix (ixK (K := K) rfl) (pe_call (ok_moved T) (hr.mono (by decide)) (by rfl) T.g_moved T.F_moved.kp (b_moved T) .nil pass0 (pa_cons (pv 0) (pa_cons pe_int (pa_cons (pe_un un_neg pe_int) pa_nil)))) pe_int (fun _ _ => rfl)) (pe_tup (pa_cons pe_int (pa_cons pe_int (pa_cons pe_int pa_nil)))) (nomark _)) (pe_and (pe_cmpR (eqK (K := K) hr rfl) (pe_ix (ixK (K := K) rfl) (pe_call (ok_moved T) (hr.mono (by decide)) (by rfl) T.g_moved T.F_moved.kp (b_moved T) .nil pass0 (pa_cons (pv 0) (pa_cons pe_int (pa_cons pe_int pa_nil)))) pe_int (fun _ _ => rfl)) (pe_tup (pa_cons pe_int (pa_cons pe_int (pa_cons pe_int pa_nil)))) (nomark _)) (pe_one (pe_cmpR (eqK (K := K) hr rfl) (pe_ix (ixK (K := K) rfl) (pv 0) pe_int (fun _ _ => rfl)) (pe_tup (pa_cons pe_int (pa_cons pe_int (pa_cons pe_int pa_nil)))) (nomark _))))))))))))))))))))))))), body_ofT (M := N__law_rest_right) (fun as R h => ?_) vs H Q E h⟩
  obtain ⟨q, more, rfl, hmo, hR⟩ := h
  -- REST
  let cells := cellsFrom (s.heap.objs.size + 1) (defScope s__law_rest_right).names []
  refine sdt_seq1 (sdt_asg (edt_lst (eat_cons (edt_fnB (n := 19) (j := 0) rfl rfl) (eat_cons (edt_fnB (n := 20) (j := 0) rfl rfl) eat_nil)) (by simp)) rfl) ?_
  refine sdt_seq1 (sdt_if (b := false) (ett_is (ett_not (ett_B (edt_each (fam := famL T cells) (asks := [(19, some (q, dDay day8)), (20, some (q, dDay day8))]) (things := noPls more) (due := 3) (eat_cons (edt_ed (ed_var rfl)) (eat_cons (edt_ed (el_call (ea1 (ed_var rfl)) ⟨more, rfl, rfl⟩).ed) (eat_cons (edt_ed ed_int) eat_nil))) (by simp) (noPls_len more) ?ok1 ?r1))) rfl) (fun e => by cases e) fun _ => sdt_next rfl) ?_
  case ok1 =>
    intro a ha
    simp only [List.mem_cons, List.not_mem_nil, or_false] at ha
    rcases ha with rfl | rfl <;> exact ⟨by decide, 0, dDay day8, rfl, rfl⟩
  case r1 =>
    intro a ha t ht
    obtain ⟨h1, h2⟩ := badPl_is hmo t ht
    simp only [List.mem_cons, List.not_mem_nil, or_false] at ha
    refine ⟨T.C_BadPlaces, due_BadPlaces T, fun E => ?_⟩
    rcases ha with rfl | rfl
    · exact rfe_callR (ea_cons ed_int (ea_cons (ed_pair ed_int ed_int) (ea2 (ed_var rfl) (ed_var rfl)))) ⟨_, _, _, _, rfl, .inr ⟨1, (0, 0), day8, ⟨⟨rfl, by decide, by decide⟩, ⟨rfl, by simp [okE]⟩, rfl, okDay8⟩, ⟨_, _, rfl, rfl, h2.1, h1, h2.2⟩⟩⟩
    · exact rfe_callR (ea_cons ed_int (ea_cons (ed_pair ed_int ed_int) (ea_cons (ed_var rfl) (ea2 (ed_var rfl) ed_non)))) ⟨_, _, _, _, _, rfl, .inr ⟨1, (0, 0), day8, ⟨⟨rfl, by decide, by decide⟩, ⟨rfl, by simp [okE]⟩, rfl, okDay8⟩, .inl ⟨_, _, rfl, rfl, h2.1, h1, h2.2⟩⟩⟩
  refine sdt_seq1 (sdt_sd (sd_asg (d := .list (badSpot more)) (el_cat (el_call (ea1 (ed_var rfl)) ⟨more, rfl, rfl⟩).ed (el_lst (ds := [.int 3, .int (3 + more)]) (ea2 ed_int (ed_add ed_int (ed_var rfl))) (by simp)).ed (by simp [noNums])).ed rfl)) ?_
  refine sdt_seq1 (sdt_asg (edt_lst (eat_cons (edt_fnB (n := 21) (j := 0) rfl rfl) (eat_cons (edt_fnB (n := 22) (j := 0) rfl rfl) eat_nil)) (by simp)) rfl) ?_
  refine sdt_seq1 (sdt_if (b := false) (ett_is (ett_not (ett_B (edt_each (fam := famL T cells) (asks := [(21, some (q, dDay day8)), (22, some (q, dDay day8))]) (things := badSpot more) (due := 3) (eat_cons (edt_ed (ed_var rfl)) (eat_cons (edt_ed (ed_var rfl)) (eat_cons (edt_ed ed_int) eat_nil))) (by simp) (by simp [badSpot, noNums]) ?ok2 ?r2))) rfl) (fun e => by cases e) fun _ => sdt_next rfl) ?_
  case ok2 =>
    intro a ha
    simp only [List.mem_cons, List.not_mem_nil, or_false] at ha
    rcases ha with rfl | rfl <;> exact ⟨by decide, 0, dDay day8, rfl, rfl⟩
  case r2 =>
    intro a ha t ht
    obtain ⟨h1, h2⟩ := badSpot_is hmo t ht
    simp only [List.mem_cons, List.not_mem_nil, or_false] at ha
    refine ⟨T.C_BadPlaces, due_BadPlaces T, fun E => ?_⟩
    rcases ha with rfl | rfl
    · exact rfe_callR (ea_cons (ed_var rfl) (ea2 (ed_var rfl) ed_non)) ⟨_, _, _, rfl, .inr ⟨day8, rfl, okDay8, ⟨day8, _, _, rfl, okDay8, h1, rfl, .inl ⟨rfl, h2⟩⟩⟩⟩
    · exact rfe_callR (ea_cons ed_int (ea_cons (ed_pair ed_int ed_int) (ea_cons (ed_var rfl) (ea_cons (el_lst (ds := [.list [.int 0]]) (ea1 (el_lst (ds := [.int 0]) (ea1 ed_int) (by simp)).ed) (by simp)).ed (ea2 (ed_var rfl) ed_non))))) ⟨_, _, _, _, _, _, rfl, .inr ⟨1, (0, 0), day8, ⟨⟨rfl, by decide, by decide⟩, ⟨rfl, by simp [okE]⟩, rfl, okDay8⟩, .inr ⟨[[0]], rfl, by decide, row0, ⟨day8, _, _, rfl, okDay8, h1, rfl, .inl ⟨rfl, h2⟩⟩⟩⟩⟩
  refine sdt_seq1 (sdt_sd (sd_asg (d := .list badW0) (el_lst (ds := badW0) (ea_cons ed_non (ea_cons ed_int (ea_cons ed_str (ea_cons (ed_tup (ds := []) ea_nil (by simp)) (ea_cons (ed_tup (ds := [.list [.int 0]]) (ea1 (el_lst (ds := [.int 0]) (ea1 ed_int) (by simp)).ed) (by simp)) (ea_cons ed_dct (ea_cons (ed_is (el_rep (ds := [.list [.int 0]]) (k := 7) (el_lst (ds := [.list [.int 0]]) (ea1 (el_lst (ds := [.int 0]) (ea1 ed_int) (by simp)).ed) (by simp)).ed ed_int (by decide) (by decide) (by decide)).ed rfl) (ea2 (el_lst (ds := [.list []]) (ea1 (el_lst (ds := []) ea_nil (by simp)).ed) (by simp)).ed (el_lst (ds := [.list [.int 0], .list []]) (ea2 (el_lst (ds := [.int 0]) (ea1 ed_int) (by simp)).ed (el_lst (ds := []) ea_nil (by simp)).ed) (by simp)).ed)))))))) (by simp [badW0])).ed rfl)) ?_
  refine sdt_seq1 (sdt_sd (sd_asg (d := .list (badW more)) (el_cat (el_cat (ed_var rfl) (el_map (noPls more) id fW1 (js := [5]) (ei_is (ei_any (el_call (ea1 (ed_var rfl)) ⟨more, rfl, rfl⟩).ed) (by simp)) (by simp) (Nat.le_trans (noPls_len more) (by decide)) fun x _ => ⟨_, tg_name 5, (el_lst (ds := [x]) (ea1 (ed_var rfl)) (by simp)).ed⟩).ed (by rw [List.length_map]; have := noPls_len more; simp only [badW0, List.length_cons, List.length_nil]; omega)).ed (el_map (noPls more) id fW2 (js := [5]) (ei_is (ei_any (el_call (ea1 (ed_var rfl)) ⟨more, rfl, rfl⟩).ed) (by simp)) (by simp) (Nat.le_trans (noPls_len more) (by decide)) fun x _ => ⟨_, tg_name 5, (el_lst (ds := [.list [.int 0, .int 2], x]) (ea2 (el_lst (ds := [.int 0, .int 2]) (ea2 ed_int ed_int) (by simp)).ed (ed_var rfl)) (by simp)).ed⟩).ed (by rw [List.length_append, List.length_map, List.length_map]; have := noPls_len more; simp only [badW0, List.length_cons, List.length_nil]; omega)).ed rfl)) ?_
  refine sdt_seq1 (sdt_asg (edt_lst (eat_cons (edt_fnB (n := 23) (j := 0) rfl rfl) (eat_cons (edt_fnB (n := 24) (j := 0) rfl rfl) eat_nil)) (by simp)) rfl) ?_
  refine sdt_seq1 (sdt_if (b := false) (ett_is (ett_not (ett_B (edt_each (fam := famL T cells) (asks := [(23, some (q, dDay day8)), (24, some (q, dDay day8))]) (things := badW more) (due := 4) (eat_cons (edt_ed (ed_var rfl)) (eat_cons (edt_ed (ed_var rfl)) (eat_cons (edt_ed ed_int) eat_nil))) (by simp) (badW_len more) ?ok3 ?r3))) rfl) (fun e => by cases e) fun _ => sdt_next rfl) ?_
  case ok3 =>
    intro a ha
    simp only [List.mem_cons, List.not_mem_nil, or_false] at ha
    rcases ha with rfl | rfl <;> exact ⟨by decide, 0, dDay day8, rfl, rfl⟩
  case r3 =>
    intro a ha t ht
    obtain ⟨h1, h2⟩ := badW_is hmo t ht
    simp only [List.mem_cons, List.not_mem_nil, or_false] at ha
    refine ⟨T.C_BadWishes, due_BadWishes T, fun E => ?_⟩
    rcases ha with rfl | rfl
    · exact rfe_callR (ea_cons ed_int (ea_cons (ed_pair ed_int ed_int) (ea2 (ed_var rfl) (ed_var rfl)))) ⟨_, _, _, _, rfl, .inr ⟨1, (0, 0), day8, ⟨⟨rfl, by decide, by decide⟩, ⟨rfl, by simp [okE]⟩, rfl, okDay8⟩, ⟨_, _, rfl, rfl, h1, h2.1, h2.2⟩⟩⟩
    · exact rfe_callR (ea_cons ed_int (ea_cons (ed_pair ed_int ed_int) (ea_cons (ed_var rfl) (ea_cons (ed_var rfl) (ea2 ed_non ed_non))))) ⟨_, _, _, _, _, _, rfl, .inr ⟨1, (0, 0), day8, ⟨⟨rfl, by decide, by decide⟩, ⟨rfl, by simp [okE]⟩, rfl, okDay8⟩, .inl ⟨_, _, rfl, rfl, h1, h2.1, h2.2⟩⟩⟩
  refine sdt_seq1 (sdt_sd (sd_asg (d := .list (badMv more)) (el_lst (ds := badMv more) (ea_cons ed_non (ea_cons ed_str (ea_cons ed_bl (ea_cons ed_bl (ea_cons (el_lst (ds := [.int 1]) (ea1 ed_int) (by simp)).ed (ea_cons (ed_tup (ds := [.int 1]) (ea1 ed_int) (by simp)) (ea_cons ed_dct (ea_cons (ed_neg ed_int) (ea_cons (ed_sub (ed_neg ed_int) (ed_var rfl)) (ea2 ed_int (ed_add ed_int (ed_var rfl)))))))))))) (by simp [badMv])).ed rfl)) ?_
  refine sdt_seq1 (sdt_asg (edt_lst (eat_cons (edt_fnB (n := 25) (j := 0) rfl rfl) (eat_cons (edt_fnB (n := 26) (j := 0) rfl rfl) eat_nil)) (by simp)) rfl) ?_
  refine sdt_seq1 (sdt_if (b := false) (ett_is (ett_not (ett_B (edt_each (fam := famL T cells) (asks := [(25, some (q, dDay day8)), (26, some (q, dDay day8))]) (things := badMv more) (due := 5) (eat_cons (edt_ed (ed_var rfl)) (eat_cons (edt_ed (ed_var rfl)) (eat_cons (edt_ed ed_int) eat_nil))) (by simp) (by simp [badMv]) ?ok4 ?r4))) rfl) (fun e => by cases e) fun _ => sdt_next rfl) ?_
  case ok4 =>
    intro a ha
    simp only [List.mem_cons, List.not_mem_nil, or_false] at ha
    rcases ha with rfl | rfl <;> exact ⟨by decide, 0, dDay day8, rfl, rfl⟩
  case r4 =>
    intro a ha t ht
    obtain ⟨h1, h2⟩ := badMv_is hmo t ht
    simp only [List.mem_cons, List.not_mem_nil, or_false] at ha
    refine ⟨T.C_BadMove, due_BadMove T, fun E => ?_⟩
    rcases ha with rfl | rfl
    · exact rfe_callR (ea_cons (ed_var rfl) (ea2 ed_int (ed_var rfl))) ⟨_, _, _, rfl, .inr ⟨day8, rfl, okDay8, ⟨day8, _, _, rfl, okDay8, rfl, h1, .inr ⟨1, rfl, by decide, rfl, fun by_ e => h2 by_ e⟩⟩⟩⟩
    · exact rfe_callR (ea_cons ed_int (ea_cons (ed_pair ed_int ed_int) (ea_cons (ed_var rfl) (ea_cons (el_lst (ds := [.list [.int 0]]) (ea1 (el_lst (ds := [.int 0]) (ea1 ed_int) (by simp)).ed) (by simp)).ed (ea2 ed_int (ed_var rfl)))))) ⟨_, _, _, _, _, _, rfl, .inr ⟨1, (0, 0), day8, ⟨⟨rfl, by decide, by decide⟩, ⟨rfl, by simp [okE]⟩, rfl, okDay8⟩, .inr ⟨[[0]], rfl, by decide, row0, ⟨day8, _, _, rfl, okDay8, rfl, h1, .inr ⟨1, rfl, by decide, rfl, fun by_ e => h2 by_ e⟩⟩⟩⟩⟩
  refine sdt_seq1 (sdt_sd (sd_asgL (i := 7) (el_lst (ds := badLy0 more) (ea_cons ed_non (ea_cons ed_int (ea_cons ed_str (ea_cons (ed_tup (ds := []) ea_nil (by simp)) (ea_cons (ed_pair ed_int ed_int) (ea_cons ed_dct (ea_cons (el_lst (ds := []) ea_nil (by simp)).ed (ea_cons (el_lst (ds := [.int 0]) (ea1 ed_int) (by simp)).ed (ea_cons (el_lst (ds := [.int 0, .int 0, .int 0]) (ea_cons ed_int (ea2 ed_int ed_int)) (by simp)).ed (ea2 (el_lst (ds := [.int 0, .int 2]) (ea2 ed_int ed_int) (by simp)).ed (el_lst (ds := [.int 0, .int (2 + more)]) (ea2 ed_int (ed_add ed_int (ed_var rfl))) (by simp)).ed)))))))))) (by simp [badLy0])) rfl)) ?_
  refine sdt_seq (M := fun τ' => ∃ s2 s8 : Sl, τ' = [.dat (dTag q (dDay day8)), .dat (.int more), s2, .dat (.list (badSpot more)), .dat (.list (badW more)), .unk, .dat (.list (badMv more)), .own (badLy more), s8, .unk]) (sdt_sd (sd_for (its := noNums more) (fun i τ' => ∃ s2 s8 : Sl, τ' = [.dat (dTag q (dDay day8)), .dat (.int more), s2, .dat (.list (badSpot more)), .dat (.list (badW more)), .unk, .dat (.list (badMv more)), .own (badLy0 more ++ ((noNums more).take i).flatMap fLy), s8, .unk]) (ei_any (el_call (ea1 (ed_var rfl)) ⟨more, rfl, rfl⟩).ed) ⟨_, _, by rw [List.take_zero, List.flatMap_nil, List.append_nil]; rfl⟩ ?turnL ?outL)) ?restL
  case outL =>
    rintro τ1 ⟨s2, s8, rfl⟩
    exact ⟨s2, s8, by rw [List.take_of_length_le (Nat.le_refl _)]; rfl⟩
  case turnL =>
    rintro i d τ1 hd' ⟨s2, s8, rfl⟩
    have hi : i < 9 := (List.getElem?_eq_some_iff.mp hd').1
    refine ⟨[8], _, tg_name 8, sd_if (b := !isNone d) (et_test (ed_noN (ed_var rfl))) (fun hz => sd_extend (i := 7) (es := [.list [d, .int 0], .list [.none, d]]) rfl (el_lst (ds := [.list [d, .int 0], .list [.none, d]]) (ea2 (el_lst (ds := [d, .int 0]) (ea2 (ed_var rfl) ed_int) (by simp)).ed (el_lst (ds := [.none, d]) (ea2 ed_non (ed_var rfl)) (by simp)).ed) (by simp)).ed ?len ⟨s2, .dat d, ?eq⟩) fun hz => sd_next ⟨s2, .dat d, ?eq2⟩⟩
    case eq =>
      have : fLy d = [.list [d, .int 0], .list [.none, d]] := by
        unfold fLy
        rw [if_neg (by simpa using hz)]
      rw [flat_take hd', this, ← List.append_assoc]
      rfl
    case eq2 =>
      have : fLy d = [] := by
        unfold fLy
        rw [if_pos (by simpa using hz)]
      rw [flat_take hd', this, List.append_nil]
      rfl
    case len =>
      have h1 : (((noNums more).take i).flatMap fLy).length ≤ 2 * 9 := by
        refine Nat.le_trans (flat_len (n := 2) fLy_len _) ?_
        rw [List.length_take, show (noNums more).length = 9 from rfl]
        omega
      rw [List.length_append]
      simp only [badLy0, List.length_cons, List.length_nil]
      omega
  case restL =>
  rintro _ ⟨s2, s8, rfl⟩
  refine sdt_frz (i := 7) rfl ?_
  refine sdt_seq1 (sdt_if (b := false) (ett_is (ett_not (ett_B (edt_each (fam := famL T cells) (asks := [(27, some (q, dDay day8))]) (things := badLy more) (due := 6) (eat_cons (edt_lst (eat_cons (edt_fnB (n := 27) (j := 0) rfl rfl) eat_nil) (by simp)) (eat_cons (edt_ed (ed_var rfl)) (eat_cons (edt_ed ed_int) eat_nil))) (by simp) (badLy_len more) ?ok5 ?r5))) rfl) (fun e => by cases e) fun _ => sdt_next rfl) ?_
  case ok5 =>
    intro a ha
    simp only [List.mem_cons, List.not_mem_nil, or_false] at ha
    rcases ha with rfl <;> exact ⟨by decide, 0, dDay day8, rfl, rfl⟩
  case r5 =>
    intro a ha t ht
    obtain ⟨h1, h2⟩ := badLy_is hmo t ht
    simp only [List.mem_cons, List.not_mem_nil, or_false] at ha
    refine ⟨T.C_BadLaying, due_BadLaying T, fun E => ?_⟩
    rcases ha with rfl
    · exact rfe_callR (ea_cons ed_int (ea_cons (ed_pair ed_int ed_int) (ea_cons (ed_var rfl) (ea2 (el_lst (ds := [.int 0, .int 1]) (ea2 ed_int ed_int) (by simp)).ed (ed_var rfl))))) ⟨_, _, _, _, _, rfl, .inr ⟨2, (0, 0), day8, ⟨⟨rfl, by decide, by decide⟩, ⟨rfl, by simp [okE]⟩, rfl, okDay8⟩, .inr ⟨[0, 1], rfl, okR01, .inl ⟨rfl, h1, h2⟩⟩⟩⟩
  refine sdt_seq (M := fun τ' => ∃ q2 : Addr, τ' = [.dat (dTag q (dDay day8)), .dat (.int more), s2, .dat (.list (badSpot more)), .dat (.list (badW more)), .unk, .dat (.list (badMv more)), .dat (.list (badLy more)), s8, .dat (dTag q2 (dDay alike8))]) (sdt_sd (sd_asgN (en_edn (edn_tag (L := []) (el_rep (ds := [dS (0, 1, 0)]) (k := 8) (el_lst (ds := [dS (0, 1, 0)]) (ea1 (ed_trip ed_int ed_int ed_int)) (by simp)).ed ed_int (by decide) (by decide) (by decide)) (fun a ha => nomatch ha)) fun d ⟨q2, _, e1⟩ => ⟨q2, by rw [e1]; rfl⟩))) ?_
  rintro _ ⟨q2, rfl⟩
  refine sdt_seq1 (sdt_asg (edt_lst (eat_cons (edt_fnB (n := 28) (j := 9) rfl rfl) eat_nil) (by simp)) rfl) ?_
  refine sdt_seq1 (sdt_if (b := false) (ett_is (ett_or (ett_not (ett_B (edt_each (fam := famL T cells) (asks := [(28, some (q2, dDay alike8))]) (things := [dI (rgI 7), dI (rgI 8)]) (due := 7) (eat_cons (edt_ed (ed_var rfl)) (eat_cons (edt_ed (el_lst (ds := [dI (rgI 7), dI (rgI 8)]) (ea2 (ed_is (el_listRg (n := 7) ed_int (by decide) (by decide)).ed rfl) (ed_is (el_listRg (n := 8) ed_int (by decide) (by decide)).ed rfl)) (by simp)).ed) (eat_cons (edt_ed ed_int) eat_nil))) (by simp) (by simp) ?ok6 ?r6))) fun _ => ett_not (ett_B (edt_each (fam := famL T cells) (asks := [(28, some (q2, dDay alike8))]) (things := [dI [0, 1], dI (rgI 6)]) (due := 8) (eat_cons (edt_ed (ed_var rfl)) (eat_cons (edt_ed (el_lst (ds := [dI [0, 1], dI (rgI 6)]) (ea2 (el_lst (ds := [.int 0, .int 1]) (ea2 ed_int ed_int) (by simp)).ed (ed_is (el_listRg (n := 6) ed_int (by decide) (by decide)).ed rfl)) (by simp)).ed) (eat_cons (edt_ed ed_int) eat_nil))) (by simp) (by simp) ?ok7 ?r7))) rfl) (fun e => by cases e) fun _ => sdt_next rfl) ?_
  case ok6 =>
    intro a ha
    simp only [List.mem_cons, List.not_mem_nil, or_false] at ha
    rcases ha with rfl
    exact ⟨by decide, 9, dDay alike8, rfl, rfl⟩
  case r6 =>
    intro a ha t ht
    simp only [List.mem_cons, List.not_mem_nil, or_false] at ha
    rcases ha with rfl
    refine ⟨T.C_TooMany, due_TooMany T, fun E => ?_⟩
    simp only [List.mem_cons, List.not_mem_nil, or_false] at ht
    rcases ht with rfl | rfl
    · exact rfe_callR (ea_cons ed_int (ea_cons (ed_pair ed_int ed_int) (ea_cons (ed_var rfl) (ea2 (ed_var rfl) (el_repI (z := 0) (k := 7) ed_int (ed_is (ed_lenI (ns := rgI 7) (ed_var rfl)) rfl) (by decide) (by decide)).ed)))) ⟨_, _, _, _, _, rfl, .inr ⟨1, (0, 0), alike8, ⟨⟨rfl, by decide, by decide⟩, ⟨rfl, by simp [okE]⟩, rfl, okAlike⟩, .inr ⟨rgI 7, rfl, okRg (n := 7) (by decide), .inr ⟨List.replicate 7 (some 0), rfl, rfl, fun t ht => by have := List.eq_of_mem_replicate ht; cases this; decide, .inl ⟨rfl, by decide⟩⟩⟩⟩⟩
    · exact rfe_callR (ea_cons ed_int (ea_cons (ed_pair ed_int ed_int) (ea_cons (ed_var rfl) (ea2 (ed_var rfl) (el_repI (z := 0) (k := 8) ed_int (ed_is (ed_lenI (ns := rgI 8) (ed_var rfl)) rfl) (by decide) (by decide)).ed)))) ⟨_, _, _, _, _, rfl, .inr ⟨1, (0, 0), alike8, ⟨⟨rfl, by decide, by decide⟩, ⟨rfl, by simp [okE]⟩, rfl, okAlike⟩, .inr ⟨rgI 8, rfl, okRg (n := 8) (by decide), .inr ⟨List.replicate 8 (some 0), rfl, rfl, fun t ht => by have := List.eq_of_mem_replicate ht; cases this; decide, .inl ⟨rfl, by decide⟩⟩⟩⟩⟩
  case ok7 =>
    intro a ha
    simp only [List.mem_cons, List.not_mem_nil, or_false] at ha
    rcases ha with rfl
    exact ⟨by decide, 9, dDay alike8, rfl, rfl⟩
  case r7 =>
    intro a ha t ht
    simp only [List.mem_cons, List.not_mem_nil, or_false] at ha
    rcases ha with rfl
    refine ⟨T.C_Crowded, due_Crowded T, fun E => ?_⟩
    simp only [List.mem_cons, List.not_mem_nil, or_false] at ht
    rcases ht with rfl | rfl
    · exact rfe_callR (ea_cons ed_int (ea_cons (ed_pair ed_int ed_int) (ea_cons (ed_var rfl) (ea2 (ed_var rfl) (el_repI (z := 0) (k := 2) ed_int (ed_is (ed_lenI (ns := [0, 1]) (ed_var rfl)) rfl) (by decide) (by decide)).ed)))) ⟨_, _, _, _, _, rfl, .inr ⟨1, (0, 0), alike8, ⟨⟨rfl, by decide, by decide⟩, ⟨rfl, by simp [okE]⟩, rfl, okAlike⟩, .inr ⟨[0, 1], rfl, okRg (n := 2) (by decide), .inr ⟨List.replicate 2 (some 0), rfl, rfl, fun t ht => by have := List.eq_of_mem_replicate ht; cases this; decide, .inr ⟨rfl, by decide, by decide +kernel⟩⟩⟩⟩⟩
    · exact rfe_callR (ea_cons ed_int (ea_cons (ed_pair ed_int ed_int) (ea_cons (ed_var rfl) (ea2 (ed_var rfl) (el_repI (z := 0) (k := 6) ed_int (ed_is (ed_lenI (ns := rgI 6) (ed_var rfl)) rfl) (by decide) (by decide)).ed)))) ⟨_, _, _, _, _, rfl, .inr ⟨1, (0, 0), alike8, ⟨⟨rfl, by decide, by decide⟩, ⟨rfl, by simp [okE]⟩, rfl, okAlike⟩, .inr ⟨rgI 6, rfl, okRg (n := 6) (by decide), .inr ⟨List.replicate 6 (some 0), rfl, rfl, fun t ht => by have := List.eq_of_mem_replicate ht; cases this; decide, .inr ⟨rfl, by decide, by decide +kernel⟩⟩⟩⟩⟩
  refine sdt_ret (edt_ed (ed_is (ed_andV (ed_eqT nice_dS (a := (0, 6, 5)) (b := (0, 6, 5)) (ed_ixL (ds := (movedOf day8 1 (-2)).map dS) (el_call (ea_cons (ed_varT rfl) (ea2 ed_int (ed_neg ed_int))) ⟨day8, 1, -2, rfl, okDay8, by decide, by decide, by decide, by decide, rfl⟩).ed ed_int rfl) (ed_trip ed_int ed_int ed_int)) fun _ => ed_andV (ed_eqT nice_dS (a := (17, 23, 5)) (b := (17, 23, 5)) (ed_ixL (ds := (movedOf day8 1 15).map dS) (el_call (ea_cons (ed_varT rfl) (ea2 ed_int ed_int)) ⟨day8, 1, 15, rfl, okDay8, by decide, by decide, by decide, by decide, rfl⟩).ed ed_int rfl) (ed_trip ed_int ed_int ed_int)) fun _ => ed_eqT nice_dS (a := (2, 8, 5)) (b := (2, 8, 5)) (ed_is (ed_day (day := day8) (ed_varT rfl) ed_int (by decide) (by decide)) rfl) (ed_trip ed_int ed_int ed_int)) rfl)) hR

def P_law (as : List Sl) (R : Sl → Prop) : Prop := ∃ ns : List Int, as = [.scr ns] ∧ okN ns ∧ R (.dat (.bool true))
theorem rows6 : ∀ r ∈ (List.replicate 6 [0, 1, 2] : List (List Int)), okR (List.replicate 3 ((0, 24, 0) : Show)).length r ∧ r ≠ [] := fun r hr => by
  have := List.eq_of_mem_replicate hr
  subst this
  exact ⟨⟨fun p hp => by simp at hp; show 0 ≤ p ∧ p < 3; omega, by simp⟩, by simp⟩
theorem most60 : mostC (0, 0) (List.replicate 10 (0, 24, 60)) 1 = 60 := by
  rw [← lmost_eq (by simp [okE]) (fun s hs => by have := List.eq_of_mem_replicate hs; subst this; simp [Pl.okS]) (by decide)]
  decide +kernel
theorem ok_law (T : Txt K mg) (Bs : ∀ p ∈ cs T, LamX.TabB base mg p.1 p.2) : FnOk P w K mg base CX0 17 T.fa_law T.fd_law A_law (spT K (tabs T) P_law) := by
  refine T.F_law.ok sc_law (spT_len (n := 1) fun as R h => ?_) fun cdv A outer s H vs Q E hr h => ⟨_, (pss_cons (ps_set (i := 1) sc_law.nd rfl (Or.inl rfl) (pe_lst (pa_cons (pe_tup (pa_cons pe_int (pa_cons pe_int (pa_cons pe_int pa_nil)))) (pa_cons (pe_tup (pa_cons pe_int (pa_cons pe_int (pa_cons pe_int pa_nil)))) (pa_cons (pe_tup (pa_cons pe_int (pa_cons pe_int (pa_cons pe_int pa_nil)))) pa_nil)))))
  (pss_cons (ps_for PassesOwn.never rfl (seqK (K := K) rfl (pe_op op_addA (pe_slice (slK (K := K) rfl) (pv 0) po_none (po_some pe_int)) (pe_lst (pa_cons (pe_callB (lenK (K := K) rfl) (by rfl) T.n_len (by decide +kernel) (pa_cons (pv 0) pa_nil)) pa_nil)))) (pg_name (i := 2) sc_law.nd rfl (Or.inl rfl)) (pss_cons (ps_set (i := 3) sc_law.nd rfl (Or.inl rfl) (pe_op op_mod (pe_callB cr_abs (by rfl) T.n_abs (by decide +kernel) (pa_cons (pv 2) pa_nil)) (pe_op op_pow pe_int pe_int)))
  (pss_one (ps_if (PW.pt (pw_or (pt_not (pt_val (pe_call (ok__law_day_right T Bs) (hr.mono (by decide)) (by rfl) T.g__law_day_right T.F__law_day_right.kp (b__law_day_right T) .nil pass0 (pa_cons (pv 1) (pa_cons (pv 3) pa_nil))))) (pw_or1 (pt_not (pt_val (pe_call (ok__law_rest_right T Bs) (hr.mono (by decide)) (by rfl) T.g__law_rest_right T.F__law_rest_right.kp (b__law_rest_right T) .nil pass0 (pa_cons (pv 1) (pa_cons (pv 3) pa_nil)))))))) (pss_one (ps_ret pe_bl)) pss_nil))))
  (pss_cons (ps_if (pt_cmpR (neK (K := K) hr rfl) (pe_call (ok_kept T) (hr.mono (by decide)) (by rfl) T.g_kept T.F_kept.kp (b_kept T) .nil pass0 (pa_cons pe_int (pa_cons (pe_tup (pa_cons pe_int (pa_cons pe_int pa_nil))) (pa_cons (pe_op op_mulA (pe_lst (pa_cons (pe_tup (pa_cons pe_int (pa_cons pe_int (pa_cons pe_int pa_nil)))) pa_nil)) pe_int) (pa_cons (pe_op op_mulA (pe_lst (pa_cons (pe_lst (pa_cons pe_int (pa_cons pe_int (pa_cons pe_int pa_nil)))) pa_nil)) pe_int) pa_nil))))) (pe_op op_mulA (pe_lst (pa_cons pe_bl pa_nil)) pe_int) (nomark _)) (pss_one (ps_ret pe_bl)) pss_nil)
  (pss_one (ps_ret (pe_cmpR (eqK (K := K) hr rfl) (pe_call (ok_most T) (hr.mono (by decide)) (by rfl) T.g_most T.F_most.kp (b_most T) .nil pass0 (pa_cons pe_int (pa_cons (pe_tup (pa_cons pe_int (pa_cons pe_int pa_nil))) (pa_cons (pe_op op_mulA (pe_lst (pa_cons (pe_tup (pa_cons pe_int (pa_cons pe_int (pa_cons pe_int pa_nil)))) pa_nil)) pe_int) pa_nil)))) pe_int (nomark _))))))), body_ofT (M := N_law) (fun as R h => ?_) vs H Q E h⟩
  · obtain ⟨_, rfl, _⟩ := h; rfl
  obtain ⟨ns, rfl, hns, hR⟩ := h
  refine sdt_seq (M := fun τ' => ∃ q : Addr, τ' = [.scr ns, .dat (dTag q (dDay day8)), .unk, .unk]) (sdt_sd (sd_asgN (en_edn (edn_tag (L := []) (el_lst (ds := [dS (0, 4, 3), dS (2, 8, 5), dS (20, 24, 60)]) (ea_cons (ed_trip ed_int ed_int ed_int) (ea2 (ed_trip ed_int ed_int ed_int) (ed_trip ed_int ed_int ed_int))) (by simp)) (fun a ha => nomatch ha)) fun d ⟨q, _, e1⟩ => ⟨q, by rw [e1]; rfl⟩))) ?_
  rintro _ ⟨q, rfl⟩
  refine sdt_seq (M := fun τ' => ∃ s2 s3 : Sl, τ' = [.scr ns, .dat (dTag q (dDay day8)), s2, s3]) (sdt_for (its := (ns.take 4 ++ [(ns.length : Int)]).map PyData.int) (fun _ τ' => ∃ s2 s3 : Sl, τ' = [.scr ns, .dat (dTag q (dDay day8)), s2, s3]) (eit_list (ed_is (el_cat (ds := (ns.take 4).map PyData.int) (es := [.int (ns.length : Int)]) (ed_is (el_slS rfl eo_none (eo_some ed_int)).ed (by rw [cutD_take (by omega), List.map_take]; rfl)) (el_lst (ds := [.int (ns.length : Int)]) (ea1 (ed_lenS rfl)) (by simp)).ed (by simp; omega)).ed (by rw [List.map_append]; rfl))) ⟨_, _, rfl⟩ ?turn fun τ1 h => h) ?rest
  case turn =>
    rintro i d τ1 hd' ⟨s2, s3, rfl⟩
    obtain ⟨z, rfl⟩ : ∃ z : Int, d = .int z := by
      obtain ⟨z, _, e⟩ := List.mem_map.mp (List.mem_of_getElem? hd')
      exact ⟨z, e.symm⟩
    refine ⟨[2], _, tg_name 2, ?_⟩
    refine sdt_seq1 (sdt_sd (sd_asg (ed_mod (ed_abs (ed_var rfl)) (ed_pow ed_int ed_int ⟨by decide, by decide, by decide⟩) (by decide)) rfl)) ?_
    have h0 : 0 ≤ ((z.natAbs : Int)) % 10 ^ Int.toNat 20 := Int.emod_nonneg _ (by decide)
    exact sdt_if (b := false) (ett_is (ett_or (ett_not (ett_B (edt_call (ea2 (ed_var rfl) (ed_var rfl)) ⟨q, _, rfl, h0, rfl⟩))) fun _ => ett_not (ett_B (edt_call (ea2 (ed_var rfl) (ed_var rfl)) ⟨q, _, rfl, h0, rfl⟩))) rfl) (fun e => by cases e) fun _ => sdt_next ⟨_, _, rfl⟩
  case rest =>
  rintro _ ⟨s2, s3, rfl⟩
  refine sdt_seq1 (sdt_if (b := false) (ett_et (et_is (et_test (ed_neT nice_dB (a := keptOf 3 (2, 2) (List.replicate 3 (0, 24, 0)) (List.replicate 6 [0, 1, 2])) (b := List.replicate 6 true) (el_call (ea_cons ed_int (ea_cons (ed_pair ed_int ed_int) (ea2 (ed_is (el_rep (ds := [dS (0, 24, 0)]) (k := 3) (el_lst (ds := [dS (0, 24, 0)]) (ea1 (ed_trip ed_int ed_int ed_int)) (by simp)).ed ed_int (by decide) (by decide) (by decide)).ed rfl) (ed_is (el_rep (ds := [dI [0, 1, 2]]) (k := 6) (el_lst (ds := [dI [0, 1, 2]]) (ea1 (el_lst (ds := [.int 0, .int 1, .int 2]) (ea_cons ed_int (ea2 ed_int ed_int)) (by simp)).ed) (by simp)).ed ed_int (by decide) (by decide) (by decide)).ed rfl)))) ⟨3, (2, 2), List.replicate 3 (0, 24, 0), List.replicate 6 [0, 1, 2], rfl, by decide, by simp [okE], ⟨by decide, fun s hs => by have := List.eq_of_mem_replicate hs; subst this; simp [Pl.okS]⟩, by decide, ?rows, rfl⟩).ed (ed_is (el_rep (ds := [.bool true]) (k := 6) (el_lst (ds := [.bool true]) (ea1 ed_bl) (by simp)).ed ed_int (by decide) (by decide) (by decide)).ed rfl))) ?val)) (fun e => by cases e) fun _ => sdt_next rfl) ?_
  case rows => exact rows6
  case val =>
    rw [kept_eq (by simp [okE]) (fun s hs => by have := List.eq_of_mem_replicate hs; subst this; simp [Pl.okS]) fun r hr => (rows6 r hr).1]
    decide +kernel
  refine sdt_ret (edt_ed (ed_is (ed_eqT nice_int (a := 60) (b := 60) (ed_is (ed_call (ea_cons ed_int (ea2 (ed_pair ed_int ed_int) (ed_is (el_rep (ds := [dS (0, 24, 60)]) (k := 10) (el_lst (ds := [dS (0, 24, 60)]) (ea1 (ed_trip ed_int ed_int ed_int)) (by simp)).ed ed_int (by decide) (by decide) (by decide)).ed rfl))) ⟨1, (0, 0), List.replicate 10 (0, 24, 60), rfl, by decide, by simp [okE], ⟨by decide, fun s hs => by have := List.eq_of_mem_replicate hs; subst this; simp [Pl.okS]⟩, rfl⟩) (by rw [most60])) ed_int) (e := .bool true) rfl)) hR

end
theorem law_end (ns : List Int) (hl : ns.length ≤ 63) (hb : ∀ z ∈ ns, Builtin.Int.intBits z ≤ 1048576) : P_law [.scr ns] (· = .dat (.bool true)) := ⟨ns, rfl, ⟨hl, hb⟩, rfl⟩
theorem tabG_empty {T : List (Addr × Str)} {G H : Hp} (h : ∀ p ∈ T, H p.1 = some (.tbl #[])) : TabG T G H := fun p hp => ⟨#[], h p hp, trivial, fun pos cv hc => by cases hc⟩
theorem all_mk {l : PySem.W.OpenLaw} {w : World} {K : PySem.W.Frag} {h : Heap} {mg : Str → Option Value} {fa : Addr} (X : K.In h) (G : h.Ns mainGlobals mg) (hfa : mg "law" = some (.ref fa)) (own : ∀ y ∈ mkNames, ∀ fb, mg y = some (.ref fb) → LamX.OwnTab K fb h)
    {f0 : Addr} {oc0 kV0 dc0 pm0 cd0 ct0 : Value} {od0 an0 : Option Addr} {sl0 : Array (Option Value)}
    {f1 : Addr} {oc1 kV1 dc1 pm1 cd1 ct1 : Value} {od1 an1 : Option Addr} {sl1 : Array (Option Value)}
    {f2 : Addr} {oc2 kV2 dc2 pm2 cd2 ct2 : Value} {od2 an2 : Option Addr} {sl2 : Array (Option Value)}
    {f3 : Addr} {oc3 kV3 dc3 pm3 cd3 ct3 : Value} {od3 an3 : Option Addr} {sl3 : Array (Option Value)}
    {f4 : Addr} {oc4 kV4 dc4 pm4 cd4 ct4 : Value} {od4 an4 : Option Addr} {sl4 : Array (Option Value)}
    {f5 : Addr} {oc5 kV5 dc5 pm5 cd5 ct5 : Value} {od5 an5 : Option Addr} {sl5 : Array (Option Value)}
    {f6 : Addr} {oc6 kV6 dc6 pm6 cd6 ct6 : Value} {od6 an6 : Option Addr} {sl6 : Array (Option Value)}
    {f7 : Addr} {oc7 kV7 dc7 pm7 cd7 ct7 : Value} {od7 an7 : Option Addr} {sl7 : Array (Option Value)}
    {f8 : Addr} {oc8 kV8 dc8 pm8 cd8 ct8 : Value} {od8 an8 : Option Addr} {sl8 : Array (Option Value)}
    {f9 : Addr} {oc9 kV9 dc9 pm9 cd9 ct9 : Value} {od9 an9 : Option Addr} {sl9 : Array (Option Value)}
    {f10 : Addr} {oc10 kV10 dc10 pm10 cd10 ct10 : Value} {od10 an10 : Option Addr} {sl10 : Array (Option Value)}
    {f11 : Addr} {oc11 kV11 dc11 pm11 cd11 ct11 : Value} {od11 an11 : Option Addr} {sl11 : Array (Option Value)}
    {f12 : Addr} {oc12 kV12 dc12 pm12 cd12 ct12 : Value} {od12 an12 : Option Addr} {sl12 : Array (Option Value)}
    {f13 : Addr} {oc13 kV13 dc13 pm13 cd13 ct13 : Value} {od13 an13 : Option Addr} {sl13 : Array (Option Value)}
    {f14 : Addr} {oc14 kV14 dc14 pm14 cd14 ct14 : Value} {od14 an14 : Option Addr} {sl14 : Array (Option Value)}
    {f15 : Addr} {oc15 kV15 dc15 pm15 cd15 ct15 : Value} {od15 an15 : Option Addr} {sl15 : Array (Option Value)}
    {f16 : Addr} {oc16 kV16 dc16 pm16 cd16 ct16 : Value} {od16 an16 : Option Addr} {sl16 : Array (Option Value)}
    {f17 : Addr} {oc17 kV17 dc17 pm17 cd17 ct17 : Value} {od17 an17 : Option Addr} {sl17 : Array (Option Value)}
    {f18 : Addr} {oc18 kV18 dc18 pm18 cd18 ct18 : Value} {od18 an18 : Option Addr} {sl18 : Array (Option Value)}
    {f19 : Addr} {oc19 kV19 dc19 pm19 cd19 ct19 : Value} {od19 an19 : Option Addr} {sl19 : Array (Option Value)}
    {f20 : Addr} {oc20 kV20 dc20 pm20 cd20 ct20 : Value} {od20 an20 : Option Addr} {sl20 : Array (Option Value)}
    {f21 : Addr} {oc21 kV21 dc21 pm21 cd21 ct21 : Value} {od21 an21 : Option Addr} {sl21 : Array (Option Value)}
    {f22 : Addr} {oc22 kV22 dc22 pm22 cd22 ct22 : Value} {od22 an22 : Option Addr} {sl22 : Array (Option Value)}
    {f23 : Addr} {oc23 kV23 dc23 pm23 cd23 ct23 : Value} {od23 an23 : Option Addr} {sl23 : Array (Option Value)}
    {f24 : Addr} {oc24 kV24 dc24 pm24 cd24 ct24 : Value} {od24 an24 : Option Addr} {sl24 : Array (Option Value)}
    {f25 : Addr} {oc25 kV25 dc25 pm25 cd25 ct25 : Value} {od25 an25 : Option Addr} {sl25 : Array (Option Value)}
    {f26 : Addr} {oc26 kV26 dc26 pm26 cd26 ct26 : Value} {od26 an26 : Option Addr} {sl26 : Array (Option Value)}
    {f27 : Addr} {oc27 kV27 dc27 pm27 cd27 ct27 : Value} {od27 an27 : Option Addr} {sl27 : Array (Option Value)}
    {f28 : Addr} {oc28 kV28 dc28 pm28 cd28 ct28 : Value} {od28 an28 : Option Addr} {sl28 : Array (Option Value)}
    {f29 : Addr} {oc29 kV29 dc29 pm29 cd29 ct29 : Value} {od29 an29 : Option Addr} {sl29 : Array (Option Value)}
    {f30 : Addr} {oc30 kV30 dc30 pm30 cd30 ct30 : Value} {od30 an30 : Option Addr} {sl30 : Array (Option Value)}
    {f31 : Addr} {oc31 kV31 dc31 pm31 cd31 ct31 : Value} {od31 an31 : Option Addr} {sl31 : Array (Option Value)}
    {f32 : Addr} {oc32 kV32 dc32 pm32 cd32 ct32 : Value} {od32 an32 : Option Addr} {sl32 : Array (Option Value)}
    {f33 : Addr} {oc33 kV33 dc33 pm33 cd33 ct33 : Value} {od33 an33 : Option Addr} {sl33 : Array (Option Value)}
    {f34 : Addr} {oc34 kV34 dc34 pm34 ct34 : Value} {od34 an34 : Option Addr} {sl34 : Array (Option Value)}
    {f35 : Addr} {oc35 kV35 dc35 pm35 ct35 : Value} {od35 an35 : Option Addr} {sl35 : Array (Option Value)}
    {f36 : Addr} {oc36 kV36 dc36 pm36 cd36 ct36 : Value} {od36 an36 : Option Addr} {sl36 : Array (Option Value)}
    {XAheadError : Addr}
    {XBadEdges : Addr}
    {XBadLaying : Addr}
    {XBadMove : Addr}
    {XBadPlaces : Addr}
    {XBadShows : Addr}
    {XBadTuners : Addr}
    {XBadWishes : Addr}
    {XBest : Addr}
    {XCrowd : Addr}
    {XCrowded : Addr}
    {XLaid : Addr}
    {XTooMany : Addr}
    {tc34 tp34 : Addr} {te34 : Value} {td34 : Option Addr} {tv34 : Array Value} {ts34 : Array (Option Value)}
    {tc35 tp35 : Addr} {te35 : Value} {td35 : Option Addr} {tv35 : Array Value} {ts35 : Array (Option Value)}
    {RBadEdges : ClassData}
    {RBadLaying : ClassData}
    {RBadMove : ClassData}
    {RBadPlaces : ClassData}
    {RBadShows : ClassData}
    {RBadTuners : ClassData}
    {RBadWishes : ClassData}
    {RCrowded : ClassData}
    {RTooMany : ClassData}
    {y0 : Tok}
    {y1 : Tok}
    {y2 : Tok}
    {y3 : Tok}
    {y4 : Tok}
    {y5 : Tok}
    (a0 : PySem.W.nsIn K mainGlobals "held_of" = some (some (.ref f0)))
    (a1 : PySem.W.nsIn K mainGlobals "can_be" = some (some (.ref f1)))
    (a5 : PySem.W.nsIn K mainGlobals "is_whole" = some (some (.ref f5)))
    (a6 : PySem.W.nsIn K mainGlobals "is_show" = some (some (.ref f6)))
    (a7 : PySem.W.nsIn K mainGlobals "asked_tuners" = some (some (.ref f7)))
    (a8 : PySem.W.nsIn K mainGlobals "asked_edges" = some (some (.ref f8)))
    (a9 : PySem.W.nsIn K mainGlobals "asked_shows" = some (some (.ref f9)))
    (a10 : PySem.W.nsIn K mainGlobals "are_places" = some (some (.ref f10)))
    (a11 : PySem.W.nsIn K mainGlobals "asked_places" = some (some (.ref f11)))
    (a12 : PySem.W.nsIn K mainGlobals "asked_wishes" = some (some (.ref f12)))
    (a13 : PySem.W.nsIn K mainGlobals "asked_all" = some (some (.ref f13)))
    (a14 : PySem.W.nsIn K mainGlobals "laid_of" = some (some (.ref f14)))
    (a15 : PySem.W.nsIn K mainGlobals "judged" = some (some (.ref f15)))
    (a16 : PySem.W.nsIn K mainGlobals "ways_of" = some (some (.ref f16)))
    (a17 : PySem.W.nsIn K mainGlobals "unlike" = some (some (.ref f17)))
    (a18 : PySem.W.nsIn K mainGlobals "laid_anew" = some (some (.ref f18)))
    (a19 : PySem.W.nsIn K mainGlobals "kept_of" = some (some (.ref f19)))
    (a20 : PySem.W.nsIn K mainGlobals "kept" = some (some (.ref f20)))
    (a21 : PySem.W.nsIn K mainGlobals "moved_of" = some (some (.ref f21)))
    (a22 : PySem.W.nsIn K mainGlobals "asked_move" = some (some (.ref f22)))
    (a23 : PySem.W.nsIn K mainGlobals "moved" = some (some (.ref f23)))
    (a24 : PySem.W.nsIn K mainGlobals "changes" = some (some (.ref f24)))
    (a25 : PySem.W.nsIn K mainGlobals "fell_of" = some (some (.ref f25)))
    (a26 : PySem.W.nsIn K mainGlobals "idle_of" = some (some (.ref f26)))
    (a27 : PySem.W.nsIn K mainGlobals "best_of" = some (some (.ref f27)))
    (a28 : PySem.W.nsIn K mainGlobals "best" = some (some (.ref f28)))
    (a29 : PySem.W.nsIn K mainGlobals "most" = some (some (.ref f29)))
    (a30 : PySem.W.nsIn K mainGlobals "_law_refused" = some (some (.ref f30)))
    (a31 : PySem.W.nsIn K mainGlobals "_law_each" = some (some (.ref f31)))
    (a32 : PySem.W.nsIn K mainGlobals "_law_no_numbers" = some (some (.ref f32)))
    (a33 : PySem.W.nsIn K mainGlobals "_law_no_places" = some (some (.ref f33)))
    (a34 : PySem.W.nsIn K mainGlobals "_law_day_right" = some (some (.ref f34)))
    (a35 : PySem.W.nsIn K mainGlobals "_law_rest_right" = some (some (.ref f35)))
    (a36 : PySem.W.nsIn K mainGlobals "law" = some (some (.ref f36)))
    (acAheadError : PySem.W.nsIn K mainGlobals "AheadError" = some (some (.ref XAheadError)))
    (acBadEdges : PySem.W.nsIn K mainGlobals "BadEdges" = some (some (.ref XBadEdges)))
    (acBadLaying : PySem.W.nsIn K mainGlobals "BadLaying" = some (some (.ref XBadLaying)))
    (acBadMove : PySem.W.nsIn K mainGlobals "BadMove" = some (some (.ref XBadMove)))
    (acBadPlaces : PySem.W.nsIn K mainGlobals "BadPlaces" = some (some (.ref XBadPlaces)))
    (acBadShows : PySem.W.nsIn K mainGlobals "BadShows" = some (some (.ref XBadShows)))
    (acBadTuners : PySem.W.nsIn K mainGlobals "BadTuners" = some (some (.ref XBadTuners)))
    (acBadWishes : PySem.W.nsIn K mainGlobals "BadWishes" = some (some (.ref XBadWishes)))
    (acBest : PySem.W.nsIn K mainGlobals "Best" = some (some (.ref XBest)))
    (acCrowd : PySem.W.nsIn K mainGlobals "Crowd" = some (some (.ref XCrowd)))
    (acCrowded : PySem.W.nsIn K mainGlobals "Crowded" = some (some (.ref XCrowded)))
    (acLaid : PySem.W.nsIn K mainGlobals "Laid" = some (some (.ref XLaid)))
    (acTooMany : PySem.W.nsIn K mainGlobals "TooMany" = some (some (.ref XTooMany)))
    (l0 : K.lookup f0 = some ⟨oc0, od0, .func (PySem.W.fnOf "held_of" "held_of" (defArgs s_held_of) (defBody s_held_of) (defScope s_held_of) .none kV0 dc0 pm0 an0 cd0 ct0), sl0⟩)
    (c0 : PySem.W.codeIn K cd0 "held_of" = true)
    (k0 : PySem.W.keepIn K (.ref f0) = true)
    (l1 : K.lookup f1 = some ⟨oc1, od1, .func (PySem.W.fnOf "can_be" "can_be" (defArgs s_can_be) (defBody s_can_be) (defScope s_can_be) .none kV1 dc1 pm1 an1 cd1 ct1), sl1⟩)
    (c1 : PySem.W.codeIn K cd1 "can_be" = true)
    (k1 : PySem.W.keepIn K (.ref f1) = true)
    (a2 : PySem.W.findIn K (.ref XLaid) "__init__" = some (some (.ref f2)))
    (if2 : PySem.W.isFn K (.ref f2) = true)
    (l2 : K.lookup f2 = some ⟨oc2, od2, .func (PySem.W.fnOf "__init__" "Laid.__init__" (defArgs s_Laid_init) (defBody s_Laid_init) (defScope s_Laid_init) .none kV2 dc2 pm2 an2 cd2 ct2), sl2⟩)
    (c2 : PySem.W.codeIn K cd2 "Laid.__init__" = true)
    (k2 : PySem.W.keepIn K (.ref f2) = true)
    (a3 : PySem.W.findIn K (.ref XCrowd) "__init__" = some (some (.ref f3)))
    (if3 : PySem.W.isFn K (.ref f3) = true)
    (l3 : K.lookup f3 = some ⟨oc3, od3, .func (PySem.W.fnOf "__init__" "Crowd.__init__" (defArgs s_Crowd_init) (defBody s_Crowd_init) (defScope s_Crowd_init) .none kV3 dc3 pm3 an3 cd3 ct3), sl3⟩)
    (c3 : PySem.W.codeIn K cd3 "Crowd.__init__" = true)
    (k3 : PySem.W.keepIn K (.ref f3) = true)
    (a4 : PySem.W.findIn K (.ref XBest) "__init__" = some (some (.ref f4)))
    (if4 : PySem.W.isFn K (.ref f4) = true)
    (l4 : K.lookup f4 = some ⟨oc4, od4, .func (PySem.W.fnOf "__init__" "Best.__init__" (defArgs s_Best_init) (defBody s_Best_init) (defScope s_Best_init) .none kV4 dc4 pm4 an4 cd4 ct4), sl4⟩)
    (c4 : PySem.W.codeIn K cd4 "Best.__init__" = true)
    (k4 : PySem.W.keepIn K (.ref f4) = true)
    (l5 : K.lookup f5 = some ⟨oc5, od5, .func (PySem.W.fnOf "is_whole" "is_whole" (defArgs s_is_whole) (defBody s_is_whole) (defScope s_is_whole) .none kV5 dc5 pm5 an5 cd5 ct5), sl5⟩)
    (c5 : PySem.W.codeIn K cd5 "is_whole" = true)
    (k5 : PySem.W.keepIn K (.ref f5) = true)
    (l6 : K.lookup f6 = some ⟨oc6, od6, .func (PySem.W.fnOf "is_show" "is_show" (defArgs s_is_show) (defBody s_is_show) (defScope s_is_show) .none kV6 dc6 pm6 an6 cd6 ct6), sl6⟩)
    (c6 : PySem.W.codeIn K cd6 "is_show" = true)
    (k6 : PySem.W.keepIn K (.ref f6) = true)
    (l7 : K.lookup f7 = some ⟨oc7, od7, .func (PySem.W.fnOf "asked_tuners" "asked_tuners" (defArgs s_asked_tuners) (defBody s_asked_tuners) (defScope s_asked_tuners) .none kV7 dc7 pm7 an7 cd7 ct7), sl7⟩)
    (c7 : PySem.W.codeIn K cd7 "asked_tuners" = true)
    (k7 : PySem.W.keepIn K (.ref f7) = true)
    (l8 : K.lookup f8 = some ⟨oc8, od8, .func (PySem.W.fnOf "asked_edges" "asked_edges" (defArgs s_asked_edges) (defBody s_asked_edges) (defScope s_asked_edges) .none kV8 dc8 pm8 an8 cd8 ct8), sl8⟩)
    (c8 : PySem.W.codeIn K cd8 "asked_edges" = true)
    (k8 : PySem.W.keepIn K (.ref f8) = true)
    (l9 : K.lookup f9 = some ⟨oc9, od9, .func (PySem.W.fnOf "asked_shows" "asked_shows" (defArgs s_asked_shows) (defBody s_asked_shows) (defScope s_asked_shows) .none kV9 dc9 pm9 an9 cd9 ct9), sl9⟩)
    (c9 : PySem.W.codeIn K cd9 "asked_shows" = true)
    (k9 : PySem.W.keepIn K (.ref f9) = true)
    (l10 : K.lookup f10 = some ⟨oc10, od10, .func (PySem.W.fnOf "are_places" "are_places" (defArgs s_are_places) (defBody s_are_places) (defScope s_are_places) .none kV10 dc10 pm10 an10 cd10 ct10), sl10⟩)
    (c10 : PySem.W.codeIn K cd10 "are_places" = true)
    (k10 : PySem.W.keepIn K (.ref f10) = true)
    (l11 : K.lookup f11 = some ⟨oc11, od11, .func (PySem.W.fnOf "asked_places" "asked_places" (defArgs s_asked_places) (defBody s_asked_places) (defScope s_asked_places) .none kV11 dc11 pm11 an11 cd11 ct11), sl11⟩)
    (c11 : PySem.W.codeIn K cd11 "asked_places" = true)
    (k11 : PySem.W.keepIn K (.ref f11) = true)
    (l12 : K.lookup f12 = some ⟨oc12, od12, .func (PySem.W.fnOf "asked_wishes" "asked_wishes" (defArgs s_asked_wishes) (defBody s_asked_wishes) (defScope s_asked_wishes) .none kV12 dc12 pm12 an12 cd12 ct12), sl12⟩)
    (c12 : PySem.W.codeIn K cd12 "asked_wishes" = true)
    (k12 : PySem.W.keepIn K (.ref f12) = true)
    (l13 : K.lookup f13 = some ⟨oc13, od13, .func (PySem.W.fnOf "asked_all" "asked_all" (defArgs s_asked_all) (defBody s_asked_all) (defScope s_asked_all) .none kV13 dc13 pm13 an13 cd13 ct13), sl13⟩)
    (c13 : PySem.W.codeIn K cd13 "asked_all" = true)
    (k13 : PySem.W.keepIn K (.ref f13) = true)
    (l14 : K.lookup f14 = some ⟨oc14, od14, .func (PySem.W.fnOf "laid_of" "laid_of" (defArgs s_laid_of) (defBody s_laid_of) (defScope s_laid_of) .none kV14 dc14 pm14 an14 cd14 ct14), sl14⟩)
    (c14 : PySem.W.codeIn K cd14 "laid_of" = true)
    (k14 : PySem.W.keepIn K (.ref f14) = true)
    (l15 : K.lookup f15 = some ⟨oc15, od15, .func (PySem.W.fnOf "judged" "judged" (defArgs s_judged) (defBody s_judged) (defScope s_judged) .none kV15 dc15 pm15 an15 cd15 ct15), sl15⟩)
    (c15 : PySem.W.codeIn K cd15 "judged" = true)
    (k15 : PySem.W.keepIn K (.ref f15) = true)
    (l16 : K.lookup f16 = some ⟨oc16, od16, .func (PySem.W.fnOf "ways_of" "ways_of" (defArgs s_ways_of) (defBody s_ways_of) (defScope s_ways_of) .none kV16 dc16 pm16 an16 cd16 ct16), sl16⟩)
    (c16 : PySem.W.codeIn K cd16 "ways_of" = true)
    (k16 : PySem.W.keepIn K (.ref f16) = true)
    (l17 : K.lookup f17 = some ⟨oc17, od17, .func (PySem.W.fnOf "unlike" "unlike" (defArgs s_unlike) (defBody s_unlike) (defScope s_unlike) .none kV17 dc17 pm17 an17 cd17 ct17), sl17⟩)
    (c17 : PySem.W.codeIn K cd17 "unlike" = true)
    (k17 : PySem.W.keepIn K (.ref f17) = true)
    (l18 : K.lookup f18 = some ⟨oc18, od18, .func (PySem.W.fnOf "laid_anew" "laid_anew" (defArgs s_laid_anew) (defBody s_laid_anew) (defScope s_laid_anew) .none kV18 dc18 pm18 an18 cd18 ct18), sl18⟩)
    (c18 : PySem.W.codeIn K cd18 "laid_anew" = true)
    (k18 : PySem.W.keepIn K (.ref f18) = true)
    (l19 : K.lookup f19 = some ⟨oc19, od19, .func (PySem.W.fnOf "kept_of" "kept_of" (defArgs s_kept_of) (defBody s_kept_of) (defScope s_kept_of) .none kV19 dc19 pm19 an19 cd19 ct19), sl19⟩)
    (c19 : PySem.W.codeIn K cd19 "kept_of" = true)
    (k19 : PySem.W.keepIn K (.ref f19) = true)
    (l20 : K.lookup f20 = some ⟨oc20, od20, .func (PySem.W.fnOf "kept" "kept" (defArgs s_kept) (defBody s_kept) (defScope s_kept) .none kV20 dc20 pm20 an20 cd20 ct20), sl20⟩)
    (c20 : PySem.W.codeIn K cd20 "kept" = true)
    (k20 : PySem.W.keepIn K (.ref f20) = true)
    (l21 : K.lookup f21 = some ⟨oc21, od21, .func (PySem.W.fnOf "moved_of" "moved_of" (defArgs s_moved_of) (defBody s_moved_of) (defScope s_moved_of) .none kV21 dc21 pm21 an21 cd21 ct21), sl21⟩)
    (c21 : PySem.W.codeIn K cd21 "moved_of" = true)
    (k21 : PySem.W.keepIn K (.ref f21) = true)
    (l22 : K.lookup f22 = some ⟨oc22, od22, .func (PySem.W.fnOf "asked_move" "asked_move" (defArgs s_asked_move) (defBody s_asked_move) (defScope s_asked_move) .none kV22 dc22 pm22 an22 cd22 ct22), sl22⟩)
    (c22 : PySem.W.codeIn K cd22 "asked_move" = true)
    (k22 : PySem.W.keepIn K (.ref f22) = true)
    (l23 : K.lookup f23 = some ⟨oc23, od23, .func (PySem.W.fnOf "moved" "moved" (defArgs s_moved) (defBody s_moved) (defScope s_moved) .none kV23 dc23 pm23 an23 cd23 ct23), sl23⟩)
    (c23 : PySem.W.codeIn K cd23 "moved" = true)
    (k23 : PySem.W.keepIn K (.ref f23) = true)
    (l24 : K.lookup f24 = some ⟨oc24, od24, .func (PySem.W.fnOf "changes" "changes" (defArgs s_changes) (defBody s_changes) (defScope s_changes) .none kV24 dc24 pm24 an24 cd24 ct24), sl24⟩)
    (c24 : PySem.W.codeIn K cd24 "changes" = true)
    (k24 : PySem.W.keepIn K (.ref f24) = true)
    (l25 : K.lookup f25 = some ⟨oc25, od25, .func (PySem.W.fnOf "fell_of" "fell_of" (defArgs s_fell_of) (defBody s_fell_of) (defScope s_fell_of) .none kV25 dc25 pm25 an25 cd25 ct25), sl25⟩)
    (c25 : PySem.W.codeIn K cd25 "fell_of" = true)
    (k25 : PySem.W.keepIn K (.ref f25) = true)
    (l26 : K.lookup f26 = some ⟨oc26, od26, .func (PySem.W.fnOf "idle_of" "idle_of" (defArgs s_idle_of) (defBody s_idle_of) (defScope s_idle_of) .none kV26 dc26 pm26 an26 cd26 ct26), sl26⟩)
    (c26 : PySem.W.codeIn K cd26 "idle_of" = true)
    (k26 : PySem.W.keepIn K (.ref f26) = true)
    (l27 : K.lookup f27 = some ⟨oc27, od27, .func (PySem.W.fnOf "best_of" "best_of" (defArgs s_best_of) (defBody s_best_of) (defScope s_best_of) .none kV27 dc27 pm27 an27 cd27 ct27), sl27⟩)
    (c27 : PySem.W.codeIn K cd27 "best_of" = true)
    (k27 : PySem.W.keepIn K (.ref f27) = true)
    (l28 : K.lookup f28 = some ⟨oc28, od28, .func (PySem.W.fnOf "best" "best" (defArgs s_best) (defBody s_best) (defScope s_best) .none kV28 dc28 pm28 an28 cd28 ct28), sl28⟩)
    (c28 : PySem.W.codeIn K cd28 "best" = true)
    (k28 : PySem.W.keepIn K (.ref f28) = true)
    (l29 : K.lookup f29 = some ⟨oc29, od29, .func (PySem.W.fnOf "most" "most" (defArgs s_most) (defBody s_most) (defScope s_most) .none kV29 dc29 pm29 an29 cd29 ct29), sl29⟩)
    (c29 : PySem.W.codeIn K cd29 "most" = true)
    (k29 : PySem.W.keepIn K (.ref f29) = true)
    (l30 : K.lookup f30 = some ⟨oc30, od30, .func (PySem.W.fnOf "_law_refused" "_law_refused" (defArgs s__law_refused) (defBody s__law_refused) (defScope s__law_refused) .none kV30 dc30 pm30 an30 cd30 ct30), sl30⟩)
    (c30 : PySem.W.codeIn K cd30 "_law_refused" = true)
    (k30 : PySem.W.keepIn K (.ref f30) = true)
    (l31 : K.lookup f31 = some ⟨oc31, od31, .func (PySem.W.fnOf "_law_each" "_law_each" (defArgs s__law_each) (defBody s__law_each) (defScope s__law_each) .none kV31 dc31 pm31 an31 cd31 ct31), sl31⟩)
    (c31 : PySem.W.codeIn K cd31 "_law_each" = true)
    (k31 : PySem.W.keepIn K (.ref f31) = true)
    (l32 : K.lookup f32 = some ⟨oc32, od32, .func (PySem.W.fnOf "_law_no_numbers" "_law_no_numbers" (defArgs s__law_no_numbers) (defBody s__law_no_numbers) (defScope s__law_no_numbers) .none kV32 dc32 pm32 an32 cd32 ct32), sl32⟩)
    (c32 : PySem.W.codeIn K cd32 "_law_no_numbers" = true)
    (k32 : PySem.W.keepIn K (.ref f32) = true)
    (l33 : K.lookup f33 = some ⟨oc33, od33, .func (PySem.W.fnOf "_law_no_places" "_law_no_places" (defArgs s__law_no_places) (defBody s__law_no_places) (defScope s__law_no_places) .none kV33 dc33 pm33 an33 cd33 ct33), sl33⟩)
    (c33 : PySem.W.codeIn K cd33 "_law_no_places" = true)
    (k33 : PySem.W.keepIn K (.ref f33) = true)
    (l34 : K.lookup f34 = some ⟨oc34, od34, .func (PySem.W.fnOf "_law_day_right" "_law_day_right" (defArgs s__law_day_right) (defBody s__law_day_right) (defScope s__law_day_right) .none kV34 dc34 pm34 an34 (.ref tc34) ct34), sl34⟩)
    (c34 : PySem.W.codeIn K (.ref tc34) "_law_day_right" = true)
    (k34 : PySem.W.keepIn K (.ref f34) = true)
    (tl34 : K.lookup tc34 = some ⟨te34, td34, .fields tv34, ts34⟩)
    (tw34 : tv34[11]? = some (.ref tp34))
    (th34 : PySem.W.codeHdIn K tc34 tp34 = true)
    (tn34 : K.lookup tp34 = none)
    (l35 : K.lookup f35 = some ⟨oc35, od35, .func (PySem.W.fnOf "_law_rest_right" "_law_rest_right" (defArgs s__law_rest_right) (defBody s__law_rest_right) (defScope s__law_rest_right) .none kV35 dc35 pm35 an35 (.ref tc35) ct35), sl35⟩)
    (c35 : PySem.W.codeIn K (.ref tc35) "_law_rest_right" = true)
    (k35 : PySem.W.keepIn K (.ref f35) = true)
    (tl35 : K.lookup tc35 = some ⟨te35, td35, .fields tv35, ts35⟩)
    (tw35 : tv35[11]? = some (.ref tp35))
    (th35 : PySem.W.codeHdIn K tc35 tp35 = true)
    (tn35 : K.lookup tp35 = none)
    (te34_35 : tp34 ≠ tp35)
    (l36 : K.lookup f36 = some ⟨oc36, od36, .func (PySem.W.fnOf "law" "law" (defArgs s_law) (defBody s_law) (defScope s_law) .none kV36 dc36 pm36 an36 cd36 ct36), sl36⟩)
    (c36 : PySem.W.codeIn K cd36 "law" = true)
    (k36 : PySem.W.keepIn K (.ref f36) = true)
    (pg_Best : PySem.W.plainGet K XBest Str.empty = true)
    (hd_Best : PySem.W.hasDictIn K XBest = true)
    (po_Best : PySem.W.plainOver K XBest = true)
    (sa_Best : PySem.W.findIn K (.ref XBest) "__setattr__" = some (some (.builtin "object.__setattr__")))
    (ha_Best : PySem.W.findIn K (.ref XBest) "__class__" = some (some (.builtin "object.__class__")))
    (hn_Best : PySem.W.specialIn K (.builtin "object.__class__") "__get__" = some (some (.builtin "getset_descriptor.__get__")))
    (ht_Best : PySem.W.takesIn K (.builtin "object.__class__") = some true)
    (hm_Best : PySem.W.mroIn K XBest (.type "object") = some true)
    (mk_Best : PySem.W.makesIn K XBest = true)
    (kc_Best : PySem.W.keepIn K (.ref XBest) = true)
    (na_places_Best : PySem.W.findIn K (.ref XBest) "places" = some none)
    (na_prices_Best : PySem.W.findIn K (.ref XBest) "prices" = some none)
    (pg_Crowd : PySem.W.plainGet K XCrowd Str.empty = true)
    (hd_Crowd : PySem.W.hasDictIn K XCrowd = true)
    (po_Crowd : PySem.W.plainOver K XCrowd = true)
    (sa_Crowd : PySem.W.findIn K (.ref XCrowd) "__setattr__" = some (some (.builtin "object.__setattr__")))
    (ha_Crowd : PySem.W.findIn K (.ref XCrowd) "__class__" = some (some (.builtin "object.__class__")))
    (hn_Crowd : PySem.W.specialIn K (.builtin "object.__class__") "__get__" = some (some (.builtin "getset_descriptor.__get__")))
    (ht_Crowd : PySem.W.takesIn K (.builtin "object.__class__") = some true)
    (hm_Crowd : PySem.W.mroIn K XCrowd (.type "object") = some true)
    (mk_Crowd : PySem.W.makesIn K XCrowd = true)
    (kc_Crowd : PySem.W.keepIn K (.ref XCrowd) = true)
    (na_moment_Crowd : PySem.W.findIn K (.ref XCrowd) "moment" = some none)
    (pg_Laid : PySem.W.plainGet K XLaid Str.empty = true)
    (hd_Laid : PySem.W.hasDictIn K XLaid = true)
    (po_Laid : PySem.W.plainOver K XLaid = true)
    (sa_Laid : PySem.W.findIn K (.ref XLaid) "__setattr__" = some (some (.builtin "object.__setattr__")))
    (ha_Laid : PySem.W.findIn K (.ref XLaid) "__class__" = some (some (.builtin "object.__class__")))
    (hn_Laid : PySem.W.specialIn K (.builtin "object.__class__") "__get__" = some (some (.builtin "getset_descriptor.__get__")))
    (ht_Laid : PySem.W.takesIn K (.builtin "object.__class__") = some true)
    (hm_Laid : PySem.W.mroIn K XLaid (.type "object") = some true)
    (mk_Laid : PySem.W.makesIn K XLaid = true)
    (kc_Laid : PySem.W.keepIn K (.ref XLaid) = true)
    (na_tuners_Laid : PySem.W.findIn K (.ref XLaid) "tuners" = some none)
    (sB_AheadError : PySem.W.subIn K (.ref XAheadError) (.type "BaseException") = some true)
    (tt_AheadError : PySem.W.typeIn K (.ref XAheadError) = some (.type "type"))
    (hd_AheadError : PySem.W.hasDictIn K XAheadError = true)
    (sB_BadEdges : PySem.W.subIn K (.ref XBadEdges) (.type "BaseException") = some true)
    (tt_BadEdges : PySem.W.typeIn K (.ref XBadEdges) = some (.type "type"))
    (hd_BadEdges : PySem.W.hasDictIn K XBadEdges = true)
    (sB_BadLaying : PySem.W.subIn K (.ref XBadLaying) (.type "BaseException") = some true)
    (tt_BadLaying : PySem.W.typeIn K (.ref XBadLaying) = some (.type "type"))
    (hd_BadLaying : PySem.W.hasDictIn K XBadLaying = true)
    (sB_BadMove : PySem.W.subIn K (.ref XBadMove) (.type "BaseException") = some true)
    (tt_BadMove : PySem.W.typeIn K (.ref XBadMove) = some (.type "type"))
    (hd_BadMove : PySem.W.hasDictIn K XBadMove = true)
    (sB_BadPlaces : PySem.W.subIn K (.ref XBadPlaces) (.type "BaseException") = some true)
    (tt_BadPlaces : PySem.W.typeIn K (.ref XBadPlaces) = some (.type "type"))
    (hd_BadPlaces : PySem.W.hasDictIn K XBadPlaces = true)
    (sB_BadShows : PySem.W.subIn K (.ref XBadShows) (.type "BaseException") = some true)
    (tt_BadShows : PySem.W.typeIn K (.ref XBadShows) = some (.type "type"))
    (hd_BadShows : PySem.W.hasDictIn K XBadShows = true)
    (sB_BadTuners : PySem.W.subIn K (.ref XBadTuners) (.type "BaseException") = some true)
    (tt_BadTuners : PySem.W.typeIn K (.ref XBadTuners) = some (.type "type"))
    (hd_BadTuners : PySem.W.hasDictIn K XBadTuners = true)
    (sB_BadWishes : PySem.W.subIn K (.ref XBadWishes) (.type "BaseException") = some true)
    (tt_BadWishes : PySem.W.typeIn K (.ref XBadWishes) = some (.type "type"))
    (hd_BadWishes : PySem.W.hasDictIn K XBadWishes = true)
    (sB_Crowded : PySem.W.subIn K (.ref XCrowded) (.type "BaseException") = some true)
    (tt_Crowded : PySem.W.typeIn K (.ref XCrowded) = some (.type "type"))
    (hd_Crowded : PySem.W.hasDictIn K XCrowded = true)
    (sB_TooMany : PySem.W.subIn K (.ref XTooMany) (.type "BaseException") = some true)
    (tt_TooMany : PySem.W.typeIn K (.ref XTooMany) = some (.type "type"))
    (hd_TooMany : PySem.W.hasDictIn K XTooMany = true)
    (xF_BadEdges : PySem.W.excIn K XBadEdges [.type "ValueError", .type "Exception", .type "BaseException", .type "object"] "ValueError.__new__" = true)
    (kc_BadEdges : PySem.W.keepIn K (.ref XBadEdges) = true)
    (ga_BadEdges : PySem.W.findIn K (.ref XBadEdges) "__getattribute__" = some (some (.builtin "BaseException.__getattribute__")))
    (gt_BadEdges : PySem.W.findIn K (.ref XBadEdges) "__getattr__" = some none)
    (ha_BadEdges : PySem.W.findIn K (.ref XBadEdges) "__class__" = some (some (.builtin "object.__class__")))
    (hn_BadEdges : PySem.W.specialIn K (.builtin "object.__class__") "__get__" = some (some (.builtin "getset_descriptor.__get__")))
    (ht_BadEdges : PySem.W.takesIn K (.builtin "object.__class__") = some true)
    (hm_BadEdges : PySem.W.mroIn K XBadEdges (.type "object") = some true)
    (ms_BadEdges : PySem.W.mroIn K XBadEdges (.ref XBadEdges) = some true)
    (su_BadEdges_AheadError : PySem.W.subIn K (.ref XBadEdges) (.ref XAheadError) = some true)
    (sv_BadEdges : PySem.W.subIn K (.ref XBadEdges) (.type "ValueError") = some true)
    (is_BadEdges_BadEdges : PySem.W.mroIn K XBadEdges (.ref XBadEdges) = some true)
    (is_BadLaying_BadEdges : PySem.W.mroIn K XBadEdges (.ref XBadLaying) = some false)
    (is_BadMove_BadEdges : PySem.W.mroIn K XBadEdges (.ref XBadMove) = some false)
    (is_BadPlaces_BadEdges : PySem.W.mroIn K XBadEdges (.ref XBadPlaces) = some false)
    (is_BadShows_BadEdges : PySem.W.mroIn K XBadEdges (.ref XBadShows) = some false)
    (is_BadTuners_BadEdges : PySem.W.mroIn K XBadEdges (.ref XBadTuners) = some false)
    (is_BadWishes_BadEdges : PySem.W.mroIn K XBadEdges (.ref XBadWishes) = some false)
    (is_Crowded_BadEdges : PySem.W.mroIn K XBadEdges (.ref XCrowded) = some false)
    (is_TooMany_BadEdges : PySem.W.mroIn K XBadEdges (.ref XTooMany) = some false)
    (xF_BadLaying : PySem.W.excIn K XBadLaying [.type "ValueError", .type "Exception", .type "BaseException", .type "object"] "ValueError.__new__" = true)
    (kc_BadLaying : PySem.W.keepIn K (.ref XBadLaying) = true)
    (ga_BadLaying : PySem.W.findIn K (.ref XBadLaying) "__getattribute__" = some (some (.builtin "BaseException.__getattribute__")))
    (gt_BadLaying : PySem.W.findIn K (.ref XBadLaying) "__getattr__" = some none)
    (ha_BadLaying : PySem.W.findIn K (.ref XBadLaying) "__class__" = some (some (.builtin "object.__class__")))
    (hn_BadLaying : PySem.W.specialIn K (.builtin "object.__class__") "__get__" = some (some (.builtin "getset_descriptor.__get__")))
    (ht_BadLaying : PySem.W.takesIn K (.builtin "object.__class__") = some true)
    (hm_BadLaying : PySem.W.mroIn K XBadLaying (.type "object") = some true)
    (ms_BadLaying : PySem.W.mroIn K XBadLaying (.ref XBadLaying) = some true)
    (su_BadLaying_AheadError : PySem.W.subIn K (.ref XBadLaying) (.ref XAheadError) = some true)
    (sv_BadLaying : PySem.W.subIn K (.ref XBadLaying) (.type "ValueError") = some true)
    (is_BadEdges_BadLaying : PySem.W.mroIn K XBadLaying (.ref XBadEdges) = some false)
    (is_BadLaying_BadLaying : PySem.W.mroIn K XBadLaying (.ref XBadLaying) = some true)
    (is_BadMove_BadLaying : PySem.W.mroIn K XBadLaying (.ref XBadMove) = some false)
    (is_BadPlaces_BadLaying : PySem.W.mroIn K XBadLaying (.ref XBadPlaces) = some false)
    (is_BadShows_BadLaying : PySem.W.mroIn K XBadLaying (.ref XBadShows) = some false)
    (is_BadTuners_BadLaying : PySem.W.mroIn K XBadLaying (.ref XBadTuners) = some false)
    (is_BadWishes_BadLaying : PySem.W.mroIn K XBadLaying (.ref XBadWishes) = some false)
    (is_Crowded_BadLaying : PySem.W.mroIn K XBadLaying (.ref XCrowded) = some false)
    (is_TooMany_BadLaying : PySem.W.mroIn K XBadLaying (.ref XTooMany) = some false)
    (xF_BadMove : PySem.W.excIn K XBadMove [.type "ValueError", .type "Exception", .type "BaseException", .type "object"] "ValueError.__new__" = true)
    (kc_BadMove : PySem.W.keepIn K (.ref XBadMove) = true)
    (ga_BadMove : PySem.W.findIn K (.ref XBadMove) "__getattribute__" = some (some (.builtin "BaseException.__getattribute__")))
    (gt_BadMove : PySem.W.findIn K (.ref XBadMove) "__getattr__" = some none)
    (ha_BadMove : PySem.W.findIn K (.ref XBadMove) "__class__" = some (some (.builtin "object.__class__")))
    (hn_BadMove : PySem.W.specialIn K (.builtin "object.__class__") "__get__" = some (some (.builtin "getset_descriptor.__get__")))
    (ht_BadMove : PySem.W.takesIn K (.builtin "object.__class__") = some true)
    (hm_BadMove : PySem.W.mroIn K XBadMove (.type "object") = some true)
    (ms_BadMove : PySem.W.mroIn K XBadMove (.ref XBadMove) = some true)
    (su_BadMove_AheadError : PySem.W.subIn K (.ref XBadMove) (.ref XAheadError) = some true)
    (sv_BadMove : PySem.W.subIn K (.ref XBadMove) (.type "ValueError") = some true)
    (is_BadEdges_BadMove : PySem.W.mroIn K XBadMove (.ref XBadEdges) = some false)
    (is_BadLaying_BadMove : PySem.W.mroIn K XBadMove (.ref XBadLaying) = some false)
    (is_BadMove_BadMove : PySem.W.mroIn K XBadMove (.ref XBadMove) = some true)
    (is_BadPlaces_BadMove : PySem.W.mroIn K XBadMove (.ref XBadPlaces) = some false)
    (is_BadShows_BadMove : PySem.W.mroIn K XBadMove (.ref XBadShows) = some false)
    (is_BadTuners_BadMove : PySem.W.mroIn K XBadMove (.ref XBadTuners) = some false)
    (is_BadWishes_BadMove : PySem.W.mroIn K XBadMove (.ref XBadWishes) = some false)
    (is_Crowded_BadMove : PySem.W.mroIn K XBadMove (.ref XCrowded) = some false)
    (is_TooMany_BadMove : PySem.W.mroIn K XBadMove (.ref XTooMany) = some false)
    (xF_BadPlaces : PySem.W.excIn K XBadPlaces [.type "ValueError", .type "Exception", .type "BaseException", .type "object"] "ValueError.__new__" = true)
    (kc_BadPlaces : PySem.W.keepIn K (.ref XBadPlaces) = true)
    (ga_BadPlaces : PySem.W.findIn K (.ref XBadPlaces) "__getattribute__" = some (some (.builtin "BaseException.__getattribute__")))
    (gt_BadPlaces : PySem.W.findIn K (.ref XBadPlaces) "__getattr__" = some none)
    (ha_BadPlaces : PySem.W.findIn K (.ref XBadPlaces) "__class__" = some (some (.builtin "object.__class__")))
    (hn_BadPlaces : PySem.W.specialIn K (.builtin "object.__class__") "__get__" = some (some (.builtin "getset_descriptor.__get__")))
    (ht_BadPlaces : PySem.W.takesIn K (.builtin "object.__class__") = some true)
    (hm_BadPlaces : PySem.W.mroIn K XBadPlaces (.type "object") = some true)
    (ms_BadPlaces : PySem.W.mroIn K XBadPlaces (.ref XBadPlaces) = some true)
    (su_BadPlaces_AheadError : PySem.W.subIn K (.ref XBadPlaces) (.ref XAheadError) = some true)
    (sv_BadPlaces : PySem.W.subIn K (.ref XBadPlaces) (.type "ValueError") = some true)
    (is_BadEdges_BadPlaces : PySem.W.mroIn K XBadPlaces (.ref XBadEdges) = some false)
    (is_BadLaying_BadPlaces : PySem.W.mroIn K XBadPlaces (.ref XBadLaying) = some false)
    (is_BadMove_BadPlaces : PySem.W.mroIn K XBadPlaces (.ref XBadMove) = some false)
    (is_BadPlaces_BadPlaces : PySem.W.mroIn K XBadPlaces (.ref XBadPlaces) = some true)
    (is_BadShows_BadPlaces : PySem.W.mroIn K XBadPlaces (.ref XBadShows) = some false)
    (is_BadTuners_BadPlaces : PySem.W.mroIn K XBadPlaces (.ref XBadTuners) = some false)
    (is_BadWishes_BadPlaces : PySem.W.mroIn K XBadPlaces (.ref XBadWishes) = some false)
    (is_Crowded_BadPlaces : PySem.W.mroIn K XBadPlaces (.ref XCrowded) = some false)
    (is_TooMany_BadPlaces : PySem.W.mroIn K XBadPlaces (.ref XTooMany) = some false)
    (xF_BadShows : PySem.W.excIn K XBadShows [.type "ValueError", .type "Exception", .type "BaseException", .type "object"] "ValueError.__new__" = true)
    (kc_BadShows : PySem.W.keepIn K (.ref XBadShows) = true)
    (ga_BadShows : PySem.W.findIn K (.ref XBadShows) "__getattribute__" = some (some (.builtin "BaseException.__getattribute__")))
    (gt_BadShows : PySem.W.findIn K (.ref XBadShows) "__getattr__" = some none)
    (ha_BadShows : PySem.W.findIn K (.ref XBadShows) "__class__" = some (some (.builtin "object.__class__")))
    (hn_BadShows : PySem.W.specialIn K (.builtin "object.__class__") "__get__" = some (some (.builtin "getset_descriptor.__get__")))
    (ht_BadShows : PySem.W.takesIn K (.builtin "object.__class__") = some true)
    (hm_BadShows : PySem.W.mroIn K XBadShows (.type "object") = some true)
    (ms_BadShows : PySem.W.mroIn K XBadShows (.ref XBadShows) = some true)
    (su_BadShows_AheadError : PySem.W.subIn K (.ref XBadShows) (.ref XAheadError) = some true)
    (sv_BadShows : PySem.W.subIn K (.ref XBadShows) (.type "ValueError") = some true)
    (is_BadEdges_BadShows : PySem.W.mroIn K XBadShows (.ref XBadEdges) = some false)
    (is_BadLaying_BadShows : PySem.W.mroIn K XBadShows (.ref XBadLaying) = some false)
    (is_BadMove_BadShows : PySem.W.mroIn K XBadShows (.ref XBadMove) = some false)
    (is_BadPlaces_BadShows : PySem.W.mroIn K XBadShows (.ref XBadPlaces) = some false)
    (is_BadShows_BadShows : PySem.W.mroIn K XBadShows (.ref XBadShows) = some true)
    (is_BadTuners_BadShows : PySem.W.mroIn K XBadShows (.ref XBadTuners) = some false)
    (is_BadWishes_BadShows : PySem.W.mroIn K XBadShows (.ref XBadWishes) = some false)
    (is_Crowded_BadShows : PySem.W.mroIn K XBadShows (.ref XCrowded) = some false)
    (is_TooMany_BadShows : PySem.W.mroIn K XBadShows (.ref XTooMany) = some false)
    (xF_BadTuners : PySem.W.excIn K XBadTuners [.type "ValueError", .type "Exception", .type "BaseException", .type "object"] "ValueError.__new__" = true)
    (kc_BadTuners : PySem.W.keepIn K (.ref XBadTuners) = true)
    (ga_BadTuners : PySem.W.findIn K (.ref XBadTuners) "__getattribute__" = some (some (.builtin "BaseException.__getattribute__")))
    (gt_BadTuners : PySem.W.findIn K (.ref XBadTuners) "__getattr__" = some none)
    (ha_BadTuners : PySem.W.findIn K (.ref XBadTuners) "__class__" = some (some (.builtin "object.__class__")))
    (hn_BadTuners : PySem.W.specialIn K (.builtin "object.__class__") "__get__" = some (some (.builtin "getset_descriptor.__get__")))
    (ht_BadTuners : PySem.W.takesIn K (.builtin "object.__class__") = some true)
    (hm_BadTuners : PySem.W.mroIn K XBadTuners (.type "object") = some true)
    (ms_BadTuners : PySem.W.mroIn K XBadTuners (.ref XBadTuners) = some true)
    (su_BadTuners_AheadError : PySem.W.subIn K (.ref XBadTuners) (.ref XAheadError) = some true)
    (sv_BadTuners : PySem.W.subIn K (.ref XBadTuners) (.type "ValueError") = some true)
    (is_BadEdges_BadTuners : PySem.W.mroIn K XBadTuners (.ref XBadEdges) = some false)
    (is_BadLaying_BadTuners : PySem.W.mroIn K XBadTuners (.ref XBadLaying) = some false)
    (is_BadMove_BadTuners : PySem.W.mroIn K XBadTuners (.ref XBadMove) = some false)
    (is_BadPlaces_BadTuners : PySem.W.mroIn K XBadTuners (.ref XBadPlaces) = some false)
    (is_BadShows_BadTuners : PySem.W.mroIn K XBadTuners (.ref XBadShows) = some false)
    (is_BadTuners_BadTuners : PySem.W.mroIn K XBadTuners (.ref XBadTuners) = some true)
    (is_BadWishes_BadTuners : PySem.W.mroIn K XBadTuners (.ref XBadWishes) = some false)
    (is_Crowded_BadTuners : PySem.W.mroIn K XBadTuners (.ref XCrowded) = some false)
    (is_TooMany_BadTuners : PySem.W.mroIn K XBadTuners (.ref XTooMany) = some false)
    (xF_BadWishes : PySem.W.excIn K XBadWishes [.type "ValueError", .type "Exception", .type "BaseException", .type "object"] "ValueError.__new__" = true)
    (kc_BadWishes : PySem.W.keepIn K (.ref XBadWishes) = true)
    (ga_BadWishes : PySem.W.findIn K (.ref XBadWishes) "__getattribute__" = some (some (.builtin "BaseException.__getattribute__")))
    (gt_BadWishes : PySem.W.findIn K (.ref XBadWishes) "__getattr__" = some none)
    (ha_BadWishes : PySem.W.findIn K (.ref XBadWishes) "__class__" = some (some (.builtin "object.__class__")))
    (hn_BadWishes : PySem.W.specialIn K (.builtin "object.__class__") "__get__" = some (some (.builtin "getset_descriptor.__get__")))
    (ht_BadWishes : PySem.W.takesIn K (.builtin "object.__class__") = some true)
    (hm_BadWishes : PySem.W.mroIn K XBadWishes (.type "object") = some true)
    (ms_BadWishes : PySem.W.mroIn K XBadWishes (.ref XBadWishes) = some true)
    (su_BadWishes_AheadError : PySem.W.subIn K (.ref XBadWishes) (.ref XAheadError) = some true)
    (sv_BadWishes : PySem.W.subIn K (.ref XBadWishes) (.type "ValueError") = some true)
    (is_BadEdges_BadWishes : PySem.W.mroIn K XBadWishes (.ref XBadEdges) = some false)
    (is_BadLaying_BadWishes : PySem.W.mroIn K XBadWishes (.ref XBadLaying) = some false)
    (is_BadMove_BadWishes : PySem.W.mroIn K XBadWishes (.ref XBadMove) = some false)
    (is_BadPlaces_BadWishes : PySem.W.mroIn K XBadWishes (.ref XBadPlaces) = some false)
    (is_BadShows_BadWishes : PySem.W.mroIn K XBadWishes (.ref XBadShows) = some false)
    (is_BadTuners_BadWishes : PySem.W.mroIn K XBadWishes (.ref XBadTuners) = some false)
    (is_BadWishes_BadWishes : PySem.W.mroIn K XBadWishes (.ref XBadWishes) = some true)
    (is_Crowded_BadWishes : PySem.W.mroIn K XBadWishes (.ref XCrowded) = some false)
    (is_TooMany_BadWishes : PySem.W.mroIn K XBadWishes (.ref XTooMany) = some false)
    (xF_Crowded : PySem.W.excIn K XCrowded [.type "ValueError", .type "Exception", .type "BaseException", .type "object"] "ValueError.__new__" = true)
    (kc_Crowded : PySem.W.keepIn K (.ref XCrowded) = true)
    (ga_Crowded : PySem.W.findIn K (.ref XCrowded) "__getattribute__" = some (some (.builtin "BaseException.__getattribute__")))
    (gt_Crowded : PySem.W.findIn K (.ref XCrowded) "__getattr__" = some none)
    (ha_Crowded : PySem.W.findIn K (.ref XCrowded) "__class__" = some (some (.builtin "object.__class__")))
    (hn_Crowded : PySem.W.specialIn K (.builtin "object.__class__") "__get__" = some (some (.builtin "getset_descriptor.__get__")))
    (ht_Crowded : PySem.W.takesIn K (.builtin "object.__class__") = some true)
    (hm_Crowded : PySem.W.mroIn K XCrowded (.type "object") = some true)
    (ms_Crowded : PySem.W.mroIn K XCrowded (.ref XCrowded) = some true)
    (su_Crowded_AheadError : PySem.W.subIn K (.ref XCrowded) (.ref XAheadError) = some true)
    (sv_Crowded : PySem.W.subIn K (.ref XCrowded) (.type "ValueError") = some true)
    (is_BadEdges_Crowded : PySem.W.mroIn K XCrowded (.ref XBadEdges) = some false)
    (is_BadLaying_Crowded : PySem.W.mroIn K XCrowded (.ref XBadLaying) = some false)
    (is_BadMove_Crowded : PySem.W.mroIn K XCrowded (.ref XBadMove) = some false)
    (is_BadPlaces_Crowded : PySem.W.mroIn K XCrowded (.ref XBadPlaces) = some false)
    (is_BadShows_Crowded : PySem.W.mroIn K XCrowded (.ref XBadShows) = some false)
    (is_BadTuners_Crowded : PySem.W.mroIn K XCrowded (.ref XBadTuners) = some false)
    (is_BadWishes_Crowded : PySem.W.mroIn K XCrowded (.ref XBadWishes) = some false)
    (is_Crowded_Crowded : PySem.W.mroIn K XCrowded (.ref XCrowded) = some true)
    (is_TooMany_Crowded : PySem.W.mroIn K XCrowded (.ref XTooMany) = some false)
    (xF_TooMany : PySem.W.excIn K XTooMany [.type "ValueError", .type "Exception", .type "BaseException", .type "object"] "ValueError.__new__" = true)
    (kc_TooMany : PySem.W.keepIn K (.ref XTooMany) = true)
    (ga_TooMany : PySem.W.findIn K (.ref XTooMany) "__getattribute__" = some (some (.builtin "BaseException.__getattribute__")))
    (gt_TooMany : PySem.W.findIn K (.ref XTooMany) "__getattr__" = some none)
    (ha_TooMany : PySem.W.findIn K (.ref XTooMany) "__class__" = some (some (.builtin "object.__class__")))
    (hn_TooMany : PySem.W.specialIn K (.builtin "object.__class__") "__get__" = some (some (.builtin "getset_descriptor.__get__")))
    (ht_TooMany : PySem.W.takesIn K (.builtin "object.__class__") = some true)
    (hm_TooMany : PySem.W.mroIn K XTooMany (.type "object") = some true)
    (ms_TooMany : PySem.W.mroIn K XTooMany (.ref XTooMany) = some true)
    (su_TooMany_AheadError : PySem.W.subIn K (.ref XTooMany) (.ref XAheadError) = some true)
    (sv_TooMany : PySem.W.subIn K (.ref XTooMany) (.type "ValueError") = some true)
    (is_BadEdges_TooMany : PySem.W.mroIn K XTooMany (.ref XBadEdges) = some false)
    (is_BadLaying_TooMany : PySem.W.mroIn K XTooMany (.ref XBadLaying) = some false)
    (is_BadMove_TooMany : PySem.W.mroIn K XTooMany (.ref XBadMove) = some false)
    (is_BadPlaces_TooMany : PySem.W.mroIn K XTooMany (.ref XBadPlaces) = some false)
    (is_BadShows_TooMany : PySem.W.mroIn K XTooMany (.ref XBadShows) = some false)
    (is_BadTuners_TooMany : PySem.W.mroIn K XTooMany (.ref XBadTuners) = some false)
    (is_BadWishes_TooMany : PySem.W.mroIn K XTooMany (.ref XBadWishes) = some false)
    (is_Crowded_TooMany : PySem.W.mroIn K XTooMany (.ref XCrowded) = some false)
    (is_TooMany_TooMany : PySem.W.mroIn K XTooMany (.ref XTooMany) = some true)
    (rc_BadEdges : PySem.W.clsIn K XBadEdges = some RBadEdges)
    (rt_BadEdges : PySem.W.typeIn K (.ref XBadEdges) = some (.type "type"))
    (rc_BadLaying : PySem.W.clsIn K XBadLaying = some RBadLaying)
    (rt_BadLaying : PySem.W.typeIn K (.ref XBadLaying) = some (.type "type"))
    (rc_BadMove : PySem.W.clsIn K XBadMove = some RBadMove)
    (rt_BadMove : PySem.W.typeIn K (.ref XBadMove) = some (.type "type"))
    (rc_BadPlaces : PySem.W.clsIn K XBadPlaces = some RBadPlaces)
    (rt_BadPlaces : PySem.W.typeIn K (.ref XBadPlaces) = some (.type "type"))
    (rc_BadShows : PySem.W.clsIn K XBadShows = some RBadShows)
    (rt_BadShows : PySem.W.typeIn K (.ref XBadShows) = some (.type "type"))
    (rc_BadTuners : PySem.W.clsIn K XBadTuners = some RBadTuners)
    (rt_BadTuners : PySem.W.typeIn K (.ref XBadTuners) = some (.type "type"))
    (rc_BadWishes : PySem.W.clsIn K XBadWishes = some RBadWishes)
    (rt_BadWishes : PySem.W.typeIn K (.ref XBadWishes) = some (.type "type"))
    (rc_Crowded : PySem.W.clsIn K XCrowded = some RCrowded)
    (rt_Crowded : PySem.W.typeIn K (.ref XCrowded) = some (.type "type"))
    (rc_TooMany : PySem.W.clsIn K XTooMany = some RTooMany)
    (rt_TooMany : PySem.W.typeIn K (.ref XTooMany) = some (.type "type"))
    (z0 : PySem.W.nsIn K mainGlobals "ValueError" = some none)
    (z1 : PySem.W.nsIn K mainGlobals "abs" = some none)
    (z2 : PySem.W.nsIn K mainGlobals "all" = some none)
    (z3 : PySem.W.nsIn K mainGlobals "bool" = some none)
    (z4 : PySem.W.nsIn K mainGlobals "enumerate" = some none)
    (z5 : PySem.W.nsIn K mainGlobals "int" = some none)
    (z6 : PySem.W.nsIn K mainGlobals "isinstance" = some none)
    (z7 : PySem.W.nsIn K mainGlobals "len" = some none)
    (z8 : PySem.W.nsIn K mainGlobals "list" = some none)
    (z9 : PySem.W.nsIn K mainGlobals "max" = some none)
    (z10 : PySem.W.nsIn K mainGlobals "min" = some none)
    (z11 : PySem.W.nsIn K mainGlobals "range" = some none)
    (z12 : PySem.W.nsIn K mainGlobals "set" = some none)
    (z13 : PySem.W.nsIn K mainGlobals "sorted" = some none)
    (z14 : PySem.W.nsIn K mainGlobals "sum" = some none)
    (z15 : PySem.W.nsIn K mainGlobals "tuple" = some none)
    (w0 : PySem.W.nsIn K mainGlobals "DAY_answers" = some (some (.int 24 y0)))
    (w1 : PySem.W.nsIn K mainGlobals "DAY_days" = some (some (.int 24 y1)))
    (w2 : PySem.W.nsIn K mainGlobals "MOST_SHOWS" = some (some (.int 10 y2)))
    (w3 : PySem.W.nsIn K mainGlobals "MOST_SMALL" = some (some (.int 6 y3)))
    (w4 : PySem.W.nsIn K mainGlobals "MOST_WISHES" = some (some (.int 6 y4)))
    (w5 : PySem.W.nsIn K mainGlobals "MOST_WORTH" = some (some (.int 60 y5)))
    : LamX.LawAtS l w K CX0 17 63 "_law_script" mg fa h := by
  have e : f36 = fa := (Value.ref.inj (Option.some.inj (hfa.symm.trans (PySem.W.mg_of X G a36)))).symm
  subst e
  let T : Txt K mg := {
    fa_held_of := f0, fd_held_of := _, F_held_of := fun_mk (st := s_held_of) l0 c0 k0,
    g_held_of := PySem.W.mg_of X G a0,
    fa_can_be := f1, fd_can_be := _, F_can_be := fun_mk (st := s_can_be) l1 c1 k1,
    g_can_be := PySem.W.mg_of X G a1,
    fa_Laid_init := f2, fd_Laid_init := _, F_Laid_init := fun_mk (st := s_Laid_init) l2 c2 k2,
    fa_Crowd_init := f3, fd_Crowd_init := _, F_Crowd_init := fun_mk (st := s_Crowd_init) l3 c3 k3,
    fa_Best_init := f4, fd_Best_init := _, F_Best_init := fun_mk (st := s_Best_init) l4 c4 k4,
    fa_is_whole := f5, fd_is_whole := _, F_is_whole := fun_mk (st := s_is_whole) l5 c5 k5,
    g_is_whole := PySem.W.mg_of X G a5,
    fa_is_show := f6, fd_is_show := _, F_is_show := fun_mk (st := s_is_show) l6 c6 k6,
    g_is_show := PySem.W.mg_of X G a6,
    fa_asked_tuners := f7, fd_asked_tuners := _, F_asked_tuners := fun_mk (st := s_asked_tuners) l7 c7 k7,
    g_asked_tuners := PySem.W.mg_of X G a7,
    fa_asked_edges := f8, fd_asked_edges := _, F_asked_edges := fun_mk (st := s_asked_edges) l8 c8 k8,
    g_asked_edges := PySem.W.mg_of X G a8,
    fa_asked_shows := f9, fd_asked_shows := _, F_asked_shows := fun_mk (st := s_asked_shows) l9 c9 k9,
    g_asked_shows := PySem.W.mg_of X G a9,
    fa_are_places := f10, fd_are_places := _, F_are_places := fun_mk (st := s_are_places) l10 c10 k10,
    g_are_places := PySem.W.mg_of X G a10,
    fa_asked_places := f11, fd_asked_places := _, F_asked_places := fun_mk (st := s_asked_places) l11 c11 k11,
    g_asked_places := PySem.W.mg_of X G a11,
    fa_asked_wishes := f12, fd_asked_wishes := _, F_asked_wishes := fun_mk (st := s_asked_wishes) l12 c12 k12,
    g_asked_wishes := PySem.W.mg_of X G a12,
    fa_asked_all := f13, fd_asked_all := _, F_asked_all := fun_mk (st := s_asked_all) l13 c13 k13,
    g_asked_all := PySem.W.mg_of X G a13,
    fa_laid_of := f14, fd_laid_of := _, F_laid_of := fun_mk (st := s_laid_of) l14 c14 k14,
    g_laid_of := PySem.W.mg_of X G a14,
    fa_judged := f15, fd_judged := _, F_judged := fun_mk (st := s_judged) l15 c15 k15,
    g_judged := PySem.W.mg_of X G a15,
    fa_ways_of := f16, fd_ways_of := _, F_ways_of := fun_mk (st := s_ways_of) l16 c16 k16,
    g_ways_of := PySem.W.mg_of X G a16,
    fa_unlike := f17, fd_unlike := _, F_unlike := fun_mk (st := s_unlike) l17 c17 k17,
    g_unlike := PySem.W.mg_of X G a17,
    fa_laid_anew := f18, fd_laid_anew := _, F_laid_anew := fun_mk (st := s_laid_anew) l18 c18 k18,
    g_laid_anew := PySem.W.mg_of X G a18,
    fa_kept_of := f19, fd_kept_of := _, F_kept_of := fun_mk (st := s_kept_of) l19 c19 k19,
    g_kept_of := PySem.W.mg_of X G a19,
    fa_kept := f20, fd_kept := _, F_kept := fun_mk (st := s_kept) l20 c20 k20,
    g_kept := PySem.W.mg_of X G a20,
    fa_moved_of := f21, fd_moved_of := _, F_moved_of := fun_mk (st := s_moved_of) l21 c21 k21,
    g_moved_of := PySem.W.mg_of X G a21,
    fa_asked_move := f22, fd_asked_move := _, F_asked_move := fun_mk (st := s_asked_move) l22 c22 k22,
    g_asked_move := PySem.W.mg_of X G a22,
    fa_moved := f23, fd_moved := _, F_moved := fun_mk (st := s_moved) l23 c23 k23,
    g_moved := PySem.W.mg_of X G a23,
    fa_changes := f24, fd_changes := _, F_changes := fun_mk (st := s_changes) l24 c24 k24,
    g_changes := PySem.W.mg_of X G a24,
    fa_fell_of := f25, fd_fell_of := _, F_fell_of := fun_mk (st := s_fell_of) l25 c25 k25,
    g_fell_of := PySem.W.mg_of X G a25,
    fa_idle_of := f26, fd_idle_of := _, F_idle_of := fun_mk (st := s_idle_of) l26 c26 k26,
    g_idle_of := PySem.W.mg_of X G a26,
    fa_best_of := f27, fd_best_of := _, F_best_of := fun_mk (st := s_best_of) l27 c27 k27,
    g_best_of := PySem.W.mg_of X G a27,
    fa_best := f28, fd_best := _, F_best := fun_mk (st := s_best) l28 c28 k28,
    g_best := PySem.W.mg_of X G a28,
    fa_most := f29, fd_most := _, F_most := fun_mk (st := s_most) l29 c29 k29,
    g_most := PySem.W.mg_of X G a29,
    fa__law_refused := f30, fd__law_refused := _, F__law_refused := fun_mk (st := s__law_refused) l30 c30 k30,
    g__law_refused := PySem.W.mg_of X G a30,
    fa__law_each := f31, fd__law_each := _, F__law_each := fun_mk (st := s__law_each) l31 c31 k31,
    g__law_each := PySem.W.mg_of X G a31,
    fa__law_no_numbers := f32, fd__law_no_numbers := _, F__law_no_numbers := fun_mk (st := s__law_no_numbers) l32 c32 k32,
    g__law_no_numbers := PySem.W.mg_of X G a32,
    fa__law_no_places := f33, fd__law_no_places := _, F__law_no_places := fun_mk (st := s__law_no_places) l33 c33 k33,
    g__law_no_places := PySem.W.mg_of X G a33,
    fa__law_day_right := f34, fd__law_day_right := _, F__law_day_right := fun_mk (st := s__law_day_right) l34 c34 k34,
    tc__law_day_right := tc34, tp__law_day_right := tp34, Fc__law_day_right := ⟨⟨_, _, _, _, _, _, _, _, rfl, l34, c34⟩, k34⟩,
    g__law_day_right := PySem.W.mg_of X G a34,
    fa__law_rest_right := f35, fd__law_rest_right := _, F__law_rest_right := fun_mk (st := s__law_rest_right) l35 c35 k35,
    tc__law_rest_right := tc35, tp__law_rest_right := tp35, Fc__law_rest_right := ⟨⟨_, _, _, _, _, _, _, _, rfl, l35, c35⟩, k35⟩,
    tne__law_day_right__law_rest_right := te34_35,
    g__law_rest_right := PySem.W.mg_of X G a35,
    fa_law := f36, fd_law := _, F_law := fun_mk (st := s_law) l36 c36 k36,
    g_law := PySem.W.mg_of X G a36,
    C_AheadError := XAheadError, g_AheadError := PySem.W.mg_of X G acAheadError,
    C_BadEdges := XBadEdges, g_BadEdges := PySem.W.mg_of X G acBadEdges,
    C_BadLaying := XBadLaying, g_BadLaying := PySem.W.mg_of X G acBadLaying,
    C_BadMove := XBadMove, g_BadMove := PySem.W.mg_of X G acBadMove,
    C_BadPlaces := XBadPlaces, g_BadPlaces := PySem.W.mg_of X G acBadPlaces,
    C_BadShows := XBadShows, g_BadShows := PySem.W.mg_of X G acBadShows,
    C_BadTuners := XBadTuners, g_BadTuners := PySem.W.mg_of X G acBadTuners,
    C_BadWishes := XBadWishes, g_BadWishes := PySem.W.mg_of X G acBadWishes,
    C_Best := XBest, g_Best := PySem.W.mg_of X G acBest,
    ic_Best := ⟨⟨pg_Best, hd_Best, po_Best, sa_Best⟩, ha_Best, hn_Best, ht_Best, hm_Best⟩,
    na_Best_places := na_places_Best,
    na_Best_prices := na_prices_Best,
    mk_Best := ⟨mk_Best, a4, if4, kc_Best⟩,
    C_Crowd := XCrowd, g_Crowd := PySem.W.mg_of X G acCrowd,
    ic_Crowd := ⟨⟨pg_Crowd, hd_Crowd, po_Crowd, sa_Crowd⟩, ha_Crowd, hn_Crowd, ht_Crowd, hm_Crowd⟩,
    na_Crowd_moment := na_moment_Crowd,
    mk_Crowd := ⟨mk_Crowd, a3, if3, kc_Crowd⟩,
    C_Crowded := XCrowded, g_Crowded := PySem.W.mg_of X G acCrowded,
    C_Laid := XLaid, g_Laid := PySem.W.mg_of X G acLaid,
    ic_Laid := ⟨⟨pg_Laid, hd_Laid, po_Laid, sa_Laid⟩, ha_Laid, hn_Laid, ht_Laid, hm_Laid⟩,
    na_Laid_tuners := na_tuners_Laid,
    mk_Laid := ⟨mk_Laid, a2, if2, kc_Laid⟩,
    C_TooMany := XTooMany, g_TooMany := PySem.W.mg_of X G acTooMany,
    rc_BadEdges := ⟨PySem.W.mg_of X G acBadEdges, xF_BadEdges, kc_BadEdges, sB_BadEdges, tt_BadEdges⟩,
    ec_BadEdges := ⟨ga_BadEdges, gt_BadEdges, sB_BadEdges, hd_BadEdges, ha_BadEdges, hn_BadEdges, ht_BadEdges, hm_BadEdges⟩,
    em_BadEdges_AheadError := PySem.W.exm_ref sB_AheadError hd_AheadError tt_AheadError su_BadEdges_AheadError,
    iv_BadEdges := kit_ty (by decide +kernel) sv_BadEdges,
    ie_BadEdges_BadEdges := kit_own (by rw [rc_BadEdges]; rfl) rt_BadEdges is_BadEdges_BadEdges ms_BadEdges,
    ie_BadEdges_BadLaying := kit_own (by rw [rc_BadLaying]; rfl) rt_BadLaying is_BadLaying_BadEdges ms_BadEdges,
    ie_BadEdges_BadMove := kit_own (by rw [rc_BadMove]; rfl) rt_BadMove is_BadMove_BadEdges ms_BadEdges,
    ie_BadEdges_BadPlaces := kit_own (by rw [rc_BadPlaces]; rfl) rt_BadPlaces is_BadPlaces_BadEdges ms_BadEdges,
    ie_BadEdges_BadShows := kit_own (by rw [rc_BadShows]; rfl) rt_BadShows is_BadShows_BadEdges ms_BadEdges,
    ie_BadEdges_BadTuners := kit_own (by rw [rc_BadTuners]; rfl) rt_BadTuners is_BadTuners_BadEdges ms_BadEdges,
    ie_BadEdges_BadWishes := kit_own (by rw [rc_BadWishes]; rfl) rt_BadWishes is_BadWishes_BadEdges ms_BadEdges,
    ie_BadEdges_Crowded := kit_own (by rw [rc_Crowded]; rfl) rt_Crowded is_Crowded_BadEdges ms_BadEdges,
    ie_BadEdges_TooMany := kit_own (by rw [rc_TooMany]; rfl) rt_TooMany is_TooMany_BadEdges ms_BadEdges,
    rc_BadLaying := ⟨PySem.W.mg_of X G acBadLaying, xF_BadLaying, kc_BadLaying, sB_BadLaying, tt_BadLaying⟩,
    ec_BadLaying := ⟨ga_BadLaying, gt_BadLaying, sB_BadLaying, hd_BadLaying, ha_BadLaying, hn_BadLaying, ht_BadLaying, hm_BadLaying⟩,
    em_BadLaying_AheadError := PySem.W.exm_ref sB_AheadError hd_AheadError tt_AheadError su_BadLaying_AheadError,
    iv_BadLaying := kit_ty (by decide +kernel) sv_BadLaying,
    ie_BadLaying_BadEdges := kit_own (by rw [rc_BadEdges]; rfl) rt_BadEdges is_BadEdges_BadLaying ms_BadLaying,
    ie_BadLaying_BadLaying := kit_own (by rw [rc_BadLaying]; rfl) rt_BadLaying is_BadLaying_BadLaying ms_BadLaying,
    ie_BadLaying_BadMove := kit_own (by rw [rc_BadMove]; rfl) rt_BadMove is_BadMove_BadLaying ms_BadLaying,
    ie_BadLaying_BadPlaces := kit_own (by rw [rc_BadPlaces]; rfl) rt_BadPlaces is_BadPlaces_BadLaying ms_BadLaying,
    ie_BadLaying_BadShows := kit_own (by rw [rc_BadShows]; rfl) rt_BadShows is_BadShows_BadLaying ms_BadLaying,
    ie_BadLaying_BadTuners := kit_own (by rw [rc_BadTuners]; rfl) rt_BadTuners is_BadTuners_BadLaying ms_BadLaying,
    ie_BadLaying_BadWishes := kit_own (by rw [rc_BadWishes]; rfl) rt_BadWishes is_BadWishes_BadLaying ms_BadLaying,
    ie_BadLaying_Crowded := kit_own (by rw [rc_Crowded]; rfl) rt_Crowded is_Crowded_BadLaying ms_BadLaying,
    ie_BadLaying_TooMany := kit_own (by rw [rc_TooMany]; rfl) rt_TooMany is_TooMany_BadLaying ms_BadLaying,
    rc_BadMove := ⟨PySem.W.mg_of X G acBadMove, xF_BadMove, kc_BadMove, sB_BadMove, tt_BadMove⟩,
    ec_BadMove := ⟨ga_BadMove, gt_BadMove, sB_BadMove, hd_BadMove, ha_BadMove, hn_BadMove, ht_BadMove, hm_BadMove⟩,
    em_BadMove_AheadError := PySem.W.exm_ref sB_AheadError hd_AheadError tt_AheadError su_BadMove_AheadError,
    iv_BadMove := kit_ty (by decide +kernel) sv_BadMove,
    ie_BadMove_BadEdges := kit_own (by rw [rc_BadEdges]; rfl) rt_BadEdges is_BadEdges_BadMove ms_BadMove,
    ie_BadMove_BadLaying := kit_own (by rw [rc_BadLaying]; rfl) rt_BadLaying is_BadLaying_BadMove ms_BadMove,
    ie_BadMove_BadMove := kit_own (by rw [rc_BadMove]; rfl) rt_BadMove is_BadMove_BadMove ms_BadMove,
    ie_BadMove_BadPlaces := kit_own (by rw [rc_BadPlaces]; rfl) rt_BadPlaces is_BadPlaces_BadMove ms_BadMove,
    ie_BadMove_BadShows := kit_own (by rw [rc_BadShows]; rfl) rt_BadShows is_BadShows_BadMove ms_BadMove,
    ie_BadMove_BadTuners := kit_own (by rw [rc_BadTuners]; rfl) rt_BadTuners is_BadTuners_BadMove ms_BadMove,
    ie_BadMove_BadWishes := kit_own (by rw [rc_BadWishes]; rfl) rt_BadWishes is_BadWishes_BadMove ms_BadMove,
    ie_BadMove_Crowded := kit_own (by rw [rc_Crowded]; rfl) rt_Crowded is_Crowded_BadMove ms_BadMove,
    ie_BadMove_TooMany := kit_own (by rw [rc_TooMany]; rfl) rt_TooMany is_TooMany_BadMove ms_BadMove,
    rc_BadPlaces := ⟨PySem.W.mg_of X G acBadPlaces, xF_BadPlaces, kc_BadPlaces, sB_BadPlaces, tt_BadPlaces⟩,
    ec_BadPlaces := ⟨ga_BadPlaces, gt_BadPlaces, sB_BadPlaces, hd_BadPlaces, ha_BadPlaces, hn_BadPlaces, ht_BadPlaces, hm_BadPlaces⟩,
    em_BadPlaces_AheadError := PySem.W.exm_ref sB_AheadError hd_AheadError tt_AheadError su_BadPlaces_AheadError,
    iv_BadPlaces := kit_ty (by decide +kernel) sv_BadPlaces,
    ie_BadPlaces_BadEdges := kit_own (by rw [rc_BadEdges]; rfl) rt_BadEdges is_BadEdges_BadPlaces ms_BadPlaces,
    ie_BadPlaces_BadLaying := kit_own (by rw [rc_BadLaying]; rfl) rt_BadLaying is_BadLaying_BadPlaces ms_BadPlaces,
    ie_BadPlaces_BadMove := kit_own (by rw [rc_BadMove]; rfl) rt_BadMove is_BadMove_BadPlaces ms_BadPlaces,
    ie_BadPlaces_BadPlaces := kit_own (by rw [rc_BadPlaces]; rfl) rt_BadPlaces is_BadPlaces_BadPlaces ms_BadPlaces,
    ie_BadPlaces_BadShows := kit_own (by rw [rc_BadShows]; rfl) rt_BadShows is_BadShows_BadPlaces ms_BadPlaces,
    ie_BadPlaces_BadTuners := kit_own (by rw [rc_BadTuners]; rfl) rt_BadTuners is_BadTuners_BadPlaces ms_BadPlaces,
    ie_BadPlaces_BadWishes := kit_own (by rw [rc_BadWishes]; rfl) rt_BadWishes is_BadWishes_BadPlaces ms_BadPlaces,
    ie_BadPlaces_Crowded := kit_own (by rw [rc_Crowded]; rfl) rt_Crowded is_Crowded_BadPlaces ms_BadPlaces,
    ie_BadPlaces_TooMany := kit_own (by rw [rc_TooMany]; rfl) rt_TooMany is_TooMany_BadPlaces ms_BadPlaces,
    rc_BadShows := ⟨PySem.W.mg_of X G acBadShows, xF_BadShows, kc_BadShows, sB_BadShows, tt_BadShows⟩,
    ec_BadShows := ⟨ga_BadShows, gt_BadShows, sB_BadShows, hd_BadShows, ha_BadShows, hn_BadShows, ht_BadShows, hm_BadShows⟩,
    em_BadShows_AheadError := PySem.W.exm_ref sB_AheadError hd_AheadError tt_AheadError su_BadShows_AheadError,
    iv_BadShows := kit_ty (by decide +kernel) sv_BadShows,
    ie_BadShows_BadEdges := kit_own (by rw [rc_BadEdges]; rfl) rt_BadEdges is_BadEdges_BadShows ms_BadShows,
    ie_BadShows_BadLaying := kit_own (by rw [rc_BadLaying]; rfl) rt_BadLaying is_BadLaying_BadShows ms_BadShows,
    ie_BadShows_BadMove := kit_own (by rw [rc_BadMove]; rfl) rt_BadMove is_BadMove_BadShows ms_BadShows,
    ie_BadShows_BadPlaces := kit_own (by rw [rc_BadPlaces]; rfl) rt_BadPlaces is_BadPlaces_BadShows ms_BadShows,
    ie_BadShows_BadShows := kit_own (by rw [rc_BadShows]; rfl) rt_BadShows is_BadShows_BadShows ms_BadShows,
    ie_BadShows_BadTuners := kit_own (by rw [rc_BadTuners]; rfl) rt_BadTuners is_BadTuners_BadShows ms_BadShows,
    ie_BadShows_BadWishes := kit_own (by rw [rc_BadWishes]; rfl) rt_BadWishes is_BadWishes_BadShows ms_BadShows,
    ie_BadShows_Crowded := kit_own (by rw [rc_Crowded]; rfl) rt_Crowded is_Crowded_BadShows ms_BadShows,
    ie_BadShows_TooMany := kit_own (by rw [rc_TooMany]; rfl) rt_TooMany is_TooMany_BadShows ms_BadShows,
    rc_BadTuners := ⟨PySem.W.mg_of X G acBadTuners, xF_BadTuners, kc_BadTuners, sB_BadTuners, tt_BadTuners⟩,
    ec_BadTuners := ⟨ga_BadTuners, gt_BadTuners, sB_BadTuners, hd_BadTuners, ha_BadTuners, hn_BadTuners, ht_BadTuners, hm_BadTuners⟩,
    em_BadTuners_AheadError := PySem.W.exm_ref sB_AheadError hd_AheadError tt_AheadError su_BadTuners_AheadError,
    iv_BadTuners := kit_ty (by decide +kernel) sv_BadTuners,
    ie_BadTuners_BadEdges := kit_own (by rw [rc_BadEdges]; rfl) rt_BadEdges is_BadEdges_BadTuners ms_BadTuners,
    ie_BadTuners_BadLaying := kit_own (by rw [rc_BadLaying]; rfl) rt_BadLaying is_BadLaying_BadTuners ms_BadTuners,
    ie_BadTuners_BadMove := kit_own (by rw [rc_BadMove]; rfl) rt_BadMove is_BadMove_BadTuners ms_BadTuners,
    ie_BadTuners_BadPlaces := kit_own (by rw [rc_BadPlaces]; rfl) rt_BadPlaces is_BadPlaces_BadTuners ms_BadTuners,
    ie_BadTuners_BadShows := kit_own (by rw [rc_BadShows]; rfl) rt_BadShows is_BadShows_BadTuners ms_BadTuners,
    ie_BadTuners_BadTuners := kit_own (by rw [rc_BadTuners]; rfl) rt_BadTuners is_BadTuners_BadTuners ms_BadTuners,
    ie_BadTuners_BadWishes := kit_own (by rw [rc_BadWishes]; rfl) rt_BadWishes is_BadWishes_BadTuners ms_BadTuners,
    ie_BadTuners_Crowded := kit_own (by rw [rc_Crowded]; rfl) rt_Crowded is_Crowded_BadTuners ms_BadTuners,
    ie_BadTuners_TooMany := kit_own (by rw [rc_TooMany]; rfl) rt_TooMany is_TooMany_BadTuners ms_BadTuners,
    rc_BadWishes := ⟨PySem.W.mg_of X G acBadWishes, xF_BadWishes, kc_BadWishes, sB_BadWishes, tt_BadWishes⟩,
    ec_BadWishes := ⟨ga_BadWishes, gt_BadWishes, sB_BadWishes, hd_BadWishes, ha_BadWishes, hn_BadWishes, ht_BadWishes, hm_BadWishes⟩,
    em_BadWishes_AheadError := PySem.W.exm_ref sB_AheadError hd_AheadError tt_AheadError su_BadWishes_AheadError,
    iv_BadWishes := kit_ty (by decide +kernel) sv_BadWishes,
    ie_BadWishes_BadEdges := kit_own (by rw [rc_BadEdges]; rfl) rt_BadEdges is_BadEdges_BadWishes ms_BadWishes,
    ie_BadWishes_BadLaying := kit_own (by rw [rc_BadLaying]; rfl) rt_BadLaying is_BadLaying_BadWishes ms_BadWishes,
    ie_BadWishes_BadMove := kit_own (by rw [rc_BadMove]; rfl) rt_BadMove is_BadMove_BadWishes ms_BadWishes,
    ie_BadWishes_BadPlaces := kit_own (by rw [rc_BadPlaces]; rfl) rt_BadPlaces is_BadPlaces_BadWishes ms_BadWishes,
    ie_BadWishes_BadShows := kit_own (by rw [rc_BadShows]; rfl) rt_BadShows is_BadShows_BadWishes ms_BadWishes,
    ie_BadWishes_BadTuners := kit_own (by rw [rc_BadTuners]; rfl) rt_BadTuners is_BadTuners_BadWishes ms_BadWishes,
    ie_BadWishes_BadWishes := kit_own (by rw [rc_BadWishes]; rfl) rt_BadWishes is_BadWishes_BadWishes ms_BadWishes,
    ie_BadWishes_Crowded := kit_own (by rw [rc_Crowded]; rfl) rt_Crowded is_Crowded_BadWishes ms_BadWishes,
    ie_BadWishes_TooMany := kit_own (by rw [rc_TooMany]; rfl) rt_TooMany is_TooMany_BadWishes ms_BadWishes,
    rc_Crowded := ⟨PySem.W.mg_of X G acCrowded, xF_Crowded, kc_Crowded, sB_Crowded, tt_Crowded⟩,
    ec_Crowded := ⟨ga_Crowded, gt_Crowded, sB_Crowded, hd_Crowded, ha_Crowded, hn_Crowded, ht_Crowded, hm_Crowded⟩,
    em_Crowded_AheadError := PySem.W.exm_ref sB_AheadError hd_AheadError tt_AheadError su_Crowded_AheadError,
    iv_Crowded := kit_ty (by decide +kernel) sv_Crowded,
    ie_Crowded_BadEdges := kit_own (by rw [rc_BadEdges]; rfl) rt_BadEdges is_BadEdges_Crowded ms_Crowded,
    ie_Crowded_BadLaying := kit_own (by rw [rc_BadLaying]; rfl) rt_BadLaying is_BadLaying_Crowded ms_Crowded,
    ie_Crowded_BadMove := kit_own (by rw [rc_BadMove]; rfl) rt_BadMove is_BadMove_Crowded ms_Crowded,
    ie_Crowded_BadPlaces := kit_own (by rw [rc_BadPlaces]; rfl) rt_BadPlaces is_BadPlaces_Crowded ms_Crowded,
    ie_Crowded_BadShows := kit_own (by rw [rc_BadShows]; rfl) rt_BadShows is_BadShows_Crowded ms_Crowded,
    ie_Crowded_BadTuners := kit_own (by rw [rc_BadTuners]; rfl) rt_BadTuners is_BadTuners_Crowded ms_Crowded,
    ie_Crowded_BadWishes := kit_own (by rw [rc_BadWishes]; rfl) rt_BadWishes is_BadWishes_Crowded ms_Crowded,
    ie_Crowded_Crowded := kit_own (by rw [rc_Crowded]; rfl) rt_Crowded is_Crowded_Crowded ms_Crowded,
    ie_Crowded_TooMany := kit_own (by rw [rc_TooMany]; rfl) rt_TooMany is_TooMany_Crowded ms_Crowded,
    rc_TooMany := ⟨PySem.W.mg_of X G acTooMany, xF_TooMany, kc_TooMany, sB_TooMany, tt_TooMany⟩,
    ec_TooMany := ⟨ga_TooMany, gt_TooMany, sB_TooMany, hd_TooMany, ha_TooMany, hn_TooMany, ht_TooMany, hm_TooMany⟩,
    em_TooMany_AheadError := PySem.W.exm_ref sB_AheadError hd_AheadError tt_AheadError su_TooMany_AheadError,
    iv_TooMany := kit_ty (by decide +kernel) sv_TooMany,
    ie_TooMany_BadEdges := kit_own (by rw [rc_BadEdges]; rfl) rt_BadEdges is_BadEdges_TooMany ms_TooMany,
    ie_TooMany_BadLaying := kit_own (by rw [rc_BadLaying]; rfl) rt_BadLaying is_BadLaying_TooMany ms_TooMany,
    ie_TooMany_BadMove := kit_own (by rw [rc_BadMove]; rfl) rt_BadMove is_BadMove_TooMany ms_TooMany,
    ie_TooMany_BadPlaces := kit_own (by rw [rc_BadPlaces]; rfl) rt_BadPlaces is_BadPlaces_TooMany ms_TooMany,
    ie_TooMany_BadShows := kit_own (by rw [rc_BadShows]; rfl) rt_BadShows is_BadShows_TooMany ms_TooMany,
    ie_TooMany_BadTuners := kit_own (by rw [rc_BadTuners]; rfl) rt_BadTuners is_BadTuners_TooMany ms_TooMany,
    ie_TooMany_BadWishes := kit_own (by rw [rc_BadWishes]; rfl) rt_BadWishes is_BadWishes_TooMany ms_TooMany,
    ie_TooMany_Crowded := kit_own (by rw [rc_Crowded]; rfl) rt_Crowded is_Crowded_TooMany ms_TooMany,
    ie_TooMany_TooMany := kit_own (by rw [rc_TooMany]; rfl) rt_TooMany is_TooMany_TooMany ms_TooMany,
    n_ValueError := PySem.W.mg_none_of X G z0,
    n_abs := PySem.W.mg_none_of X G z1,
    n_all := PySem.W.mg_none_of X G z2,
    n_bool := PySem.W.mg_none_of X G z3,
    n_enumerate := PySem.W.mg_none_of X G z4,
    n_int := PySem.W.mg_none_of X G z5,
    n_isinstance := PySem.W.mg_none_of X G z6,
    n_len := PySem.W.mg_none_of X G z7,
    n_list := PySem.W.mg_none_of X G z8,
    n_max := PySem.W.mg_none_of X G z9,
    n_min := PySem.W.mg_none_of X G z10,
    n_range := PySem.W.mg_none_of X G z11,
    n_set := PySem.W.mg_none_of X G z12,
    n_sorted := PySem.W.mg_none_of X G z13,
    n_sum := PySem.W.mg_none_of X G z14,
    n_tuple := PySem.W.mg_none_of X G z15,
    t_DAY_answers := y0, c_DAY_answers := PySem.W.mg_of X G w0,
    t_DAY_days := y1, c_DAY_days := PySem.W.mg_of X G w1,
    t_MOST_SHOWS := y2, c_MOST_SHOWS := PySem.W.mg_of X G w2,
    t_MOST_SMALL := y3, c_MOST_SMALL := PySem.W.mg_of X G w3,
    t_MOST_WISHES := y4, c_MOST_WISHES := PySem.W.mg_of X G w4,
    t_MOST_WORTH := y5, c_MOST_WORTH := PySem.W.mg_of X G w5 }
  refine ⟨T.fd_law, cs T, spT K (tabs T) P_law, ?_, ?_, ?_, fun s v => .of_eq rfl, fun H a ns hl hb hT hS => spT_end (tabG_empty fun p hp => ?_) hS (law_end ns hl hb), fun base hK hN hB => ok_law T hB⟩
  · intro p hp
    simp only [cs, List.mem_cons, List.not_mem_nil, or_false] at hp
    rcases hp with rfl | rfl
    · exact own _ (by simp [mkNames]) _ (PySem.W.mg_of X G a34) _ _ _ _ _ _ _ _ l34 rfl rfl tl34 tw34
    · exact own _ (by simp [mkNames]) _ (PySem.W.mg_of X G a35) _ _ _ _ _ _ _ _ l35 rfl rfl tl35 tw35
  · intro p hp
    simp only [cs, List.mem_cons, List.not_mem_nil, or_false] at hp
    rcases hp with rfl | rfl
    · exact tn34
    · exact tn35
  · intro p hp
    simp only [cs, List.mem_cons, List.not_mem_nil, or_false] at hp
    rcases hp with rfl | rfl
    · exact PySem.W.codeHd_of_K X th34
    · exact PySem.W.codeHd_of_K X th35
  · simp only [tabs, List.mem_cons, List.not_mem_nil, or_false] at hp
    rcases hp with rfl | rfl
    · exact hT (tc34, tp34) (by simp [cs, T])
    · exact hT (tc35, tp35) (by simp [cs, T])
theorem walk {l : PySem.W.OpenLaw} {q : Program} {loose : List Str} {XP : (Str → Option Value) → Heap → Prop} {YP : World → Heap → Prop} {d : DefRec} {K : Params → PySem.W.Frag} (hn : l.most = some 63) (hdf : d.params.defaults = []) (hrec : ∀ y ∈ mkNames, ((recsOf q).any fun e => e.name == y) = true)
    (hY : ∀ (w : World) (h : Heap), YP w h → (K w.params).In h)
    (F : ∀ (w : World) (mg : Str → Option Value) (fa : Addr) (h : Heap), (K w.params).In h → h.Ns mainGlobals mg → mg d.name = some (.ref fa) → (∀ y ∈ mkNames, ∀ fb, mg y = some (.ref fb) → LamX.OwnTab (K w.params) fb h) → LamX.LawAtS l w (K w.params) CX0 17 63 "_law_script" mg fa h) :
    PySem.W.WalkO q loose XP YP l.row.toRowW d [] (fun f vs => PySem.call f vs) :=
  walk_tabs (n := 63) (k := 17) (x := "_law_script") (CX := fun _ => CX0) mkNames hn (by decide) hdf ⟨rfl, by decide, by decide⟩ hrec hY (fun w mg fa h _ => F w mg fa h) fun _ _ _ _ _ z => z
end Law

open PySem PySem.W PyProof.Rows in
set_option maxRecDepth 100000 in
set_option maxHeartbeats 0 in
theorem PySem.Challenge.cw_setahead_k08_refused_holds : PySem.Challenge.rw_setahead_k08_refused.Holds := by
  w_on; o_law; k_head; (case hw => w_witness2)
  k_fill
  refine Law.walk (l := PySem.Challenge.rw_setahead_k08_refused) rfl rfl ?hrec (fun w h Y => PySem.W.km_in_of Y) ?F
  case hrec => decide +kernel
  case F =>
    intro w mg fa h KX G hmg own
    refine' Law.all_mk KX G hmg own ?a0 ?a1 ?a5 ?a6 ?a7 ?a8 ?a9 ?a10 ?a11 ?a12 ?a13 ?a14 ?a15 ?a16 ?a17 ?a18 ?a19 ?a20 ?a21 ?a22 ?a23 ?a24 ?a25 ?a26 ?a27 ?a28 ?a29 ?a30 ?a31 ?a32 ?a33 ?a34 ?a35 ?a36 ?acAheadError ?acBadEdges ?acBadLaying ?acBadMove ?acBadPlaces ?acBadShows ?acBadTuners ?acBadWishes ?acBest ?acCrowd ?acCrowded ?acLaid ?acTooMany ?l0 ?c0 ?k0 ?l1 ?c1 ?k1 ?a2 ?if2 ?l2 ?c2 ?k2 ?a3 ?if3 ?l3 ?c3 ?k3 ?a4 ?if4 ?l4 ?c4 ?k4 ?l5 ?c5 ?k5 ?l6 ?c6 ?k6 ?l7 ?c7 ?k7 ?l8 ?c8 ?k8 ?l9 ?c9 ?k9 ?l10 ?c10 ?k10 ?l11 ?c11 ?k11 ?l12 ?c12 ?k12 ?l13 ?c13 ?k13 ?l14 ?c14 ?k14 ?l15 ?c15 ?k15 ?l16 ?c16 ?k16 ?l17 ?c17 ?k17 ?l18 ?c18 ?k18 ?l19 ?c19 ?k19 ?l20 ?c20 ?k20 ?l21 ?c21 ?k21 ?l22 ?c22 ?k22 ?l23 ?c23 ?k23 ?l24 ?c24 ?k24 ?l25 ?c25 ?k25 ?l26 ?c26 ?k26 ?l27 ?c27 ?k27 ?l28 ?c28 ?k28 ?l29 ?c29 ?k29 ?l30 ?c30 ?k30 ?l31 ?c31 ?k31 ?l32 ?c32 ?k32 ?l33 ?c33 ?k33 ?l34 ?c34 ?k34 ?tl34 ?tw34 ?th34 ?tn34 ?l35 ?c35 ?k35 ?tl35 ?tw35 ?th35 ?tn35 ?te34_35 ?l36 ?c36 ?k36 ?pg_Best ?hd_Best ?po_Best ?sa_Best ?ha_Best ?hn_Best ?ht_Best ?hm_Best ?mk_Best ?kc_Best ?na_places_Best ?na_prices_Best ?pg_Crowd ?hd_Crowd ?po_Crowd ?sa_Crowd ?ha_Crowd ?hn_Crowd ?ht_Crowd ?hm_Crowd ?mk_Crowd ?kc_Crowd ?na_moment_Crowd ?pg_Laid ?hd_Laid ?po_Laid ?sa_Laid ?ha_Laid ?hn_Laid ?ht_Laid ?hm_Laid ?mk_Laid ?kc_Laid ?na_tuners_Laid ?sB_AheadError ?tt_AheadError ?hd_AheadError ?sB_BadEdges ?tt_BadEdges ?hd_BadEdges ?sB_BadLaying ?tt_BadLaying ?hd_BadLaying ?sB_BadMove ?tt_BadMove ?hd_BadMove ?sB_BadPlaces ?tt_BadPlaces ?hd_BadPlaces ?sB_BadShows ?tt_BadShows ?hd_BadShows ?sB_BadTuners ?tt_BadTuners ?hd_BadTuners ?sB_BadWishes ?tt_BadWishes ?hd_BadWishes ?sB_Crowded ?tt_Crowded ?hd_Crowded ?sB_TooMany ?tt_TooMany ?hd_TooMany ?xF_BadEdges ?kc_BadEdges ?ga_BadEdges ?gt_BadEdges ?ha_BadEdges ?hn_BadEdges ?ht_BadEdges ?hm_BadEdges ?ms_BadEdges ?su_BadEdges_AheadError ?sv_BadEdges ?is_BadEdges_BadEdges ?is_BadLaying_BadEdges ?is_BadMove_BadEdges ?is_BadPlaces_BadEdges ?is_BadShows_BadEdges ?is_BadTuners_BadEdges ?is_BadWishes_BadEdges ?is_Crowded_BadEdges ?is_TooMany_BadEdges ?xF_BadLaying ?kc_BadLaying ?ga_BadLaying ?gt_BadLaying ?ha_BadLaying ?hn_BadLaying ?ht_BadLaying ?hm_BadLaying ?ms_BadLaying ?su_BadLaying_AheadError ?sv_BadLaying ?is_BadEdges_BadLaying ?is_BadLaying_BadLaying ?is_BadMove_BadLaying ?is_BadPlaces_BadLaying ?is_BadShows_BadLaying ?is_BadTuners_BadLaying ?is_BadWishes_BadLaying ?is_Crowded_BadLaying ?is_TooMany_BadLaying ?xF_BadMove ?kc_BadMove ?ga_BadMove ?gt_BadMove ?ha_BadMove ?hn_BadMove ?ht_BadMove ?hm_BadMove ?ms_BadMove ?su_BadMove_AheadError ?sv_BadMove ?is_BadEdges_BadMove ?is_BadLaying_BadMove ?is_BadMove_BadMove ?is_BadPlaces_BadMove ?is_BadShows_BadMove ?is_BadTuners_BadMove ?is_BadWishes_BadMove ?is_Crowded_BadMove ?is_TooMany_BadMove ?xF_BadPlaces ?kc_BadPlaces ?ga_BadPlaces ?gt_BadPlaces ?ha_BadPlaces ?hn_BadPlaces ?ht_BadPlaces ?hm_BadPlaces ?ms_BadPlaces ?su_BadPlaces_AheadError ?sv_BadPlaces ?is_BadEdges_BadPlaces ?is_BadLaying_BadPlaces ?is_BadMove_BadPlaces ?is_BadPlaces_BadPlaces ?is_BadShows_BadPlaces ?is_BadTuners_BadPlaces ?is_BadWishes_BadPlaces ?is_Crowded_BadPlaces ?is_TooMany_BadPlaces ?xF_BadShows ?kc_BadShows ?ga_BadShows ?gt_BadShows ?ha_BadShows ?hn_BadShows ?ht_BadShows ?hm_BadShows ?ms_BadShows ?su_BadShows_AheadError ?sv_BadShows ?is_BadEdges_BadShows ?is_BadLaying_BadShows ?is_BadMove_BadShows ?is_BadPlaces_BadShows ?is_BadShows_BadShows ?is_BadTuners_BadShows ?is_BadWishes_BadShows ?is_Crowded_BadShows ?is_TooMany_BadShows ?xF_BadTuners ?kc_BadTuners ?ga_BadTuners ?gt_BadTuners ?ha_BadTuners ?hn_BadTuners ?ht_BadTuners ?hm_BadTuners ?ms_BadTuners ?su_BadTuners_AheadError ?sv_BadTuners ?is_BadEdges_BadTuners ?is_BadLaying_BadTuners ?is_BadMove_BadTuners ?is_BadPlaces_BadTuners ?is_BadShows_BadTuners ?is_BadTuners_BadTuners ?is_BadWishes_BadTuners ?is_Crowded_BadTuners ?is_TooMany_BadTuners ?xF_BadWishes ?kc_BadWishes ?ga_BadWishes ?gt_BadWishes ?ha_BadWishes ?hn_BadWishes ?ht_BadWishes ?hm_BadWishes ?ms_BadWishes ?su_BadWishes_AheadError ?sv_BadWishes ?is_BadEdges_BadWishes ?is_BadLaying_BadWishes ?is_BadMove_BadWishes ?is_BadPlaces_BadWishes ?is_BadShows_BadWishes ?is_BadTuners_BadWishes ?is_BadWishes_BadWishes ?is_Crowded_BadWishes ?is_TooMany_BadWishes ?xF_Crowded ?kc_Crowded ?ga_Crowded ?gt_Crowded ?ha_Crowded ?hn_Crowded ?ht_Crowded ?hm_Crowded ?ms_Crowded ?su_Crowded_AheadError ?sv_Crowded ?is_BadEdges_Crowded ?is_BadLaying_Crowded ?is_BadMove_Crowded ?is_BadPlaces_Crowded ?is_BadShows_Crowded ?is_BadTuners_Crowded ?is_BadWishes_Crowded ?is_Crowded_Crowded ?is_TooMany_Crowded ?xF_TooMany ?kc_TooMany ?ga_TooMany ?gt_TooMany ?ha_TooMany ?hn_TooMany ?ht_TooMany ?hm_TooMany ?ms_TooMany ?su_TooMany_AheadError ?sv_TooMany ?is_BadEdges_TooMany ?is_BadLaying_TooMany ?is_BadMove_TooMany ?is_BadPlaces_TooMany ?is_BadShows_TooMany ?is_BadTuners_TooMany ?is_BadWishes_TooMany ?is_Crowded_TooMany ?is_TooMany_TooMany ?rc_BadEdges ?rt_BadEdges ?rc_BadLaying ?rt_BadLaying ?rc_BadMove ?rt_BadMove ?rc_BadPlaces ?rt_BadPlaces ?rc_BadShows ?rt_BadShows ?rc_BadTuners ?rt_BadTuners ?rc_BadWishes ?rt_BadWishes ?rc_Crowded ?rt_Crowded ?rc_TooMany ?rt_TooMany ?z0 ?z1 ?z2 ?z3 ?z4 ?z5 ?z6 ?z7 ?z8 ?z9 ?z10 ?z11 ?z12 ?z13 ?z14 ?z15 ?w0 ?w1 ?w2 ?w3 ?w4 ?w5
    (case a0 => k_is)
    (case a1 => k_is)
    (case a5 => k_is)
    (case a6 => k_is)
    (case a7 => k_is)
    (case a8 => k_is)
    (case a9 => k_is)
    (case a10 => k_is)
    (case a11 => k_is)
    (case a12 => k_is)
    (case a13 => k_is)
    (case a14 => k_is)
    (case a15 => k_is)
    (case a16 => k_is)
    (case a17 => k_is)
    (case a18 => k_is)
    (case a19 => k_is)
    (case a20 => k_is)
    (case a21 => k_is)
    (case a22 => k_is)
    (case a23 => k_is)
    (case a24 => k_is)
    (case a25 => k_is)
    (case a26 => k_is)
    (case a27 => k_is)
    (case a28 => k_is)
    (case a29 => k_is)
    (case a30 => k_is)
    (case a31 => k_is)
    (case a32 => k_is)
    (case a33 => k_is)
    (case a34 => k_is)
    (case a35 => k_is)
    (case a36 => k_is)
    (case acAheadError => k_is)
    (case acBadEdges => k_is)
    (case acBadLaying => k_is)
    (case acBadMove => k_is)
    (case acBadPlaces => k_is)
    (case acBadShows => k_is)
    (case acBadTuners => k_is)
    (case acBadWishes => k_is)
    (case acBest => k_is)
    (case acCrowd => k_is)
    (case acCrowded => k_is)
    (case acLaid => k_is)
    (case acTooMany => k_is)
    (case l0 => k_is)
    (case c0 => k_is)
    (case k0 => k_is)
    (case l1 => k_is)
    (case c1 => k_is)
    (case k1 => k_is)
    (case a2 => k_is)
    (case if2 => k_is)
    (case l2 => k_is)
    (case c2 => k_is)
    (case k2 => k_is)
    (case a3 => k_is)
    (case if3 => k_is)
    (case l3 => k_is)
    (case c3 => k_is)
    (case k3 => k_is)
    (case a4 => k_is)
    (case if4 => k_is)
    (case l4 => k_is)
    (case c4 => k_is)
    (case k4 => k_is)
    (case l5 => k_is)
    (case c5 => k_is)
    (case k5 => k_is)
    (case l6 => k_is)
    (case c6 => k_is)
    (case k6 => k_is)
    (case l7 => k_is)
    (case c7 => k_is)
    (case k7 => k_is)
    (case l8 => k_is)
    (case c8 => k_is)
    (case k8 => k_is)
    (case l9 => k_is)
    (case c9 => k_is)
    (case k9 => k_is)
    (case l10 => k_is)
    (case c10 => k_is)
    (case k10 => k_is)
    (case l11 => k_is)
    (case c11 => k_is)
    (case k11 => k_is)
    (case l12 => k_is)
    (case c12 => k_is)
    (case k12 => k_is)
    (case l13 => k_is)
    (case c13 => k_is)
    (case k13 => k_is)
    (case l14 => k_is)
    (case c14 => k_is)
    (case k14 => k_is)
    (case l15 => k_is)
    (case c15 => k_is)
    (case k15 => k_is)
    (case l16 => k_is)
    (case c16 => k_is)
    (case k16 => k_is)
    (case l17 => k_is)
    (case c17 => k_is)
    (case k17 => k_is)
    (case l18 => k_is)
    (case c18 => k_is)
    (case k18 => k_is)
    (case l19 => k_is)
    (case c19 => k_is)
    (case k19 => k_is)
    (case l20 => k_is)
    (case c20 => k_is)
    (case k20 => k_is)
    (case l21 => k_is)
    (case c21 => k_is)
    (case k21 => k_is)
    (case l22 => k_is)
    (case c22 => k_is)
    (case k22 => k_is)
    (case l23 => k_is)
    (case c23 => k_is)
    (case k23 => k_is)
    (case l24 => k_is)
    (case c24 => k_is)
    (case k24 => k_is)
    (case l25 => k_is)
    (case c25 => k_is)
    (case k25 => k_is)
    (case l26 => k_is)
    (case c26 => k_is)
    (case k26 => k_is)
    (case l27 => k_is)
    (case c27 => k_is)
    (case k27 => k_is)
    (case l28 => k_is)
    (case c28 => k_is)
    (case k28 => k_is)
    (case l29 => k_is)
    (case c29 => k_is)
    (case k29 => k_is)
    (case l30 => k_is)
    (case c30 => k_is)
    (case k30 => k_is)
    (case l31 => k_is)
    (case c31 => k_is)
    (case k31 => k_is)
    (case l32 => k_is)
    (case c32 => k_is)
    (case k32 => k_is)
    (case l33 => k_is)
    (case c33 => k_is)
    (case k33 => k_is)
    (case l34 => k_is)
    (case c34 => k_is)
    (case k34 => k_is)
    (case tl34 => k_is)
    (case tw34 => exact rfl)
    (case th34 => kernel_rfl)
    (case tn34 => first | k_is | kernel_rfl | rfl)
    (case l35 => k_is)
    (case c35 => k_is)
    (case k35 => k_is)
    (case tl35 => k_is)
    (case tw35 => exact rfl)
    (case th35 => kernel_rfl)
    (case tn35 => first | k_is | kernel_rfl | rfl)
    (case te34_35 => decide)
    (case l36 => k_is)
    (case c36 => k_is)
    (case k36 => k_is)
    (case pg_Best => k_is)
    (case hd_Best => k_is)
    (case po_Best => k_is)
    (case sa_Best => k_is)
    (case ha_Best => k_is)
    (case hn_Best => k_is)
    (case ht_Best => k_is)
    (case hm_Best => k_is)
    (case mk_Best => k_is)
    (case kc_Best => k_is)
    (case na_places_Best => k_is)
    (case na_prices_Best => k_is)
    (case pg_Crowd => k_is)
    (case hd_Crowd => k_is)
    (case po_Crowd => k_is)
    (case sa_Crowd => k_is)
    (case ha_Crowd => k_is)
    (case hn_Crowd => k_is)
    (case ht_Crowd => k_is)
    (case hm_Crowd => k_is)
    (case mk_Crowd => k_is)
    (case kc_Crowd => k_is)
    (case na_moment_Crowd => k_is)
    (case pg_Laid => k_is)
    (case hd_Laid => k_is)
    (case po_Laid => k_is)
    (case sa_Laid => k_is)
    (case ha_Laid => k_is)
    (case hn_Laid => k_is)
    (case ht_Laid => k_is)
    (case hm_Laid => k_is)
    (case mk_Laid => k_is)
    (case kc_Laid => k_is)
    (case na_tuners_Laid => k_is)
    (case sB_AheadError => k_is)
    (case tt_AheadError => k_is)
    (case hd_AheadError => k_is)
    (case sB_BadEdges => k_is)
    (case tt_BadEdges => k_is)
    (case hd_BadEdges => k_is)
    (case sB_BadLaying => k_is)
    (case tt_BadLaying => k_is)
    (case hd_BadLaying => k_is)
    (case sB_BadMove => k_is)
    (case tt_BadMove => k_is)
    (case hd_BadMove => k_is)
    (case sB_BadPlaces => k_is)
    (case tt_BadPlaces => k_is)
    (case hd_BadPlaces => k_is)
    (case sB_BadShows => k_is)
    (case tt_BadShows => k_is)
    (case hd_BadShows => k_is)
    (case sB_BadTuners => k_is)
    (case tt_BadTuners => k_is)
    (case hd_BadTuners => k_is)
    (case sB_BadWishes => k_is)
    (case tt_BadWishes => k_is)
    (case hd_BadWishes => k_is)
    (case sB_Crowded => k_is)
    (case tt_Crowded => k_is)
    (case hd_Crowded => k_is)
    (case sB_TooMany => k_is)
    (case tt_TooMany => k_is)
    (case hd_TooMany => k_is)
    (case xF_BadEdges => k_exc)
    (case kc_BadEdges => k_is)
    (case ga_BadEdges => k_is)
    (case gt_BadEdges => k_is)
    (case ha_BadEdges => k_is)
    (case hn_BadEdges => k_is)
    (case ht_BadEdges => k_is)
    (case hm_BadEdges => k_is)
    (case ms_BadEdges => k_is)
    (case su_BadEdges_AheadError => first | rfl | k_is)
    (case sv_BadEdges => k_is)
    (case is_BadEdges_BadEdges => k_is)
    (case is_BadLaying_BadEdges => k_is)
    (case is_BadMove_BadEdges => k_is)
    (case is_BadPlaces_BadEdges => k_is)
    (case is_BadShows_BadEdges => k_is)
    (case is_BadTuners_BadEdges => k_is)
    (case is_BadWishes_BadEdges => k_is)
    (case is_Crowded_BadEdges => k_is)
    (case is_TooMany_BadEdges => k_is)
    (case xF_BadLaying => k_exc)
    (case kc_BadLaying => k_is)
    (case ga_BadLaying => k_is)
    (case gt_BadLaying => k_is)
    (case ha_BadLaying => k_is)
    (case hn_BadLaying => k_is)
    (case ht_BadLaying => k_is)
    (case hm_BadLaying => k_is)
    (case ms_BadLaying => k_is)
    (case su_BadLaying_AheadError => first | rfl | k_is)
    (case sv_BadLaying => k_is)
    (case is_BadEdges_BadLaying => k_is)
    (case is_BadLaying_BadLaying => k_is)
    (case is_BadMove_BadLaying => k_is)
    (case is_BadPlaces_BadLaying => k_is)
    (case is_BadShows_BadLaying => k_is)
    (case is_BadTuners_BadLaying => k_is)
    (case is_BadWishes_BadLaying => k_is)
    (case is_Crowded_BadLaying => k_is)
    (case is_TooMany_BadLaying => k_is)
    (case xF_BadMove => k_exc)
    (case kc_BadMove => k_is)
    (case ga_BadMove => k_is)
    (case gt_BadMove => k_is)
    (case ha_BadMove => k_is)
    (case hn_BadMove => k_is)
    (case ht_BadMove => k_is)
    (case hm_BadMove => k_is)
    (case ms_BadMove => k_is)
    (case su_BadMove_AheadError => first | rfl | k_is)
    (case sv_BadMove => k_is)
    (case is_BadEdges_BadMove => k_is)
    (case is_BadLaying_BadMove => k_is)
    (case is_BadMove_BadMove => k_is)
    (case is_BadPlaces_BadMove => k_is)
    (case is_BadShows_BadMove => k_is)
    (case is_BadTuners_BadMove => k_is)
    (case is_BadWishes_BadMove => k_is)
    (case is_Crowded_BadMove => k_is)
    (case is_TooMany_BadMove => k_is)
    (case xF_BadPlaces => k_exc)
    (case kc_BadPlaces => k_is)
    (case ga_BadPlaces => k_is)
    (case gt_BadPlaces => k_is)
    (case ha_BadPlaces => k_is)
    (case hn_BadPlaces => k_is)
    (case ht_BadPlaces => k_is)
    (case hm_BadPlaces => k_is)
    (case ms_BadPlaces => k_is)
    (case su_BadPlaces_AheadError => first | rfl | k_is)
    (case sv_BadPlaces => k_is)
    (case is_BadEdges_BadPlaces => k_is)
    (case is_BadLaying_BadPlaces => k_is)
    (case is_BadMove_BadPlaces => k_is)
    (case is_BadPlaces_BadPlaces => k_is)
    (case is_BadShows_BadPlaces => k_is)
    (case is_BadTuners_BadPlaces => k_is)
    (case is_BadWishes_BadPlaces => k_is)
    (case is_Crowded_BadPlaces => k_is)
    (case is_TooMany_BadPlaces => k_is)
    (case xF_BadShows => k_exc)
    (case kc_BadShows => k_is)
    (case ga_BadShows => k_is)
    (case gt_BadShows => k_is)
    (case ha_BadShows => k_is)
    (case hn_BadShows => k_is)
    (case ht_BadShows => k_is)
    (case hm_BadShows => k_is)
    (case ms_BadShows => k_is)
    (case su_BadShows_AheadError => first | rfl | k_is)
    (case sv_BadShows => k_is)
    (case is_BadEdges_BadShows => k_is)
    (case is_BadLaying_BadShows => k_is)
    (case is_BadMove_BadShows => k_is)
    (case is_BadPlaces_BadShows => k_is)
    (case is_BadShows_BadShows => k_is)
    (case is_BadTuners_BadShows => k_is)
    (case is_BadWishes_BadShows => k_is)
    (case is_Crowded_BadShows => k_is)
    (case is_TooMany_BadShows => k_is)
    (case xF_BadTuners => k_exc)
    (case kc_BadTuners => k_is)
    (case ga_BadTuners => k_is)
    (case gt_BadTuners => k_is)
    (case ha_BadTuners => k_is)
    (case hn_BadTuners => k_is)
    (case ht_BadTuners => k_is)
    (case hm_BadTuners => k_is)
    (case ms_BadTuners => k_is)
    (case su_BadTuners_AheadError => first | rfl | k_is)
    (case sv_BadTuners => k_is)
    (case is_BadEdges_BadTuners => k_is)
    (case is_BadLaying_BadTuners => k_is)
    (case is_BadMove_BadTuners => k_is)
    (case is_BadPlaces_BadTuners => k_is)
    (case is_BadShows_BadTuners => k_is)
    (case is_BadTuners_BadTuners => k_is)
    (case is_BadWishes_BadTuners => k_is)
    (case is_Crowded_BadTuners => k_is)
    (case is_TooMany_BadTuners => k_is)
    (case xF_BadWishes => k_exc)
    (case kc_BadWishes => k_is)
    (case ga_BadWishes => k_is)
    (case gt_BadWishes => k_is)
    (case ha_BadWishes => k_is)
    (case hn_BadWishes => k_is)
    (case ht_BadWishes => k_is)
    (case hm_BadWishes => k_is)
    (case ms_BadWishes => k_is)
    (case su_BadWishes_AheadError => first | rfl | k_is)
    (case sv_BadWishes => k_is)
    (case is_BadEdges_BadWishes => k_is)
    (case is_BadLaying_BadWishes => k_is)
    (case is_BadMove_BadWishes => k_is)
    (case is_BadPlaces_BadWishes => k_is)
    (case is_BadShows_BadWishes => k_is)
    (case is_BadTuners_BadWishes => k_is)
    (case is_BadWishes_BadWishes => k_is)
    (case is_Crowded_BadWishes => k_is)
    (case is_TooMany_BadWishes => k_is)
    (case xF_Crowded => k_exc)
    (case kc_Crowded => k_is)
    (case ga_Crowded => k_is)
    (case gt_Crowded => k_is)
    (case ha_Crowded => k_is)
    (case hn_Crowded => k_is)
    (case ht_Crowded => k_is)
    (case hm_Crowded => k_is)
    (case ms_Crowded => k_is)
    (case su_Crowded_AheadError => first | rfl | k_is)
    (case sv_Crowded => k_is)
    (case is_BadEdges_Crowded => k_is)
    (case is_BadLaying_Crowded => k_is)
    (case is_BadMove_Crowded => k_is)
    (case is_BadPlaces_Crowded => k_is)
    (case is_BadShows_Crowded => k_is)
    (case is_BadTuners_Crowded => k_is)
    (case is_BadWishes_Crowded => k_is)
    (case is_Crowded_Crowded => k_is)
    (case is_TooMany_Crowded => k_is)
    (case xF_TooMany => k_exc)
    (case kc_TooMany => k_is)
    (case ga_TooMany => k_is)
    (case gt_TooMany => k_is)
    (case ha_TooMany => k_is)
    (case hn_TooMany => k_is)
    (case ht_TooMany => k_is)
    (case hm_TooMany => k_is)
    (case ms_TooMany => k_is)
    (case su_TooMany_AheadError => first | rfl | k_is)
    (case sv_TooMany => k_is)
    (case is_BadEdges_TooMany => k_is)
    (case is_BadLaying_TooMany => k_is)
    (case is_BadMove_TooMany => k_is)
    (case is_BadPlaces_TooMany => k_is)
    (case is_BadShows_TooMany => k_is)
    (case is_BadTuners_TooMany => k_is)
    (case is_BadWishes_TooMany => k_is)
    (case is_Crowded_TooMany => k_is)
    (case is_TooMany_TooMany => k_is)
    (case rc_BadEdges => k_is)
    (case rt_BadEdges => k_is)
    (case rc_BadLaying => k_is)
    (case rt_BadLaying => k_is)
    (case rc_BadMove => k_is)
    (case rt_BadMove => k_is)
    (case rc_BadPlaces => k_is)
    (case rt_BadPlaces => k_is)
    (case rc_BadShows => k_is)
    (case rt_BadShows => k_is)
    (case rc_BadTuners => k_is)
    (case rt_BadTuners => k_is)
    (case rc_BadWishes => k_is)
    (case rt_BadWishes => k_is)
    (case rc_Crowded => k_is)
    (case rt_Crowded => k_is)
    (case rc_TooMany => k_is)
    (case rt_TooMany => k_is)
    (case z0 => k_is)
    (case z1 => k_is)
    (case z2 => k_is)
    (case z3 => k_is)
    (case z4 => k_is)
    (case z5 => k_is)
    (case z6 => k_is)
    (case z7 => k_is)
    (case z8 => k_is)
    (case z9 => k_is)
    (case z10 => k_is)
    (case z11 => k_is)
    (case z12 => k_is)
    (case z13 => k_is)
    (case z14 => k_is)
    (case z15 => k_is)
    (case w0 => k_is)
    (case w1 => k_is)
    (case w2 => k_is)
    (case w3 => k_is)
    (case w4 => k_is)
    (case w5 => k_is)
