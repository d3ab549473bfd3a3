import PyProof.Rows.All
import Wide.All
import OpenK.AllK
import Wide.FinOn
import HandS.ForMost
import HandS.ForExc
import HandS.Wide
import HandS.IsInst
import HandS.Walk
import HandS.Style
import HandS.Flow
import HandS.SortInts
import HandS.Zip
import HandS.Evl
import HandS.Flt
import PySem.Challenge.RW_grainstore_k05_answers_by_hand
set_option Elab.async false
set_option linter.all false
set_option maxRecDepth 100000
set_option maxHeartbeats 8000000
/-! Data held by the heap, and what expressions come to: EvD (some data), EvN (a new list). -/
namespace Gs
open PySem L2 Evl

/-! ### heaps -/
/-- G and what is new in H2 behind H1 -/
def gr (G H1 H2 : Hp) : Hp := fun a => match H1 a with
  | none => H2 a
  | some _ => G a
/-- G without a -/
def but (G : Hp) (p : Addr) : Hp := fun a => if a = p then none else G a
theorem gr_new {G H1 H2 : Hp} {a : Addr} (h : H1 a = none) : gr G H1 H2 a = H2 a := by unfold gr; rw [h]
theorem gr_old {G H1 H2 : Hp} {a : Addr} {o : HO} (h : H1 a = some o) : gr G H1 H2 a = G a := by unfold gr; rw [h]
theorem ex_gr {G H1 H2 : Hp} (g : Ex G H1) : Ex G (gr G H1 H2) := fun a o e => by
  rw [gr_old (g a o e)]; exact e
theorem gr_ex {G H1 H2 : Hp} (g : Ex G H1) (h : Ex H1 H2) : Ex (gr G H1 H2) H2 := fun a o e => by
  cases q : H1 a with
  | none => rw [gr_new q] at e; exact e
  | some u => rw [gr_old q] at e; exact h a o (g a o e)
theorem gr_gr {G H1 H2 H3 : Hp} (h12 : Ex H1 H2) (h23 : Ex H2 H3) : gr (gr G H1 H2) H2 H3 = gr G H1 H3 := by
  funext a
  cases q : H1 a with
  | none =>
    rw [gr_new q]
    cases r : H2 a with
    | none => rw [gr_new r]
    | some o => rw [gr_old r, gr_new q, r]; exact (h23 a o r).symm
  | some o => rw [gr_old q, gr_old (h12 a o q), gr_old q]
theorem gr_self {G H : Hp} (g : Ex G H) : gr G H H = G := by
  funext a
  cases q : H a with
  | none =>
    rw [gr_new q, q]
    cases r : G a with
    | none => rfl
    | some o => rw [g a o r] at q; cases q
  | some o => rw [gr_old q]
/-- a wider G, the same new things -/
theorem gr_mono {G G' H1 H2 : Hp} (g : Ex G G') (g' : Ex G' H1) : Ex (gr G H1 H2) (gr G' H1 H2) := fun a o e => by
  cases q : H1 a with
  | none => rw [gr_new q] at e ⊢; exact e
  | some u => rw [gr_old q] at e ⊢; exact g a o e
/-- later heap -/
theorem gr_later {G H1 H2 H3 : Hp} (g : Ex G H1) (h12 : Ex H1 H2) (h23 : Ex H2 H3) : Ex (gr G H1 H2) (gr G H1 H3) := fun a o e => by
  cases q : H1 a with
  | none => rw [gr_new q] at e ⊢; exact h23 a o e
  | some u => rw [gr_old q] at e ⊢; exact e
/-- the start one step earlier -/
theorem gr_back {G H0 H1 H2 : Hp} (h01 : Ex H0 H1) : Ex (gr G H1 H2) (gr G H0 H2) ∨ True := .inr trivial
theorem but_ex {G : Hp} {p : Addr} : Ex (but G p) G := fun a o e => by
  unfold but at e
  split at e
  · cases e
  · exact e
theorem but_self {G : Hp} {p : Addr} : but G p p = none := by unfold but; rw [if_pos rfl]
theorem but_ne {G : Hp} {p a : Addr} (h : a ≠ p) : but G p a = G a := by unfold but; rw [if_neg h]
theorem ex_but {G G' : Hp} {p : Addr} (g : Ex G G') (h : G p = none) : Ex G (but G' p) := fun a o e => by
  have : a ≠ p := fun z => by rw [z, h] at e; cases e
  rw [but_ne this]; exact g a o e
theorem but_mono {G G' : Hp} {p : Addr} (g : Ex G G') : Ex (but G p) (but G' p) := ex_but (but_ex.trans g) but_self
theorem but_upd {G : Hp} {p : Addr} {o : HO} : Ex (but G p) (upd G p o) := Ex.mut but_ex but_self
theorem none_of_ex {G H : Hp} {a : Addr} (g : Ex G H) (h : H a = none) : G a = none := fresh_back g h

/-! ### data -/
/-- v is the data d; lists and tuples are tracked ones -/
inductive Ds (H : Hp) : V → PyData → Prop
  | non : Ds H .non .none
  | bl (b : Bool) : Ds H (.bl b) (.bool b)
  | int (i : Int) : Ds H (.int i) (.int i)
  | str (x : Str) : Ds H (.str x) (.str x)
  | lst {a : Addr} {xs : List V} {ds : List PyData} : H a = some (.lst xs) → xs.length = ds.length → (∀ (i : Nat) x d, xs[i]? = some x → ds[i]? = some d → Ds H x d) → Ds H (.ref a) (.list ds)
  | tup {a : Addr} {xs : List V} {ds : List PyData} : H a = some (.tup xs) → xs.length = ds.length → (∀ (i : Nat) x d, xs[i]? = some x → ds[i]? = some d → Ds H x d) → Ds H (.ref a) (.tuple ds)
def DsA (H : Hp) (xs : List V) (ds : List PyData) : Prop := xs.length = ds.length ∧ ∀ (i : Nat) x d, xs[i]? = some x → ds[i]? = some d → Ds H x d
theorem Ds.list {H : Hp} {a : Addr} {xs : List V} {ds : List PyData} (h : H a = some (.lst xs)) (r : DsA H xs ds) : Ds H (.ref a) (.list ds) := .lst h r.1 r.2
theorem Ds.tuple {H : Hp} {a : Addr} {xs : List V} {ds : List PyData} (h : H a = some (.tup xs)) (r : DsA H xs ds) : Ds H (.ref a) (.tuple ds) := .tup h r.1 r.2
theorem Ds.ofList {H : Hp} {v : V} {ds : List PyData} (h : Ds H v (.list ds)) : ∃ a xs, v = .ref a ∧ H a = some (.lst xs) ∧ DsA H xs ds := by
  cases h with
  | lst h1 h2 h3 => exact ⟨_, _, rfl, h1, h2, h3⟩
theorem Ds.ofTuple {H : Hp} {v : V} {ds : List PyData} (h : Ds H v (.tuple ds)) : ∃ a xs, v = .ref a ∧ H a = some (.tup xs) ∧ DsA H xs ds := by
  cases h with
  | tup h1 h2 h3 => exact ⟨_, _, rfl, h1, h2, h3⟩
theorem Ds.ofInt {H : Hp} {v : V} {i : Int} (h : Ds H v (.int i)) : v = .int i := by cases h; rfl
theorem Ds.ofBl {H : Hp} {v : V} {b : Bool} (h : Ds H v (.bool b)) : v = .bl b := by cases h; rfl
theorem Ds.ofNon {H : Hp} {v : V} (h : Ds H v .none) : v = .non := by cases h; rfl
theorem Ds.mono {H H' : Hp} (e : Ex H H') {v : V} {d : PyData} (h : Ds H v d) : Ds H' v d := by
  induction h with
  | non => exact .non
  | bl b => exact .bl b
  | int i => exact .int i
  | str x => exact .str x
  | lst h1 h2 _ ih => exact .lst (e _ _ h1) h2 ih
  | tup h1 h2 _ ih => exact .tup (e _ _ h1) h2 ih
theorem DsA.mono {H H' : Hp} (e : Ex H H') {vs : List V} {ds : List PyData} (h : DsA H vs ds) : DsA H' vs ds := ⟨h.1, fun i x d h1 h2 => (h.2 i x d h1 h2).mono e⟩
theorem DsA.nil {H : Hp} : DsA H [] [] := ⟨rfl, fun i x d h => by simp at h⟩
theorem DsA.cons {H : Hp} {v : V} {vs : List V} {d : PyData} {ds : List PyData} (h : Ds H v d) (r : DsA H vs ds) : DsA H (v :: vs) (d :: ds) := ⟨by simp [r.1], fun i x e h1 h2 => by
  cases i with
  | zero => simp at h1 h2; subst h1 h2; exact h
  | succ i => exact r.2 i x e (by simpa using h1) (by simpa using h2)⟩
theorem DsA.uncons {H : Hp} {vs : List V} {d : PyData} {ds : List PyData} (h : DsA H vs (d :: ds)) : ∃ v vr, vs = v :: vr ∧ Ds H v d ∧ DsA H vr ds := by
  cases vs with
  | nil => exact absurd h.1 (by simp)
  | cons v vr => exact ⟨v, vr, rfl, h.2 0 v d rfl rfl, by simpa using h.1, fun i x e h1 h2 => h.2 (i + 1) x e (by simpa using h1) (by simpa using h2)⟩
theorem DsA.unnil {H : Hp} {vs : List V} (h : DsA H vs []) : vs = [] := List.eq_nil_of_length_eq_zero h.1
theorem DsA.append {H : Hp} {vs ws : List V} {ds es : List PyData} (h : DsA H vs ds) (r : DsA H ws es) : DsA H (vs ++ ws) (ds ++ es) := ⟨by simp [h.1, r.1], fun i x d h1 h2 => by
  by_cases hi : i < vs.length
  · rw [List.getElem?_append_left hi] at h1
    rw [List.getElem?_append_left (by rw [← h.1]; exact hi)] at h2
    exact h.2 i x d h1 h2
  · rw [List.getElem?_append_right (by omega)] at h1
    rw [List.getElem?_append_right (by rw [← h.1]; omega), ← h.1] at h2
    exact r.2 _ x d h1 h2⟩
theorem DsA.get {H : Hp} {vs : List V} {ds : List PyData} (h : DsA H vs ds) {i : Nat} {d : PyData} (e : ds[i]? = some d) : ∃ v, vs[i]? = some v ∧ Ds H v d := by
  have hi : i < ds.length := (List.getElem?_eq_some_iff.mp e).1
  have hv : vs[i]? = some (vs[i]'(by rw [h.1]; exact hi)) := List.getElem?_eq_getElem _
  exact ⟨_, hv, h.2 i _ d hv e⟩
theorem DsA.at {H : Hp} {vs : List V} {ds : List PyData} (h : DsA H vs ds) {i : Nat} {v : V} (e : vs[i]? = some v) : ∃ d, ds[i]? = some d ∧ Ds H v d := by
  have hi : i < vs.length := (List.getElem?_eq_some_iff.mp e).1
  have hv : ds[i]? = some (ds[i]'(by rw [← h.1]; exact hi)) := List.getElem?_eq_getElem _
  exact ⟨_, hv, h.2 i v _ e hv⟩
theorem DsA.take {H : Hp} {vs : List V} {ds : List PyData} (h : DsA H vs ds) (n : Nat) : DsA H (vs.take n) (ds.take n) := ⟨by simp [h.1], fun i x d h1 h2 => by
  rw [List.getElem?_take] at h1 h2
  split at h1
  · rename_i hn
    rw [if_pos hn] at h2
    exact h.2 i x d h1 h2
  · cases h1⟩
theorem DsA.drop {H : Hp} {vs : List V} {ds : List PyData} (h : DsA H vs ds) (n : Nat) : DsA H (vs.drop n) (ds.drop n) := ⟨by simp [h.1], fun i x d h1 h2 => by
  rw [List.getElem?_drop] at h1 h2
  exact h.2 _ x d h1 h2⟩
theorem DsA.reverse {H : Hp} {vs : List V} {ds : List PyData} (h : DsA H vs ds) : DsA H vs.reverse ds.reverse := ⟨by simp [h.1], fun i x d h1 h2 => by
  have hi : i < vs.length := by have := (List.getElem?_eq_some_iff.mp h1).1; simpa using this
  rw [List.getElem?_reverse hi] at h1
  rw [List.getElem?_reverse (by rw [← h.1]; exact hi), ← h.1] at h2
  exact h.2 _ x d h1 h2⟩
theorem DsA.ints {H : Hp} : ∀ ns : List Int, DsA H (ns.map V.int) (ns.map PyData.int)
  | [] => .nil
  | n :: ns => .cons (.int n) (DsA.ints ns)
theorem DsA.ofInts {H : Hp} : ∀ {ns : List Int} {vs : List V}, DsA H vs (ns.map PyData.int) → vs = ns.map V.int
  | [], vs, h => h.unnil
  | n :: ns, vs, h => by
    obtain ⟨v, vr, rfl, h1, h2⟩ := DsA.uncons (show DsA H vs (PyData.int n :: ns.map PyData.int) from h)
    rw [h1.ofInt, DsA.ofInts h2]
    rfl
theorem DsA.bls {H : Hp} : ∀ ns : List Bool, DsA H (ns.map V.bl) (ns.map PyData.bool)
  | [] => .nil
  | n :: ns => .cons (.bl n) (DsA.bls ns)
theorem DsA.ofBls {H : Hp} : ∀ {ns : List Bool} {vs : List V}, DsA H vs (ns.map PyData.bool) → vs = ns.map V.bl
  | [], vs, h => h.unnil
  | n :: ns, vs, h => by
    obtain ⟨v, vr, rfl, h1, h2⟩ := DsA.uncons (show DsA H vs (PyData.bool n :: ns.map PyData.bool) from h)
    rw [h1.ofBl, DsA.ofBls h2]
    rfl
/-- what holds no list outlives the writing of one -/
def flatD : PyData → Bool
  | .none => true | .bool _ => true | .int _ => true | .str _ => true
  | .tuple ds => ds.all fun d => match d with
    | .none => true | .bool _ => true | .int _ => true | .str _ => true | _ => false
  | _ => false
theorem Ds.butFlat {H : Hp} {v : V} {d : PyData} {p : Addr} {ys : List V} (h : Ds H v d) (f : flatD d = true) (hp : H p = some (.lst ys)) : Ds (but H p) v d := by
  cases h with
  | non => exact .non
  | bl b => exact .bl b
  | int i => exact .int i
  | str x => exact .str x
  | lst h1 h2 h3 => cases f
  | @tup a xs ds h1 h2 h3 =>
    have ne : a ≠ p := fun z => by rw [z, hp] at h1; cases h1
    refine .tup (by rw [but_ne ne]; exact h1) h2 fun i x d e1 e2 => ?_
    have q := h3 i x d e1 e2
    have f' := List.all_eq_true.mp f d (List.mem_of_getElem? e2)
    cases q with
    | non => exact .non
    | bl b => exact .bl b
    | int i => exact .int i
    | str x => exact .str x
    | lst _ _ _ => cases f'
    | tup _ _ _ => cases f'
theorem DsA.butFlat {H : Hp} {vs : List V} {ds : List PyData} {p : Addr} {ys : List V} (h : DsA H vs ds) (f : ∀ d ∈ ds, flatD d = true) (hp : H p = some (.lst ys)) : DsA (but H p) vs ds :=
  ⟨h.1, fun i x d e1 e2 => (h.2 i x d e1 e2).butFlat (f d (List.mem_of_getElem? e2)) hp⟩
theorem dpAll_of {K : PySem.W.Frag} {H : Hp} : ∀ {xs : List V} {ds : List PyData}, xs.length = ds.length → (∀ (i : Nat) x d, xs[i]? = some x → ds[i]? = some d → Dp K H x d) → DpAll K H xs ds
  | [], [], _, _ => .nil
  | [], _ :: _, h, _ => by simp at h
  | _ :: _, [], h, _ => by simp at h
  | x :: xs, d :: ds, h, r => .cons (r 0 x d rfl rfl) (dpAll_of (by simpa using h) fun i y e h1 h2 => r (i + 1) y e (by simpa using h1) (by simpa using h2))
theorem Ds.dp {K : PySem.W.Frag} {H : Hp} {v : V} {d : PyData} (h : Ds H v d) : Dp K H v d := by
  induction h with
  | non => exact .non
  | bl b => exact .bl b
  | int i => exact .int i
  | str x => exact .str x
  | lst h1 h2 _ ih => exact .lst (SqL.of h1) (dpAll_of h2 ih)
  | tup h1 h2 _ ih => exact .tup (SqT.of h1) (dpAll_of h2 ih)

/-! ### where a body stands: its entry (G0, H0), now (G, H) -/
structure Up (G0 H0 G H : Hp) : Prop where
  g : Ex G0 G
  s : Ex G H
  h : Ex H0 H
  n : ∀ a o, H0 a = some o → G a ≠ none → G0 a ≠ none
theorem Up.refl {G H : Hp} (g : Ex G H) : Up G H G H := ⟨Ex.refl _, g, Ex.refl _, fun _ _ _ h => h⟩
theorem Up.scal {G0 H0 G H H2 : Hp} (u : Up G0 H0 G H) (e : Ex H H2) : Up G0 H0 G H2 := ⟨u.g, u.s.trans e, u.h.trans e, u.n⟩
theorem Up.data {G0 H0 G H H2 : Hp} (u : Up G0 H0 G H) (e : Ex H H2) : Up G0 H0 (gr G H H2) H2 := ⟨u.g.trans (ex_gr u.s), gr_ex u.s e, u.h.trans e, fun a o h q => u.n a o h (by rw [gr_old (u.h a o h)] at q; exact q)⟩
theorem Up.mut {G0 H0 G H : Hp} {l : Addr} {o : HO} (u : Up G0 H0 G H) (hg : G l = none) (hh : H0 l = none) : Up G0 H0 G (upd H l o) := ⟨u.g, Ex.mut u.s hg, Ex.mut u.h hh, u.n⟩
theorem Up.sub {G0 H0 G G' H : Hp} (u : Up G0 H0 G H) (g : Ex G0 G') (e : Ex G' G) : Up G0 H0 G' H := ⟨g, e.trans u.s, u.h, fun a o h q => u.n a o h (fun z => q (none_of_ex e z))⟩
theorem Up.ex {G0 H0 G H : Hp} (u : Up G0 H0 G H) : Ex G (gr G0 H0 H) := fun a o e => by
  cases q : H0 a with
  | none => rw [gr_new q]; exact u.s a o e
  | some x =>
    rw [gr_old q]
    have := u.n a x q (by rw [e]; intro z; cases z)
    cases r : G0 a with
    | none => exact absurd r this
    | some y =>
      have := u.g a y r
      rw [e] at this
      exact this.symm
theorem Up.fin {G0 H0 G H : Hp} (u : Up G0 H0 G H) {v : V} {d : PyData} (h : Ds G v d) : Ds (gr G0 H0 H) v d := h.mono u.ex
theorem Up.finN {G0 H0 G H : Hp} (u : Up G0 H0 G H) {p : Addr} {vs : List V} {ds : List PyData} (hp : G p = none) (h : DsA G vs ds) : DsA (but (gr G0 H0 H) p) vs ds := h.mono (ex_but u.ex hp)

/-! ### what an expression comes to -/
def EvD (te : TE) (σ : St) (G : Hp) (d : PyData) : Prop := ∀ H1, Ex G H1 → ∀ Q : VK, (∀ v H2, Ex H1 H2 → Ds (gr G H1 H2) v d → Q v H2) → te σ H1 Q
/-- a new list, nobody else's -/
def EvN (te : TE) (σ : St) (G : Hp) (ds : List PyData) : Prop := ∀ H1, Ex G H1 → ∀ Q : VK, (∀ p vs H2, Ex H1 H2 → H1 p = none → H2 p = some (.lst vs) → DsA (but (gr G H1 H2) p) vs ds → Q (.ref p) H2) → te σ H1 Q
def EvAr (ta : TA) (σ : St) (G : Hp) (ds : List PyData) : Prop := ∀ H1, Ex G H1 → ∀ Q : List V → Hp → Prop, (∀ vs H2, Ex H1 H2 → DsA (gr G H1 H2) vs ds → Q vs H2) → ta σ H1 Q
section
variable {K : PySem.W.Frag} {σ : St} {G G' : Hp} {ta tb tc te tx : TE} {t u : TT} {d e : PyData} {ds es : List PyData}
theorem EvD.mono (g : Ex G G') (h : EvD te σ G d) : EvD te σ G' d := fun H1 a Q q => h H1 (g.trans a) Q fun v H2 e z => q v H2 e (z.mono (gr_mono g a))
theorem EvN.mono (g : Ex G G') (h : EvN te σ G ds) : EvN te σ G' ds := fun H1 a Q q => h H1 (g.trans a) Q fun p vs H2 e n hp z => q p vs H2 e n hp (z.mono (but_mono (gr_mono g a)))
theorem EvAr.mono {ta : TA} (g : Ex G G') (h : EvAr ta σ G ds) : EvAr ta σ G' ds := fun H1 a Q q => h H1 (g.trans a) Q fun v H2 e z => q v H2 e (z.mono (gr_mono g a))
theorem EvN.asD (h : EvN te σ G ds) : EvD te σ G (.list ds) := fun H1 a Q q => h H1 a Q fun p vs H2 e n hp z => q (.ref p) H2 e (.list (by rw [gr_new n]; exact hp) (z.mono but_ex))
theorem EvD.to (h : EvD te σ G d) (q : d = e) : EvD te σ G e := q ▸ h
theorem EvN.to (h : EvN te σ G ds) (q : ds = es) : EvN te σ G es := q ▸ h
/-- one after another -/
theorem EvD.seq (ha : EvD ta σ G d) (hb : EvD tb σ G e) {H1 : Hp} (a : Ex G H1) {R : V → V → Hp → Prop} (k : ∀ x y H3, Ex H1 H3 → Ds (gr G H1 H3) x d → Ds (gr G H1 H3) y e → R x y H3) : ta σ H1 fun x H2 => tb σ H2 fun y H3 => R x y H3 :=
  ha H1 a _ fun x H2 e2 zx => (hb.mono (ex_gr (H2 := H2) a)) H2 (gr_ex a e2) _ fun y H3 e3 zy => by
    rw [gr_gr e2 e3] at zy
    exact k x y H3 (e2.trans e3) (zx.mono (gr_later a e2 e3)) zy

/-! #### names, constants -/
theorem evd_var {i : Nat} {v : V} (h : σ[i]? = some (some v)) (z : Ds G v d) : EvD (tVar i) σ G d := fun H1 a Q q => ⟨v, h, q v H1 (Ex.refl _) (z.mono (ex_gr a))⟩
theorem evd_vi {i : Nat} {n : Int} (h : σ[i]? = some (some (.int n))) : EvD (tVar i) σ G (.int n) := evd_var h (.int n)
theorem evd_vb {i : Nat} {n : Bool} (h : σ[i]? = some (some (.bl n))) : EvD (tVar i) σ G (.bool n) := evd_var h (.bl n)
theorem evd_vn {i : Nat} (h : σ[i]? = some (some .non)) : EvD (tVar i) σ G .none := evd_var h .non
theorem evd_c {v : V} (z : Ds G v d) : EvD (tC v) σ G d := fun H1 a Q q => q v H1 (Ex.refl _) (z.mono (ex_gr a))
theorem evd_ci {n : Int} : EvD (tC (.int n)) σ G (.int n) := evd_c (.int n)
theorem evd_cb {n : Bool} : EvD (tC (.bl n)) σ G (.bool n) := evd_c (.bl n)
theorem evd_cn : EvD (tC .non) σ G .none := evd_c .non
theorem evd_cs {x : Str} : EvD (tC (.str x)) σ G (.str x) := evd_c (.str x)
/-! #### numbers -/
theorem evd_I0 {f : Int → Int → Int} {i j : Int} (ha : EvD ta σ G (.int i)) (hb : EvD tb σ G (.int j)) : EvD (tOp (rI0 fun i j => .int (f i j)) ta tb) σ G (.int (f i j)) := fun H1 a Q q =>
  ha.seq hb a fun x y H3 e zx zy => ⟨i, j, zx.ofInt, zy.ofInt, q _ H3 e (.int _)⟩
theorem evd_B0 {f : Int → Int → Bool} {i j : Int} (ha : EvD ta σ G (.int i)) (hb : EvD tb σ G (.int j)) : EvD (tOp (rI0 fun i j => .bl (f i j)) ta tb) σ G (.bool (f i j)) := fun H1 a Q q =>
  ha.seq hb a fun x y H3 e zx zy => ⟨i, j, zx.ofInt, zy.ofInt, q _ H3 e (.bl _)⟩
theorem evd_I {C : Int → Int → Prop} {f : Int → Int → Int} {i j : Int} (ha : EvD ta σ G (.int i)) (hb : EvD tb σ G (.int j)) (hc : C i j) : EvD (tOp (rI C fun i j => .int (f i j)) ta tb) σ G (.int (f i j)) := fun H1 a Q q =>
  ha.seq hb a fun x y H3 e zx zy => ⟨i, j, zx.ofInt, zy.ofInt, hc, q _ H3 e (.int _)⟩
theorem evd_U {f : Int → Int} {i : Int} (ha : EvD ta σ G (.int i)) : EvD (tUn (rU fun i => .int (f i)) ta) σ G (.int (f i)) := fun H1 a Q q =>
  ha H1 a _ fun x H2 e zx => ⟨i, zx.ofInt, q _ H2 e (.int _)⟩
theorem dec_vi {i j : Int} : decide (V.int i = V.int j) = decide (i = j) := by simp
theorem dec_vb {i j : Bool} : decide (V.bl i = V.bl j) = decide (i = j) := by simp
theorem evd_eq {i j : Int} (ha : EvD ta σ G (.int i)) (hb : EvD tb σ G (.int j)) : EvD (tOp rEq ta tb) σ G (.bool (decide (i = j))) := fun H1 a Q q =>
  ha.seq hb a fun x y H3 e zx zy => by
    rw [zx.ofInt, zy.ofInt]
    refine ⟨rfl, ?_⟩
    rw [dec_vi]
    exact q _ H3 e (.bl _)
theorem evd_ne {i j : Int} (ha : EvD ta σ G (.int i)) (hb : EvD tb σ G (.int j)) : EvD (tOp rNe ta tb) σ G (.bool (!decide (i = j))) := fun H1 a Q q =>
  ha.seq hb a fun x y H3 e zx zy => by
    rw [zx.ofInt, zy.ofInt]
    refine ⟨rfl, ?_⟩
    rw [dec_vi]
    exact q _ H3 e (.bl _)
theorem evd_eqB {i j : Bool} (ha : EvD ta σ G (.bool i)) (hb : EvD tb σ G (.bool j)) : EvD (tOp rEq ta tb) σ G (.bool (decide (i = j))) := fun H1 a Q q =>
  ha.seq hb a fun x y H3 e zx zy => by
    rw [zx.ofBl, zy.ofBl]
    refine ⟨rfl, ?_⟩
    rw [dec_vb]
    exact q _ H3 e (.bl _)
theorem evd_neB {i j : Bool} (ha : EvD ta σ G (.bool i)) (hb : EvD tb σ G (.bool j)) : EvD (tOp rNe ta tb) σ G (.bool (!decide (i = j))) := fun H1 a Q q =>
  ha.seq hb a fun x y H3 e zx zy => by
    rw [zx.ofBl, zy.ofBl]
    refine ⟨rfl, ?_⟩
    rw [dec_vb]
    exact q _ H3 e (.bl _)
/-- a < b < c -/
theorem evd_chain {f g : Int → Int → Bool} {i j k : Int} (ha : EvD ta σ G (.int i)) (hb : EvD tb σ G (.int j)) (hc : EvD tc σ G (.int k)) :
    EvD (tChain (rI0 fun i j => .bl (f i j)) (rI0 fun i j => .bl (g i j)) ta tb tc) σ G (.bool (f i j && g j k)) := fun H1 a Q q =>
  ha.seq hb a fun x y H3 e zx zy => ⟨i, j, zx.ofInt, zy.ofInt, f i j, rfl, by
    cases hf : f i j with
    | false => exact q _ H3 e (by rw [hf]; exact .bl false)
    | true => exact (hc.mono (ex_gr (H2 := H3) a)) H3 (gr_ex a e) _ fun w H4 e4 zw => ⟨j, k, zy.ofInt, zw.ofInt, q _ H4 (e.trans e4) (by rw [hf]; exact .bl (g j k))⟩⟩
/-! #### places, slices, displays -/
theorem Ds.sqL {v : V} {H : Hp} (h : Ds H v (.list ds)) : ∃ a xs, v = .ref a ∧ SqL K H a xs ∧ DsA H xs ds := by
  obtain ⟨a, xs, h1, h2, h3⟩ := h.ofList
  exact ⟨a, xs, h1, SqL.of h2, h3⟩
theorem atI_ds {H : Hp} {xs : List V} {i : Int} (h : DsA H xs ds) (ha : atI ds i = some d) : ∃ v, atI xs i = some v ∧ Ds H v d := by
  unfold atI at ha ⊢
  rw [h.1]
  cases q : ixN ds.length i with
  | none => rw [q] at ha; cases ha
  | some j => rw [q] at ha; exact h.get ha
theorem evd_ixL {i : Int} (ha : EvD ta σ G (.list ds)) (hb : EvD tb σ G (.int i)) (hi : atI ds i = some d) : EvD (tOp (rIxL K) ta tb) σ G d := fun H1 a Q q =>
  ha.seq hb a fun x y H3 e zx zy => by
    obtain ⟨l, xs, rfl, h2, h3⟩ := zx.ofList
    obtain ⟨v, hv, zv⟩ := atI_ds h3 hi
    exact ⟨l, xs, i, v, rfl, zy.ofInt, SqL.of (gr_ex a e _ _ h2), hv, q v H3 e zv⟩
theorem evd_ixT {i : Int} (ha : EvD ta σ G (.tuple ds)) (hb : EvD tb σ G (.int i)) (hi : atI ds i = some d) : EvD (tOp (rIxT K) ta tb) σ G d := fun H1 a Q q =>
  ha.seq hb a fun x y H3 e zx zy => by
    obtain ⟨l, xs, rfl, h2, h3⟩ := zx.ofTuple
    obtain ⟨v, hv, zv⟩ := atI_ds h3 hi
    exact ⟨l, xs, i, v, rfl, zy.ofInt, SqT.of (gr_ex a e _ _ h2), hv, q v H3 e zv⟩
theorem eva_nil : EvAr tNil σ G [] := fun H1 a Q q => q [] H1 (Ex.refl _) .nil
theorem eva_cons {tr : TA} (h : EvD te σ G d) (r : EvAr tr σ G ds) : EvAr (tCons te tr) σ G (d :: ds) := fun H1 a Q q =>
  h H1 a _ fun x H2 e2 zx => (r.mono (ex_gr (H2 := H2) a)) H2 (gr_ex a e2) _ fun ys H3 e3 zy => by
    rw [gr_gr e2 e3] at zy
    exact q _ H3 (e2.trans e3) (.cons (zx.mono (gr_later a e2 e3)) zy)
theorem line_of {n : Nat} (h : n ≤ 100000) : n ≤ sizeLine := Nat.le_trans h (by decide)
theorem evd_tup {ta : TA} (h : EvAr ta σ G ds) (hl : ds.length ≤ 100000 := by simp) : EvD (tTup ta) σ G (.tuple ds) := fun H1 a Q q =>
  h H1 a _ fun vs H2 e2 z => ⟨line_of (by rw [z.1]; exact hl), fun p hp => q _ _ (e2.trans (Ex.new hp)) (.tuple (a := p) (xs := vs) (by rw [gr_new (none_of_ex e2 hp)]; exact upd_same) (z.mono (gr_later a e2 (Ex.new hp))))⟩
theorem evn_lst {ta : TA} (h : EvAr ta σ G ds) (hl : ds.length ≤ 100000 := by simp) : EvN (tLst ta) σ G ds := fun H1 a Q q =>
  h H1 a _ fun vs H2 e2 z => ⟨line_of (by rw [z.1]; exact hl), fun p hp => q p vs _ (e2.trans (Ex.new hp)) (none_of_ex e2 hp) upd_same
    (z.mono (ex_but (gr_later a e2 (Ex.new hp)) (by rw [gr_new (none_of_ex e2 hp)]; exact hp)))⟩
/-- a new list at p over what was there -/
theorem evn_put {H1 H2 : Hp} {p : Addr} {vs : List V} (a : Ex G H1) (e2 : Ex H1 H2) (hp : H2 p = none) (z : DsA (gr G H1 H2) vs ds) : DsA (but (gr G H1 (upd H2 p (.lst vs))) p) vs ds :=
  z.mono (ex_but (gr_later a e2 (Ex.new hp)) (by rw [gr_new (none_of_ex e2 hp)]; exact hp))
def cutD (xs : List PyData) (lo hi : Option Int) : List PyData := (xs.drop (HT.sIx xs.length 0 lo)).take (HT.sIx xs.length xs.length hi - HT.sIx xs.length 0 lo)
theorem DsA.cut {H : Hp} {vs : List V} (h : DsA H vs ds) (lo hi : Option Int) : DsA H (cutV vs lo hi) (cutD ds lo hi) := by
  unfold cutV cutD
  rw [h.1]
  exact (h.drop _).take _
def EvO (to : TO) (σ : St) (G : Hp) (o : Option Int) : Prop := ∀ H1, Ex G H1 → ∀ Q : Option Int → Hp → Prop, (∀ H2, Ex H1 H2 → Q o H2) → to σ H1 Q
theorem evo_none : EvO tNoPart σ G none := fun H1 _ Q q => q H1 (Ex.refl _)
theorem evo_some {i : Int} (h : EvD te σ G (.int i)) : EvO (tPart te) σ G (some i) := fun H1 a Q q => h H1 a _ fun v H2 e z => ⟨i, z.ofInt, q H2 e⟩
theorem evn_sl {tl th : TO} {lo hi : Option Int} (h : EvD te σ G (.list ds)) (hl : EvO tl σ G lo) (hh : EvO th σ G hi) : EvN (tSl (rSlL K) te tl th) σ G (cutD ds lo hi) := fun H1 a Q q =>
  h H1 a _ fun x H2 e2 z => hl H2 (a.trans e2) _ fun H3 e3 => hh H3 ((a.trans e2).trans e3) _ fun H4 e4 => by
    obtain ⟨l, xs, rfl, h2, h3⟩ := z.ofList
    have e24 := e3.trans e4
    refine ⟨l, xs, rfl, SqL.of (e24 _ _ (gr_ex a e2 _ _ h2)), fun p hp => q p _ _ ((e2.trans e24).trans (Ex.new hp)) (none_of_ex (e2.trans e24) hp) upd_same ?_⟩
    exact evn_put a (e2.trans e24) hp ((h3.cut lo hi).mono (gr_later a e2 e24))
theorem evn_revL (h : EvD te σ G (.list ds)) : EvN (tRevL K te) σ G ds.reverse := fun H1 a Q q =>
  h H1 a _ fun x H2 e2 z => by
    obtain ⟨l, xs, rfl, h2, h3⟩ := z.ofList
    exact ⟨l, xs, rfl, SqL.of (gr_ex a e2 _ _ h2), fun p hp => q p _ _ (e2.trans (Ex.new hp)) (none_of_ex e2 hp) upd_same (evn_put a e2 hp h3.reverse)⟩
theorem evn_cat (ha : EvD ta σ G (.list ds)) (hb : EvD tb σ G (.list es)) (hl : ds.length + es.length ≤ 100000) : EvN (tOp rCat ta tb) σ G (ds ++ es) := fun H1 a Q q =>
  ha.seq hb a fun x y H3 e zx zy => by
    obtain ⟨l, xs, rfl, h2, h3⟩ := zx.ofList
    obtain ⟨m, ys, rfl, h4, h5⟩ := zy.ofList
    exact ⟨l, m, xs, ys, rfl, rfl, gr_ex a e _ _ h2, gr_ex a e _ _ h4, line_of (by rw [h3.1, h5.1]; exact hl), fun p hp => q p _ _ (e.trans (Ex.new hp)) (none_of_ex e hp) upd_same (evn_put a e hp (h3.append h5))⟩
theorem evn_listOf (h : EvD te σ G (.list ds)) : EvN (tCB (rListS K) (tCons te tNil)) σ G ds := fun H1 a Q q =>
  h H1 a _ fun x H2 e2 z => by
    obtain ⟨l, xs, rfl, h2, h3⟩ := z.ofList
    exact ⟨l, xs, rfl, .inl (SqL.of (gr_ex a e2 _ _ h2)), fun p hp => q p _ _ (e2.trans (Ex.new hp)) (none_of_ex e2 hp) upd_same (evn_put a e2 hp h3)⟩
theorem evn_listOfT (h : EvD te σ G (.tuple ds)) : EvN (tCB (rListS K) (tCons te tNil)) σ G ds := fun H1 a Q q =>
  h H1 a _ fun x H2 e2 z => by
    obtain ⟨l, xs, rfl, h2, h3⟩ := z.ofTuple
    exact ⟨l, xs, rfl, .inr (SqT.of (gr_ex a e2 _ _ h2)), fun p hp => q p _ _ (e2.trans (Ex.new hp)) (none_of_ex e2 hp) upd_same (evn_put a e2 hp h3)⟩
/-! #### built-ins -/
theorem evd_len (h : EvD te σ G (.list ds)) : EvD (tCB (rLenS K) (tCons te tNil)) σ G (.int (ds.length : Int)) := fun H1 a Q q =>
  h H1 a _ fun x H2 e2 z => by
    obtain ⟨l, xs, rfl, h2, h3⟩ := z.ofList
    refine ⟨l, xs, rfl, .inl (SqL.of (gr_ex a e2 _ _ h2)), ?_⟩
    rw [h3.1]
    exact q _ H2 e2 (.int _)
theorem evd_lenT (h : EvD te σ G (.tuple ds)) : EvD (tCB (rLenS K) (tCons te tNil)) σ G (.int (ds.length : Int)) := fun H1 a Q q =>
  h H1 a _ fun x H2 e2 z => by
    obtain ⟨l, xs, rfl, h2, h3⟩ := z.ofTuple
    refine ⟨l, xs, rfl, .inr (SqT.of (gr_ex a e2 _ _ h2)), ?_⟩
    rw [h3.1]
    exact q _ H2 e2 (.int _)
theorem evd_sum {ns : List Int} (h : EvD te σ G (.list (ns.map PyData.int))) : EvD (tCB (rSum K) (tCons te tNil)) σ G (.int ns.sum) := fun H1 a Q q =>
  h H1 a _ fun x H2 e2 z => by
    obtain ⟨l, xs, rfl, h2, h3⟩ := z.ofList
    have := h3.ofInts
    subst this
    exact ⟨l, ns, rfl, SqL.of (gr_ex a e2 _ _ h2), q _ H2 e2 (.int _)⟩
theorem evd_all {ns : List Bool} (h : EvD te σ G (.list (ns.map PyData.bool))) : EvD (tCB (rAll K) (tCons te tNil)) σ G (.bool (ns.all id)) := fun H1 a Q q =>
  h H1 a _ fun x H2 e2 z => by
    obtain ⟨l, xs, rfl, h2, h3⟩ := z.ofList
    have := h3.ofBls
    subst this
    exact ⟨l, ns, rfl, SqL.of (gr_ex a e2 _ _ h2), q _ H2 e2 (.bl _)⟩
theorem evd_any {ns : List Bool} (h : EvD te σ G (.list (ns.map PyData.bool))) : EvD (tCB (rAny K) (tCons te tNil)) σ G (.bool (ns.any id)) := fun H1 a Q q =>
  h H1 a _ fun x H2 e2 z => by
    obtain ⟨l, xs, rfl, h2, h3⟩ := z.ofList
    have := h3.ofBls
    subst this
    exact ⟨l, ns, rfl, SqL.of (gr_ex a e2 _ _ h2), q _ H2 e2 (.bl _)⟩
def rMin2 : List V → Hp → VK → Prop := fun xs H Q => ∃ i j, xs = [.int i, .int j] ∧ Q (.int (if j < i then j else i)) H
theorem evd_max2 {i j : Int} (ha : EvD ta σ G (.int i)) (hb : EvD tb σ G (.int j)) : EvD (tCB rMax2 (tCons ta (tCons tb tNil))) σ G (.int (max i j)) := fun H1 a Q q =>
  ha.seq hb a fun x y H3 e zx zy => ⟨i, j, by rw [zx.ofInt, zy.ofInt], by
    rw [show (if j > i then j else i) = max i j by omega]
    exact q _ H3 e (.int _)⟩
theorem evd_min2 {i j : Int} (ha : EvD ta σ G (.int i)) (hb : EvD tb σ G (.int j)) : EvD (tCB rMin2 (tCons ta (tCons tb tNil))) σ G (.int (min i j)) := fun H1 a Q q =>
  ha.seq hb a fun x y H3 e zx zy => ⟨i, j, by rw [zx.ofInt, zy.ofInt], by
    rw [show (if j < i then j else i) = min i j by omega]
    exact q _ H3 e (.int _)⟩
/-! #### truth -/
theorem evt_test {b : Bool} (h : EvD te σ G (.bool b)) : EvT (tTest te) σ G b := fun H1 a Q q => h H1 a _ fun v H2 e z => ⟨b, z.ofBl, q H2 e⟩
theorem evt_B {b : Bool} (h : EvD te σ G (.bool b)) : EvT (tB te) σ G b := fun H1 a Q q => h H1 a _ fun v H2 e z => ⟨b, z.ofBl, q H2 e⟩
theorem evd_and {a b : Bool} (h1 : EvD ta σ G (.bool a)) (h2 : a = true → EvD tb σ G (.bool b)) : EvD (tAndV ta tb) σ G (.bool (a && b)) := fun H1 x Q q => h1 H1 x _ fun v H2 e z => ⟨a, z.ofBl, by
  cases a with
  | true => exact (h2 rfl) H2 (x.trans e) Q fun w H3 e3 z3 => by rw [z3.ofBl]; exact q _ H3 (e.trans e3) (.bl b)
  | false => exact q _ H2 e (.bl false)⟩
theorem evd_or {a b : Bool} (h1 : EvD ta σ G (.bool a)) (h2 : a = false → EvD tb σ G (.bool b)) : EvD (tOrV ta tb) σ G (.bool (a || b)) := fun H1 x Q q => h1 H1 x _ fun v H2 e z => ⟨a, z.ofBl, by
  cases a with
  | false => exact (h2 rfl) H2 (x.trans e) Q fun w H3 e3 z3 => by rw [z3.ofBl]; exact q _ H3 (e.trans e3) (.bl b)
  | true => exact q _ H2 e (.bl true)⟩
theorem evd_not {a : Bool} (h1 : EvD ta σ G (.bool a)) : EvD (tNotV ta) σ G (.bool (!a)) := fun H1 x Q q => h1 H1 x _ fun v H2 e z => ⟨a, z.ofBl, q _ H2 e (.bl _)⟩
theorem evd_if {b : Bool} (h : EvT t σ G b) (h1 : b = true → EvD ta σ G d) (h2 : b = false → EvD tb σ G d) : EvD (tIf t ta tb) σ G d := fun H1 a Q q => h H1 a _ fun H2 e => by
  have go : ∀ {tx : TE}, EvD tx σ G d → tx σ H2 Q := fun {tx} hx => hx H2 (a.trans e) Q fun v H3 e3 z => q v H3 (e.trans e3) (by
    refine z.mono fun x o hxo => ?_
    cases q1 : H1 x with
    | none =>
      rw [gr_new q1]
      cases q2 : H2 x with
      | none => rw [gr_new q2] at hxo; exact hxo
      | some y => rw [gr_old q2] at hxo; exact absurd (a x o hxo) (by rw [q1]; intro z; cases z)
    | some y => rw [gr_old q1]; rw [gr_old (e x y q1)] at hxo; exact hxo)
  cases b with
  | true => exact go (h1 rfl)
  | false => exact go (h2 rfl)
/-- == of data -/
theorem evd_eqD (ha : EvD ta σ G d) (hb : EvD tb σ G e) (sd : SeqAt.shaped d = true) (se : SeqAt.shaped e = true) : EvD (tOp (rEqD K) ta tb) σ G (.bool (PyData.eqv d e)) := fun H1 a Q q =>
  ha.seq hb a fun x y H3 ex zx zy => ⟨d, e, (zx.mono (gr_ex a ex)).dp, (zy.mono (gr_ex a ex)).dp, sd, se, q _ H3 ex (.bl _)⟩
theorem evd_neD (ha : EvD ta σ G d) (hb : EvD tb σ G e) (sd : SeqAt.shaped d = true) (se : SeqAt.shaped e = true) : EvD (tOp (rNeD K) ta tb) σ G (.bool (!PyData.eqv d e)) := fun H1 a Q q =>
  ha.seq hb a fun x y H3 ex zx zy => ⟨d, e, (zx.mono (gr_ex a ex)).dp, (zy.mono (gr_ex a ex)).dp, sd, se, q _ H3 ex (.bl _)⟩
end
end Gs

/-! Loops, comprehensions, calls over data. -/
namespace Gs
open PySem L2 Evl

/-! ### what is walked -/
/-- S: turn, heap, slots ahead, slots behind the target's store -/
def Src (wi : TI) (g : TG) (σ : St) (G : Hp) (n : Nat) (S : Nat → Hp → St → St → Prop) : Prop :=
  ∀ H1, Ex G H1 → ∀ R : It → Hp → Prop,
    (∀ (J : It) (H2 : Hp) (Gd : Hp → Prop) (Y : Nat → Hp → V → Hp → Prop), Ex H1 H2 → Walk J n Gd Y → (∀ H', Ex (gr G H1 H2) H' → Gd H') →
      (∀ i x Gx H H', i < n → Ex (gr G H1 H2) Gx → Ex Gx H → Y i H x H' → Ex H H' ∧ ∀ (σ0 : St) (Kk : St → Hp → Prop), (∀ σ', S i (gr Gx H H') σ0 σ' → Kk σ' H') → g x σ0 H' Kk) → R J H2) → wi σ H1 R
section
variable {K : PySem.W.Frag} {σ : St} {G G' : Hp} {ta tb tc te tl tx : TE} {t u tt : TT} {d e : PyData} {ds es : List PyData}
def SNm (ds : List PyData) (j : Nat) : Nat → Hp → St → St → Prop := fun i G σ σ' => ∃ v d, ds[i]? = some d ∧ Ds G v d ∧ σ' = σ.set j (some v)
theorem src_list {j : Nat} (h : EvD tl σ G (.list ds)) : Src (iList K tl) (gName j) σ G ds.length (SNm ds j) := fun H1 a R r =>
  h H1 a _ fun x H2 e2 z => by
    obtain ⟨l, xs, rfl, h2, h3⟩ := z.ofList
    have hk : ∀ H', Ex (gr G H1 H2) H' → SqL K H' l xs := fun H' e => SqL.of (e _ _ h2)
    refine ⟨l, rfl, ⟨xs, hk _ (gr_ex a e2)⟩, ?_⟩
    refine r (Itl K l) H2 (fun H => SqL K H l xs) (YAt xs) e2 (h3.1 ▸ walk_list) hk fun i x Gx H H' hi gx gh y => ?_
    obtain ⟨rfl, hy⟩ := y
    refine ⟨Ex.refl _, fun σ0 Kk kk => kk _ ?_⟩
    obtain ⟨d, hd, zd⟩ := h3.at hy
    refine ⟨x, d, hd, ?_, rfl⟩
    rw [gr_self gh]
    exact zd.mono gx
theorem src_tup {j : Nat} (h : EvD tl σ G (.tuple ds)) : Src (iTup K tl) (gName j) σ G ds.length (SNm ds j) := fun H1 a R r =>
  h H1 a _ fun x H2 e2 z => by
    obtain ⟨l, xs, rfl, h2, h3⟩ := z.ofTuple
    have hk : ∀ H', Ex (gr G H1 H2) H' → SqT K H' l xs := fun H' e => SqT.of (e _ _ h2)
    refine ⟨l, rfl, ⟨xs, hk _ (gr_ex a e2)⟩, ?_⟩
    refine r (Itt K l) H2 (fun H => SqT K H l xs) (YAt xs) e2 (h3.1 ▸ walk_tup) hk fun i x Gx H H' hi gx gh y => ?_
    obtain ⟨rfl, hy⟩ := y
    refine ⟨Ex.refl _, fun σ0 Kk kk => kk _ ?_⟩
    obtain ⟨d, hd, zd⟩ := h3.at hy
    refine ⟨x, d, hd, ?_, rfl⟩
    rw [gr_self gh]
    exact zd.mono gx
/-- the items are tuples, the target their names -/
inductive GSet : List V → List Nat → St → St → Prop
  | nil {σ : St} : GSet [] [] σ σ
  | cons {v : V} {vs : List V} {j : Nat} {js : List Nat} {σ σ' : St} : GSet vs js (σ.set j (some v)) σ' → GSet (v :: vs) (j :: js) σ σ'
def gNames : List Nat → TGs
  | [] => gNil
  | j :: js => gCons (gName j) (gNames js)
theorem gNames_run : ∀ {js : List Nat} {vs : List V} {σ : St} {H : Hp} {Kk : St → Hp → Prop}, vs.length = js.length → (∀ σ', GSet vs js σ σ' → Kk σ' H) → gNames js vs σ H Kk
  | [], [], σ, H, Kk, _, k => ⟨rfl, k _ .nil⟩
  | j :: js, v :: vs, σ, H, Kk, h, k => ⟨v, vs, rfl, gNames_run (js := js) (vs := vs) (by simpa using h) fun σ' g => k σ' (.cons g)⟩
  | [], _ :: _, _, _, _, h, _ => by simp at h
  | _ :: _, [], _, _, _, h, _ => by simp at h
def STp (ds : List PyData) (js : List Nat) : Nat → Hp → St → St → Prop := fun i G σ σ' => ∃ vs es, ds[i]? = some (.tuple es) ∧ DsA G vs es ∧ GSet vs js σ σ'
theorem src_listT {js : List Nat} {m : Nat} (h : EvD tl σ G (.list ds)) (hm : js.length = m) (ht : ∀ d ∈ ds, ∃ es, d = .tuple es ∧ es.length = m) : Src (iList K tl) (gTup K m (gNames js)) σ G ds.length (STp ds js) := fun H1 a R r =>
  h H1 a _ fun x H2 e2 z => by
    obtain ⟨l, xs, rfl, h2, h3⟩ := z.ofList
    have hk : ∀ H', Ex (gr G H1 H2) H' → SqL K H' l xs := fun H' e => SqL.of (e _ _ h2)
    refine ⟨l, rfl, ⟨xs, hk _ (gr_ex a e2)⟩, ?_⟩
    refine r (Itl K l) H2 (fun H => SqL K H l xs) (YAt xs) e2 (h3.1 ▸ walk_list) hk fun i x Gx H H' hi gx gh y => ?_
    obtain ⟨rfl, hy⟩ := y
    refine ⟨Ex.refl _, fun σ0 Kk kk => ?_⟩
    obtain ⟨d, hd, zd⟩ := h3.at hy
    obtain ⟨es, rfl, hes⟩ := ht d (List.mem_of_getElem? hd)
    obtain ⟨q, ys, rfl, q2, q3⟩ := zd.ofTuple
    refine ⟨q, ys, rfl, SqT.of (gh _ _ (gx _ _ q2)), by rw [q3.1, hes], gNames_run (by rw [q3.1, hes, hm]) fun σ' g => kk _ ⟨ys, es, hd, ?_, g⟩⟩
    rw [gr_self gh]
    exact q3.mono gx
/-- pairs made on the way: enumerate, zip -/
def SPr (f g : Nat → Option PyData) (j k : Nat) : Nat → Hp → St → St → Prop := fun i G σ σ' => ∃ v w d e, f i = some d ∧ g i = some e ∧ Ds G v d ∧ Ds G w e ∧ σ' = (σ.set j (some v)).set k (some w)
theorem pair_turn {j k : Nat} {fv gv : Nat → Option V} {f g : Nat → Option PyData} {i : Nat} {x : V} {Gx H H' : Hp} (gh : Ex Gx H) (y : YPair fv gv i H x H') (hf : ∀ v, fv i = some v → ∃ d, f i = some d ∧ Ds Gx v d) (hg : ∀ v, gv i = some v → ∃ d, g i = some d ∧ Ds Gx v d) :
    Ex H H' ∧ ∀ (σ0 : St) (Kk : St → Hp → Prop), (∀ σ', SPr f g j k i (gr Gx H H') σ0 σ' → Kk σ' H') → gTup K 2 (gNames [j, k]) x σ0 H' Kk := by
  obtain ⟨T, v, w, rfl, hT, rfl, h1, h2⟩ := y
  have e := Ex.new (o := .tup [v, w]) hT
  refine ⟨e, fun σ0 Kk kk => ⟨T, [v, w], rfl, SqT.of upd_same, rfl, v, [w], rfl, w, [], rfl, rfl, kk _ ?_⟩⟩
  obtain ⟨d, hd, zd⟩ := hf v h1
  obtain ⟨d', hd', zd'⟩ := hg w h2
  exact ⟨v, w, d, d', hd, hd', zd.mono (ex_gr gh), zd'.mono (ex_gr gh), rfl⟩
theorem src_enum {j k : Nat} (h : EvD tl σ G (.list ds)) : Src (iEnum K (tCons tl tNil)) (gTup K 2 (gNames [j, k])) σ G ds.length (SPr (fun i => some (.int (i : Int))) (fun i => ds[i]?) j k) := fun H1 a R r =>
  h H1 a _ fun x H2 e2 z => by
    obtain ⟨l, xs, rfl, h2, h3⟩ := z.ofList
    have hk : ∀ H', Ex (gr G H1 H2) H' → SqL K H' l xs := fun H' e => SqL.of (e _ _ h2)
    refine ⟨l, xs, rfl, hk _ (gr_ex a e2), ?_⟩
    refine r (Ite K l) H2 (fun H => SqL K H l xs) _ e2 (h3.1 ▸ walk_enum) hk fun i x Gx H H' hi gx gh y => pair_turn gh y (fun v hv => ?_) (fun v hv => ?_)
    · cases hv; exact ⟨_, rfl, .int _⟩
    · obtain ⟨d, hd, zd⟩ := h3.at hv
      exact ⟨d, hd, zd.mono gx⟩
theorem src_zip {j k : Nat} {ta tb : TE} (ha : EvD ta σ G (.list ds)) (hb : EvD tb σ G (.list es)) : Src (iZip K (tCons ta (tCons tb tNil))) (gTup K 2 (gNames [j, k])) σ G (min ds.length es.length) (SPr (fun i => ds[i]?) (fun i => es[i]?) j k) := fun H1 a R r =>
  ha.seq hb a fun x y H2 e2 zx zy => by
    obtain ⟨l, xs, rfl, h2, h3⟩ := zx.ofList
    obtain ⟨m, ys, rfl, h4, h5⟩ := zy.ofList
    have hk : ∀ H', Ex (gr G H1 H2) H' → SqL K H' l xs ∧ SqL K H' m ys := fun H' e => ⟨SqL.of (e _ _ h2), SqL.of (e _ _ h4)⟩
    have hk0 := hk _ (gr_ex a e2)
    refine ⟨l, m, xs, ys, rfl, hk0.1, hk0.2, ?_⟩
    refine r (Itz K l m) H2 _ _ e2 (walk_zip (by rw [h3.1, h5.1])) hk fun i x Gx H H' hi gx gh y => pair_turn gh y (fun v hv => ?_) (fun v hv => ?_)
    · obtain ⟨d, hd, zd⟩ := h3.at hv
      exact ⟨d, hd, zd.mono gx⟩
    · obtain ⟨d, hd, zd⟩ := h5.at hv
      exact ⟨d, hd, zd.mono gx⟩
theorem src_rev {j : Nat} (h : EvD tl σ G (.list ds)) : Src (iRev K (tCons tl tNil)) (gName j) σ G ds.length (SNm ds.reverse j) := fun H1 a R r =>
  h H1 a _ fun x H2 e2 z => by
    obtain ⟨l, xs, rfl, h2, h3⟩ := z.ofList
    have hk : ∀ H', Ex (gr G H1 H2) H' → SqL K H' l xs := fun H' e => SqL.of (e _ _ h2)
    refine ⟨l, xs, rfl, hk _ (gr_ex a e2), ?_⟩
    have wk : Walk (Itv K l xs.length) ds.length (fun H => SqL K H l xs) (fun i H x H' => H' = H ∧ xs[xs.length - 1 - i]? = some x) := by
      have w0 := walk_rev (K := K) (a := l) (xs := xs)
      have e0 := h3.1
      exact ⟨fun i H hi h => w0.goes i H (by omega) h, fun H h => by rw [← e0]; exact w0.stops H h, fun i H x H' hi h y => w0.yields i H x H' (by omega) h y⟩
    refine r (Itv K l xs.length) H2 (fun H => SqL K H l xs) _ e2 wk hk fun i x Gx H H' hi gx gh y => ?_
    obtain ⟨rfl, hy⟩ := y
    refine ⟨Ex.refl _, fun σ0 Kk kk => kk _ ?_⟩
    have hy' : xs.reverse[i]? = some x := by
      rw [List.getElem?_reverse (by rw [h3.1]; exact hi)]; exact hy
    obtain ⟨d, hd, zd⟩ := h3.reverse.at hy'
    refine ⟨x, d, hd, ?_, rfl⟩
    rw [gr_self gh]
    exact zd.mono gx
def SRg (j : Nat) : Nat → Hp → St → St → Prop := fun i _ σ σ' => σ' = σ.set j (some (.int (i : Int)))
theorem src_range {j : Nat} {n : Int} (h : EvD te σ G (.int n)) (hn : n ≤ 100000) (hm : -100000 ≤ n) : Src (iRng1 (tCons te tNil)) (gName j) σ G n.toNat (SRg j) := fun H1 a R r =>
  h H1 a _ fun x H2 e2 z => by
    rw [z.ofInt]
    refine ⟨n, rfl, by omega, by omega, ?_⟩
    refine r (Itr 0 n.toNat) H2 (fun _ => True) _ e2 walk_range (fun _ _ => trivial) fun i x Gx H H' hi gx gh y => ?_
    obtain ⟨rfl, rfl⟩ := y
    refine ⟨Ex.refl _, fun σ0 Kk kk => kk _ ?_⟩
    show List.set σ0 j (some (V.int ((0 : Int) + (i : Int)))) = List.set σ0 j (some (V.int (i : Int)))
    rw [Int.zero_add]
/-- the script -/
theorem src_listS {j : Nat} {l : Addr} {ns : List Int} (h : σ[j]? = some (some (.ref l))) (hs : SqL K G l (ns.map V.int)) {k : Nat} : Src (iList K (tVar j)) (gName k) σ G ns.length (fun i _ σ σ' => ∃ n, ns[i]? = some n ∧ σ' = σ.set k (some (.int n))) := fun H1 a R r => by
  have hk : ∀ H', Ex (gr G H1 H1) H' → SqL K H' l (ns.map V.int) := fun H' e => ex_l e (by rw [gr_self a]; exact hs)
  refine ⟨_, h, l, rfl, ⟨_, ex_l a hs⟩, ?_⟩
  refine r (Itl K l) H1 (fun H => SqL K H l (ns.map V.int)) (YAt (ns.map V.int)) (Ex.refl _) (by have := walk_list (K := K) (a := l) (xs := ns.map V.int); rwa [List.length_map] at this) hk fun i x Gx H H' hi gx gh y => ?_
  obtain ⟨rfl, hy⟩ := y
  rw [List.getElem?_map] at hy
  cases q : ns[i]? with
  | none => rw [q] at hy; cases hy
  | some n =>
    rw [q] at hy
    cases hy
    exact ⟨Ex.refl _, fun σ0 Kk kk => kk _ ⟨n, q, rfl⟩⟩
theorem src_enumS {m j k : Nat} {l : Addr} {ns : List Int} (h : σ[m]? = some (some (.ref l))) (hs : SqL K G l (ns.map V.int)) : Src (iEnum K (tCons (tVar m) tNil)) (gTup K 2 (gNames [j, k])) σ G ns.length (fun i _ σ σ' => ∃ n, ns[i]? = some n ∧ σ' = (σ.set j (some (.int (i : Int)))).set k (some (.int n))) := fun H1 a R r => by
  have hk : ∀ H', Ex (gr G H1 H1) H' → SqL K H' l (ns.map V.int) := fun H' e => ex_l e (by rw [gr_self a]; exact hs)
  refine ⟨_, h, l, _, rfl, ex_l a hs, ?_⟩
  refine r (Ite K l) H1 (fun H => SqL K H l (ns.map V.int)) _ (Ex.refl _) (by have := walk_enum (K := K) (a := l) (xs := ns.map V.int); rwa [List.length_map] at this) hk fun i x Gx H H' hi gx gh y => ?_
  have q := pair_turn (K := K) (j := j) (k := k) (f := fun i => some (.int (i : Int))) (g := fun i => (ns.map PyData.int)[i]?) gh y (fun v hv => by cases hv; exact ⟨_, rfl, .int _⟩) (fun v hv => by
    rw [List.getElem?_map] at hv
    show ∃ d, (ns.map PyData.int)[i]? = some d ∧ Ds Gx v d
    rw [List.getElem?_map]
    cases q : ns[i]? with
    | none => rw [q] at hv; cases hv
    | some n => rw [q] at hv; cases hv; exact ⟨_, rfl, .int _⟩)
  refine ⟨q.1, fun σ0 Kk kk => q.2 σ0 Kk fun σ' hs' => ?_⟩
  obtain ⟨v, w, d, e, h1, h2, z1, z2, rfl⟩ := hs'
  cases h1
  have h2 : (ns.map PyData.int)[i]? = some e := h2
  rw [List.getElem?_map] at h2
  cases q : ns[i]? with
  | none => rw [q] at h2; cases h2
  | some n =>
    rw [q] at h2
    cases h2
    rw [z1.ofInt, z2.ofInt]
    exact kk _ ⟨n, q, rfl⟩

/-! ### comprehensions -/
def givenD (n : Nat) (p : Nat → Bool) (f : Nat → PyData) : List PyData := ((List.range n).filter p).map f
theorem givenD_yes {n : Nat} {p : Nat → Bool} {f : Nat → PyData} (h : p n = true) : givenD (n + 1) p f = givenD n p f ++ [f n] := by
  unfold givenD
  rw [List.range_succ, List.filter_append, List.map_append, List.filter_cons, if_pos h] <;> rfl
theorem givenD_no {n : Nat} {p : Nat → Bool} {f : Nat → PyData} (h : p n = false) : givenD (n + 1) p f = givenD n p f := by
  unfold givenD
  rw [List.range_succ, List.filter_append, List.map_append, List.filter_cons, if_neg (by rw [h]; decide)]
  show _ ++ [] = _
  rw [List.append_nil]
theorem givenD_len (n : Nat) (p : Nat → Bool) (f : Nat → PyData) : (givenD n p f).length ≤ n := by
  unfold givenD
  rw [List.length_map]
  have h := List.length_filter_le p (List.range n)
  rw [List.length_range] at h
  exact h
theorem givenD_all {n : Nat} {f : Nat → PyData} : givenD n (fun _ => true) f = (List.range n).map f := by
  unfold givenD
  rw [List.filter_eq_self.mpr (fun _ _ => rfl)]
theorem evn_lc {wi : TI} {g : TG} {n : Nat} {S : Nat → Hp → St → St → Prop} {vs : List Nat} (hs : Src wi g σ G n S) (hz : n ≤ 40000) (p : Nat → Bool) (f : Nat → PyData) (hw : ∀ i Gx σ', S i Gx (wipe σ vs) σ' → wipe σ' vs = wipe σ vs)
    (ht : ∀ i Gx σ', i < n → Ex G Gx → S i Gx (wipe σ vs) σ' → EvT tt σ' Gx (p i)) (he : ∀ i Gx σ', i < n → Ex G Gx → S i Gx (wipe σ vs) σ' → p i = true → EvD te σ' Gx (f i)) :
    EvN (tLc wi g tt te vs) σ G (givenD n p f) := fun H1 a Q q => hs H1 a _ fun J H2 Gd Y e2 wk gd turn D hD => by
  have hD1 : H1 D = none := none_of_ex e2 hD
  have gD : gr G H1 H2 D = none := by rw [gr_new hD1]; exact hD
  refine lc_it wk (fun i H' => Ex H2 H' ∧ ∃ acc, H' D = some (.lst acc) ∧ DsA (but (gr G H1 H') D) acc (givenD i p f)) ⟨Ex.new hD, [], upd_same, .nil⟩ (fun i H' _ h => gd H' ((gr_ex a e2).trans h.1)) ?_ (fun H' h => ?_)
  · rintro i x H H' hi ⟨eh, acc, hacc, zacc⟩ y
    have g1 : Ex (gr G H1 H2) (but (gr G H1 H) D) := ex_but (gr_later a e2 eh) gD
    have g2 : Ex (but (gr G H1 H) D) H := but_ex.trans (gr_ex a (e2.trans eh))
    obtain ⟨e3, k3⟩ := turn i x (but (gr G H1 H) D) H H' hi g1 g2 y
    refine k3 _ _ fun σ' hS => ⟨hw i _ σ' hS, ?_⟩
    have gx : Ex G (gr (but (gr G H1 H) D) H H') := ((ex_gr (H2 := H2) a).trans g1).trans (ex_gr g2)
    have gx' : Ex (gr (but (gr G H1 H) D) H H') H' := gr_ex g2 e3
    have step : ∀ {H5 : Hp}, (∀ b o, b ≠ D → H b = some o → H5 b = some o) → Ex (but (gr G H1 H) D) (but (gr G H1 H5) D) := fun {H5} k b o e => by
      have ne : b ≠ D := fun z => by rw [z, but_self] at e; cases e
      rw [but_ne ne] at e ⊢
      cases r : H1 b with
      | none => rw [gr_new r] at e ⊢; exact k b o ne e
      | some u => rw [gr_old r] at e ⊢; exact e
    refine ht i _ σ' hi gx hS H' gx' _ fun H3 e4 => ?_
    cases hp : p i with
    | true =>
      refine he i _ σ' hi gx hS hp H3 (gx'.trans e4) _ fun yv H4 e5 zy => ⟨acc, e5 _ _ (e4 _ _ (e3 _ _ hacc)), Nat.lt_of_lt_of_le (by rw [zacc.1]; have := givenD_len i p f; omega) (line_of (Nat.le_refl 100000)), Ex.mut (((eh.trans e3).trans e4).trans e5) hD, _, upd_same, ?_⟩
      rw [givenD_yes hp]
      refine DsA.append (zacc.mono (step fun b o nb hb => by rw [upd_ne nb]; exact e5 _ _ (e4 _ _ (e3 _ _ hb)))) (.cons (zy.mono fun b o hb => ?_) .nil)
      have ne : b ≠ D := fun z => by
        subst z
        rw [gr_old (e4 _ _ (e3 _ _ hacc)), gr_old hacc, but_self] at hb
        cases hb
      rw [but_ne ne]
      have old4 : H4 b = some o := (gr_ex (gx'.trans e4) e5) b o hb
      cases r1 : H1 b with
      | none => rw [gr_new r1, upd_ne ne]; exact old4
      | some u1 =>
        have r2 : H b = some u1 := (e2.trans eh) b u1 r1
        rw [gr_old r1]
        rw [gr_old (e4 _ _ (e3 _ _ r2)), gr_old r2, but_ne ne, gr_old r1] at hb
        exact hb
    | false =>
      refine ⟨(eh.trans e3).trans e4, acc, e4 _ _ (e3 _ _ hacc), ?_⟩
      rw [givenD_no hp]
      exact zacc.mono (step fun b o nb hb => e4 _ _ (e3 _ _ hb))
  · obtain ⟨eh, acc, hacc, zacc⟩ := h
    exact q D acc H' (e2.trans eh) hD1 hacc zacc
theorem getD_of {i : Nat} (h : ds[i]? = some d) : ds.getD i .none = d := by
  rw [List.getD_eq_getElem?_getD, h]
  rfl
theorem range_getD (F : PyData → PyData) : ∀ ds : List PyData, (List.range ds.length).map (fun i => F (ds.getD i .none)) = ds.map F := fun ds => by
  apply List.ext_getElem?
  intro i
  rw [List.getElem?_map, List.getElem?_map]
  by_cases hi : i < ds.length
  · rw [List.getElem?_range hi, List.getElem?_eq_getElem hi]
    simp [hi]
  · rw [List.getElem?_eq_none (by simpa using hi), List.getElem?_eq_none (by simpa using hi)]
    rfl
theorem filter_getD (p : PyData → Bool) (F : PyData → PyData) : ∀ ds : List PyData, ((List.range ds.length).filter (fun i => p (ds.getD i .none))).map (fun i => F (ds.getD i .none)) = (ds.filter p).map F := fun ds => by
  have h1 : ds = (List.range ds.length).map (fun i => ds.getD i .none) := (by rw [range_getD (fun d => d)]; simp)
  conv => rhs; rw [h1]
  rw [List.filter_map, List.map_map]
  rfl
/-- over a list, one name -/
theorem evn_lcL {j : Nat} {vs : List Nat} (F : PyData → PyData) (h : EvD tl σ G (.list ds)) (hz : ds.length ≤ 40000) (hw : ∀ x, wipe ((wipe σ vs).set j (some x)) vs = wipe σ vs)
    (he : ∀ Gx v d, Ex G Gx → d ∈ ds → Ds Gx v d → EvD te ((wipe σ vs).set j (some v)) Gx (F d)) : EvN (tLc (iList K tl) (gName j) tYes te vs) σ G (ds.map F) := by
  have := evn_lc (tt := tYes) (te := te) (vs := vs) (src_list (K := K) (j := j) h) hz (fun _ => true) (fun i => F (ds.getD i .none)) (fun i Gx σ' hS => by
      obtain ⟨v, d, _, _, rfl⟩ := hS
      exact hw v) (fun i Gx σ' _ _ _ H1 _ Q q => q H1 (Ex.refl _)) (fun i Gx σ' _ g hS _ => by
      obtain ⟨v, d, hd, zd, rfl⟩ := hS
      rw [getD_of hd]
      exact he Gx v d g (List.mem_of_getElem? hd) zd)
  rwa [givenD_all, range_getD] at this
/-- over a tuple -/
theorem evn_lcT {j : Nat} {vs : List Nat} (F : PyData → PyData) (h : EvD tl σ G (.tuple ds)) (hz : ds.length ≤ 40000) (hw : ∀ x, wipe ((wipe σ vs).set j (some x)) vs = wipe σ vs)
    (he : ∀ Gx v d, Ex G Gx → d ∈ ds → Ds Gx v d → EvD te ((wipe σ vs).set j (some v)) Gx (F d)) : EvN (tLc (iTup K tl) (gName j) tYes te vs) σ G (ds.map F) := by
  have := evn_lc (tt := tYes) (te := te) (vs := vs) (src_tup (K := K) (j := j) h) hz (fun _ => true) (fun i => F (ds.getD i .none)) (fun i Gx σ' hS => by
      obtain ⟨v, d, _, _, rfl⟩ := hS
      exact hw v) (fun i Gx σ' _ _ _ H1 _ Q q => q H1 (Ex.refl _)) (fun i Gx σ' _ g hS _ => by
      obtain ⟨v, d, hd, zd, rfl⟩ := hS
      rw [getD_of hd]
      exact he Gx v d g (List.mem_of_getElem? hd) zd)
  rwa [givenD_all, range_getD] at this
theorem evn_lcLif {j : Nat} {vs : List Nat} (p : PyData → Bool) (F : PyData → PyData) (h : EvD tl σ G (.list ds)) (hz : ds.length ≤ 40000) (hw : ∀ x, wipe ((wipe σ vs).set j (some x)) vs = wipe σ vs)
    (ht : ∀ Gx v d, Ex G Gx → d ∈ ds → Ds Gx v d → EvT tt ((wipe σ vs).set j (some v)) Gx (p d))
    (he : ∀ Gx v d, Ex G Gx → d ∈ ds → Ds Gx v d → EvD te ((wipe σ vs).set j (some v)) Gx (F d)) : EvN (tLc (iList K tl) (gName j) tt te vs) σ G ((ds.filter p).map F) := by
  have := evn_lc (tt := tt) (te := te) (vs := vs) (src_list (K := K) (j := j) h) hz (fun i => p (ds.getD i .none)) (fun i => F (ds.getD i .none)) (fun i Gx σ' hS => by
      obtain ⟨v, d, _, _, rfl⟩ := hS
      exact hw v) (fun i Gx σ' _ g hS => by
      obtain ⟨v, d, hd, zd, rfl⟩ := hS
      rw [getD_of hd]
      exact ht Gx v d g (List.mem_of_getElem? hd) zd) (fun i Gx σ' _ g hS _ => by
      obtain ⟨v, d, hd, zd, rfl⟩ := hS
      rw [getD_of hd]
      exact he Gx v d g (List.mem_of_getElem? hd) zd)
  unfold givenD at this
  rwa [filter_getD] at this
theorem evn_lcR {j : Nat} {n : Int} {vs : List Nat} (F : Nat → PyData) (h : EvD tl σ G (.int n)) (hn : n ≤ 40000) (hm : -100000 ≤ n) (hw : ∀ x, wipe ((wipe σ vs).set j (some x)) vs = wipe σ vs)
    (he : ∀ Gx (i : Nat), Ex G Gx → (i : Int) < n → EvD te ((wipe σ vs).set j (some (.int (i : Int)))) Gx (F i)) : EvN (tLc (iRng1 (tCons tl tNil)) (gName j) tYes te vs) σ G ((List.range n.toNat).map F) := by
  have := evn_lc (tt := tYes) (te := te) (vs := vs) (src_range (j := j) h (by omega) hm) (by omega) (fun _ => true) F (fun i Gx σ' hS => by
      cases hS
      exact hw _) (fun i Gx σ' _ _ _ H1 _ Q q => q H1 (Ex.refl _)) (fun i Gx σ' hi g hS _ => by
      cases hS
      exact he Gx i g (by omega))
  rwa [givenD_all] at this

/-! ### statements -/
variable {D : Ends} {tu tw : TS} {g : TG} {G0 H0 H : Hp}
theorem z_set {i : Nat} (a : Ex G H) (h : EvD te σ G d) (k : ∀ v H2, Ex H H2 → Ds (gr G H H2) v d → D.nx (σ.set i (some v)) H2) : tAsg te (gName i) D σ H := h H a _ k
theorem z_setI {i : Nat} {n : Int} (a : Ex G H) (h : EvD te σ G (.int n)) (k : ∀ H2, Ex H H2 → D.nx (σ.set i (some (.int n))) H2) : tAsg te (gName i) D σ H := h H a _ fun v H2 e z => by
  show D.nx (σ.set i (some v)) H2
  rw [z.ofInt]; exact k H2 e
theorem z_setB {i : Nat} {n : Bool} (a : Ex G H) (h : EvD te σ G (.bool n)) (k : ∀ H2, Ex H H2 → D.nx (σ.set i (some (.bl n))) H2) : tAsg te (gName i) D σ H := h H a _ fun v H2 e z => by
  show D.nx (σ.set i (some v)) H2
  rw [z.ofBl]; exact k H2 e
theorem z_setZ {i : Nat} (a : Ex G H) (h : EvD te σ G .none) (k : ∀ H2, Ex H H2 → D.nx (σ.set i (some .non)) H2) : tAsg te (gName i) D σ H := h H a _ fun v H2 e z => by
  show D.nx (σ.set i (some v)) H2
  rw [z.ofNon]; exact k H2 e
theorem z_setN {i : Nat} (a : Ex G H) (h : EvN te σ G ds) (k : ∀ p vs H2, Ex H H2 → H p = none → H2 p = some (.lst vs) → DsA (but (gr G H H2) p) vs ds → D.nx (σ.set i (some (.ref p))) H2) : tAsg te (gName i) D σ H := h H a _ k
theorem z_ret (a : Ex G H) (h : EvD te σ G d) (k : ∀ v H2, Ex H H2 → Ds (gr G H H2) v d → D.rt v H2) : tRet te D σ H := h H a _ k
theorem z_retN (a : Ex G H) (h : EvN te σ G ds) (k : ∀ p vs H2, Ex H H2 → H p = none → H2 p = some (.lst vs) → DsA (but (gr G H H2) p) vs ds → D.rt (.ref p) H2) : tRet te D σ H := h H a _ k
theorem z_if {b : Bool} (a : Ex G H) (h : EvT t σ G b) (h1 : b = true → ∀ H2, Ex H H2 → tu D σ H2) (h2 : b = false → ∀ H2, Ex H H2 → tw D σ H2) : tIfS t tu tw D σ H := h H a _ fun H2 e => by
  cases b with
  | true => exact h1 rfl H2 e
  | false => exact h2 rfl H2 e
theorem z_drop (a : Ex G H) (h : EvD te σ G d) (k : ∀ H2, Ex H H2 → D.nx σ H2) : tDrop te D σ H := h H a _ fun v H2 e _ => k H2 e
/-- xs.append(e), xs in slot i, its list at l ours -/
theorem z_app {i : Nat} {l : Addr} {xs : List V} (a : Ex G H) (hs : σ[i]? = some (some (.ref l))) (hl : H l = some (.lst xs)) (h : EvD te σ G d) (hz : xs.length < 100000)
    (k : ∀ v H2, Ex H H2 → Ds (gr G H H2) v d → D.nx σ (upd H2 l (.lst (xs ++ [v])))) : tDrop (tBM K "list" rAppend (tVar i) (tCons te tNil)) D σ H :=
  ⟨_, hs, .inl ⟨rfl, xs, SqL.of hl⟩, h H a _ fun v H2 e z => ⟨l, xs, v, rfl, rfl, e _ _ hl, Nat.lt_of_lt_of_le hz (line_of (Nat.le_refl _)), k v H2 e z⟩⟩
/-- for: the word Pv by turn, slots, the heap's facts, the heap -/
abbrev Px (Pv : Nat → St → Hp → Hp → Prop) (i : Nat) : St → Hp → Prop := fun σ H => ∃ G, Pv i σ G H
theorem z_for {wi : TI} {n : Nat} {S : Nat → Hp → St → St → Prop} (a : Ex G H) (hs : Src wi g σ G n S)
    (k : ∀ H2, Ex H H2 → ∃ Pv : Nat → St → Hp → Hp → Prop, Pv 0 σ (gr G H H2) H2 ∧ (∀ i σ' G' H', Pv i σ' G' H' → Ex (gr G H H2) G' ∧ Ex G' H') ∧
      (∀ i σ' G' H' H3 σ3, i < n → Pv i σ' G' H' → Ex H' H3 → S i (gr G' H' H3) σ' σ3 → tu { D with nx := Px Pv (i + 1), ct := Px Pv (i + 1), bk := D.nx } σ3 H3) ∧
      (∀ σ' G' H', Pv n σ' G' H' → D.nx σ' H')) : tFor wi g tu D σ H := hs H a _ fun J H2 Gd Y e2 wk gd turn => by
  obtain ⟨Pv, h0, hG, ht, hd⟩ := k H2 e2
  refine for_it wk (Px Pv) ⟨_, h0⟩ ?_ ?_ ?_
  · rintro i σ' H' _ ⟨G', p⟩
    obtain ⟨g1, g2⟩ := hG i σ' G' H' p
    exact gd H' (g1.trans g2)
  · rintro i x σ' H' H'' hi ⟨G', p⟩ y
    obtain ⟨g1, g2⟩ := hG i σ' G' H' p
    obtain ⟨e3, k3⟩ := turn i x G' H' H'' hi g1 g2 y
    exact k3 _ _ fun σ2 hS => ht i σ' G' H' H'' σ2 hi p e3 hS
  · rintro σ' H' ⟨G', p⟩
    exact hd σ' G' H' p
/-- calls -/
def spD (R : List PyData → PyData → Prop) : Sp := fun vs H Q _ => ∃ G ds d, Ex G H ∧ DsA G vs ds ∧ R ds d ∧ ∀ v H2, Ex H H2 → Ds (gr G H H2) v d → Q v H2
def spN (R : List PyData → List PyData → Prop) : Sp := fun vs H Q _ => ∃ G ds es, Ex G H ∧ DsA G vs ds ∧ R ds es ∧ ∀ p xs H2, Ex H H2 → H p = none → H2 p = some (.lst xs) → DsA (but (gr G H H2) p) xs es → Q (.ref p) H2
theorem evd_call {ta : TA} {E : XK} {R : List PyData → PyData → Prop} (ha : EvAr ta σ G ds) (hr : R ds d) : EvD (tCall (spD R) [] E ta) σ G d := fun H1 a Q q => ha H1 a _ fun vs H2 e2 z => by
  rw [List.append_nil]
  exact ⟨gr G H1 H2, ds, d, gr_ex a e2, z, hr, fun v H3 e3 zv => q v H3 (e2.trans e3) (by rw [gr_gr e2 e3] at zv; exact zv)⟩
theorem evn_call {ta : TA} {E : XK} {R : List PyData → List PyData → Prop} (ha : EvAr ta σ G ds) (hr : R ds es) : EvN (tCall (spN R) [] E ta) σ G es := fun H1 a Q q => ha H1 a _ fun vs H2 e2 z => by
  rw [List.append_nil]
  exact ⟨gr G H1 H2, ds, es, gr_ex a e2, z, hr, fun p xs H3 e3 hp h3 zv => q p xs H3 (e2.trans e3) (none_of_ex e2 hp) h3 (by rw [gr_gr e2 e3] at zv; exact zv)⟩
end
end Gs

/-! Defs and methods by name: what stands in the text (FunH, MetH), what is promised (Has, HasM). -/
namespace Gs
open PySem PySem.Spec PyProof.Rows L2 Evl

structure Has (P : Program) (w : World) (K : PySem.W.Frag) (mg : Str → Option Value) (base : Heap) (CX : CXT) (k : Nat) (x : Str) (ps : List Str) (sp : Sp) : Prop where
  ex : ∃ f fd, FnOk P w K mg base CX k f fd ps sp ∧ mg x = some (.ref f) ∧ PySem.W.keepIn K (.ref f) = true ∧ Binds K fd ps []
structure HasM (P : Program) (w : World) (K : PySem.W.Frag) (mg : Str → Option Value) (base : Heap) (CX : CXT) (k : Nat) (C : Addr) (m : Str) (ps : List Str) (sp : Sp) : Prop where
  ex : ∃ f fd, FnOk P w K mg base CX k f fd ps sp ∧ Meth K C m f ∧ Binds K fd ps []
structure HasC (P : Program) (w : World) (K : PySem.W.Frag) (mg : Str → Option Value) (base : Heap) (CX : CXT) (k : Nat) (C : Addr) (x : Str) (ps : List Str) (sp : Sp) : Prop where
  ex : ∃ f fd, FnOk P w K mg base CX k f fd ps sp ∧ Mk K C f ∧ mg x = some (.ref C) ∧ Binds K fd ps []
structure FunH (K : PySem.W.Frag) (mg : Str → Option Value) (x qual : Str) (st : Stmt) (ps : List Str) : Prop where
  ex : ∃ f fd, Fun K x qual st f fd ∧ mg x = some (.ref f) ∧ Binds K fd ps []
structure MetH (K : PySem.W.Frag) (C : Addr) (m qual : Str) (st : Stmt) (ps : List Str) : Prop where
  ex : ∃ f fd, Fun K m qual st f fd ∧ Meth K C m f ∧ Binds K fd ps []
structure IniH (K : PySem.W.Frag) (mg : Str → Option Value) (C : Addr) (x qual : Str) (st : Stmt) (ps : List Str) : Prop where
  ex : ∃ f fd, Fun K "__init__" qual st f fd ∧ Mk K C f ∧ mg x = some (.ref C) ∧ Binds K fd ps []
section
variable {P : Program} {w : World} {K : PySem.W.Frag} {mg : Str → Option Value} {base : Heap} {N ps : List Str} {k : Nat} {sp : Sp} {x qual m : Str} {st : Stmt} {C : Addr}
theorem FunH.has (F : FunH K mg x qual st ps) (S : FnScope N ps (defScope st)) (len : ∀ vs H Q E, sp vs H Q E → vs.length = ps.length)
    (hbody : ∀ (f : Addr) (cdv : Value) (A : Around) (outer : List Env) (s : Shared) (H : Hp) (vs : List V) (Q : VK) (E : XK), Room k (A.deeper (envOfC qual (defScope st) s.heap.objs.size f cdv)) → sp vs H Q E →
      ∃ t, PSs (cxOf CX0 P w K mg base N qual (defScope st) f cdv A outer s H E).nox (defBody st) t ∧ t { nx := fun _ H' => Q .non H', rt := Q } (start N vs) H) : Has P w K mg base CX0 (k + 1) x ps sp := by
  obtain ⟨f, fd, F, hm, hb⟩ := F.ex
  exact ⟨f, fd, F.ok S len (fun cdv A outer s H vs Q E hr h => hbody f cdv A outer s H vs Q E hr h), hm, F.kp, hb⟩
theorem MetH.has (F : MetH K C m qual st ps) (S : FnScope N ps (defScope st)) (len : ∀ vs H Q E, sp vs H Q E → vs.length = ps.length)
    (hbody : ∀ (f : Addr) (cdv : Value) (A : Around) (outer : List Env) (s : Shared) (H : Hp) (vs : List V) (Q : VK) (E : XK), Room k (A.deeper (envOfC qual (defScope st) s.heap.objs.size f cdv)) → sp vs H Q E →
      ∃ t, PSs (cxOf CX0 P w K mg base N qual (defScope st) f cdv A outer s H E).nox (defBody st) t ∧ t { nx := fun _ H' => Q .non H', rt := Q } (start N vs) H) : HasM P w K mg base CX0 (k + 1) C m ps sp := by
  obtain ⟨f, fd, F, hm, hb⟩ := F.ex
  exact ⟨f, fd, F.ok S len (fun cdv A outer s H vs Q E hr h => hbody f cdv A outer s H vs Q E hr h), hm, hb⟩
theorem IniH.has (F : IniH K mg C x qual st ps) (S : FnScope N ps (defScope st)) (len : ∀ vs H Q E, sp vs H Q E → vs.length = ps.length)
    (hbody : ∀ (f : Addr) (cdv : Value) (A : Around) (outer : List Env) (s : Shared) (H : Hp) (vs : List V) (Q : VK) (E : XK), Room k (A.deeper (envOfC qual (defScope st) s.heap.objs.size f cdv)) → sp vs H Q E →
      ∃ t, PSs (cxOf CX0 P w K mg base N qual (defScope st) f cdv A outer s H E).nox (defBody st) t ∧ t { nx := fun _ H' => Q .non H', rt := Q } (start N vs) H) : HasC P w K mg base CX0 (k + 1) C x ps sp := by
  obtain ⟨f, fd, F, hm, hx, hb⟩ := F.ex
  exact ⟨f, fd, F.ok S len (fun cdv A outer s H vs Q E hr h => hbody f cdv A outer s H vs Q E hr h), hm, hx, hb⟩
end
section
variable {X : Cx} {CX : CXT} {k : Nat} {C : Addr} {ps : List Str} {sp : Sp} {E : XK} {x m : Str} {p pos apos : Pos} {e o : Expr} {es : List Expr} {ta : TE} {t : TA}
/-- f(e, ..) -/
theorem pe_f (h : Has X.prog X.w X.K X.mg X.base CX k x ps sp) (hr : Room k X.A) (ha : PA X (e :: es) t) (hx : Passes CX X E := by exact pass0) (hg : Gl X x := by rfl) (hdb : (x == ("__debug__" : Str)) = false := by decide)
    (he : starEach (e :: es) X.env = (false, eval e X.env) :: starEach es X.env := by rfl) (hpl : (backTo pos (starEach es X.env)).any (·.1) = false := by rfl) : PE X (.Call (.Name x p) (e :: es) [] pos) (tCall sp [] E t) := by
  refine ⟨fun pins s σ H Q I hw => ?_⟩
  obtain ⟨f, fd, F, hm, hk, hb⟩ := h.ex
  exact (pe_call F hr hg hm hk hb .nil hx ha hdb he hpl).run pins s σ H Q I hw
/-- o.m(e, ..) -/
theorem pe_m {pl : Sem Bool} (ho : PE X o ta) (c : Cls X.K C) (h : HasM X.prog X.w X.K X.mg X.base CX k C m ps sp) (hr : Room k X.A) (ha : PA X (e :: es) t) (hx : Passes CX X E := by exact pass0)
    (hst : starEach (e :: es) X.env = (false, eval e X.env) :: starEach es X.env := by rfl) (hpl : (backTo pos (starEach es X.env)).any (·.1) = false := by rfl)
    (ht : eval (.Call (.Attribute o m apos) (e :: es) [] pos) X.env = (do
      let ov ← eval o X.env
      standAt apos.atName
      let (f, first) ← holding [ov] (getMethod ov m pl)
      callWith pos f first (backTo pos (starEach (e :: es) X.env)) (backToKw pos (keywordEach [] X.env))) := by rfl) :
    PE X (.Call (.Attribute o m apos) (e :: es) [] pos) (tMeth C m sp [] E ta t) := by
  refine ⟨fun pins s σ H Q I hw => ?_⟩
  obtain ⟨f, fd, F, hm, hb⟩ := h.ex
  exact (pe_meth (pl := pl) ho c hm F hr hb .nil hx ha hst hpl ht).run pins s σ H Q I hw
/-- C(e, ..) -/
theorem pe_c (h : HasC X.prog X.w X.K X.mg X.base CX k C x ps sp) (hr : Room (k + 1) X.A) (ha : PA X (e :: es) t) (hx : Passes CX X E := by exact pass0) (hg : Gl X x := by rfl) (hdb : (x == ("__debug__" : Str)) = false := by decide)
    (he : starEach (e :: es) X.env = (false, eval e X.env) :: starEach es X.env := by rfl) (hpl : (backTo pos (starEach es X.env)).any (·.1) = false := by rfl) : PE X (.Call (.Name x p) (e :: es) [] pos) (tMake C sp [] E t) := by
  refine ⟨fun pins s σ H Q I hw => ?_⟩
  obtain ⟨f, fd, F, hM, hm, hb⟩ := h.ex
  exact (pe_make hM F hr hg hm hb .nil hx ha hdb he hpl).run pins s σ H Q I hw
/-- the slots of a target's names, said as a list -/
theorem pgs_names {j : Nat} {js : List Nat} {t : Expr} {ts : List Expr} (h : PG X t (gName j)) (r : PGs X ts (gNames js)) (hs : (assignEach (t :: ts) X.env).map (·.2) = assign t X.env :: (assignEach ts X.env).map (·.2) := by rfl) : PGs X (t :: ts) (gNames (j :: js)) := pgs_cons h r hs
theorem pgs_done : PGs X [] (gNames []) := pgs_nil
/-- the built-ins' rules under names of ours -/
theorem cb_len : CallR X (.builtin "len") (rLenS X.K) := call_len_seq
theorem cb_list : CallR X (.type "list") (rListS X.K) := call_list_of
theorem cb_max2 (hc : X.calm = true) : CallR X (.builtin "max") rMax2 := call_max2 hc
theorem cb_min2 (hc : X.calm = true) : CallR X (.builtin "min") rMin2 := call_min2 hc
def rMin3 : List V → Hp → VK → Prop := fun xs H Q => ∃ i j k : Int, xs = [.int i, .int j, .int k] ∧ Q (.int (min i (min j k))) H
theorem cb_min3 (hc : X.calm = true) : CallR X (.builtin "min") rMin3 := by
  intro pins s σ H xs us Q I r h
  obtain ⟨i, j, l, rfl, q⟩ := h
  refine call_min3Nu hc pins s σ H _ us Q I r ⟨_, _, _, .int (min i (min j l)), rfl, ?_, q⟩
  have two : ∀ a b : Int, nuMin2 (.int a) (.int b) = some (.int (min a b)) := fun a b => by
    show some (if decide (b < a) = true then V.int b else V.int a) = some (.int (min a b))
    by_cases h : b < a
    · rw [decide_eq_true h, if_pos rfl, show min a b = b by omega]
    · rw [decide_eq_false h, if_neg Bool.false_ne_true, show min a b = a by omega]
  show (nuMin2 (.int i) (.int j)).bind (fun m => nuMin2 m (.int l)) = _
  rw [two]
  show nuMin2 (.int (min i j)) (.int l) = _
  rw [two, show min (min i j) l = min i (min j l) by omega]
end
/-! the rules that speak of the written part, it said -/
section
variable {X : Cx} (K : PySem.W.Frag)
theorem ix_listK (h : X.K = K := by rfl) : IxR X (rIxL K) := by subst h; exact ix_list
theorem ix_tupK (h : X.K = K := by rfl) : IxR X (rIxT K) := by subst h; exact ix_tup
theorem sl_listK (h : X.K = K := by rfl) : SlR X (rSlL K) := by subst h; exact sl_list
theorem cb_lenK (h : X.K = K := by rfl) : CallR X (.builtin "len") (rLenS K) := by subst h; exact call_len_seq
theorem cb_listK (h : X.K = K := by rfl) : CallR X (.type "list") (rListS K) := by subst h; exact call_list_of
theorem cr_sumK (h : X.K = K := by rfl) (hc : X.calm = true := by rfl) : CallR X (.builtin "sum") (rSum K) := by subst h; exact cr_sum hc
theorem cr_allK (h : X.K = K := by rfl) (hc : X.calm = true := by rfl) : CallR X (.builtin "all") (rAll K) := by subst h; exact cr_all hc
theorem cr_anyK (h : X.K = K := by rfl) (hc : X.calm = true := by rfl) : CallR X (.builtin "any") (rAny K) := by subst h; exact cr_any hc
theorem cr_maxK (h : X.K = K := by rfl) (hc : X.calm = true := by rfl) : CallR X (.builtin "max") (rMax K) := by subst h; exact cr_max hc
theorem cr_sortedK (h : X.K = K := by rfl) : CallR X (.builtin "sorted") (rSortedI K) := by subst h; exact cr_sortedI
theorem call_isiKK (h : X.K = K := by rfl) : CallR X (.builtin "isinstance") (rIsi K) := by subst h; exact call_isi
theorem op_inK (h : X.K = K := by rfl) : OpR X (compareOp .In) (rIn K false) := by subst h; exact op_in_seq
theorem op_eqDK (hu : X.A.units + 64 < cLine) (h : X.K = K := by rfl) : OpR X (compareOp .Eq) (rEqD K) := by subst h; exact op_eqD hu
theorem op_neDK (hu : X.A.units + 64 < cLine) (h : X.K = K := by rfl) : OpR X (compareOp .NotEq) (rNeD K) := by subst h; exact op_neD hu
theorem pg_tupK {es : List Expr} {k : Nat} {t : TGs} {n : Nat} {pos : Pos} (h : PGs X es t) (hK : X.K = K := by rfl) (hc : X.calm = true := by rfl)
    (hn : (assignEach es X.env).length = n := by rfl) (hst : (assignEach es X.env).findIdx? (·.1) = none := by rfl) : PG X (.Tuple es k pos) (gTup K n t) := by subst hK; exact pg_tup hc h hn hst
theorem pi_listK {tg l : Expr} {tl : TE} (hl : PE X l tl) (h : X.K = K := by rfl) : PI X tg l (iList K tl) := by subst h; exact pi_list hl
theorem pi_tupK {tg l : Expr} {tl : TE} (hl : PE X l tl) (h : X.K = K := by rfl) : PI X tg l (iTup K tl) := by subst h; exact pi_tup hl
theorem pi_enumK {e : Expr} {ta : TA} {p pos tpos : Pos} {elts : List Expr} {kk : Nat} (hm : X.mg "enumerate" = none) (ha : PA X [e] ta) (h : X.K = K := by rfl) (hg : Gl X "enumerate" := by rfl) (hs : starEach [e] X.env = [(false, eval e X.env)] := by rfl) :
    PI X (.Tuple elts kk tpos) (.Call (.Name "enumerate" p) [e] [] pos) (iEnum K ta) := by subst h; exact pi_enum hg hm ha hs
theorem pi_zipK {e e2 : Expr} {ta : TA} {p pos tpos : Pos} {elts : List Expr} {kk : Nat} (hm : X.mg "zip" = none) (ha : PA X [e, e2] ta) (h : X.K = K := by rfl) (hg : Gl X "zip" := by rfl)
    (hs : starEach [e, e2] X.env = (false, eval e X.env) :: starEach [e2] X.env := by rfl) (hpl : (backTo pos (starEach [e2] X.env)).any (·.1) = false := by rfl) :
    PI X (.Tuple elts kk tpos) (.Call (.Name "zip" p) [e, e2] [] pos) (iZip K ta) := by subst h; exact pi_zip hg hm ha hs hpl
theorem pi_revK {tg e : Expr} {ta : TA} {p pos : Pos} (hm : X.mg "reversed" = none) (ha : PA X [e] ta) (h : X.K = K := by rfl) (hg : Gl X "reversed" := by rfl) (hs : starEach [e] X.env = [(false, eval e X.env)] := by rfl) :
    PI X tg (.Call (.Name "reversed" p) [e] [] pos) (iRev K ta) := by subst h; exact pi_reversed hg hm ha hs
theorem pe_revLK {e : Expr} {te : TE} {k : Nat} {p1 p2 p3 pos : Pos} (he : PE X e te) (h : X.K = K := by rfl) : PE X (.Subscript e (.Slice none none (some (.UnaryOp .USub (.Constant (.int 1) k p1) p2)) p3) pos) (tRevL K te) := by subst h; exact pe_revL he
theorem pe_fldK {e : Expr} {ta : TE} {f : Str} {pos : Pos} (he : PE X e ta) (h : X.K = K := by rfl) (hb : attributeBase e f X.env (eval e X.env) = eval e X.env := by rfl) : PE X (.Attribute e f pos) (tFld K ta f) := by subst h; exact pe_fld he hb
theorem ps_fldK {o value : Expr} {ta tv : TE} {f : Str} {pos pos' : Pos} (ha : PE X o ta) (hv : PE X value tv) (h : X.K = K := by rfl) (hs : swapsWith value (some (.Attribute o f pos')) pos.line X.env = pure false := by rfl) :
    PS X (.Assign [.Attribute o f pos'] value pos) (sFld K ta tv f) := by subst h; exact ps_fld ha hv hs
end
/-- the built-ins that the text calls are still the built-ins -/
structure Blt (mg : Str → Option Value) : Prop where
  len : mg "len" = none
  sum : mg "sum" = none
  max : mg "max" = none
  min : mg "min" = none
  all : mg "all" = none
  any : mg "any" = none
  list : mg "list" = none
  range : mg "range" = none
  enumerate : mg "enumerate" = none
  zip : mg "zip" = none
  reversed : mg "reversed" = none
  isinstance : mg "isinstance" = none
  int : mg "int" = none
  bool : mg "bool" = none
  tuple : mg "tuple" = none
  sorted : mg "sorted" = none
end Gs

namespace Gs
open PySem PySem.Spec PyProof.Rows L2 Evl
/-! ### isinstance of data -/
def tyD : PyData → String
  | .none => "NoneType" | .bool _ => "bool" | .int _ => "int" | .str _ => "str" | .list _ => "list" | .tuple _ => "tuple" | .dict _ => "dict"
theorem Ds.ty {K : PySem.W.Frag} {H : Hp} {v : V} {d : PyData} (h : Ds H v d) : TyX K H v (.type (tyD d)) := by
  cases h with
  | non => exact .base .non
  | bl b => exact .base (.bl b)
  | int i => exact .base (.int i)
  | str x => exact .base (.str x)
  | lst h1 _ _ => exact .base (.lst h1)
  | tup h1 _ _ => exact .base (.tup h1)
section
variable {K : PySem.W.Frag} {σ : L2.St} {G : Hp} {ta : TE} {d : PyData}
theorem evd_isi {n : String} {b : Bool} (ha : EvD ta σ G d) (hb : kitB (tyD d) n = some b) : EvD (tCB (rIsi K) (tCons ta (tCons (tC (.ty n)) tNil))) σ G (.bool b) := fun H1 a Q q =>
  ha H1 a _ fun v H2 e z => ⟨v, .ty n, _, _, b, rfl, .ty n, (z.mono (gr_ex a e)).ty, kit_ty hb, q _ H2 e (.bl b)⟩
end
/-! ### how a body ends -/
section
variable {G0 H0 G H : Hp} {d : PyData} {ds : List PyData} {Q : VK}
theorem Up.retD (u : Up G0 H0 G H) (k : ∀ v H2, Ex H0 H2 → Ds (gr G0 H0 H2) v d → Q v H2) : ∀ v H2, Ex H H2 → Ds (gr G H H2) v d → Q v H2 := fun v H2 e z => k v H2 (u.data e).h ((u.data e).fin z)
theorem Up.retN (u : Up G0 H0 G H) (k : ∀ p xs H2, Ex H0 H2 → H0 p = none → H2 p = some (.lst xs) → DsA (but (gr G0 H0 H2) p) xs ds → Q (.ref p) H2) :
    ∀ p xs H2, Ex H H2 → H p = none → H2 p = some (.lst xs) → DsA (but (gr G H H2) p) xs ds → Q (.ref p) H2 := fun p xs H2 e hp h2 z => k p xs H2 (u.data e).h (none_of_ex u.h hp) h2 (z.mono (but_mono (u.data e).ex))
/-- the value in hand is handed back -/
theorem Up.outD (u : Up G0 H0 G H) (k : ∀ v H2, Ex H0 H2 → Ds (gr G0 H0 H2) v d → Q v H2) {v : V} (z : Ds G v d) : Q v H := k v H u.h (u.fin z)
theorem Up.outN (u : Up G0 H0 G H) (k : ∀ p xs H2, Ex H0 H2 → H0 p = none → H2 p = some (.lst xs) → DsA (but (gr G0 H0 H2) p) xs ds → Q (.ref p) H2) {p : Addr} {xs : List V} (h0 : H0 p = none) (g0 : G p = none) (hp : H p = some (.lst xs)) (z : DsA G xs ds) : Q (.ref p) H :=
  k p xs H u.h h0 hp (u.finN g0 z)
theorem DsA.one {vs : List V} (h : DsA H vs [d]) : ∃ v, vs = [v] ∧ Ds H v d := by
  obtain ⟨v, vr, rfl, h1, h2⟩ := h.uncons
  exact ⟨v, by rw [h2.unnil], h1⟩
theorem DsA.two {vs : List V} {d1 d2 : PyData} (h : DsA H vs [d1, d2]) : ∃ v w, vs = [v, w] ∧ Ds H v d1 ∧ Ds H w d2 := by
  obtain ⟨v, vr, rfl, h1, h2⟩ := h.uncons
  obtain ⟨w, rfl, h3⟩ := h2.one
  exact ⟨v, w, rfl, h1, h3⟩
theorem DsA.three {vs : List V} {d1 d2 d3 : PyData} (h : DsA H vs [d1, d2, d3]) : ∃ v w x, vs = [v, w, x] ∧ Ds H v d1 ∧ Ds H w d2 ∧ Ds H x d3 := by
  obtain ⟨v, vr, rfl, h1, h2⟩ := h.uncons
  obtain ⟨w, x, rfl, h3, h4⟩ := h2.two
  exact ⟨v, w, x, rfl, h1, h3, h4⟩
theorem DsA.four {vs : List V} {d1 d2 d3 d4 : PyData} (h : DsA H vs [d1, d2, d3, d4]) : ∃ v w x y, vs = [v, w, x, y] ∧ Ds H v d1 ∧ Ds H w d2 ∧ Ds H x d3 ∧ Ds H y d4 := by
  obtain ⟨v, vr, rfl, h1, h2⟩ := h.uncons
  obtain ⟨w, x, y, rfl, h3, h4, h5⟩ := h2.three
  exact ⟨v, w, x, y, rfl, h1, h3, h4, h5⟩
end
/-! ### sizes -/
/-- numbers of at most a thousand bits -/
def big : Nat := 2 ^ 1000
theorem mul_ok {i j : Int} (hi : i.natAbs < 1000 * big) (hj : j.natAbs < 1000 * big) : CMulW i j := by
  have h : 1000 * big < 2 ^ 1010 := by
    show 1000 * 2 ^ 1000 < 2 ^ 1010
    decide +kernel
  exact wide_mul (a := 1010) (b := 1010) (Nat.lt_trans hi h) (Nat.lt_trans hj h) (by decide) (by decide) (by decide)
theorem div_ok {i j : Int} (h0 : 0 < j) (hj : j.natAbs < 1000 * big) : CDivW i j := by
  have h : 1000 * big < 2 ^ 1010 := by
    show 1000 * 2 ^ 1000 < 2 ^ 1010
    decide +kernel
  exact wide_div (b := 1010) h0 (Nat.lt_trans hj h) (by decide) (by decide)
theorem big_1000000 : 1000000 < big := by
  show 1000000 < 2 ^ 1000
  decide +kernel
theorem kit_int_int : kitB "int" "int" = some true := by decide +kernel
theorem kit_bool_int : kitB "bool" "int" = some true := by decide +kernel
theorem kit_none_int : kitB "NoneType" "int" = some false := by decide +kernel
theorem kit_str_int : kitB "str" "int" = some false := by decide +kernel
theorem kit_list_int : kitB "list" "int" = some false := by decide +kernel
theorem kit_tuple_int : kitB "tuple" "int" = some false := by decide +kernel
theorem kit_int_bool : kitB "int" "bool" = some false := by decide +kernel
theorem kit_bool_bool : kitB "bool" "bool" = some true := by decide +kernel
theorem kit_int_tuple : kitB "int" "tuple" = some false := by decide +kernel
theorem kit_none_tuple : kitB "NoneType" "tuple" = some false := by decide +kernel
theorem kit_list_tuple : kitB "list" "tuple" = some false := by decide +kernel
theorem kit_str_tuple : kitB "str" "tuple" = some false := by decide +kernel
theorem kit_bool_tuple : kitB "bool" "tuple" = some false := by decide +kernel
theorem kit_tuple_tuple : kitB "tuple" "tuple" = some true := by decide +kernel
theorem kit_list_list : kitB "list" "list" = some true := by decide +kernel
theorem kit_tuple_list : kitB "tuple" "list" = some false := by decide +kernel
theorem kit_none_list : kitB "NoneType" "list" = some false := by decide +kernel
theorem kit_str_list : kitB "str" "list" = some false := by decide +kernel
theorem kit_int_list : kitB "int" "list" = some false := by decide +kernel
theorem kit_dict_list : kitB "dict" "list" = some false := by decide +kernel
end Gs
namespace Gs
open PySem L2 Evl
theorem evd_min3 {σ : St} {G : Hp} {ta tb tc : TE} {i j l : Int} (ha : EvD ta σ G (.int i)) (hb : EvD tb σ G (.int j)) (hc : EvD tc σ G (.int l)) : EvD (tCB rMin3 (tCons ta (tCons tb (tCons tc tNil)))) σ G (.int (min i (min j l))) := fun H1 a Q q =>
  ha.seq hb a fun x y H3 e zx zy => (hc.mono (ex_gr (H2 := H3) a)) H3 (gr_ex a e) _ fun z H4 e4 zz => ⟨i, j, l, by rw [zx.ofInt, zy.ofInt, zz.ofInt], q _ H4 (e.trans e4) (.int _)⟩
end Gs

/-! The program's functions, in plain Lean. -/
namespace Gs
open PySem
abbrev Day := Int × Int × Int × Int
abbrev Deed := Int × Int
def dayD (d : Day) : PyData := .tuple [.int d.1, .int d.2.1, .int d.2.2.1, .int d.2.2.2]
def deedD (d : Deed) : PyData := .tuple [.int d.1, .int d.2]
def intsD (l : List Int) : PyData := .list (l.map PyData.int)
def daysD (l : List Day) : PyData := .list (l.map dayD)
def deedsD (l : List Deed) : PyData := .list (l.map deedD)
def isNum : PyData → Bool
  | .int n => decide (0 ≤ n)
  | _ => false
def areNums (d : PyData) (m : Int) : Bool := match d with
  | .tuple xs => decide ((xs.length : Int) = m) && (xs.map isNum).all id
  | _ => false
def nights : Int → List Deed → List Int
  | _, [] => []
  | left, d :: ds => (left + d.1 - d.2) :: nights (left + d.1 - d.2) ds
def leftOf (left : Int) (ds : List Deed) : Int := ds.foldl (fun l d => l + d.1 - d.2) left
def gainD (day : Day) (deed : Deed) : Int := deed.2 * day.2.2.1 - deed.1 * day.1
def gainOf (days : List Day) (dealing : List Deed) : Int := (List.zipWith gainD days dealing).sum
/-- whether a deed can be, behind which left is stored -/
def okDeed (day : Day) (room left : Int) (deed : Deed) : Bool := decide (0 ≤ deed.1) && decide (deed.1 ≤ day.2.1) && (decide (0 ≤ deed.2) && decide (deed.2 ≤ day.2.2.2)) && (decide (0 ≤ left) && decide (left ≤ room))
/-- the first place (from at on) where it can't be -/
def faultFrom : List Day → Int → Int → Int → List Deed → Int
  | day :: days, room, left, at_, d :: ds => if okDeed day room (left + d.1 - d.2) d = true then faultFrom days room (left + d.1 - d.2) (at_ + 1) ds else at_
  | _, _, _, _, _ => -1
def faultOf (days : List Day) (room : Int) (dealing : List Deed) : Int := faultFrom days room 0 0 dealing
def goodDay (d : Day) : Prop := 0 ≤ d.1 ∧ 0 ≤ d.2.1 ∧ 0 ≤ d.2.2.1 ∧ 0 ≤ d.2.2.2
def smallDay (d : Day) : Prop := d.1.natAbs < big ∧ d.2.1.natAbs < big ∧ d.2.2.1.natAbs < big ∧ d.2.2.2.natAbs < big
def smallDeed (d : Deed) : Prop := d.1.natAbs < big ∧ d.2.natAbs < big
theorem nights_length : ∀ (l : Int) (ds : List Deed), (nights l ds).length = ds.length
  | _, [] => rfl
  | l, d :: ds => by
    show (nights _ ds).length + 1 = ds.length + 1
    rw [nights_length]
theorem take_succ_of {α : Type} : ∀ {l : List α} {i : Nat} {x : α}, l[i]? = some x → l.take (i + 1) = l.take i ++ [x]
  | [], i, x, h => by simp at h
  | a :: l, 0, x, h => by
    have e : a = x := Option.some.inj h
    subst e; rfl
  | a :: l, i + 1, x, h => by
    show a :: l.take (i + 1) = a :: l.take i ++ [x]
    rw [take_succ_of (l := l) (i := i) (x := x) h]; rfl
theorem leftOf_append (l : Int) (a b : List Deed) : leftOf l (a ++ b) = leftOf (leftOf l a) b := List.foldl_append
theorem nights_append : ∀ (l : Int) (a b : List Deed), nights l (a ++ b) = nights l a ++ nights (leftOf l a) b
  | _, [], _ => rfl
  | l, d :: a, b => by
    show (l + d.1 - d.2) :: nights (l + d.1 - d.2) (a ++ b) = (l + d.1 - d.2) :: nights (l + d.1 - d.2) a ++ nights (leftOf (l + d.1 - d.2) a) b
    rw [nights_append]; rfl
end Gs
namespace Gs
open PySem L2 Evl
theorem z_seq {t u : TS} {D : Ends} {σ : St} {H : Hp} (h : t { D with nx := u D } σ H) : tSeq t u D σ H := h
theorem map_get {α β : Type} {f : α → β} {l : List α} {i : Nat} {y : β} (h : (l.map f)[i]? = some y) : ∃ x, l[i]? = some x ∧ y = f x := by
  rw [List.getElem?_map] at h
  cases q : l[i]? with
  | none => rw [q] at h; cases h
  | some x => rw [q] at h; exact ⟨x, rfl, (Option.some.inj h).symm⟩
theorem tuple_inj {a b : List PyData} (h : PyData.tuple a = PyData.tuple b) : a = b := by cases h; rfl
theorem stp_deed {l : List Deed} {j k i : Nat} {G : Hp} {σ σ' : St} (h : STp (l.map deedD) [j, k] i G σ σ') : ∃ d, l[i]? = some d ∧ σ' = (σ.set j (some (.int d.1))).set k (some (.int d.2)) := by
  obtain ⟨vs, es, h1, h2, h3⟩ := h
  obtain ⟨d, hd, e⟩ := map_get h1
  have e := tuple_inj e
  subst e
  obtain ⟨v, w, rfl, z1, z2⟩ := h2.two
  cases z1; cases z2
  cases h3 with
  | cons h3 => cases h3 with
    | cons h3 => cases h3; exact ⟨d, hd, rfl⟩
theorem stp_day {l : List Day} {j k m n i : Nat} {G : Hp} {σ σ' : St} (h : STp (l.map dayD) [j, k, m, n] i G σ σ') : ∃ d, l[i]? = some d ∧ σ' = (((σ.set j (some (.int d.1))).set k (some (.int d.2.1))).set m (some (.int d.2.2.1))).set n (some (.int d.2.2.2)) := by
  obtain ⟨vs, es, h1, h2, h3⟩ := h
  obtain ⟨d, hd, e⟩ := map_get h1
  have e := tuple_inj e
  subst e
  obtain ⟨v, w, x, y, rfl, z1, z2, z3, z4⟩ := h2.four
  cases z1; cases z2; cases z3; cases z4
  cases h3 with
  | cons h3 => cases h3 with
    | cons h3 => cases h3 with
      | cons h3 => cases h3 with
        | cons h3 => cases h3; exact ⟨d, hd, rfl⟩
theorem deed_tuples (l : List Deed) : ∀ d ∈ l.map deedD, ∃ es, d = .tuple es ∧ es.length = 2 := fun d hd => by
  obtain ⟨x, _, rfl⟩ := List.mem_map.mp hd
  exact ⟨_, rfl, rfl⟩
theorem day_tuples (l : List Day) : ∀ d ∈ l.map dayD, ∃ es, d = .tuple es ∧ es.length = 4 := fun d hd => by
  obtain ⟨x, _, rfl⟩ := List.mem_map.mp hd
  exact ⟨_, rfl, rfl⟩
/-- a tuple's items stored at names, at once -/
theorem g_tup {K : PySem.W.Frag} {js : List Nat} {m : Nat} {v : V} {es : List PyData} {G H : Hp} {σ : St} {Kk : St → Hp → Prop} (z : Ds G v (.tuple es)) (a : Ex G H) (h1 : es.length = m) (h2 : js.length = m) (k : ∀ vs σ', DsA G vs es → GSet vs js σ σ' → Kk σ' H) : gTup K m (gNames js) v σ H Kk := by
  obtain ⟨p, xs, rfl, hp, hx⟩ := z.ofTuple
  exact ⟨p, xs, rfl, SqT.of (a _ _ hp), by rw [hx.1, h1], gNames_run (by rw [hx.1, h1, h2]) fun σ' g => k xs σ' hx g⟩
theorem g_deed {K : PySem.W.Frag} {j k : Nat} {v : V} {d : Deed} {G H : Hp} {σ : St} {Kk : St → Hp → Prop} (z : Ds G v (deedD d)) (a : Ex G H) (q : Kk ((σ.set j (some (.int d.1))).set k (some (.int d.2))) H) : gTup K 2 (gNames [j, k]) v σ H Kk :=
  g_tup z a rfl rfl fun vs σ' h2 h3 => by
    obtain ⟨v, w, rfl, z1, z2⟩ := h2.two
    cases z1; cases z2
    cases h3 with
    | cons h3 => cases h3 with
      | cons h3 => cases h3; exact q
theorem g_day {K : PySem.W.Frag} {j k m n : Nat} {v : V} {d : Day} {G H : Hp} {σ : St} {Kk : St → Hp → Prop} (z : Ds G v (dayD d)) (a : Ex G H) (q : Kk ((((σ.set j (some (.int d.1))).set k (some (.int d.2.1))).set m (some (.int d.2.2.1))).set n (some (.int d.2.2.2))) H) : gTup K 4 (gNames [j, k, m, n]) v σ H Kk :=
  g_tup z a rfl rfl fun vs σ' h2 h3 => by
    obtain ⟨v, w, x, y, rfl, z1, z2, z3, z4⟩ := h2.four
    cases z1; cases z2; cases z3; cases z4
    cases h3 with
    | cons h3 => cases h3 with
      | cons h3 => cases h3 with
        | cons h3 => cases h3 with
          | cons h3 => cases h3; exact q
theorem atI_map {α : Type} {f : α → PyData} {l : List α} {i : Nat} {x : α} (h : l[i]? = some x) : atI (l.map f) (i : Int) = some (f x) := atI_nat (by rw [List.getElem?_map, h]; rfl)
theorem lt_of_get {α : Type} {l : List α} {i : Nat} {x : α} (h : l[i]? = some x) : i < l.length := (List.getElem?_eq_some_iff.mp h).1
theorem get_of_lt {α : Type} {l : List α} {i : Nat} (h : i < l.length) : ∃ x, l[i]? = some x := ⟨_, List.getElem?_eq_getElem h⟩
end Gs
namespace Gs
open PySem L2
theorem z_next {D : Ends} {σ : St} {H : Hp} (h : D.nx σ H) : tNext D σ H := h
end Gs
namespace Gs
open PySem L2 Evl
section
variable {K : PySem.W.Frag} {σ : St} {G H : Hp} {ta tb tc te tl tx : TE} {t tt : TT} {d e : PyData} {ds es : List PyData} {D : Ends} {tu tw u : TS} {g : TG}
theorem q_set {i : Nat} (a : Ex G H) (h : EvD te σ G d) (k : ∀ v H2, Ex H H2 → Ds (gr G H H2) v d → u D (σ.set i (some v)) H2) : tSeq (tAsg te (gName i)) u D σ H := z_seq (z_set a h k)
theorem q_setI {i : Nat} {n : Int} (a : Ex G H) (h : EvD te σ G (.int n)) (k : ∀ H2, Ex H H2 → u D (σ.set i (some (.int n))) H2) : tSeq (tAsg te (gName i)) u D σ H := z_seq (z_setI a h k)
theorem q_setB {i : Nat} {n : Bool} (a : Ex G H) (h : EvD te σ G (.bool n)) (k : ∀ H2, Ex H H2 → u D (σ.set i (some (.bl n))) H2) : tSeq (tAsg te (gName i)) u D σ H := z_seq (z_setB a h k)
theorem q_setZ {i : Nat} (a : Ex G H) (h : EvD te σ G .none) (k : ∀ H2, Ex H H2 → u D (σ.set i (some .non)) H2) : tSeq (tAsg te (gName i)) u D σ H := z_seq (z_setZ a h k)
theorem q_setN {i : Nat} (a : Ex G H) (h : EvN te σ G ds) (k : ∀ p vs H2, Ex H H2 → H p = none → H2 p = some (.lst vs) → DsA (but (gr G H H2) p) vs ds → u D (σ.set i (some (.ref p))) H2) : tSeq (tAsg te (gName i)) u D σ H := z_seq (z_setN a h k)
theorem q_if {b : Bool} (a : Ex G H) (h : EvT t σ G b) (h1 : b = true → ∀ H2, Ex H H2 → tu { D with nx := u D } σ H2) (h2 : b = false → ∀ H2, Ex H H2 → tw { D with nx := u D } σ H2) : tSeq (tIfS t tu tw) u D σ H := z_seq (z_if a h h1 h2)
theorem q_if1 {b : Bool} (a : Ex G H) (h : EvT t σ G b) (h1 : b = true → ∀ H2, Ex H H2 → tu { D with nx := u D } σ H2) (h2 : b = false → ∀ H2, Ex H H2 → u D σ H2) : tSeq (tIfS t tu tNext) u D σ H := z_seq (z_if a h h1 h2)
theorem z_if1 {b : Bool} (a : Ex G H) (h : EvT t σ G b) (h1 : b = true → ∀ H2, Ex H H2 → tu D σ H2) (h2 : b = false → ∀ H2, Ex H H2 → D.nx σ H2) : tIfS t tu tNext D σ H := z_if a h h1 h2
theorem q_drop (a : Ex G H) (h : EvD te σ G d) (k : ∀ H2, Ex H H2 → u D σ H2) : tSeq (tDrop te) u D σ H := z_seq (z_drop a h k)
theorem q_app {i : Nat} {l : Addr} {xs : List V} (a : Ex G H) (hs : σ[i]? = some (some (.ref l))) (hl : H l = some (.lst xs)) (h : EvD te σ G d) (hz : xs.length < 100000)
    (k : ∀ v H2, Ex H H2 → Ds (gr G H H2) v d → u D σ (upd H2 l (.lst (xs ++ [v])))) : tSeq (tDrop (tBM K "list" rAppend (tVar i) (tCons te tNil))) u D σ H := z_seq (z_app a hs hl h hz k)
theorem q_for {wi : TI} {n : Nat} {S : Nat → Hp → St → St → Prop} (a : Ex G H) (hs : Src wi g σ G n S)
    (k : ∀ H2, Ex H H2 → ∃ Pv : Nat → St → Hp → Hp → Prop, Pv 0 σ (gr G H H2) H2 ∧ (∀ i σ' G' H', Pv i σ' G' H' → Ex (gr G H H2) G' ∧ Ex G' H') ∧
      (∀ i σ' G' H' H3 σ3, i < n → Pv i σ' G' H' → Ex H' H3 → S i (gr G' H' H3) σ' σ3 → tu { D with nx := Px Pv (i + 1), ct := Px Pv (i + 1), bk := u D } σ3 H3) ∧
      (∀ σ' G' H', Pv n σ' G' H' → u D σ' H')) : tSeq (tFor wi g tu) u D σ H := z_seq (z_for a hs k)
/-- a, b, .. = e -/
theorem q_deed {x : Deed} {j k : Nat} (a : Ex G H) (h : EvD te σ G (deedD x)) (q : ∀ H2, Ex H H2 → u D ((σ.set j (some (.int x.1))).set k (some (.int x.2))) H2) : tSeq (tAsg te (gTup K 2 (gNames [j, k]))) u D σ H :=
  z_seq (h H a _ fun v H2 e z => g_deed z (gr_ex a e) (q H2 e))
theorem q_day {x : Day} {j k m n : Nat} (a : Ex G H) (h : EvD te σ G (dayD x)) (q : ∀ H2, Ex H H2 → u D ((((σ.set j (some (.int x.1))).set k (some (.int x.2.1))).set m (some (.int x.2.2.1))).set n (some (.int x.2.2.2))) H2) : tSeq (tAsg te (gTup K 4 (gNames [j, k, m, n]))) u D σ H :=
  z_seq (h H a _ fun v H2 e z => g_day z (gr_ex a e) (q H2 e))
theorem z_fall (h : u D σ H) : ({ D with nx := u D } : Ends).nx σ H := h
end
end Gs
namespace Gs
open PySem L2 Evl
section
variable {K : PySem.W.Frag} {σ : St} {G H : Hp} {ta tb tc te tl tx : TE} {t tt : TT} {d e : PyData} {ds es : List PyData}
theorem range_zip {α β : Type} (F : α → β → PyData) (l : List α) (m : List β) : (List.range (min l.length m.length)).map (fun i => match l[i]?, m[i]? with
    | some x, some y => F x y
    | _, _ => PyData.none) = List.zipWith F l m := by
  apply List.ext_getElem?
  intro i
  rw [List.getElem?_map, List.getElem?_zipWith]
  by_cases hi : i < min l.length m.length
  · rw [List.getElem?_range hi]
    have h1 : i < l.length := by omega
    have h2 : i < m.length := by omega
    rw [List.getElem?_eq_getElem h1, List.getElem?_eq_getElem h2]
    simp [h1, h2]
  · rw [List.getElem?_eq_none (by simpa using hi)]
    by_cases h1 : i < l.length
    · rw [List.getElem?_eq_none (l := m) (by omega)]
      cases l[i]? <;> rfl
    · rw [List.getElem?_eq_none (l := l) (by omega)]
      rfl
theorem evn_lcZ {α β : Type} {l : List α} {m : List β} {f : α → PyData} {g : β → PyData} {j k : Nat} {vs : List Nat} (F : α → β → PyData) (ha : EvD ta σ G (.list (l.map f))) (hb : EvD tb σ G (.list (m.map g))) (hz : l.length ≤ 40000)
    (hw : ∀ x y, wipe (((wipe σ vs).set j (some x)).set k (some y)) vs = wipe σ vs)
    (he : ∀ Gx v w x y, Ex G Gx → x ∈ l → y ∈ m → Ds Gx v (f x) → Ds Gx w (g y) → EvD te (((wipe σ vs).set j (some v)).set k (some w)) Gx (F x y)) :
    EvN (tLc (iZip K (tCons ta (tCons tb tNil))) (gTup K 2 (gNames [j, k])) tYes te vs) σ G (List.zipWith F l m) := by
  have hs := src_zip (K := K) (j := j) (k := k) ha hb
  rw [List.length_map, List.length_map] at hs
  have := evn_lc (tt := tYes) (te := te) (vs := vs) hs (by omega) (fun _ => true) (fun i => match l[i]?, m[i]? with
      | some x, some y => F x y
      | _, _ => PyData.none) (fun i Gx σ' hS => by
      obtain ⟨v, w, d, e, _, _, _, _, rfl⟩ := hS
      exact hw v w) (fun i Gx σ' _ _ _ H1 _ Q q => q H1 (Ex.refl _)) (fun i Gx σ' _ gx hS _ => by
      obtain ⟨v, w, d, e, h1, h2, z1, z2, rfl⟩ := hS
      obtain ⟨x, hx, rfl⟩ := map_get h1
      obtain ⟨y, hy, rfl⟩ := map_get h2
      rw [hx, hy]
      exact he Gx v w x y gx (List.mem_of_getElem? hx) (List.mem_of_getElem? hy) z1 z2)
  rwa [givenD_all, range_zip] at this
theorem map_int_of {l : List PyData} {ns : List Int} (h : l = ns.map PyData.int) (z : EvN te σ G l) : EvD te σ G (.list (ns.map PyData.int)) := (z.to h).asD
end
theorem faultFrom_drop {days : List Day} {room : Int} {dealing : List Deed} {left : Int} {at_ : Int} {i : Nat} {x : Day} {d : Deed} (hx : days[i]? = some x) (hd : dealing[i]? = some d) :
    faultFrom (days.drop i) room left at_ (dealing.drop i) = if okDeed x room (left + d.1 - d.2) d = true then faultFrom (days.drop (i + 1)) room (left + d.1 - d.2) (at_ + 1) (dealing.drop (i + 1)) else at_ := by
  have h1 : days.drop i = x :: days.drop (i + 1) := by
    rw [List.drop_eq_getElem_cons (lt_of_get hx)]
    congr 1
    rw [List.getElem?_eq_getElem (lt_of_get hx)] at hx
    exact Option.some.inj hx
  have h2 : dealing.drop i = d :: dealing.drop (i + 1) := by
    rw [List.drop_eq_getElem_cons (lt_of_get hd)]
    congr 1
    rw [List.getElem?_eq_getElem (lt_of_get hd)] at hd
    exact Option.some.inj hd
  rw [h1, h2]
  rfl
theorem nights_get {l : List Deed} {i : Nat} {d : Deed} (h : l[i]? = some d) : ∀ left, (nights left l)[i]? = some (leftOf left (l.take i) + d.1 - d.2) := fun left => by
  have e : l = l.take i ++ d :: l.drop (i + 1) := by
    have h2 : l.drop i = d :: l.drop (i + 1) := by
      rw [List.drop_eq_getElem_cons (lt_of_get h)]
      congr 1
      rw [List.getElem?_eq_getElem (lt_of_get h)] at h
      exact Option.some.inj h
    rw [← h2, List.take_append_drop]
  have hl : (nights left (l.take i)).length = i := by
    rw [nights_length, List.length_take]
    have := lt_of_get h
    omega
  conv => lhs; rw [e]
  rw [nights_append, List.getElem?_append_right (by rw [hl]; exact Nat.le_refl _), hl, Nat.sub_self]
  rfl
end Gs

/-! == of data made of numbers, lists, tuples; the script's own rules. -/
namespace Gs
open PySem L2 Evl
def plain : Nat → PyData → Bool
  | _, .int _ => true
  | _, .bool _ => true
  | n + 1, .list xs => xs.all (plain n)
  | n + 1, .tuple xs => xs.all (plain n)
  | _, _ => false
mutual
theorem plain_lay : ∀ (d : PyData) (n : Nat), plain n d = true → d.canLay0 = true ∧ d.depth ≤ n
  | .int _, n, _ => ⟨by simp [PyData.canLay0], by simp [PyData.depth]⟩
  | .bool _, n, _ => ⟨by simp [PyData.canLay0], by simp [PyData.depth]⟩
  | .none, 0, h => by simp [plain] at h
  | .none, n + 1, h => by simp [plain] at h
  | .str _, 0, h => by simp [plain] at h
  | .str _, n + 1, h => by simp [plain] at h
  | .dict _, 0, h => by simp [plain] at h
  | .dict _, n + 1, h => by simp [plain] at h
  | .list xs, 0, h => by simp [plain] at h
  | .tuple xs, 0, h => by simp [plain] at h
  | .list xs, n + 1, h => by
    have q := plain_layAll xs n (by simpa [plain] using h)
    exact ⟨by simp only [PyData.canLay0]; exact q.1, by simp only [PyData.depth]; omega⟩
  | .tuple xs, n + 1, h => by
    have q := plain_layAll xs n (by simpa [plain] using h)
    exact ⟨by simp only [PyData.canLay0]; exact q.1, by simp only [PyData.depth]; omega⟩
theorem plain_layAll : ∀ (ds : List PyData) (n : Nat), (∀ d ∈ ds, plain n d = true) → PyData.canLayAll0 ds = true ∧ PyData.depthAll ds ≤ n
  | [], n, _ => ⟨by simp [PyData.canLayAll0], by simp [PyData.depthAll]⟩
  | d :: ds, n, h => by
    have q1 := plain_lay d n (h d List.mem_cons_self)
    have q2 := plain_layAll ds n fun x hx => h x (List.mem_cons_of_mem _ hx)
    exact ⟨by simp only [PyData.canLayAll0, q1.1, q2.1]; rfl, by simp only [PyData.depthAll]; omega⟩
end
theorem shaped_of {d : PyData} (n : Nat) (h : plain n d = true) (hn : n ≤ 64 := by decide) : SeqAt.shaped d = true := by
  obtain ⟨h1, h2⟩ := plain_lay d n h
  unfold SeqAt.shaped
  rw [h1, decide_eq_true (Nat.le_trans h2 hn)]
  rfl
theorem eqv_self {d : PyData} (n : Nat) (h : plain n d = true) : PyData.eqv d d = true := SeqAt.eqv_refl d (plain_lay d n h).1
theorem plain_ints (ns : List Int) : plain 1 (.list (ns.map PyData.int)) = true := by
  simp [plain]
theorem plain_day (d : Day) : plain 1 (dayD d) = true := rfl
theorem plain_deed (d : Deed) : plain 1 (deedD d) = true := rfl
theorem plain_days (l : List Day) : plain 2 (daysD l) = true := by
  show ((l.map dayD).all (plain 1)) = true
  rw [List.all_map]
  exact List.all_eq_true.mpr fun x _ => plain_day x
theorem plain_deeds (l : List Deed) : plain 2 (deedsD l) = true := by
  show ((l.map deedD).all (plain 1)) = true
  rw [List.all_map]
  exact List.all_eq_true.mpr fun x _ => plain_deed x
/-! ### the script (a list of the caller's, read) -/
section
variable {K : PySem.W.Frag} {σ : St} {G G' H : Hp} {l : Addr} {ns : List Int} {j : Nat}
/-- the script stands in slot j -/
def Scr (K : PySem.W.Frag) (G : Hp) (l : Addr) (ns : List Int) : Prop := SqL K G l (ns.map V.int)
theorem Scr.mono (h : Scr K G l ns) (e : Ex G G') : Scr K G' l ns := ex_l e h
theorem evd_sumS (h : Scr K G l ns) (e : σ[j]? = some (some (.ref l))) : EvD (tCB (rSum K) (tCons (tVar j) tNil)) σ G (.int ns.sum) := fun H1 a Q q => ⟨_, e, l, ns, rfl, h.mono a, q _ H1 (Ex.refl _) (.int _)⟩
theorem evd_lenS (h : Scr K G l ns) (e : σ[j]? = some (some (.ref l))) : EvD (tCB (rLenS K) (tCons (tVar j) tNil)) σ G (.int (ns.length : Int)) := fun H1 a Q q => by
  refine ⟨_, e, l, ns.map V.int, rfl, .inl (h.mono a), ?_⟩
  rw [List.length_map]
  exact q _ H1 (Ex.refl _) (.int _)
theorem evd_ixS {tb : TE} {i n : Int} (h : Scr K G l ns) (e : σ[j]? = some (some (.ref l))) (hb : EvD tb σ G (.int i)) (hi : atI ns i = some n) : EvD (tOp (rIxL K) (tVar j) tb) σ G (.int n) := fun H1 a Q q =>
  ⟨_, e, hb H1 a _ fun v H2 e2 z => ⟨l, ns.map V.int, i, .int n, rfl, z.ofInt, (h.mono a).mono e2, by
    unfold atI at hi ⊢
    rw [List.length_map]
    cases r : ixN ns.length i with
    | none => rw [r] at hi; cases hi
    | some k =>
      rw [r] at hi
      show (ns.map V.int)[k]? = _
      rw [List.getElem?_map]
      have hi : ns[k]? = some n := hi
      rw [hi]
      rfl, q _ H2 e2 (.int _)⟩⟩
theorem dpAll_ints {H : Hp} : ∀ ns : List Int, DpAll K H (ns.map V.int) (ns.map PyData.int)
  | [] => .nil
  | n :: ns => .cons (.int n) (dpAll_ints ns)
theorem Scr.dp (h : Scr K G l ns) : Dp K G (.ref l) (.list (ns.map PyData.int)) := .lst h (dpAll_ints ns)
/-- script != [] -/
theorem evd_neS (h : Scr K G l ns) (e : σ[j]? = some (some (.ref l))) : EvD (tOp (rNeD K) (tVar j) (tLst tNil)) σ G (.bool (!ns.isEmpty)) := fun H1 a Q q =>
  ⟨_, e, Nat.zero_le _, fun p hp => ⟨_, .list [], ((h.mono a).mono (Ex.new hp)).dp, .lst (SqL.of upd_same) .nil, shaped_of 1 (plain_ints ns), shaped_of 1 rfl, by
    have : PyData.eqv (.list (ns.map PyData.int)) (.list []) = ns.isEmpty := by cases ns <;> simp [PyData.eqv, PyData.eqvAll]
    rw [this]
    exact q _ _ (Ex.new hp) (.bl _)⟩⟩
end
end Gs

/-! What the laws build from a script, in plain Lean. -/
namespace Gs
open PySem L2 Evl
def pick (l : List Int) (i : Int) : Int := l.getD i.toNat 0
theorem pick_at {l : List Int} {i : Int} (h0 : 0 ≤ i) (h : i < l.length) : atI (l.map PyData.int) i = some (.int (pick l i)) := by
  obtain ⟨n, rfl⟩ := Int.eq_ofNat_of_zero_le h0
  have hn : n < l.length := by omega
  refine atI_nat ?_
  rw [List.getElem?_map, List.getElem?_eq_getElem hn]
  unfold pick
  rw [Int.toNat_natCast, List.getD_eq_getElem?_getD, List.getElem?_eq_getElem hn]
  rfl
theorem pick_mem {l : List Int} {i : Int} (h0 : 0 ≤ i) (h : i < l.length) : pick l i ∈ l := by
  obtain ⟨n, rfl⟩ := Int.eq_ofNat_of_zero_le h0
  have hn : n < l.length := by omega
  unfold pick
  rw [Int.toNat_natCast, List.getD_eq_getElem?_getD, List.getElem?_eq_getElem hn]
  exact List.getElem_mem hn
def highs : List Int := [6, 40, 10 ^ (20 : Int).toNat, 3]
def mosts : List Int := [3, 30, 10 ^ (25 : Int).toNat, 2]
def highOf (m : Int) : Int := pick highs (m % 4)
def mostOf (m : Int) : Int := pick mosts (m / 4 % 4)
def otherOf (m c : Int) : Int := if m / 16 % 3 > 0 then c / 7 % highOf m else c % highOf m + c / 7 % 3 - 1
def dayOf (m : Int) (i : Nat) (c : Int) : Day := (c % highOf m, c / 11 % mostOf m, max 0 (otherOf m c), (c + (i : Int)) / 13 % mostOf m)
def daysFrom (m : Int) : Nat → List Int → List Day
  | _, [] => []
  | i, c :: cs => dayOf m i c :: daysFrom m (i + 1) cs
def moreDays (m : Int) (l : List Day) : List Day := (List.range (70 + m % 20).toNat).map fun (i : Nat) => l.getD (((i : Int) * (i : Int) + (i : Int) / 7) % (l.length : Int)).toNat (0, 0, 0, 0)
def lawDays (s : List Int) : List Day := if s.sum / 48 % 9 = 2 ∧ s ≠ [] then moreDays s.sum (daysFrom s.sum 0 s) else daysFrom s.sum 0 s
def rooms (m : Int) : List Int := [0, 1 + m / 5 % 4, 7 + m / 5 % 40, 10 ^ (24 : Int).toNat + m % 1000, 10 ^ (60 : Int).toNat]
def lawRoom (s : List Int) : Int := pick (rooms s.sum) (s.sum / 3 % 5)
theorem daysFrom_append (m : Int) : ∀ (i : Nat) (a b : List Int), daysFrom m i (a ++ b) = daysFrom m i a ++ daysFrom m (i + a.length) b
  | i, [], b => by simp [daysFrom]
  | i, c :: a, b => by
    show dayOf m i c :: daysFrom m (i + 1) (a ++ b) = dayOf m i c :: daysFrom m (i + 1) a ++ daysFrom m (i + (a.length + 1)) b
    rw [daysFrom_append m (i + 1) a b, show i + 1 + a.length = i + (a.length + 1) by omega]
    rfl
theorem daysFrom_length (m : Int) : ∀ (i : Nat) (a : List Int), (daysFrom m i a).length = a.length
  | _, [] => rfl
  | i, c :: a => by
    show (daysFrom m (i + 1) a).length + 1 = a.length + 1
    rw [daysFrom_length]
theorem high_pos (m : Int) : 0 < highOf m ∧ highOf m ≤ 10 ^ 20 := by
  have h := pick_mem (l := highs) (i := m % 4) (by omega) (by show m % 4 < 4; omega)
  have : ∀ x ∈ highs, 0 < x ∧ x ≤ 10 ^ 20 := by decide +kernel
  exact this _ h
theorem most_pos (m : Int) : 0 < mostOf m ∧ mostOf m ≤ 10 ^ 25 := by
  have h := pick_mem (l := mosts) (i := m / 4 % 4) (by omega) (by show m / 4 % 4 < 4; omega)
  have : ∀ x ∈ mosts, 0 < x ∧ x ≤ 10 ^ 25 := by decide +kernel
  exact this _ h
/-- what the laws' days are -/
def lawDay (d : Day) : Prop := (0 ≤ d.1 ∧ d.1 ≤ 10 ^ 20) ∧ (0 ≤ d.2.1 ∧ d.2.1 ≤ 10 ^ 25) ∧ (0 ≤ d.2.2.1 ∧ d.2.2.1 ≤ 10 ^ 20 + 2) ∧ (0 ≤ d.2.2.2 ∧ d.2.2.2 ≤ 10 ^ 25)
theorem big_law : (10 ^ 62 : Int) < big := by
  show ((10 ^ 62 : Int)) < ((2 ^ 1000 : Nat) : Int)
  decide +kernel
theorem lawDay.good {d : Day} (h : lawDay d) : goodDay d := ⟨h.1.1, h.2.1.1, h.2.2.1.1, h.2.2.2.1⟩
theorem lawDay.small {d : Day} (h : lawDay d) : smallDay d := by
  have := big_law
  obtain ⟨⟨h1, h2⟩, ⟨h3, h4⟩, ⟨h5, h6⟩, h7, h8⟩ := h
  exact ⟨by omega, by omega, by omega, by omega⟩
theorem dayOf_law (m : Int) (i : Nat) (c : Int) : lawDay (dayOf m i c) := by
  obtain ⟨h1, h2⟩ := high_pos m
  obtain ⟨h3, h4⟩ := most_pos m
  have a1 := Int.emod_nonneg c (show highOf m ≠ 0 by omega)
  have a2 := Int.emod_lt_of_pos c h1
  have a3 := Int.emod_nonneg (c / 11) (show mostOf m ≠ 0 by omega)
  have a4 := Int.emod_lt_of_pos (c / 11) h3
  have a5 := Int.emod_nonneg ((c + (i : Int)) / 13) (show mostOf m ≠ 0 by omega)
  have a6 := Int.emod_lt_of_pos ((c + (i : Int)) / 13) h3
  have a7 := Int.emod_nonneg (c / 7) (show highOf m ≠ 0 by omega)
  have a8 := Int.emod_lt_of_pos (c / 7) h1
  refine ⟨⟨a1, ?_⟩, ⟨a3, ?_⟩, ⟨?_, ?_⟩, ⟨a5, ?_⟩⟩
  · show c % highOf m ≤ _; omega
  · show c / 11 % mostOf m ≤ _; omega
  · show 0 ≤ max 0 (otherOf m c); omega
  · show max 0 (otherOf m c) ≤ _
    unfold otherOf
    split <;> omega
  · show (c + (i : Int)) / 13 % mostOf m ≤ _; omega
theorem daysFrom_law (m : Int) : ∀ (i : Nat) (s : List Int), ∀ d ∈ daysFrom m i s, lawDay d
  | _, [], d, h => by simp [daysFrom] at h
  | i, c :: s, d, h => by
    rcases List.mem_cons.mp (show d ∈ dayOf m i c :: daysFrom m (i + 1) s from h) with rfl | h
    · exact dayOf_law m i c
    · exact daysFrom_law m (i + 1) s d h
theorem zero_law : lawDay (0, 0, 0, 0) := by refine ⟨⟨by decide, ?_⟩, ⟨by decide, ?_⟩, ⟨by decide, ?_⟩, ⟨by decide, ?_⟩⟩ <;> decide +kernel
theorem lawDays_law (s : List Int) : ∀ d ∈ lawDays s, lawDay d := by
  intro d h
  unfold lawDays at h
  split at h
  · obtain ⟨i, _, rfl⟩ := List.mem_map.mp h
    rw [List.getD_eq_getElem?_getD]
    cases q : (daysFrom s.sum 0 s)[(((i : Int) * (i : Int) + (i : Int) / 7) % ((daysFrom s.sum 0 s).length : Int)).toNat]? with
    | none => exact zero_law
    | some x => exact daysFrom_law _ _ _ _ (List.mem_of_getElem? q)
  · exact daysFrom_law _ _ _ d h
theorem lawDays_length (s : List Int) (h : s.length ≤ 63) : (lawDays s).length ≤ 100 := by
  unfold lawDays
  split
  · unfold moreDays
    rw [List.length_map, List.length_range]
    omega
  · rw [daysFrom_length]; omega
theorem lawDays_nil : lawDays [] = [] := rfl
theorem room_law (s : List Int) : 0 ≤ lawRoom s ∧ lawRoom s ≤ 10 ^ 60 := by
  have h := pick_mem (l := rooms s.sum) (i := s.sum / 3 % 5) (by omega) (by show s.sum / 3 % 5 < 5; omega)
  unfold rooms at h
  show 0 ≤ pick _ _ ∧ pick _ _ ≤ _
  simp only [List.mem_cons, List.not_mem_nil, or_false] at h
  have e24 : (10 : Int) ^ (24 : Int).toNat = 10 ^ 24 := rfl
  have e60 : (10 : Int) ^ (60 : Int).toNat = 10 ^ 60 := rfl
  rw [e24, e60] at h
  show 0 ≤ pick (rooms s.sum) (s.sum / 3 % 5) ∧ pick (rooms s.sum) (s.sum / 3 % 5) ≤ 10 ^ 60
  unfold rooms
  rw [e24, e60]
  rcases h with h | h | h | h | h <;> rw [h] <;> omega
/-- a list of ours that is changed no more -/
theorem Up.adopt {G0 H0 G H : Hp} {p : Addr} {o : HO} (u : Up G0 H0 G H) (gp : G p = none) (h0 : H0 p = none) (hp : H p = some o) : Up G0 H0 (upd G p o) H :=
  ⟨u.g.trans (Ex.new gp), fun a x e => by
    by_cases q : a = p
    · subst q; rw [upd_same] at e; cases e; exact hp
    · rw [upd_ne q] at e; exact u.s a x e, u.h, fun a x h q => by
    have ne : a ≠ p := fun z => by rw [z, h0] at h; cases h
    rw [upd_ne ne] at q
    exact u.n a x h q⟩
theorem adopt_ds {G : Hp} {p : Addr} {xs : List V} {ds : List PyData} (gp : G p = none) (z : DsA G xs ds) : Ds (upd G p (.lst xs)) (.ref p) (.list ds) := .list upd_same (z.mono (Ex.new gp))
theorem moreDays_map (m : Int) (l : List Day) : (moreDays m l).map dayD = (List.range (70 + m % 20).toNat).map fun (i : Nat) => dayD (l.getD (((i : Int) * (i : Int) + (i : Int) / 7) % (l.length : Int)).toNat (0, 0, 0, 0)) := by
  unfold moreDays
  rw [List.map_map]
  rfl
theorem atI_getD {α : Type} {f : α → PyData} {l : List α} {i : Int} {x : α} (h0 : 0 ≤ i) (h : i < l.length) : atI (l.map f) i = some (f (l.getD i.toNat x)) := by
  obtain ⟨n, rfl⟩ := Int.eq_ofNat_of_zero_le h0
  have hn : n < l.length := by omega
  rw [Int.toNat_natCast, List.getD_eq_getElem?_getD, List.getElem?_eq_getElem hn]
  exact atI_map (List.getElem?_eq_getElem hn)
theorem div_lit {i j : Int} (h : (0 < j) ∧ j.natAbs.log2 < 9000) : CDivW i j := h
end Gs

/-! The steps of falling worths, and why the dealing that is told gains most. Plain Lean. -/
namespace Gs
abbrev Stp := Int × Int
def putIn : List Stp → Int → Int → List Stp
  | [], w, n => [(w, n)]
  | s :: r, w, n => if s.1 > w then s :: putIn r w n else if s.1 = w then (w, s.2 + n) :: r else (w, n) :: s :: r
def cutF : Int → List Stp → Int → Int × List Stp
  | acc, [], _ => (acc, [])
  | acc, s :: r, z => if s.2 ≤ z then cutF (acc + s.1 * s.2) r (z - s.2) else if z = 0 then (acc, s :: r) else (acc + s.1 * z, (s.1, s.2 - z) :: r)
def keptF : List Stp → Int → List Stp
  | [], _ => []
  | s :: r, z => if z > 0 then (s.1, min s.2 z) :: keptF r (z - min s.2 z) else keptF r z
/-- how many bushels are worth more than w; w or more; how much more than w they are worth together; how many there are -/
def gtS (w : Int) : List Stp → Int
  | [] => 0
  | s :: r => (if s.1 > w then s.2 else 0) + gtS w r
def geS (w : Int) : List Stp → Int
  | [] => 0
  | s :: r => (if s.1 ≥ w then s.2 else 0) + geS w r
def potS (w : Int) : List Stp → Int
  | [] => 0
  | s :: r => s.2 * max 0 (s.1 - w) + potS w r
def allS : List Stp → Int
  | [] => 0
  | s :: r => s.2 + allS r
/-- falling worths, no length below 0 -/
def Good : List Stp → Prop
  | [] => True
  | s :: r => 0 ≤ s.2 ∧ (∀ t ∈ r, t.1 < s.1) ∧ Good r
theorem gt_put (w : Int) : ∀ (st : List Stp) (v n : Int), gtS w (putIn st v n) = gtS w st + if v > w then n else 0
  | [], v, n => by simp only [putIn, gtS]; omega
  | s :: r, v, n => by
    have ih := gt_put w r v n
    simp only [putIn]
    split
    · simp only [gtS, ih]; omega
    · split
      · rename_i h1 h2
        subst h2
        simp only [gtS]
        split <;> omega
      · simp only [gtS]; omega
theorem ge_put (w : Int) : ∀ (st : List Stp) (v n : Int), geS w (putIn st v n) = geS w st + if v ≥ w then n else 0
  | [], v, n => by simp only [putIn, geS]; omega
  | s :: r, v, n => by
    have ih := ge_put w r v n
    simp only [putIn]
    split
    · simp only [geS, ih]; omega
    · split
      · rename_i h1 h2
        subst h2
        simp only [geS]
        split <;> omega
      · simp only [geS]; omega
theorem all_put : ∀ (st : List Stp) (v n : Int), allS (putIn st v n) = allS st + n
  | [], v, n => by simp only [putIn, allS]; omega
  | s :: r, v, n => by
    have ih := all_put r v n
    simp only [putIn]
    split
    · simp only [allS, ih]; omega
    · split
      · simp only [allS]; omega
      · simp only [allS]; omega
theorem pot_put (w : Int) : ∀ (st : List Stp) (v n : Int), potS w (putIn st v n) = potS w st + n * max 0 (v - w)
  | [], v, n => by simp only [putIn, potS]; omega
  | s :: r, v, n => by
    have ih := pot_put w r v n
    simp only [putIn]
    split
    · simp only [potS, ih]; omega
    · split
      · rename_i h1 h2
        subst h2
        simp only [potS, Int.add_mul]; omega
      · simp only [potS]; omega
theorem put_mem : ∀ (st : List Stp) (v n : Int), ∀ t ∈ putIn st v n, t.1 = v ∨ ∃ s ∈ st, s.1 = t.1
  | [], v, n, t, h => by
    simp only [putIn, List.mem_singleton] at h
    subst h
    exact .inl rfl
  | s :: r, v, n, t, h => by
    simp only [putIn] at h
    split at h
    · rcases List.mem_cons.mp h with rfl | h
      · exact .inr ⟨t, List.mem_cons_self, rfl⟩
      · rcases put_mem r v n t h with q | ⟨s', h1, h2⟩
        · exact .inl q
        · exact .inr ⟨s', List.mem_cons_of_mem _ h1, h2⟩
    · split at h
      · rcases List.mem_cons.mp h with rfl | h
        · exact .inl rfl
        · exact .inr ⟨t, List.mem_cons_of_mem _ h, rfl⟩
      · rcases List.mem_cons.mp h with rfl | h
        · exact .inl rfl
        · exact .inr ⟨t, h, rfl⟩
theorem good_put : ∀ (st : List Stp) (v n : Int), Good st → 0 ≤ n → Good (putIn st v n)
  | [], v, n, _, h => ⟨h, by simp, trivial⟩
  | s :: r, v, n, ⟨g1, g2, g3⟩, h => by
    simp only [putIn]
    split
    · rename_i h1
      refine ⟨g1, fun t ht => ?_, good_put r v n g3 h⟩
      rcases put_mem r v n t ht with q | ⟨s', q1, q2⟩
      · omega
      · have := g2 s' q1; omega
    · split
      · rename_i h1 h2
        exact ⟨by show 0 ≤ s.2 + n; omega, fun t ht => by have := g2 t ht; show t.1 < v; omega, g3⟩
      · rename_i h1 h2
        refine ⟨h, fun t ht => ?_, g1, g2, g3⟩
        show t.1 < v
        rcases List.mem_cons.mp ht with rfl | ht
        · omega
        · have := g2 t ht; omega
theorem gt_zero (w : Int) : ∀ (st : List Stp), (∀ t ∈ st, t.1 ≤ w) → gtS w st = 0
  | [], _ => rfl
  | s :: r, h => by
    have ih := gt_zero w r fun t ht => h t (List.mem_cons_of_mem _ ht)
    have := h s List.mem_cons_self
    simp only [gtS, ih]
    rw [if_neg (by omega)]; rfl
theorem ge_zero (w : Int) : ∀ (st : List Stp), (∀ t ∈ st, t.1 < w) → geS w st = 0
  | [], _ => rfl
  | s :: r, h => by
    have ih := ge_zero w r fun t ht => h t (List.mem_cons_of_mem _ ht)
    have := h s List.mem_cons_self
    simp only [geS, ih]
    rw [if_neg (by omega)]; rfl
theorem pot_zero (w : Int) : ∀ (st : List Stp), (∀ t ∈ st, t.1 ≤ w) → potS w st = 0
  | [], _ => rfl
  | s :: r, h => by
    have ih := pot_zero w r fun t ht => h t (List.mem_cons_of_mem _ ht)
    have := h s List.mem_cons_self
    simp only [potS, ih]
    rw [show max 0 (s.1 - w) = 0 by omega, Int.mul_zero]; rfl
theorem gt_nonneg (w : Int) : ∀ (st : List Stp), Good st → 0 ≤ gtS w st
  | [], _ => Int.le_refl _
  | s :: r, ⟨g1, g2, g3⟩ => by
    have ih := gt_nonneg w r g3
    simp only [gtS]
    split <;> omega
theorem gt_le_ge (w : Int) : ∀ (st : List Stp), Good st → gtS w st ≤ geS w st
  | [], _ => Int.le_refl _
  | s :: r, ⟨g1, g2, g3⟩ => by
    have ih := gt_le_ge w r g3
    simp only [gtS, geS]
    split <;> split <;> omega
theorem ge_le_all (w : Int) : ∀ (st : List Stp), Good st → geS w st ≤ allS st
  | [], _ => Int.le_refl _
  | s :: r, ⟨g1, g2, g3⟩ => by
    have ih := ge_le_all w r g3
    simp only [allS, geS]
    split <;> omega
/-- a greater worth is had by fewer -/
theorem ge_le_gt {v w : Int} (h : w < v) : ∀ (st : List Stp), Good st → geS v st ≤ gtS w st
  | [], _ => Int.le_refl _
  | s :: r, ⟨g1, g2, g3⟩ => by
    have ih := ge_le_gt h r g3
    simp only [gtS, geS]
    split <;> split <;> omega
theorem all_nonneg : ∀ (st : List Stp), Good st → 0 ≤ allS st
  | [], _ => Int.le_refl _
  | s :: r, ⟨g1, g2, g3⟩ => by
    have ih := all_nonneg r g3
    simp only [allS]; omega
/-! kept -/
theorem kept_mem : ∀ (st : List Stp) (z : Int), ∀ t ∈ keptF st z, ∃ s ∈ st, s.1 = t.1
  | [], z, t, h => by simp [keptF] at h
  | s :: r, z, t, h => by
    simp only [keptF] at h
    split at h
    · rcases List.mem_cons.mp h with rfl | h
      · exact ⟨s, List.mem_cons_self, rfl⟩
      · obtain ⟨s', h1, h2⟩ := kept_mem r _ t h
        exact ⟨s', List.mem_cons_of_mem _ h1, h2⟩
    · obtain ⟨s', h1, h2⟩ := kept_mem r _ t h
      exact ⟨s', List.mem_cons_of_mem _ h1, h2⟩
theorem kept_good : ∀ (st : List Stp) (z : Int), Good st → 0 ≤ z → Good (keptF st z)
  | [], z, _, _ => trivial
  | s :: r, z, ⟨g1, g2, g3⟩, hz => by
    simp only [keptF]
    split
    · refine ⟨by show 0 ≤ min s.2 z; omega, fun t ht => ?_, kept_good r _ g3 (by omega)⟩
      obtain ⟨s', h1, h2⟩ := kept_mem r _ t ht
      have := g2 s' h1
      show t.1 < s.1
      omega
    · exact kept_good r z g3 hz
theorem gt_kept (w : Int) : ∀ (st : List Stp) (z : Int), Good st → 0 ≤ z → gtS w (keptF st z) = min (gtS w st) z
  | [], z, _, h => by simp only [keptF, gtS]; omega
  | s :: r, z, ⟨g1, g2, g3⟩, hz => by
    have n0 := gt_nonneg w r g3
    simp only [keptF]
    split
    · have ih := gt_kept w r (z - min s.2 z) g3 (by omega)
      simp only [gtS, ih]
      by_cases h : s.1 > w
      · rw [if_pos h, if_pos h]; omega
      · rw [if_neg h, if_neg h, gt_zero w r (fun t ht => by have := g2 t ht; omega)]; omega
    · have ih := gt_kept w r z g3 hz
      simp only [gtS, ih]
      split <;> omega
theorem ge_nonneg (w : Int) (st : List Stp) (h : Good st) : 0 ≤ geS w st := Int.le_trans (gt_nonneg w st h) (gt_le_ge w st h)
theorem ge_kept (w : Int) : ∀ (st : List Stp) (z : Int), Good st → 0 ≤ z → geS w (keptF st z) = min (geS w st) z
  | [], z, _, h => by simp only [keptF, geS]; omega
  | s :: r, z, ⟨g1, g2, g3⟩, hz => by
    have n0 := ge_nonneg w r g3
    simp only [keptF]
    split
    · have ih := ge_kept w r (z - min s.2 z) g3 (by omega)
      simp only [geS, ih]
      by_cases h : s.1 ≥ w
      · rw [if_pos h, if_pos h]; omega
      · rw [if_neg h, if_neg h, ge_zero w r (fun t ht => by have := g2 t ht; omega)]; omega
    · have ih := ge_kept w r z g3 hz
      simp only [geS, ih]
      split <;> omega
theorem all_kept : ∀ (st : List Stp) (z : Int), Good st → 0 ≤ z → allS (keptF st z) = min (allS st) z
  | [], z, _, h => by simp only [keptF, allS]; omega
  | s :: r, z, ⟨g1, g2, g3⟩, hz => by
    have n0 := all_nonneg r g3
    simp only [keptF]
    split
    · have ih := all_kept r (z - min s.2 z) g3 (by omega)
      simp only [allS, ih]; omega
    · have ih := all_kept r z g3 hz
      simp only [allS, ih]; omega
/-! cut -/
theorem cut_mem : ∀ (acc : Int) (st : List Stp) (z : Int), ∀ t ∈ (cutF acc st z).2, ∃ s ∈ st, s.1 = t.1
  | acc, [], z, t, h => by simp [cutF] at h
  | acc, s :: r, z, t, h => by
    simp only [cutF] at h
    split at h
    · obtain ⟨s', h1, h2⟩ := cut_mem _ r _ t h
      exact ⟨s', List.mem_cons_of_mem _ h1, h2⟩
    · split at h
      · exact ⟨t, h, rfl⟩
      · rcases List.mem_cons.mp h with rfl | h
        · exact ⟨s, List.mem_cons_self, rfl⟩
        · exact ⟨t, List.mem_cons_of_mem _ h, rfl⟩
theorem cut_good : ∀ (acc : Int) (st : List Stp) (z : Int), Good st → 0 ≤ z → Good (cutF acc st z).2
  | acc, [], z, _, _ => trivial
  | acc, s :: r, z, ⟨g1, g2, g3⟩, hz => by
    simp only [cutF]
    split
    · exact cut_good _ r _ g3 (by omega)
    · split
      · exact ⟨g1, g2, g3⟩
      · exact ⟨by show 0 ≤ s.2 - z; omega, g2, g3⟩
theorem gt_cut (w : Int) : ∀ (acc : Int) (st : List Stp) (z : Int), Good st → 0 ≤ z → gtS w (cutF acc st z).2 = max 0 (gtS w st - z)
  | acc, [], z, _, h => by simp only [cutF, gtS]; omega
  | acc, s :: r, z, ⟨g1, g2, g3⟩, hz => by
    have n0 := gt_nonneg w r g3
    simp only [cutF]
    split
    · have ih := gt_cut w (acc + s.1 * s.2) r (z - s.2) g3 (by omega)
      rw [ih]
      simp only [gtS]
      by_cases h : s.1 > w
      · rw [if_pos h]; omega
      · rw [if_neg h, gt_zero w r (fun t ht => by have := g2 t ht; omega)]; omega
    · split
      · rename_i h; subst h
        simp only [gtS]
        split <;> omega
      · simp only [gtS]
        by_cases h : s.1 > w
        · rw [if_pos h, if_pos h]; omega
        · rw [if_neg h, if_neg h, gt_zero w r (fun t ht => by have := g2 t ht; omega)]; omega
theorem ge_cut (w : Int) : ∀ (acc : Int) (st : List Stp) (z : Int), Good st → 0 ≤ z → geS w (cutF acc st z).2 = max 0 (geS w st - z)
  | acc, [], z, _, h => by simp only [cutF, geS]; omega
  | acc, s :: r, z, ⟨g1, g2, g3⟩, hz => by
    have n0 := ge_nonneg w r g3
    simp only [cutF]
    split
    · have ih := ge_cut w (acc + s.1 * s.2) r (z - s.2) g3 (by omega)
      rw [ih]
      simp only [geS]
      by_cases h : s.1 ≥ w
      · rw [if_pos h]; omega
      · rw [if_neg h, ge_zero w r (fun t ht => by have := g2 t ht; omega)]; omega
    · split
      · rename_i h; subst h
        simp only [geS]
        split <;> omega
      · simp only [geS]
        by_cases h : s.1 ≥ w
        · rw [if_pos h, if_pos h]; omega
        · rw [if_neg h, if_neg h, ge_zero w r (fun t ht => by have := g2 t ht; omega)]; omega
theorem all_cut : ∀ (acc : Int) (st : List Stp) (z : Int), Good st → 0 ≤ z → allS (cutF acc st z).2 = max 0 (allS st - z)
  | acc, [], z, _, h => by simp only [cutF, allS]; omega
  | acc, s :: r, z, ⟨g1, g2, g3⟩, hz => by
    have n0 := all_nonneg r g3
    simp only [cutF]
    split
    · have ih := all_cut (acc + s.1 * s.2) r (z - s.2) g3 (by omega)
      rw [ih]
      simp only [allS]; omega
    · split
      · rename_i h; subst h
        simp only [allS]; omega
      · simp only [allS]; omega
theorem cut_acc : ∀ (acc : Int) (st : List Stp) (z : Int), (cutF acc st z).1 = acc + (cutF 0 st z).1 ∧ (cutF acc st z).2 = (cutF 0 st z).2
  | acc, [], z => ⟨by simp only [cutF]; omega, rfl⟩
  | acc, s :: r, z => by
    simp only [cutF]
    split
    · have h1 := cut_acc (acc + s.1 * s.2) r (z - s.2)
      have h2 := cut_acc (0 + s.1 * s.2) r (z - s.2)
      exact ⟨by rw [h1.1, h2.1]; omega, by rw [h1.2, h2.2]⟩
    · split
      · exact ⟨by show acc = acc + 0; omega, rfl⟩
      · exact ⟨by show acc + s.1 * z = acc + (0 + s.1 * z); omega, rfl⟩
/-- what the first z are worth together -/
def topS (st : List Stp) (z : Int) : Int := (cutF 0 st z).1
theorem top_nil (z : Int) : topS [] z = 0 := rfl
theorem top_take {s : Stp} {r : List Stp} {z : Int} (h : s.2 ≤ z) : topS (s :: r) z = s.1 * s.2 + topS r (z - s.2) := by
  unfold topS
  simp only [cutF]
  rw [if_pos h, (cut_acc _ _ _).1]; omega
theorem top_part {s : Stp} {r : List Stp} {z : Int} (h : ¬ s.2 ≤ z) : topS (s :: r) z = s.1 * z := by
  unfold topS
  simp only [cutF]
  rw [if_neg h]
  split
  · rename_i h; rw [h, Int.mul_zero]
  · show 0 + s.1 * z = _; omega
theorem top_zero : ∀ (st : List Stp), Good st → topS st 0 = 0
  | [], _ => rfl
  | s :: r, ⟨g1, g2, g3⟩ => by
    by_cases h : s.2 ≤ 0
    · have e : s.2 = 0 := by omega
      rw [top_take h, e, Int.mul_zero]
      show 0 + topS r (0 - 0) = 0
      rw [show (0 : Int) - 0 = 0 by omega, top_zero r g3]; rfl
    · rw [top_part h, Int.mul_zero]
/-- where w supports at z -/
theorem top_sup (w : Int) : ∀ (st : List Stp) (z : Int), Good st → 0 ≤ z → gtS w st ≤ z → z ≤ geS w st → topS st z = w * z + potS w st
  | [], z, _, h0, h1, h2 => by
    simp only [gtS, geS] at h1 h2
    have e : z = 0 := by omega
    subst e
    rw [top_nil, Int.mul_zero]; rfl
  | s :: r, z, ⟨g1, g2, g3⟩, h0, h1, h2 => by
    have n0 := gt_nonneg w r g3
    simp only [gtS, geS] at h1 h2
    simp only [potS]
    by_cases hl : s.2 ≤ z
    · rw [top_take hl]
      rcases Int.lt_trichotomy s.1 w with q | q | q
      · rw [if_neg (by omega), gt_zero w r (fun t ht => by have := g2 t ht; omega)] at h1
        rw [if_neg (by omega), ge_zero w r (fun t ht => by have := g2 t ht; omega)] at h2
        have e : z = 0 := by omega
        have e2 : s.2 = 0 := by omega
        subst e
        rw [e2, pot_zero w r (fun t ht => by have := g2 t ht; omega), Int.mul_zero, Int.mul_zero, Int.zero_mul, show (0 : Int) - 0 = 0 by omega, top_zero r g3]; rfl
      · rw [if_neg (by omega), gt_zero w r (fun t ht => by have := g2 t ht; omega)] at h1
        rw [if_pos (by omega)] at h2
        have ih := top_sup w r (z - s.2) g3 (by omega) (by rw [gt_zero w r (fun t ht => by have := g2 t ht; omega)]; omega) (by omega)
        rw [ih, q, show max 0 (w - w) = 0 by omega, Int.mul_zero, Int.mul_sub]; omega
      · rw [if_pos (by omega)] at h1 h2
        have ih := top_sup w r (z - s.2) g3 (by omega) (by omega) (by omega)
        rw [ih, show max 0 (s.1 - w) = s.1 - w by omega, Int.mul_sub, Int.mul_sub, Int.mul_comm s.1 s.2, Int.mul_comm w s.2]; omega
    · rw [top_part hl]
      have q1 : s.1 ≤ w := by
        by_cases q : s.1 ≤ w
        · exact q
        · rw [if_pos (by omega)] at h1; omega
      by_cases hz : z = 0
      · subst hz
        rw [show max 0 (s.1 - w) = 0 by omega, pot_zero w r (fun t ht => by have := g2 t ht; omega), Int.mul_zero, Int.mul_zero, Int.mul_zero]; rfl
      · have q2 : s.1 = w := by
          by_cases q : w ≤ s.1
          · omega
          · rw [if_neg (by omega), ge_zero w r (fun t ht => by have := g2 t ht; omega)] at h2; omega
        rw [show max 0 (s.1 - w) = 0 by omega, pot_zero w r (fun t ht => by have := g2 t ht; omega), Int.mul_zero, q2]; omega
theorem top_add : ∀ (st : List Stp) (m y : Int), Good st → 0 ≤ m → 0 ≤ y → topS st (m + y) = topS st m + topS (cutF 0 st m).2 y
  | [], m, y, _, _, _ => rfl
  | s :: r, m, y, ⟨g1, g2, g3⟩, hm, hy => by
    by_cases h : s.2 ≤ m
    · have e : (cutF 0 (s :: r) m).2 = (cutF 0 r (m - s.2)).2 := by
        simp only [cutF]
        rw [if_pos h]
        exact (cut_acc _ _ _).2
      rw [top_take h, top_take (by omega), e, show m + y - s.2 = (m - s.2) + y by omega, top_add r (m - s.2) y g3 (by omega) hy]; omega
    · by_cases h0 : m = 0
      · subst h0
        have e : (cutF 0 (s :: r) 0).2 = s :: r := by
          simp only [cutF]
          rw [if_neg h, if_pos trivial]
        rw [e, top_zero (s :: r) ⟨g1, g2, g3⟩, show (0 : Int) + y = y by omega]; omega
      · have e : (cutF 0 (s :: r) m).2 = (s.1, s.2 - m) :: r := by
          simp only [cutF]
          rw [if_neg h, if_neg h0]
        rw [e, top_part h]
        by_cases h2 : s.2 ≤ m + y
        · rw [top_take h2, top_take (s := (s.1, s.2 - m)) (by show s.2 - m ≤ y; omega)]
          show s.1 * s.2 + topS r (m + y - s.2) = s.1 * m + (s.1 * (s.2 - m) + topS r (y - (s.2 - m)))
          rw [show m + y - s.2 = y - (s.2 - m) by omega, Int.mul_sub]; omega
        · rw [top_part h2, top_part (s := (s.1, s.2 - m)) (by show ¬ s.2 - m ≤ y; omega)]
          show s.1 * (m + y) = s.1 * m + s.1 * y
          rw [Int.mul_add]
theorem top_kept : ∀ (st : List Stp) (R y : Int), Good st → 0 ≤ y → y ≤ R → topS (keptF st R) y = topS st y
  | [], R, y, _, _, _ => rfl
  | s :: r, R, y, ⟨g1, g2, g3⟩, h0, hy => by
    simp only [keptF]
    split
    · by_cases h : s.2 ≤ y
      · have e : min s.2 R = s.2 := by omega
        rw [e, top_take (s := (s.1, s.2)) h, top_take h]
        show s.1 * s.2 + topS (keptF r (R - s.2)) (y - s.2) = _
        rw [top_kept r (R - s.2) (y - s.2) g3 (by omega) (by omega)]
      · rw [top_part h]
        by_cases h2 : min s.2 R ≤ y
        · rw [top_take (s := (s.1, min s.2 R)) h2]
          have e : R = y := by omega
          have e2 : min s.2 R = y := by omega
          show s.1 * min s.2 R + topS (keptF r (R - min s.2 R)) (y - min s.2 R) = _
          rw [e2, e, show y - y = 0 by omega, top_zero _ (kept_good r 0 g3 (Int.le_refl _))]; omega
        · rw [top_part (s := (s.1, min s.2 R)) h2]
    · have e : y = 0 := by omega
      subst e
      rw [top_zero _ (kept_good r R g3 (by omega)), top_zero (s :: r) ⟨g1, g2, g3⟩]
end Gs

/-! Dealings, worths, and the best of them. Plain Lean. -/
namespace Gs
/-! ### bounds -/
def dayBound (d : Day) (w : Int) : Int := d.2.1 * max 0 (w - d.1) + d.2.2.2 * max 0 (d.2.2.1 - w)
def boundFrom (R : Int) : Option Int → List Day → List Int → Int
  | prev, d :: ds, w :: ws => dayBound d w + (match prev with
      | none => 0
      | some p => R * max 0 (w - p)) + boundFrom R (some w) ds ws
  | _, _, _ => 0
def boundOf (days : List Day) (R : Int) (worths : List Int) : Int := boundFrom R none days worths
/-- a dealing that can be, from a store of x on -/
def Feas (R : Int) : List Day → Int → List Deed → Prop
  | [], _, [] => True
  | d :: ds, x, b :: bs => okDeed d R (x + b.1 - b.2) b = true ∧ Feas R ds (x + b.1 - b.2) bs
  | _, _, _ => False
theorem okDeed_iff {d : Day} {R y : Int} {b : Deed} : okDeed d R y b = true ↔ (0 ≤ b.1 ∧ b.1 ≤ d.2.1) ∧ (0 ≤ b.2 ∧ b.2 ≤ d.2.2.2) ∧ 0 ≤ y ∧ y ≤ R := by
  unfold okDeed
  simp only [Bool.and_eq_true, decide_eq_true_eq]
  constructor
  · rintro ⟨⟨⟨a, b⟩, c, d⟩, e, f⟩; exact ⟨⟨a, b⟩, ⟨c, d⟩, e, f⟩
  · rintro ⟨⟨a, b⟩, ⟨c, d⟩, e, f⟩; exact ⟨⟨⟨a, b⟩, c, d⟩, e, f⟩
theorem fault_feas (R : Int) : ∀ (ds : List Day) (x i : Int) (bs : List Deed), 0 ≤ i → ds.length = bs.length → (faultFrom ds R x i bs = -1 ↔ Feas R ds x bs)
  | [], x, i, [], _, _ => by simp [faultFrom, Feas]
  | [], _, _, _ :: _, _, h => by simp at h
  | _ :: _, _, _, [], _, h => by simp at h
  | d :: ds, x, i, b :: bs, hi, h => by
    have ih := fault_feas R ds (x + b.1 - b.2) (i + 1) bs (by omega) (by simpa using h)
    simp only [faultFrom, Feas]
    split
    · rename_i q
      rw [ih]
      exact ⟨fun z => ⟨q, z⟩, fun z => z.2⟩
    · rename_i q
      exact ⟨fun z => by omega, fun z => absurd z.1 q⟩
theorem fault_nonneg (R : Int) : ∀ (ds : List Day) (x i : Int) (bs : List Deed), 0 ≤ i → faultFrom ds R x i bs = -1 ∨ i ≤ faultFrom ds R x i bs
  | [], x, i, _, _ => .inl (by simp [faultFrom])
  | _ :: _, _, _, [], _ => .inl (by simp [faultFrom])
  | d :: ds, x, i, b :: bs, hi => by
    simp only [faultFrom]
    split
    · rcases fault_nonneg R ds (x + b.1 - b.2) (i + 1) bs (by omega) with h | h
      · exact .inl h
      · exact .inr (by omega)
    · exact .inr (Int.le_refl _)
def gainFrom : List Day → List Deed → Int
  | d :: ds, b :: bs => gainD d b + gainFrom ds bs
  | _, _ => 0
theorem gainOf_eq : ∀ (ds : List Day) (bs : List Deed), gainOf ds bs = gainFrom ds bs
  | [], _ => by simp [gainOf, gainFrom]
  | _ :: _, [] => by simp [gainOf, gainFrom]
  | d :: ds, b :: bs => by
    have ih := gainOf_eq ds bs
    unfold gainOf at ih ⊢
    simp only [List.zipWith_cons_cons, List.sum_cons, gainFrom, ih]
theorem mul_max {a b m : Int} (h0 : 0 ≤ b) (h1 : b ≤ m) : a * b ≤ m * max 0 a := by
  by_cases h : 0 ≤ a
  · rw [show max 0 a = a by omega, Int.mul_comm m a]
    exact Int.mul_le_mul_of_nonneg_left h1 h
  · rw [show max 0 a = 0 by omega, Int.mul_zero]
    exact Int.mul_nonpos_of_nonpos_of_nonneg (by omega) h0
theorem mul_max_eq {a b m : Int} (h0 : 0 < a → b = m) (h1 : a < 0 → b = 0) : a * b = m * max 0 a := by
  rcases Int.lt_trichotomy a 0 with h | h | h
  · rw [show max 0 a = 0 by omega, h1 h, Int.mul_zero, Int.mul_zero]
  · rw [h]; simp
  · rw [show max 0 a = a by omega, h0 h, Int.mul_comm]
theorem gain_split (d : Day) (b : Deed) (w : Int) : gainD d b = (w - d.1) * b.1 + (d.2.2.1 - w) * b.2 + w * (b.2 - b.1) := by
  unfold gainD
  rw [Int.sub_mul, Int.sub_mul, Int.mul_sub, Int.mul_comm b.2, Int.mul_comm b.1]; omega
/-- what a worth ahead asks of the first day's worth -/
def linkGain (prev : Option Int) (x : Int) : Int := match prev with
  | none => 0
  | some p => p * x
/-- no dealing that can be gains more than what the worths tell -/
theorem weak (R : Int) (hR : 0 ≤ R) : ∀ (ds : List Day) (x : Int) (bs : List Deed) (ws : List Int) (prev : Option Int), 0 ≤ x → x ≤ R → (prev = none → x = 0) → (∀ p, prev = some p → 0 ≤ p) → (∀ w ∈ ws, 0 ≤ w) → ws.length = ds.length → Feas R ds x bs →
    gainFrom ds bs ≤ boundFrom R prev ds ws + linkGain prev x
  | [], x, [], ws, prev, h0, _, hn, hp, _, _, _ => by
    simp only [gainFrom, boundFrom]
    cases prev with
    | none => exact Int.le_refl _
    | some p => show 0 ≤ 0 + p * x; have := Int.mul_nonneg (hp p rfl) h0; omega
  | [], _, _ :: _, _, _, _, _, _, _, _, _, h => by simp [Feas] at h
  | _ :: _, _, [], _, _, _, _, _, _, _, _, h => by simp [Feas] at h
  | d :: ds, x, b :: bs, [], prev, _, _, _, _, _, hl, _ => by simp at hl
  | d :: ds, x, b :: bs, w :: ws, prev, h0, hx, hn, hp, hw, hl, ⟨h1, h2⟩ => by
    obtain ⟨⟨a1, a2⟩, ⟨a3, a4⟩, a5, a6⟩ := okDeed_iff.mp h1
    have ih := weak R hR ds (x + b.1 - b.2) bs ws (some w) a5 a6 (fun h => nomatch h) (fun p h => by cases h; exact hw w List.mem_cons_self) (fun v hv => hw v (List.mem_cons_of_mem _ hv)) (by simpa using hl) h2
    have m1 := mul_max (a := w - d.1) a1 a2
    have m2 := mul_max (a := d.2.2.1 - w) a3 a4
    have gs := gain_split d b w
    simp only [gainFrom, boundFrom, dayBound]
    have ih : gainFrom ds bs ≤ boundFrom R (some w) ds ws + w * (x + b.1 - b.2) := ih
    have e : w * (b.2 - b.1) + w * (x + b.1 - b.2) = w * x := by rw [← Int.mul_add]; congr 1; omega
    cases prev with
    | none =>
      have := hn rfl
      subst this
      rw [Int.mul_zero] at e
      show gainD d b + gainFrom ds bs ≤ d.2.1 * max 0 (w - d.1) + d.2.2.2 * max 0 (d.2.2.1 - w) + 0 + boundFrom R (some w) ds ws + 0
      omega
    | some p =>
      have m3 := mul_max (a := w - p) h0 hx
      rw [Int.sub_mul] at m3
      show gainD d b + gainFrom ds bs ≤ d.2.1 * max 0 (w - d.1) + d.2.2.2 * max 0 (d.2.2.1 - w) + R * max 0 (w - p) + boundFrom R (some w) ds ws + p * x
      omega
/-! ### the best -/
def putDay (st : List Stp) (d : Day) : List Stp := putIn (putIn st d.1 d.2.1) d.2.2.1 d.2.2.2
def tab (R : Int) : List Day → Int × List Stp
  | [] => (0, [(0, R)])
  | d :: ds => ((tab R ds).1 - d.1 * d.2.1 + topS (putDay (tab R ds).2 d) d.2.1, keptF (cutF 0 (putDay (tab R ds).2 d) d.2.1).2 R)
def lastPos (st : List Stp) : Option Stp := (st.filter fun s => decide (s.2 > 0)).getLast?
def firstPos (st : List Stp) : Option Stp := (st.filter fun s => decide (s.2 > 0)).head?
def worthBelow (W : List Stp) (z : Int) : Int := match lastPos (keptF W z) with
  | some s => s.1
  | none => 0
def worthAbove (W : List Stp) (z : Int) : Int := match firstPos (cutF 0 W z).2 with
  | some s => s.1
  | none => worthBelow W z
def deedF (d : Day) (st : List Stp) (x w : Int) : Deed :=
  let low := if w > d.1 then d.2.1 else 0
  let high := if w ≥ d.1 then d.2.1 else 0
  let least := if w < d.2.2.1 then d.2.2.2 else 0
  let greatest := if w ≤ d.2.2.1 then d.2.2.2 else 0
  let floor := gtS w st
  let bought := max low (floor - x + least)
  (min bought high, min greatest (bought + x - floor))
def worthF (R : Int) (d : Day) (ds : List Day) (x : Int) (prev : Int) : Int :=
  if x = 0 then worthAbove (putDay (tab R ds).2 d) (d.2.1 + 0) else if x = R then worthBelow (putDay (tab R ds).2 d) (d.2.1 + x) else prev
def bestF (R : Int) : List Day → Int → Int → List Deed × List Int
  | [], _, _ => ([], [])
  | d :: ds, x, prev =>
    let w := worthF R d ds x prev
    let b := deedF d (tab R ds).2 x w
    let r := bestF R ds (x + b.1 - b.2) w
    (b :: r.1, w :: r.2)
/-- w supports at z -/
def Sup (w : Int) (st : List Stp) (z : Int) : Prop := gtS w st ≤ z ∧ z ≤ geS w st
theorem gt_day (w : Int) (st : List Stp) (d : Day) : gtS w (putDay st d) = gtS w st + (if d.1 > w then d.2.1 else 0) + (if d.2.2.1 > w then d.2.2.2 else 0) := by
  unfold putDay; rw [gt_put, gt_put]
theorem ge_day (w : Int) (st : List Stp) (d : Day) : geS w (putDay st d) = geS w st + (if d.1 ≥ w then d.2.1 else 0) + (if d.2.2.1 ≥ w then d.2.2.2 else 0) := by
  unfold putDay; rw [ge_put, ge_put]
theorem all_day (st : List Stp) (d : Day) : allS (putDay st d) = allS st + d.2.1 + d.2.2.2 := by
  unfold putDay; rw [all_put, all_put]
theorem pot_day (w : Int) (st : List Stp) (d : Day) : potS w (putDay st d) = potS w st + d.2.1 * max 0 (d.1 - w) + d.2.2.2 * max 0 (d.2.2.1 - w) := by
  unfold putDay; rw [pot_put, pot_put]
theorem good_day {st : List Stp} {d : Day} (h : Good st) (g : goodDay d) : Good (putDay st d) := good_put _ _ _ (good_put _ _ _ h g.2.1) g.2.2.2
theorem tab_good (R : Int) (hR : 0 ≤ R) : ∀ ds : List Day, (∀ d ∈ ds, goodDay d) → Good (tab R ds).2 ∧ allS (tab R ds).2 = R
  | [], _ => ⟨⟨hR, by simp, trivial⟩, by show R + 0 = R; omega⟩
  | d :: ds, h => by
    obtain ⟨g, a⟩ := tab_good R hR ds fun x hx => h x (List.mem_cons_of_mem _ hx)
    have gd := h d List.mem_cons_self
    have gw := good_day g gd
    have gc := cut_good 0 _ d.2.1 gw gd.2.1
    refine ⟨kept_good _ R gc hR, ?_⟩
    show allS (keptF _ R) = R
    rw [all_kept _ R gc hR, all_cut 0 _ _ gw gd.2.1, all_day, a]
    have := gd.2.1
    have := gd.2.2.2
    omega
theorem all_zero_of : ∀ st : List Stp, Good st → lastPos st = none → allS st = 0
  | [], _, _ => rfl
  | s :: r, ⟨g1, g2, g3⟩, h => by
    unfold lastPos at h
    rw [List.getLast?_eq_none_iff, List.filter_eq_nil_iff] at h
    have h1 := h s List.mem_cons_self
    have h2 : lastPos r = none := by
      unfold lastPos
      rw [List.getLast?_eq_none_iff, List.filter_eq_nil_iff]
      exact fun x hx => h x (List.mem_cons_of_mem _ hx)
    have ih := all_zero_of r g3 h2
    simp only [decide_eq_true_eq] at h1
    simp only [allS, ih]; omega
theorem first_none {st : List Stp} (g : Good st) (h : firstPos st = none) : allS st = 0 := by
  refine all_zero_of st g ?_
  unfold firstPos at h
  unfold lastPos
  rw [List.head?_eq_none_iff] at h
  rw [h]; rfl
theorem last_some : ∀ (st : List Stp) (s : Stp), Good st → lastPos st = some s → s ∈ st ∧ geS s.1 st = allS st ∧ gtS s.1 st < allS st
  | [], _, _, h => by simp [lastPos] at h
  | t :: r, s, ⟨g1, g2, g3⟩, h => by
    cases q : lastPos r with
    | none =>
      have z := all_zero_of r g3 q
      have e : s = t ∧ t.2 > 0 := by
        unfold lastPos at h q
        rw [List.getLast?_eq_none_iff] at q
        rw [List.filter_cons, q] at h
        split at h
        · rename_i hp
          simp at h
          exact ⟨h.symm, of_decide_eq_true hp⟩
        · simp at h
      obtain ⟨rfl, hp⟩ := e
      have a1 := ge_le_all s.1 r g3
      have a2 := ge_nonneg s.1 r g3
      have a3 := gt_nonneg s.1 r g3
      have a4 := gt_le_ge s.1 r g3
      refine ⟨List.mem_cons_self, ?_, ?_⟩
      · simp only [geS, allS]; rw [if_pos (by omega)]; omega
      · simp only [gtS, allS]; rw [if_neg (by omega)]; omega
    | some v =>
      have e : s = v := by
        unfold lastPos at h q
        rw [List.filter_cons] at h
        split at h
        · rw [List.getLast?_cons, q] at h
          simpa using h.symm
        · rw [q] at h
          exact (Option.some.inj h).symm
      subst e
      obtain ⟨h1, h2, h3⟩ := last_some r s g3 q
      have := g2 s h1
      refine ⟨List.mem_cons_of_mem _ h1, ?_, ?_⟩
      · simp only [geS, allS]; rw [if_pos (by omega)]; omega
      · simp only [gtS, allS]; rw [if_pos (by omega)]; omega
theorem first_some : ∀ (st : List Stp) (s : Stp), Good st → firstPos st = some s → s ∈ st ∧ gtS s.1 st = 0 ∧ 0 < geS s.1 st
  | [], _, _, h => by simp [firstPos] at h
  | t :: r, s, ⟨g1, g2, g3⟩, h => by
    by_cases hp : t.2 > 0
    · have e : t = s := by
        unfold firstPos at h
        rw [List.filter_cons, if_pos (decide_eq_true hp)] at h
        exact Option.some.inj h
      subst e
      have a2 := ge_nonneg t.1 r g3
      refine ⟨List.mem_cons_self, ?_, ?_⟩
      · simp only [gtS]; rw [if_neg (by omega), gt_zero t.1 r fun x hx => by have := g2 x hx; omega]; rfl
      · simp only [geS]; rw [if_pos (by omega)]; omega
    · have h' : firstPos r = some s := by
        unfold firstPos at h ⊢
        rw [List.filter_cons, if_neg (by simpa using hp)] at h
        exact h
      obtain ⟨h1, h2, h3⟩ := first_some r s g3 h'
      have := g2 s h1
      refine ⟨List.mem_cons_of_mem _ h1, ?_, ?_⟩
      · simp only [gtS]; rw [if_pos (by omega)]; omega
      · simp only [geS]; rw [if_pos (by omega)]; omega
/-- the worth below supports -/
theorem below_sup {W : List Stp} {z : Int} (g : Good W) (h0 : 0 ≤ z) (h1 : z ≤ allS W) (hz : 0 < z ∨ allS W = 0) : Sup (worthBelow W z) W z ∧ (0 < z → gtS (worthBelow W z) W < z) := by
  unfold worthBelow
  have gk := kept_good W z g h0
  have ak := all_kept W z g h0
  cases q : lastPos (keptF W z) with
  | none =>
    have a0 := all_zero_of _ gk q
    have e : z = 0 := by omega
    subst e
    have a1 := gt_le_ge 0 W g
    have a2 := ge_le_all 0 W g
    show Sup 0 W 0 ∧ ((0 : Int) < 0 → gtS 0 W < 0)
    refine ⟨⟨?_, ge_nonneg _ W g⟩, fun h => absurd h (by omega)⟩
    omega
  | some s =>
    obtain ⟨_, h2, h3⟩ := last_some _ s gk q
    rw [ge_kept s.1 W z g h0, ak] at h2
    rw [gt_kept s.1 W z g h0, ak] at h3
    show Sup s.1 W z ∧ (0 < z → gtS s.1 W < z)
    exact ⟨⟨by omega, by omega⟩, fun _ => by omega⟩
theorem above_sup {W : List Stp} {z : Int} (g : Good W) (h0 : 0 ≤ z) (h1 : z ≤ allS W) : Sup (worthAbove W z) W z ∧ (z < allS W → z < geS (worthAbove W z) W) := by
  unfold worthAbove
  have gc := cut_good 0 W z g h0
  have ac := all_cut 0 W z g h0
  cases q : firstPos (cutF 0 W z).2 with
  | none =>
    have a0 := first_none gc q
    have e : allS W = z := by omega
    have b := below_sup g h0 h1 (by omega)
    exact ⟨b.1, fun h => absurd h (by omega)⟩
  | some s =>
    obtain ⟨_, h2, h3⟩ := first_some _ s gc q
    rw [gt_cut s.1 0 W z g h0] at h2
    rw [ge_cut s.1 0 W z g h0] at h3
    show Sup s.1 W z ∧ (z < allS W → z < geS s.1 W)
    exact ⟨⟨by omega, by omega⟩, fun _ => by omega⟩
theorem worth_mem_below {W : List Stp} {z : Int} : worthBelow W z = 0 ∨ ∃ s ∈ W, s.1 = worthBelow W z := by
  unfold worthBelow
  cases q : lastPos (keptF W z) with
  | none => exact .inl rfl
  | some s =>
    right
    have h : s ∈ keptF W z := by
      unfold lastPos at q
      exact (List.mem_filter.mp (List.mem_of_getLast? q)).1
    exact kept_mem W z s h
theorem worth_mem_above {W : List Stp} {z : Int} : worthAbove W z = 0 ∨ ∃ s ∈ W, s.1 = worthAbove W z := by
  unfold worthAbove
  cases q : firstPos (cutF 0 W z).2 with
  | none => exact worth_mem_below
  | some s =>
    right
    have h : s ∈ (cutF 0 W z).2 := by
      unfold firstPos at q
      exact (List.mem_filter.mp (List.mem_of_mem_head? (by rw [q]; rfl))).1
    exact cut_mem 0 W z s h
/-- every worth in the tables is 0 or a day's price -/
theorem tab_worths (R : Int) (Pr : Int → Prop) (h0 : Pr 0) : ∀ ds : List Day, (∀ d ∈ ds, Pr d.1 ∧ Pr d.2.2.1) → ∀ s ∈ (tab R ds).2, Pr s.1
  | [], _, s, h => by
    simp only [tab, List.mem_singleton] at h
    subst h; exact h0
  | d :: ds, hp, s, h => by
    have ih := tab_worths R Pr h0 ds fun x hx => hp x (List.mem_cons_of_mem _ hx)
    have hd := hp d List.mem_cons_self
    obtain ⟨s1, m1, e1⟩ := kept_mem _ _ s h
    obtain ⟨s2, m2, e2⟩ := cut_mem _ _ _ s1 m1
    rw [← e1, ← e2]
    rcases put_mem _ _ _ s2 m2 with q | ⟨s3, m3, e3⟩
    · rw [q]; exact hd.2
    · rw [← e3]
      rcases put_mem _ _ _ s3 m3 with q | ⟨s4, m4, e4⟩
      · rw [q]; exact hd.1
      · rw [← e4]; exact ih s4 m4
theorem wide_worths (R : Int) (Pr : Int → Prop) (h0 : Pr 0) (d : Day) (ds : List Day) (hp : ∀ x ∈ d :: ds, Pr x.1 ∧ Pr x.2.2.1) : ∀ s ∈ putDay (tab R ds).2 d, Pr s.1 := fun s m2 => by
  have ih := tab_worths R Pr h0 ds fun x hx => hp x (List.mem_cons_of_mem _ hx)
  have hd := hp d List.mem_cons_self
  rcases put_mem _ _ _ s m2 with q | ⟨s3, m3, e3⟩
  · rw [q]; exact hd.2
  · rw [← e3]
    rcases put_mem _ _ _ s3 m3 with q | ⟨s4, m4, e4⟩
    · rw [q]; exact hd.1
    · rw [← e4]; exact ih s4 m4
theorem worthF_pr (R : Int) (Pr : Int → Prop) (h0 : Pr 0) (d : Day) (ds : List Day) (x prev : Int) (hp : ∀ x ∈ d :: ds, Pr x.1 ∧ Pr x.2.2.1) (hv : Pr prev) : Pr (worthF R d ds x prev) := by
  have hw := wide_worths R Pr h0 d ds hp
  unfold worthF
  split
  · rcases worth_mem_above (W := putDay (tab R ds).2 d) (z := d.2.1 + 0) with q | ⟨s, m, e⟩
    · rw [q]; exact h0
    · rw [← e]; exact hw s m
  · split
    · rcases worth_mem_below (W := putDay (tab R ds).2 d) (z := d.2.1 + x) with q | ⟨s, m, e⟩
      · rw [q]; exact h0
      · rw [← e]; exact hw s m
    · exact hv
theorem gt_tab (R w : Int) (d : Day) (ds : List Day) (hR : 0 ≤ R) (h : ∀ x ∈ d :: ds, goodDay x) : gtS w (tab R (d :: ds)).2 = min (max 0 (gtS w (putDay (tab R ds).2 d) - d.2.1)) R := by
  obtain ⟨g, a⟩ := tab_good R hR ds fun x hx => h x (List.mem_cons_of_mem _ hx)
  have gd := h d List.mem_cons_self
  have gw := good_day g gd
  show gtS w (keptF _ R) = _
  rw [gt_kept w _ R (cut_good 0 _ _ gw gd.2.1) hR, gt_cut w 0 _ _ gw gd.2.1]
theorem ge_tab (R w : Int) (d : Day) (ds : List Day) (hR : 0 ≤ R) (h : ∀ x ∈ d :: ds, goodDay x) : geS w (tab R (d :: ds)).2 = min (max 0 (geS w (putDay (tab R ds).2 d) - d.2.1)) R := by
  obtain ⟨g, a⟩ := tab_good R hR ds fun x hx => h x (List.mem_cons_of_mem _ hx)
  have gd := h d List.mem_cons_self
  have gw := good_day g gd
  show geS w (keptF _ R) = _
  rw [ge_kept w _ R (cut_good 0 _ _ gw gd.2.1) hR, ge_cut w 0 _ _ gw gd.2.1]
/-- the worth that is taken supports, and moves only as it may -/
theorem worth_ok (R x p : Int) (d : Day) (ds : List Day) (hR : 0 ≤ R) (hx0 : 0 ≤ x) (hx1 : x ≤ R) (h : ∀ x ∈ d :: ds, goodDay x) (hp : x = 0 ∨ Sup p (tab R (d :: ds)).2 x) :
    Sup (worthF R d ds x p) (putDay (tab R ds).2 d) (d.2.1 + x) ∧ (Sup p (tab R (d :: ds)).2 x → (p < worthF R d ds x p → x = R) ∧ (worthF R d ds x p < p → x = 0)) := by
  obtain ⟨g, a⟩ := tab_good R hR ds fun x hx => h x (List.mem_cons_of_mem _ hx)
  have gd := h d List.mem_cons_self
  have gw := good_day g gd
  have aw := all_day (tab R ds).2 d
  have d1 := gd.2.1
  have d2 := gd.2.2.2
  unfold worthF
  split
  · rename_i hx
    subst hx
    obtain ⟨s1, s2⟩ := above_sup (z := d.2.1 + 0) gw (by omega) (by omega)
    refine ⟨s1, fun ⟨q1, q2⟩ => ⟨fun hlt => ?_, fun _ => rfl⟩⟩
    rw [gt_tab R p d ds hR h] at q1
    have q := ge_le_gt hlt _ gw
    by_cases hr : R = 0
    · exact hr.symm
    · have := s2 (by omega)
      omega
  · rename_i hx
    split
    · rename_i hxR
      subst hxR
      obtain ⟨s1, s2⟩ := below_sup (z := d.2.1 + x) gw (by omega) (by omega) (by omega)
      refine ⟨s1, fun ⟨q1, q2⟩ => ⟨fun _ => rfl, fun hlt => ?_⟩⟩
      rw [ge_tab x p d ds hR h] at q2
      have q := ge_le_gt hlt _ gw
      have := s2 (by omega)
      omega
    · rename_i hxR
      refine ⟨?_, fun _ => ⟨fun h => absurd h (Int.lt_irrefl _), fun h => absurd h (Int.lt_irrefl _)⟩⟩
      rcases hp with hp | ⟨q1, q2⟩
      · exact absurd hp hx
      · rw [gt_tab R p d ds hR h] at q1
        rw [ge_tab R p d ds hR h] at q2
        exact ⟨by omega, by omega⟩
theorem ifs (w p m : Int) : (w < p ∧ (if w > p then m else 0) = 0 ∧ (if w ≥ p then m else 0) = 0 ∧ (if p > w then m else 0) = m ∧ (if p ≥ w then m else 0) = m ∧ (if w < p then m else 0) = m ∧ (if w ≤ p then m else 0) = m) ∨
    (w = p ∧ (if w > p then m else 0) = 0 ∧ (if w ≥ p then m else 0) = m ∧ (if p > w then m else 0) = 0 ∧ (if p ≥ w then m else 0) = m ∧ (if w < p then m else 0) = 0 ∧ (if w ≤ p then m else 0) = m) ∨
    (p < w ∧ (if w > p then m else 0) = m ∧ (if w ≥ p then m else 0) = m ∧ (if p > w then m else 0) = 0 ∧ (if p ≥ w then m else 0) = 0 ∧ (if w < p then m else 0) = 0 ∧ (if w ≤ p then m else 0) = 0) := by
  rcases Int.lt_trichotomy w p with q | q | q
  · exact .inl ⟨q, if_neg (by omega), if_neg (by omega), if_pos q, if_pos (by omega), if_pos q, if_pos (by omega)⟩
  · exact .inr (.inl ⟨q, if_neg (by omega), if_pos (by omega), if_neg (by omega), if_pos (by omega), if_neg (by omega), if_pos (by omega)⟩)
  · exact .inr (.inr ⟨q, if_pos (by omega), if_pos (by omega), if_neg (by omega), if_neg (by omega), if_neg (by omega), if_neg (by omega)⟩)
theorem deed_ok {R x w : Int} {d : Day} {st : List Stp} (g : Good st) (ha : allS st = R) (gd : goodDay d) (hs : Sup w (putDay st d) (d.2.1 + x)) :
    okDeed d R (x + (deedF d st x w).1 - (deedF d st x w).2) (deedF d st x w) = true ∧ Sup w st (x + (deedF d st x w).1 - (deedF d st x w).2) ∧ (0 < w - d.1 → (deedF d st x w).1 = d.2.1) ∧ (w - d.1 < 0 → (deedF d st x w).1 = 0) ∧ (0 < d.2.2.1 - w → (deedF d st x w).2 = d.2.2.2) ∧ (d.2.2.1 - w < 0 → (deedF d st x w).2 = 0) := by
  obtain ⟨h1, h2⟩ := hs
  rw [gt_day] at h1
  rw [ge_day] at h2
  have d1 := gd.2.1
  have d2 := gd.2.2.2
  have n0 := gt_nonneg w st g
  have n1 := gt_le_ge w st g
  have n2 := ge_le_all w st g
  rw [okDeed_iff]
  unfold Sup deedF
  dsimp only
  rcases ifs w d.1 d.2.1 with ⟨q, e1, e2, e3, e4, e5, e6⟩ | ⟨q, e1, e2, e3, e4, e5, e6⟩ | ⟨q, e1, e2, e3, e4, e5, e6⟩ <;>
    rcases ifs w d.2.2.1 d.2.2.2 with ⟨q', f1, f2, f3, f4, f5, f6⟩ | ⟨q', f1, f2, f3, f4, f5, f6⟩ | ⟨q', f1, f2, f3, f4, f5, f6⟩ <;>
    (rw [e3, f3] at h1; rw [e4, f4] at h2; rw [e1, e2, f5, f6]; clear e1 e2 e3 e4 e5 e6 f1 f2 f3 f4 f5 f6; omega)
/-- what there is to gain with a store of x -/
def valF (R : Int) (ds : List Day) (x : Int) : Int := (tab R ds).1 + topS (tab R ds).2 x
theorem val_step {R x w : Int} {d : Day} {ds : List Day} (hR : 0 ≤ R) (hx0 : 0 ≤ x) (hx1 : x ≤ R) (h : ∀ x ∈ d :: ds, goodDay x) (b : Deed) (hs : Sup w (putDay (tab R ds).2 d) (d.2.1 + x)) (hy : Sup w (tab R ds).2 (x + b.1 - b.2)) (hy0 : 0 ≤ x + b.1 - b.2)
    (c1 : 0 < w - d.1 → b.1 = d.2.1) (c2 : w - d.1 < 0 → b.1 = 0) (c3 : 0 < d.2.2.1 - w → b.2 = d.2.2.2) (c4 : d.2.2.1 - w < 0 → b.2 = 0) : valF R (d :: ds) x = gainD d b + valF R ds (x + b.1 - b.2) := by
  obtain ⟨g, a⟩ := tab_good R hR ds fun x hx => h x (List.mem_cons_of_mem _ hx)
  have gd := h d List.mem_cons_self
  have gw := good_day g gd
  have e1 : topS (tab R (d :: ds)).2 x = topS (putDay (tab R ds).2 d) (d.2.1 + x) - topS (putDay (tab R ds).2 d) d.2.1 := by
    show topS (keptF _ R) x = _
    rw [top_kept _ R x (cut_good 0 _ _ gw gd.2.1) hx0 hx1, top_add _ _ _ gw gd.2.1 hx0]; omega
  have e2 := top_sup w _ (d.2.1 + x) gw (by have := gd.2.1; omega) hs.1 hs.2
  have e3 := top_sup w _ (x + b.1 - b.2) g hy0 hy.1 hy.2
  have m1 := mul_max_eq (a := w - d.1) (b := b.1) (m := d.2.1) c1 c2
  have m2 := mul_max_eq (a := d.2.2.1 - w) (b := b.2) (m := d.2.2.2) c3 c4
  have gs := gain_split d b w
  have pw := pot_day w (tab R ds).2 d
  unfold valF
  rw [e1, e2, e3, pw, gs, m1, m2]
  show (tab R ds).1 - d.1 * d.2.1 + topS (putDay (tab R ds).2 d) d.2.1 + _ = _
  have k1 : w * (d.2.1 + x) = w * d.2.1 + w * x := Int.mul_add _ _ _
  have k2 : w * (b.2 - b.1) + w * (x + b.1 - b.2) = w * x := by rw [← Int.mul_add]; congr 1; omega
  have k3 : d.2.1 * max 0 (w - d.1) - d.2.1 * max 0 (d.1 - w) = w * d.2.1 - d.1 * d.2.1 := by
    rw [← Int.mul_sub, ← Int.sub_mul, Int.mul_comm]
    congr 1
    omega
  omega
/-- the best: a dealing that can be, worths that show it, its gain what there is to gain -/
theorem best_ok (R : Int) (hR : 0 ≤ R) : ∀ (ds : List Day) (x p : Int) (prev : Option Int), (∀ d ∈ ds, goodDay d) → 0 ≤ x → x ≤ R → (prev = none → x = 0) → (∀ q, prev = some q → q = p) → 0 ≤ p → (x = 0 ∨ Sup p (tab R ds).2 x) → (prev ≠ none → Sup p (tab R ds).2 x) →
    Feas R ds x (bestF R ds x p).1 ∧ (bestF R ds x p).1.length = ds.length ∧ (bestF R ds x p).2.length = ds.length ∧ (∀ w ∈ (bestF R ds x p).2, 0 ≤ w) ∧
    gainFrom ds (bestF R ds x p).1 = boundFrom R prev ds (bestF R ds x p).2 + linkGain prev x ∧ gainFrom ds (bestF R ds x p).1 = valF R ds x
  | [], x, p, prev, _, h0, h1, hn, hq, hp, hs, hs2 => by
    have ex : ∀ q, prev = some q → q * x = 0 := fun q e => by
      have e2 := hq q e
      obtain ⟨_, s2⟩ := hs2 (by rw [e]; intro z; cases z)
      have s2 : x ≤ (if (0 : Int) ≥ p then R else 0) + 0 := s2
      rw [e2]
      by_cases hp0 : p = 0
      · rw [hp0, Int.zero_mul]
      · rw [if_neg (by omega)] at s2
        rw [show x = 0 by omega, Int.mul_zero]
    refine ⟨trivial, rfl, rfl, by simp [bestF], ?_, ?_⟩
    · cases prev with
      | none => rfl
      | some q => show 0 = 0 + q * x; rw [ex q rfl]; rfl
    · show 0 = 0 + topS [(0, R)] x
      by_cases q : R ≤ x
      · rw [top_take (s := (0, R)) q]; simp [top_nil]
      · rw [top_part (s := (0, R)) q]; simp
  | d :: ds, x, p, prev, h, h0, h1, hn, hq, hp, hs, hs2 => by
    obtain ⟨g, a⟩ := tab_good R hR ds fun x hx => h x (List.mem_cons_of_mem _ hx)
    have gd := h d List.mem_cons_self
    obtain ⟨w1, w2⟩ := worth_ok R x p d ds hR h0 h1 h hs
    obtain ⟨d1, d2, d3, d4, d5, d6⟩ := deed_ok g a gd w1
    have wn : 0 ≤ worthF R d ds x p := worthF_pr R (fun v => 0 ≤ v) (Int.le_refl _) d ds x p (fun y hy => ⟨(h y hy).1, (h y hy).2.2.1⟩) hp
    generalize hw : worthF R d ds x p = w at w1 w2 d1 d2 d3 d4 d5 d6 wn
    generalize hb : deedF d (tab R ds).2 x w = b at d1 d2 d3 d4 d5 d6
    obtain ⟨⟨a1, a2⟩, ⟨a3, a4⟩, a5, a6⟩ := okDeed_iff.mp d1
    obtain ⟨i1, i2, i3, i4, i5, i6⟩ := best_ok R hR ds (x + b.1 - b.2) w (some w) (fun y hy => h y (List.mem_cons_of_mem _ hy)) a5 a6 (fun z => nomatch z) (fun q e => (Option.some.inj e).symm) wn (.inr d2) (fun _ => d2)
    have e : bestF R (d :: ds) x p = (b :: (bestF R ds (x + b.1 - b.2) w).1, w :: (bestF R ds (x + b.1 - b.2) w).2) := by
      show (_, _) = _
      rw [hw, hb]
    rw [e]
    have gs := gain_split d b w
    have m1 := mul_max_eq (a := w - d.1) (b := b.1) (m := d.2.1) d3 d4
    have m2 := mul_max_eq (a := d.2.2.1 - w) (b := b.2) (m := d.2.2.2) d5 d6
    have k2 : w * (b.2 - b.1) + w * (x + b.1 - b.2) = w * x := by rw [← Int.mul_add]; congr 1; omega
    refine ⟨⟨d1, i1⟩, by simp [i2], by simp [i3], ?_, ?_, ?_⟩
    · intro v hv
      rcases List.mem_cons.mp hv with rfl | hv
      · exact wn
      · exact i4 v hv
    · have i5 : gainFrom ds (bestF R ds (x + b.1 - b.2) w).1 = boundFrom R (some w) ds (bestF R ds (x + b.1 - b.2) w).2 + w * (x + b.1 - b.2) := i5
      simp only [gainFrom, boundFrom, dayBound]
      cases prev with
      | none =>
        have := hn rfl
        subst this
        rw [Int.mul_zero] at k2
        show _ = _ + 0 + _ + 0
        omega
      | some q =>
        have e2 := hq q rfl
        subst e2
        obtain ⟨u1, u2⟩ := w2 (hs2 (fun z => nomatch z))
        have m3 := mul_max_eq (a := w - q) (b := x) (m := R) (fun z => u1 (by omega)) (fun z => u2 (by omega))
        rw [Int.sub_mul] at m3
        show _ = _ + R * max 0 (w - q) + _ + q * x
        omega
    · simp only [gainFrom]
      rw [i6]
      exact (val_step hR h0 h1 h b w1 d2 a5 d3 d4 d5 d6).symm
end Gs

/-! while; instances and their fields. -/
namespace Gs
open PySem L2 Evl
structure NaBest (K : PySem.W.Frag) (C : Addr) : Prop where
  dealing : NoAttr K C "dealing"
  worths : NoAttr K C "worths"
structure NaWorths (K : PySem.W.Frag) (C : Addr) : Prop where
  days : NoAttr K C "days"
  room : NoAttr K C "room"
  gains : NoAttr K C "gains"
  behind : NoAttr K C "behind"
  wide : NoAttr K C "wide"
section
variable {K : PySem.W.Frag} {σ : St} {G G' H : Hp} {ta tb tc te tl tx : TE} {t tt : TT} {d e : PyData} {ds es : List PyData} {D : Ends} {tu tw u : TS} {g : TG}
abbrev Pw (W : Nat → St → Hp → Hp → Prop) (m : Nat) : St → Hp → Prop := fun σ H => ∃ G m', m' < m ∧ W m' σ G H
theorem q_while (W : Nat → St → Hp → Hp → Prop) (m0 : Nat) (h0 : W m0 σ G H)
    (hs : ∀ m σ' G' H', W m σ' G' H' → Ex G' H' ∧ ∃ b, EvT t σ' G' b ∧ (b = true → ∀ H2, Ex H' H2 → tu { D with nx := Pw W m, ct := Pw W m, bk := u D } σ' H2) ∧ (b = false → ∀ H2, Ex H' H2 → u D σ' H2)) : tSeq (tWhile t tu) u D σ H :=
  ⟨fun m σ' H' => ∃ G', W m σ' G' H', ⟨m0, G, h0⟩, fun m σ' H' ⟨G', hw⟩ => by
    obtain ⟨a, b, hb, h1, h2⟩ := hs m σ' G' H' hw
    refine hb H' a _ fun H2 e => ?_
    cases b with
    | true => exact ⟨Pw W m, fun σ3 H3 ⟨G3, m', l, w⟩ => ⟨m', l, G3, w⟩, h1 rfl H2 e⟩
    | false => exact h2 rfl H2 e⟩
/-- o.f, o in slot i -/
theorem evd_fld {i : Nat} {x C dx : Addr} {fs : List (Str × V)} {f : Str} {v : V} (c : Cls K C) (n : NoAttr K C f) (hs : σ[i]? = some (some (.ref x))) (hx : G x = some (.ins C dx fs)) (l : fs.lookup f = some v) (z : Ds G v d) : EvD (tFld K (tVar i) f) σ G d := fun H1 a Q q =>
  ⟨_, hs, x, C, dx, fs, v, rfl, a _ _ hx, c, n, l, q v H1 (Ex.refl _) (z.mono (ex_gr a))⟩
/-- o.f = e -/
theorem q_fld {i : Nat} {x C dx : Addr} {fs : List (Str × V)} {f : Str} (c : Cls K C) (n : NoAttr K C f) (a : Ex G H) (hs : σ[i]? = some (some (.ref x))) (hx : H x = some (.ins C dx fs)) (hz : fs.length < 1000) (h : EvD te σ G d)
    (k : ∀ v H2, Ex H H2 → Ds (gr G H H2) v d → u D σ (upd H2 x (.ins C dx (putF f v fs)))) : tSeq (sFld K (tVar i) te f) u D σ H :=
  h H a _ fun v H2 e z => ⟨_, hs, x, C, dx, fs, rfl, e _ _ hx, c, n, hz, k v H2 e z⟩
theorem z_fld {i : Nat} {x C dx : Addr} {fs : List (Str × V)} {f : Str} (c : Cls K C) (n : NoAttr K C f) (a : Ex G H) (hs : σ[i]? = some (some (.ref x))) (hx : H x = some (.ins C dx fs)) (hz : fs.length < 1000) (h : EvD te σ G d)
    (k : ∀ v H2, Ex H H2 → Ds (gr G H H2) v d → D.nx σ (upd H2 x (.ins C dx (putF f v fs)))) : sFld K (tVar i) te f D σ H :=
  h H a _ fun v H2 e z => ⟨_, hs, x, C, dx, fs, rfl, e _ _ hx, c, n, hz, k v H2 e z⟩
theorem q_fldN {i : Nat} {x C dx : Addr} {fs : List (Str × V)} {f : Str} (c : Cls K C) (n : NoAttr K C f) (a : Ex G H) (hs : σ[i]? = some (some (.ref x))) (hx : H x = some (.ins C dx fs)) (hz : fs.length < 1000) (h : EvN te σ G ds)
    (k : ∀ p vs H2, Ex H H2 → H p = none → H2 p = some (.lst vs) → DsA (but (gr G H H2) p) vs ds → u D σ (upd H2 x (.ins C dx (putF f (.ref p) fs)))) : tSeq (sFld K (tVar i) te f) u D σ H :=
  h H a _ fun p vs H2 e hp h2 z => ⟨_, hs, x, C, dx, fs, rfl, e _ _ hx, c, n, hz, k p vs H2 e hp h2 z⟩
theorem z_fldN {i : Nat} {x C dx : Addr} {fs : List (Str × V)} {f : Str} (c : Cls K C) (n : NoAttr K C f) (a : Ex G H) (hs : σ[i]? = some (some (.ref x))) (hx : H x = some (.ins C dx fs)) (hz : fs.length < 1000) (h : EvN te σ G ds)
    (k : ∀ p vs H2, Ex H H2 → H p = none → H2 p = some (.lst vs) → DsA (but (gr G H H2) p) vs ds → D.nx σ (upd H2 x (.ins C dx (putF f (.ref p) fs)))) : sFld K (tVar i) te f D σ H :=
  h H a _ fun p vs H2 e hp h2 z => ⟨_, hs, x, C, dx, fs, rfl, e _ _ hx, c, n, hz, k p vs H2 e hp h2 z⟩
/-- o.f.append(e) -/
theorem q_appF {i : Nat} {x C dx l : Addr} {fs : List (Str × V)} {f : Str} {xs : List V} (c : Cls K C) (n : NoAttr K C f) (a : Ex G H) (hs : σ[i]? = some (some (.ref x))) (hx : H x = some (.ins C dx fs)) (hf : fs.lookup f = some (.ref l)) (hl : H l = some (.lst xs)) (h : EvD te σ G d) (hz : xs.length < 100000)
    (k : ∀ v H2, Ex H H2 → Ds (gr G H H2) v d → u D σ (upd H2 l (.lst (xs ++ [v])))) : tSeq (tDrop (tBM K "list" rAppend (tFld K (tVar i) f) (tCons te tNil))) u D σ H :=
  ⟨_, hs, x, C, dx, fs, _, rfl, hx, c, n, hf, .inl ⟨rfl, xs, SqL.of hl⟩, h H a _ fun v H2 e z => ⟨l, xs, v, rfl, rfl, e _ _ hl, Nat.lt_of_lt_of_le hz (line_of (Nat.le_refl _)), k v H2 e z⟩⟩
theorem z_appF {i : Nat} {x C dx l : Addr} {fs : List (Str × V)} {f : Str} {xs : List V} (c : Cls K C) (n : NoAttr K C f) (a : Ex G H) (hs : σ[i]? = some (some (.ref x))) (hx : H x = some (.ins C dx fs)) (hf : fs.lookup f = some (.ref l)) (hl : H l = some (.lst xs)) (h : EvD te σ G d) (hz : xs.length < 100000)
    (k : ∀ v H2, Ex H H2 → Ds (gr G H H2) v d → D.nx σ (upd H2 l (.lst (xs ++ [v])))) : tDrop (tBM K "list" rAppend (tFld K (tVar i) f) (tCons te tNil)) D σ H :=
  ⟨_, hs, x, C, dx, fs, _, rfl, hx, c, n, hf, .inl ⟨rfl, xs, SqL.of hl⟩, h H a _ fun v H2 e z => ⟨l, xs, v, rfl, rfl, e _ _ hl, Nat.lt_of_lt_of_le hz (line_of (Nat.le_refl _)), k v H2 e z⟩⟩
/-- o.f.reverse() -/
theorem q_revF {i : Nat} {x C dx l : Addr} {fs : List (Str × V)} {f : Str} {xs : List V} (c : Cls K C) (n : NoAttr K C f) (hs : σ[i]? = some (some (.ref x))) (hx : H x = some (.ins C dx fs)) (hf : fs.lookup f = some (.ref l)) (hl : H l = some (.lst xs))
    (k : u D σ (upd H l (.lst xs.reverse))) : tSeq (tDrop (tBM0 K "list" rReverse (tFld K (tVar i) f))) u D σ H :=
  ⟨_, hs, x, C, dx, fs, _, rfl, hx, c, n, hf, .inl ⟨rfl, xs, SqL.of hl⟩, l, xs, rfl, rfl, hl, k⟩
theorem z_revF {i : Nat} {x C dx l : Addr} {fs : List (Str × V)} {f : Str} {xs : List V} (c : Cls K C) (n : NoAttr K C f) (hs : σ[i]? = some (some (.ref x))) (hx : H x = some (.ins C dx fs)) (hf : fs.lookup f = some (.ref l)) (hl : H l = some (.lst xs))
    (k : D.nx σ (upd H l (.lst xs.reverse))) : tDrop (tBM0 K "list" rReverse (tFld K (tVar i) f)) D σ H :=
  ⟨_, hs, x, C, dx, fs, _, rfl, hx, c, n, hf, .inl ⟨rfl, xs, SqL.of hl⟩, l, xs, rfl, rfl, hl, k⟩
/-- what is flat leans on the tuples alone -/
theorem Ds.flat {H H' : Hp} {v : V} {d : PyData} (h : Ds H v d) (f : flatD d = true) (ht : ∀ a xs, H a = some (.tup xs) → H' a = some (.tup xs)) : Ds H' v d := by
  cases h with
  | non => exact .non
  | bl b => exact .bl b
  | int i => exact .int i
  | str x => exact .str x
  | lst h1 h2 h3 => cases f
  | @tup a xs ds h1 h2 h3 =>
    refine .tup (ht _ _ h1) h2 fun i x d e1 e2 => ?_
    have q := h3 i x d e1 e2
    have f' := List.all_eq_true.mp f d (List.mem_of_getElem? e2)
    cases q with
    | non => exact .non
    | bl b => exact .bl b
    | int i => exact .int i
    | str x => exact .str x
    | lst _ _ _ => cases f'
    | tup _ _ _ => cases f'
theorem DsA.flat {H H' : Hp} {vs : List V} {ds : List PyData} (h : DsA H vs ds) (f : ∀ d ∈ ds, flatD d = true) (ht : ∀ a xs, H a = some (.tup xs) → H' a = some (.tup xs)) : DsA H' vs ds :=
  ⟨h.1, fun i x d e1 e2 => (h.2 i x d e1 e2).flat (f d (List.mem_of_getElem? e2)) ht⟩
theorem flat_deeds (l : List Deed) : ∀ d ∈ l.map deedD, flatD d = true := fun d hd => by
  obtain ⟨x, _, rfl⟩ := List.mem_map.mp hd
  rfl
end
/-! ### slices -/
theorem cutD_take {l : List PyData} {i : Nat} : cutD l none (some (i : Int)) = l.take i := by
  unfold cutD
  rw [HT.sIx_none, show HT.sIx l.length l.length (some (i : Int)) = min i l.length from HT.sIx_nat _ _ i, List.drop_zero, Nat.sub_zero]
  by_cases h : i ≤ l.length
  · rw [Nat.min_eq_left h]
  · rw [Nat.min_eq_right (by omega), List.take_of_length_le (Nat.le_refl _), List.take_of_length_le (by omega)]
theorem cutD_drop {l : List PyData} {i : Nat} : cutD l (some (i : Int)) none = l.drop i := by
  unfold cutD
  rw [HT.sIx_none, show HT.sIx l.length 0 (some (i : Int)) = min i l.length from HT.sIx_nat _ _ i]
  by_cases h : i ≤ l.length
  · rw [Nat.min_eq_left h, List.take_of_length_le (by rw [List.length_drop]; exact Nat.le_refl _)]
  · rw [Nat.min_eq_right (by omega), List.drop_of_length_le (Nat.le_refl _), List.drop_of_length_le (by omega)]
    simp
/-! ### the steps by places -/
theorem put_at : ∀ (st : List Stp) (v n : Int) (i : Nat), (∀ j s, j < i → st[j]? = some s → s.1 > v) → i ≤ st.length → (∀ s, st[i]? = some s → ¬ s.1 > v) →
    putIn st v n = match st[i]? with
      | some s => if s.1 = v then st.take i ++ [(v, s.2 + n)] ++ st.drop (i + 1) else st.take i ++ [(v, n)] ++ st.drop i
      | none => st.take i ++ [(v, n)] ++ st.drop i
  | [], v, n, i, _, h, _ => by
    have : i = 0 := by simpa using h
    subst this
    rfl
  | s :: r, v, n, 0, _, _, h => by
    have h := h s rfl
    show putIn (s :: r) v n = if s.1 = v then _ else _
    simp only [putIn]
    rw [if_neg h]
    rfl
  | s :: r, v, n, i + 1, hb, hl, hn => by
    have h := hb 0 s (Nat.succ_pos _) rfl
    have ih := put_at r v n i (fun j t hj e => hb (j + 1) t (by omega) (by simpa using e)) (by simpa using hl) (fun t e => hn t (by simpa using e))
    simp only [putIn]
    rw [if_pos h, ih]
    show s :: _ = match r[i]? with
      | some s_1 => _
      | none => _
    cases r[i]? with
    | none => rfl
    | some t =>
      show s :: (if t.1 = v then _ else _) = if t.1 = v then _ else _
      split <;> rfl
theorem put_length : ∀ (st : List Stp) (v n : Int), (putIn st v n).length ≤ st.length + 1
  | [], v, n => by simp [putIn]
  | s :: r, v, n => by
    have ih := put_length r v n
    simp only [putIn]
    split
    · simp only [List.length_cons]; omega
    · split <;> simp only [List.length_cons] <;> omega
theorem cut_length : ∀ (acc : Int) (st : List Stp) (z : Int), (cutF acc st z).2.length ≤ st.length
  | acc, [], z => by simp [cutF]
  | acc, s :: r, z => by
    have ih := cut_length (acc + s.1 * s.2) r (z - s.2)
    simp only [cutF]
    split
    · simp only [List.length_cons]; omega
    · split <;> simp only [List.length_cons] <;> omega
theorem kept_length : ∀ (st : List Stp) (z : Int), (keptF st z).length ≤ st.length
  | [], z => by simp [keptF]
  | s :: r, z => by
    simp only [keptF]
    split
    · have ih := kept_length r (z - min s.2 z)
      simp only [List.length_cons]; omega
    · have ih := kept_length r z
      simp only [List.length_cons]; omega
theorem drop_cons_of {α : Type} {l : List α} {i : Nat} {x : α} (h : l[i]? = some x) : l.drop i = x :: l.drop (i + 1) := by
  rw [List.drop_eq_getElem_cons (lt_of_get h)]
  congr 1
  rw [List.getElem?_eq_getElem (lt_of_get h)] at h
  exact Option.some.inj h
end Gs
namespace Gs
open PySem L2 Evl
/-! ### a Best -/
def prevAt (ws : List Int) (i : Nat) : Option Int := if i = 0 then none else ws[i - 1]?
theorem boundFrom_drop {R : Int} {l : List Day} {ws : List Int} {i : Nat} {d : Day} {w : Int} {prev : Option Int} (hd : l[i]? = some d) (hw : ws[i]? = some w) :
    boundFrom R prev (l.drop i) (ws.drop i) = dayBound d w + (match prev with
      | none => 0
      | some p => R * max 0 (w - p)) + boundFrom R (some w) (l.drop (i + 1)) (ws.drop (i + 1)) := by
  rw [drop_cons_of hd, drop_cons_of hw]; rfl
def showsF (l : List Day) (R : Int) (m : List Deed) (ws : List Int) : Bool :=
  if m.length ≠ l.length ∨ ws.length ≠ l.length then false
  else if (ws.map fun w => decide (0 ≤ w)).all id = false ∨ 0 ≤ faultOf l R m then false
  else decide (gainOf l m = boundOf l R ws)
def bestFs (p q : Addr) : List (Str × V) := [("dealing", .ref p), ("worths", .ref q)]
theorem bestFs_mk (p q : Addr) : putF "worths" (.ref q) (putF "dealing" (.ref p) []) = bestFs p q := by
  show (if ("dealing" : Str) = "worths" then _ else (("dealing" : Str), V.ref p) :: putF "worths" (V.ref q) []) = _
  rw [if_neg (by decide +kernel)]
  rfl
theorem lk_here {k : Str} {v : V} {r : List (Str × V)} : List.lookup k ((k, v) :: r) = some v := by
  have e : (k == k) = true := beq_self_eq_true k
  simp only [List.lookup, e]
theorem lk_past {k g : Str} {v : V} {r : List (Str × V)} (h : (k == g) = false) : List.lookup k ((g, v) :: r) = List.lookup k r := by
  simp only [List.lookup, h]
theorem bestFs_d (p q : Addr) : (bestFs p q).lookup ("dealing" : Str) = some (.ref p) := lk_here
theorem bestFs_w (p q : Addr) : (bestFs p q).lookup ("worths" : Str) = some (.ref q) := (lk_past (by decide +kernel)).trans lk_here
theorem bestFs_no (p q : Addr) {m : Str} (h1 : (m == ("dealing" : Str)) = false) (h2 : (m == ("worths" : Str)) = false) : (bestFs p q).lookup m = none := (lk_past h1).trans ((lk_past h2).trans rfl)
/-- a Best at x that may yet change: its object and its two lists stand in H, not in G -/
structure BestAt (C : Addr) (G H : Hp) (x dx p q : Addr) (xs : List V) (m : List Deed) (ws : List Int) : Prop where
  obj : H x = some (.ins C dx (bestFs p q))
  dl : H p = some (.lst xs)
  wl : H q = some (.lst (ws.map V.int))
  items : DsA G xs (m.map deedD)
  gx : G x = none
  gp : G p = none
  gq : G q = none
  ne : p ≠ q
/-- the changes of a method at its own objects ms -/
structure Upm (G H G2 H2 : Hp) (ms : List Addr) : Prop where
  g : Ex G G2
  s : Ex G2 H2
  h : ∀ a o, H a = some o → a ∉ ms → H2 a = some o
  n : ∀ a o, H a = some o → G2 a ≠ none → G a ≠ none
theorem Up.method {G0 H0 G H G2 H2 : Hp} {ms : List Addr} (u : Up G0 H0 G H) (m : Upm G H G2 H2 ms) (hm : ∀ a ∈ ms, H0 a = none) : Up G0 H0 G2 H2 :=
  ⟨u.g.trans m.g, m.s, fun a o h => m.h a o (u.h a o h) (fun z => by rw [hm a z] at h; cases h), fun a o h q => u.n a o h (m.n a o (u.h a o h) q)⟩
theorem Up.upm {G0 H0 G H : Hp} {ms : List Addr} (u : Up G0 H0 G H) : Upm G0 H0 G H ms := ⟨u.g, u.s, fun a o h _ => u.h a o h, u.n⟩
end Gs

/-! The tables of a Worths. -/
namespace Gs
open PySem L2 Evl
def gainsF (R : Int) : List Day → List Int
  | [] => [0]
  | d :: ds => (tab R (d :: ds)).1 :: gainsF R ds
def behindsF (R : Int) : List Day → List (List Stp)
  | [] => [(tab R []).2]
  | d :: ds => (tab R (d :: ds)).2 :: behindsF R ds
def widesF (R : Int) : List Day → List (List Stp)
  | [] => []
  | d :: ds => putDay (tab R ds).2 d :: widesF R ds
theorem behinds_head (R : Int) (l : List Day) : ∃ r, behindsF R l = (tab R l).2 :: r := by cases l <;> exact ⟨_, rfl⟩
theorem gains_head (R : Int) (l : List Day) : ∃ r, gainsF R l = (tab R l).1 :: r := by cases l <;> exact ⟨_, rfl⟩
theorem behinds_get (R : Int) : ∀ (l : List Day) (i : Nat), i ≤ l.length → (behindsF R l)[i]? = some (tab R (l.drop i)).2
  | l, 0, _ => by
    obtain ⟨r, e⟩ := behinds_head R l
    rw [e]; rfl
  | [], i + 1, h => by simp at h
  | d :: ds, i + 1, h => behinds_get R ds i (by simpa using h)
theorem wides_get (R : Int) : ∀ (l : List Day) (i : Nat) (d : Day), l[i]? = some d → (widesF R l)[i]? = some (putDay (tab R (l.drop (i + 1))).2 d)
  | [], i, d, h => by simp at h
  | d :: ds, 0, e, h => by
    have : d = e := Option.some.inj h
    subst this; rfl
  | d :: ds, i + 1, e, h => wides_get R ds i e h
theorem gains_length (R : Int) : ∀ l : List Day, (gainsF R l).length = l.length + 1
  | [] => rfl
  | d :: ds => by show (gainsF R ds).length + 1 = _; rw [gains_length]; rfl
theorem behinds_length (R : Int) : ∀ l : List Day, (behindsF R l).length = l.length + 1
  | [] => rfl
  | d :: ds => by show (behindsF R ds).length + 1 = _; rw [behinds_length]; rfl
theorem wides_length (R : Int) : ∀ l : List Day, (widesF R l).length = l.length
  | [] => rfl
  | d :: ds => by show (widesF R ds).length + 1 = _; rw [wides_length]; rfl
theorem tab_length (R : Int) : ∀ l : List Day, (tab R l).2.length ≤ 2 * l.length + 1
  | [] => Nat.le_refl _
  | d :: ds => by
    have ih := tab_length R ds
    show (keptF _ R).length ≤ _
    refine Nat.le_trans (kept_length _ _) (Nat.le_trans (cut_length _ _ _) ?_)
    have h1 := put_length (tab R ds).2 d.1 d.2.1
    have h2 := put_length (putIn (tab R ds).2 d.1 d.2.1) d.2.2.1 d.2.2.2
    unfold putDay
    simp only [List.length_cons]
    omega
theorem wide_length (R : Int) (d : Day) (l : List Day) : (putDay (tab R l).2 d).length ≤ 2 * l.length + 3 := by
  have ih := tab_length R l
  have h1 := put_length (tab R l).2 d.1 d.2.1
  have h2 := put_length (putIn (tab R l).2 d.1 d.2.1) d.2.2.1 d.2.2.2
  unfold putDay
  omega
def smallS (st : List Stp) : Prop := ∀ s ∈ st, s.1.natAbs < big ∧ s.2.natAbs < 10 * big
theorem len_le_all : ∀ (st : List Stp), Good st → ∀ s ∈ st, 0 ≤ s.2 ∧ s.2 ≤ allS st
  | [], _, s, h => by simp at h
  | t :: r, ⟨g1, g2, g3⟩, s, h => by
    have n := all_nonneg r g3
    rcases List.mem_cons.mp h with rfl | h
    · exact ⟨g1, by simp only [allS]; omega⟩
    · have := len_le_all r g3 s h
      exact ⟨this.1, by simp only [allS]; omega⟩
theorem tab_small (R : Int) (hR : 0 ≤ R) (hb : R.natAbs < big) (l : List Day) (hg : ∀ d ∈ l, goodDay d) (hs : ∀ d ∈ l, smallDay d) : smallS (tab R l).2 := fun s h => by
  obtain ⟨g, a⟩ := tab_good R hR l hg
  have h1 := len_le_all _ g s h
  have h2 := tab_worths R (fun v => v.natAbs < big) (by show (0 : Int).natAbs < big; omega) l (fun d hd => ⟨(hs d hd).1, (hs d hd).2.2.1⟩) s h
  exact ⟨h2, by omega⟩
theorem wide_small (R : Int) (hR : 0 ≤ R) (hb : R.natAbs < big) (d : Day) (l : List Day) (hg : ∀ x ∈ d :: l, goodDay x) (hs : ∀ x ∈ d :: l, smallDay x) : smallS (putDay (tab R l).2 d) ∧ Good (putDay (tab R l).2 d) := by
  obtain ⟨g, a⟩ := tab_good R hR l fun x hx => hg x (List.mem_cons_of_mem _ hx)
  have gd := hg d List.mem_cons_self
  have sd := hs d List.mem_cons_self
  have gw := good_day g gd
  refine ⟨fun s h => ?_, gw⟩
  have h1 := len_le_all _ gw s h
  have h2 := wide_worths R (fun v => v.natAbs < big) (by show (0 : Int).natAbs < big; omega) d l (fun x hx => ⟨(hs x hx).1, (hs x hx).2.2.1⟩) s h
  rw [all_day, a] at h1
  have := gd.2.1
  have := gd.2.2.2
  have := sd.2.1
  have := sd.2.2.2
  exact ⟨h2, by omega⟩
/-! ### the fields -/
def woFs (va : V) (R : Int) (g b w : Addr) : List (Str × V) := [("days", va), ("room", .int R), ("gains", .ref g), ("behind", .ref b), ("wide", .ref w)]
theorem fs_days (va : V) (R : Int) (g b w : Addr) : (woFs va R g b w).lookup ("days" : Str) = some va := lk_here
theorem fs_room (va : V) (R : Int) (g b w : Addr) : (woFs va R g b w).lookup ("room" : Str) = some (.int R) := (lk_past (by decide +kernel)).trans lk_here
theorem fs_gains (va : V) (R : Int) (g b w : Addr) : (woFs va R g b w).lookup ("gains" : Str) = some (.ref g) := (lk_past (by decide +kernel)).trans ((lk_past (by decide +kernel)).trans lk_here)
theorem fs_behind (va : V) (R : Int) (g b w : Addr) : (woFs va R g b w).lookup ("behind" : Str) = some (.ref b) := (lk_past (by decide +kernel)).trans ((lk_past (by decide +kernel)).trans ((lk_past (by decide +kernel)).trans lk_here))
theorem fs_wide (va : V) (R : Int) (g b w : Addr) : (woFs va R g b w).lookup ("wide" : Str) = some (.ref w) := (lk_past (by decide +kernel)).trans ((lk_past (by decide +kernel)).trans ((lk_past (by decide +kernel)).trans ((lk_past (by decide +kernel)).trans lk_here)))
theorem fs_no (va : V) (R : Int) (g b w : Addr) {m : Str} (h1 : (m == ("days" : Str)) = false) (h2 : (m == ("room" : Str)) = false) (h3 : (m == ("gains" : Str)) = false) (h4 : (m == ("behind" : Str)) = false) (h5 : (m == ("wide" : Str)) = false) : (woFs va R g b w).lookup m = none :=
  (lk_past h1).trans ((lk_past h2).trans ((lk_past h3).trans ((lk_past h4).trans ((lk_past h5).trans rfl))))
theorem put_past {f g : Str} {v x : V} {r : List (Str × V)} (h : ¬ g = f) : putF f v ((g, x) :: r) = (g, x) :: putF f v r := if_neg h
def f1s (va : V) : List (Str × V) := [("days", va)]
def f2s (va x : V) : List (Str × V) := [("days", va), ("room", x)]
def f3s (va x y : V) : List (Str × V) := [("days", va), ("room", x), ("gains", y)]
def f4s (va x y z : V) : List (Str × V) := [("days", va), ("room", x), ("gains", y), ("behind", z)]
theorem ne_names (a b : Str) (h : decide (a = b) = false) : ¬ a = b := of_decide_eq_false h
theorem fs1 (va : V) : putF "days" va [] = f1s va := rfl
theorem fs2 (va x : V) : putF "room" x (f1s va) = f2s va x := put_past (ne_names "days" "room" (by decide +kernel))
theorem fs3 (va x y : V) : putF "gains" y (f2s va x) = f3s va x y := (put_past (ne_names "days" "gains" (by decide +kernel))).trans (congrArg _ (put_past (ne_names "room" "gains" (by decide +kernel))))
theorem fs4 (va x y z : V) : putF "behind" z (f3s va x y) = f4s va x y z := (put_past (ne_names "days" "behind" (by decide +kernel))).trans (congrArg _ ((put_past (ne_names "room" "behind" (by decide +kernel))).trans (congrArg _ (put_past (ne_names "gains" "behind" (by decide +kernel))))))
theorem fs5 (va : V) (R : Int) (g b w : Addr) : putF "wide" (.ref w) (f4s va (.int R) (.ref g) (.ref b)) = woFs va R g b w :=
  (put_past (ne_names "days" "wide" (by decide +kernel))).trans (congrArg _ ((put_past (ne_names "room" "wide" (by decide +kernel))).trans (congrArg _ ((put_past (ne_names "gains" "wide" (by decide +kernel))).trans (congrArg _ (put_past (ne_names "behind" "wide" (by decide +kernel))))))))
/-- a Worths at x that may yet change -/
structure WoAt (C : Addr) (G H : Hp) (x dx : Addr) (va : V) (R : Int) (g b w : Addr) (gs : List Int) (bs ws : List V) (bd wd : List (List Stp)) : Prop where
  obj : H x = some (.ins C dx (woFs va R g b w))
  gl : H g = some (.lst (gs.map V.int))
  bl : H b = some (.lst bs)
  wl : H w = some (.lst ws)
  bi : DsA G bs (bd.map deedsD)
  wi : DsA G ws (wd.map deedsD)
  gx : G x = none
  gg : G g = none
  gb : G b = none
  gw : G w = none
  gb' : g ≠ b
  gw' : g ≠ w
  bw' : b ≠ w
/-- a Worths that changes no more -/
structure WoI (C : Addr) (G : Hp) (x : Addr) (R : Int) (l : List Day) : Prop where
  ex : ∃ dx va g b w, G x = some (.ins C dx (woFs va R g b w)) ∧ Ds G va (daysD l) ∧ Ds G (.ref g) (intsD (gainsF R l)) ∧ Ds G (.ref b) (.list ((behindsF R l).map deedsD)) ∧ Ds G (.ref w) (.list ((widesF R l).map deedsD))
theorem WoI.mono {C : Addr} {G G' : Hp} {x : Addr} {R : Int} {l : List Day} (h : WoI C G x R l) (e : Ex G G') : WoI C G' x R l := by
  obtain ⟨dx, va, g, b, w, h1, h2, h3, h4, h5⟩ := h.ex
  exact ⟨dx, va, g, b, w, e _ _ h1, h2.mono e, h3.mono e, h4.mono e, h5.mono e⟩
theorem wipe_none {σ : St} {i : Nat} : ∀ {vs : List Nat}, i ∈ vs → i < σ.length → (wipe σ vs)[i]? = some none
  | v :: vs, h, hl => by
    unfold wipe
    by_cases e : v = i
    · subst e; rw [List.getElem?_set_self (by rw [wipe_length]; exact hl)]
    · rw [List.getElem?_set_ne e]
      exact wipe_none ((List.mem_cons.mp h).resolve_left fun h => e h.symm) hl
theorem wipe_eq {σ τ : St} {vs : List Nat} (hl : τ.length = σ.length) (h : ∀ i, i ∉ vs → τ[i]? = σ[i]?) : wipe τ vs = wipe σ vs := by
  apply List.ext_getElem?
  intro i
  by_cases m : i ∈ vs
  · by_cases l : i < σ.length
    · rw [wipe_none m l, wipe_none m (by omega)]
    · rw [List.getElem?_eq_none (by rw [wipe_length]; omega), List.getElem?_eq_none (by rw [wipe_length]; omega)]
  · rw [wipe_out m, wipe_out m, h i m]
theorem wipe_set1 {σ : St} {vs : List Nat} {j : Nat} {x : Option V} (h : j ∈ vs) : wipe ((wipe σ vs).set j x) vs = wipe σ vs :=
  wipe_eq (by rw [List.length_set, wipe_length]) fun i m => by rw [List.getElem?_set_ne (by rintro rfl; exact m h), wipe_out m]
theorem wipe_set2 {σ : St} {vs : List Nat} {j k : Nat} {x y : Option V} (h : j ∈ vs) (hk : k ∈ vs) : wipe (((wipe σ vs).set j x).set k y) vs = wipe σ vs :=
  wipe_eq (by rw [List.length_set, List.length_set, wipe_length]) fun i m => by rw [List.getElem?_set_ne (by rintro rfl; exact m hk), List.getElem?_set_ne (by rintro rfl; exact m h), wipe_out m]
section
variable {K : PySem.W.Frag} {σ : St} {G G' H : Hp} {ta tb tc te tl tx : TE} {t tt : TT} {d e : PyData} {ds es : List PyData} {D : Ends} {tu tw u : TS} {g : TG}
/-- a, b = (a number, something) -/
theorem q_pairI {n : Int} {j k : Nat} (a : Ex G H) (h : EvD te σ G (.tuple [.int n, d])) (q : ∀ v H2, Ex H H2 → Ds (gr G H H2) v d → u D ((σ.set j (some (.int n))).set k (some v)) H2) : tSeq (tAsg te (gTup K 2 (gNames [j, k]))) u D σ H :=
  z_seq (h H a _ fun v H2 e z => g_tup z (gr_ex a e) rfl rfl fun vs σ' h2 h3 => by
    obtain ⟨x, y, rfl, z1, z2⟩ := h2.two
    cases z1
    cases h3 with
    | cons h3 => cases h3 with
      | cons h3 => cases h3; exact q y H2 e z2)
theorem z_appFN {i : Nat} {x C dx l : Addr} {fs : List (Str × V)} {f : Str} {xs : List V} (c : Cls K C) (n : NoAttr K C f) (a : Ex G H) (hs : σ[i]? = some (some (.ref x))) (hx : H x = some (.ins C dx fs)) (hf : fs.lookup f = some (.ref l)) (hl : H l = some (.lst xs)) (h : EvN te σ G es) (hz : xs.length < 100000)
    (k : ∀ p vs H2, Ex H H2 → H p = none → H2 p = some (.lst vs) → DsA (but (gr G H H2) p) vs es → D.nx σ (upd H2 l (.lst (xs ++ [.ref p])))) : tDrop (tBM K "list" rAppend (tFld K (tVar i) f) (tCons te tNil)) D σ H :=
  ⟨_, hs, x, C, dx, fs, _, rfl, hx, c, n, hf, .inl ⟨rfl, xs, SqL.of hl⟩, h H a _ fun p vs H2 e hp h2 z => ⟨l, xs, .ref p, rfl, rfl, e _ _ hl, Nat.lt_of_lt_of_le hz (line_of (Nat.le_refl _)), k p vs H2 e hp h2 z⟩⟩
/-- over pairs of numbers, two names, a test -/
theorem evn_lcP {l : List Deed} {j k : Nat} {vs : List Nat} (p : Deed → Bool) (F : Deed → PyData) (h : EvD tl σ G (.list (l.map deedD))) (hz : l.length ≤ 40000) (hj : j ∈ vs) (hk : k ∈ vs)
    (ht : ∀ Gx (d : Deed), Ex G Gx → d ∈ l → EvT tt (((wipe σ vs).set j (some (.int d.1))).set k (some (.int d.2))) Gx (p d))
    (he : ∀ Gx (d : Deed), Ex G Gx → d ∈ l → EvD te (((wipe σ vs).set j (some (.int d.1))).set k (some (.int d.2))) Gx (F d)) : EvN (tLc (iList K tl) (gTup K 2 (gNames [j, k])) tt te vs) σ G ((l.filter p).map F) := by
  have hs := src_listT (K := K) (js := [j, k]) (m := 2) h rfl (deed_tuples l)
  rw [List.length_map] at hs
  have := evn_lc (tt := tt) (te := te) (vs := vs) hs hz (fun i => p (l.getD i (0, 0))) (fun i => F (l.getD i (0, 0))) (fun i Gx σ' hS => by
      obtain ⟨d, hd, rfl⟩ := stp_deed hS
      exact wipe_set2 hj hk) (fun i Gx σ' _ g hS => by
      obtain ⟨d, hd, rfl⟩ := stp_deed hS
      rw [List.getD_eq_getElem?_getD, hd]
      exact ht Gx d g (List.mem_of_getElem? hd)) (fun i Gx σ' _ g hS _ => by
      obtain ⟨d, hd, rfl⟩ := stp_deed hS
      rw [List.getD_eq_getElem?_getD, hd]
      exact he Gx d g (List.mem_of_getElem? hd))
  refine this.to ?_
  unfold givenD
  have h1 : l = (List.range l.length).map (fun i => l.getD i (0, 0)) := by
    apply List.ext_getElem?
    intro i
    rw [List.getElem?_map]
    by_cases hi : i < l.length
    · rw [List.getElem?_range hi, List.getElem?_eq_getElem hi]
      simp [hi]
    · rw [List.getElem?_eq_none (by omega), List.getElem?_eq_none (by simpa using hi)]
      rfl
  conv => rhs; rw [h1]
  rw [List.filter_map, List.map_map]
  rfl
/-- over pairs of numbers, one name, a test on the pair, the pair itself -/
theorem evn_lcS {l : List Deed} {j : Nat} {vs : List Nat} (p : Deed → Bool) (h : EvD tl σ G (.list (l.map deedD))) (hz : l.length ≤ 40000) (hj : j ∈ vs)
    (ht : ∀ Gx v (d : Deed), Ex G Gx → d ∈ l → Ds Gx v (deedD d) → EvT tt ((wipe σ vs).set j (some v)) Gx (p d))
    (he : ∀ Gx v (d : Deed), Ex G Gx → d ∈ l → Ds Gx v (deedD d) → EvD te ((wipe σ vs).set j (some v)) Gx (deedD d)) : EvN (tLc (iList K tl) (gName j) tt te vs) σ G ((l.filter p).map deedD) := by
  have hs := src_list (K := K) (j := j) h
  rw [List.length_map] at hs
  have := evn_lc (tt := tt) (te := te) (vs := vs) hs hz (fun i => p (l.getD i (0, 0))) (fun i => deedD (l.getD i (0, 0))) (fun i Gx σ' hS => by
      obtain ⟨v, d, _, _, rfl⟩ := hS
      exact wipe_set1 hj) (fun i Gx σ' _ g hS => by
      obtain ⟨v, d', hd', z, rfl⟩ := hS
      obtain ⟨d, hd, rfl⟩ := map_get hd'
      rw [List.getD_eq_getElem?_getD, hd]
      exact ht Gx v d g (List.mem_of_getElem? hd) z) (fun i Gx σ' _ g hS _ => by
      obtain ⟨v, d', hd', z, rfl⟩ := hS
      obtain ⟨d, hd, rfl⟩ := map_get hd'
      rw [List.getD_eq_getElem?_getD, hd]
      exact he Gx v d g (List.mem_of_getElem? hd) z)
  refine this.to ?_
  unfold givenD
  have h1 : l = (List.range l.length).map (fun i => l.getD i (0, 0)) := by
    apply List.ext_getElem?
    intro i
    rw [List.getElem?_map]
    by_cases hi : i < l.length
    · rw [List.getElem?_range hi, List.getElem?_eq_getElem hi]
      simp [hi]
    · rw [List.getElem?_eq_none (by omega), List.getElem?_eq_none (by simpa using hi)]
      rfl
  conv => rhs; rw [h1]
  rw [List.filter_map, List.map_map]
  rfl
/-- l != [] -/
theorem evd_neNil {f : Deed → PyData} {l : List Deed} (hp : ∀ d, plain 1 (f d) = true) (ha : EvD ta σ G (.list (l.map f))) : EvD (tOp (rNeD K) ta (tLst tNil)) σ G (.bool (!l.isEmpty)) := by
  refine EvD.to (evd_neD ha (EvN.asD (evn_lst eva_nil)) (shaped_of 2 ?_) (shaped_of 1 rfl)) ?_
  · show ((l.map f).all (plain 1)) = true
    rw [List.all_map]
    exact List.all_eq_true.mpr fun x _ => hp x
  · cases l <;> simp [PyData.eqv, PyData.eqvAll]
/-- the tuples that a wider base knows are G's -/
theorem flat_gr {Ga H2 : Hp} {p : Addr} (e : Ex H H2) (hp : H p = none) (ht : ∀ a xs, Ga a = some (.tup xs) → G a = some (.tup xs)) : ∀ a xs, but (gr Ga H H2) p a = some (.tup xs) → but (gr G H H2) p a = some (.tup xs) := fun a xs h => by
  have ne : a ≠ p := fun z => by rw [z, but_self] at h; cases h
  rw [but_ne ne] at h ⊢
  cases q : H a with
  | none => rw [gr_new q] at h ⊢; exact h
  | some o => rw [gr_old q] at h ⊢; exact ht a xs h
end
theorem gt_sum (w : Int) : ∀ st : List Stp, ((st.filter fun s => decide (w < s.1)).map fun s => s.2).sum = gtS w st
  | [] => rfl
  | s :: r => by
    have ih := gt_sum w r
    simp only [gtS, List.filter_cons]
    split
    · rename_i h
      rw [if_pos (by simpa using h), List.map_cons, List.sum_cons, ih]
    · rename_i h
      rw [if_neg (by simpa using h), ih]; omega
end Gs

/-! Methods that change their own object: Upm; a Worths under way. -/
namespace Gs
open PySem L2 Evl
section
variable {G0 H0 G H G2 H2 : Hp} {ms ms2 : List Addr}
theorem Upm.refl (a : Ex G H) : Upm G H G H ms := ⟨Ex.refl _, a, fun _ _ h _ => h, fun _ _ _ h => h⟩
theorem Upm.scal (m : Upm G0 H0 G H ms) (e : Ex H H2) : Upm G0 H0 G H2 ms := ⟨m.g, m.s.trans e, fun a o h n => e _ _ (m.h a o h n), m.n⟩
theorem Upm.data (m : Upm G0 H0 G H ms) (e : Ex H H2) (hm : ∀ a ∈ ms, H a ≠ none) : Upm G0 H0 (gr G H H2) H2 ms :=
  ⟨m.g.trans (ex_gr m.s), gr_ex m.s e, fun a o h n => e _ _ (m.h a o h n), fun a o h q => m.n a o h (by
    by_cases am : a ∈ ms
    · obtain ⟨y, hy⟩ := Option.ne_none_iff_exists'.mp (hm a am)
      rwa [gr_old hy] at q
    · rwa [gr_old (m.h a o h am)] at q)⟩
theorem Upm.mut {l : Addr} {o : HO} (m : Upm G0 H0 G H ms) (hl : l ∈ ms) (hg : G l = none) : Upm G0 H0 G (upd H l o) ms :=
  ⟨m.g, Ex.mut m.s hg, fun a y h n => by
    have : a ≠ l := fun z => n (z ▸ hl)
    rw [upd_ne this]; exact m.h a y h n, m.n⟩
theorem Upm.new {l : Addr} {o : HO} (m : Upm G0 H0 G H ms) (hl : H0 l = none) (hg : G l = none) : Upm G0 H0 G (upd H l o) ms :=
  ⟨m.g, Ex.mut m.s hg, fun a y h n => by
    have : a ≠ l := fun z => by rw [z, hl] at h; cases h
    rw [upd_ne this]; exact m.h a y h n, m.n⟩
theorem Upm.sub {G' : Hp} (m : Upm G0 H0 G H ms) (g : Ex G0 G') (e : Ex G' G) : Upm G0 H0 G' H ms := ⟨g, e.trans m.s, m.h, fun a o h q => m.n a o h (fun z => q (none_of_ex e z))⟩
theorem Upm.method (m : Upm G0 H0 G H ms) (m2 : Upm G H G2 H2 ms2) (hm : ∀ a ∈ ms2, H0 a = none ∨ a ∈ ms) (hk : ∀ a ∈ ms, H a ≠ none) : Upm G0 H0 G2 H2 ms :=
  ⟨m.g.trans m2.g, m2.s, fun a o h n => m2.h a o (m.h a o h n) fun q => by
    rcases hm a q with z | z
    · rw [z] at h; cases h
    · exact n z, fun a o h q => m.n a o h (by
    by_cases am : a ∈ ms
    · obtain ⟨y, hy⟩ := Option.ne_none_iff_exists'.mp (hk a am)
      exact m2.n a y hy q
    · exact m2.n a o (m.h a o h am) q)⟩
theorem Upm.up (m : Upm G0 H0 G H []) : Up G0 H0 G H := ⟨m.g, m.s, fun a o h => m.h a o h (by simp), m.n⟩
/-! ### an object and a list of ours, read -/
def wb (G : Hp) (x : Addr) (o : HO) (b : Addr) (l : List V) : Hp := upd (upd G x o) b (.lst l)
variable {x b : Addr} {o : HO} {l : List V}
theorem wb_in (a : Ex G H) (hx : H x = some o) (hb : H b = some (.lst l)) : Ex (wb G x o b l) H := fun c y e => by
  unfold wb at e
  by_cases q : c = b
  · subst q; rw [upd_same] at e; cases e; exact hb
  · rw [upd_ne q] at e
    by_cases q : c = x
    · subst q; rw [upd_same] at e; cases e; exact hx
    · rw [upd_ne q] at e; exact a _ _ e
theorem wb_up (gx : G x = none) (gb : G b = none) (n : x ≠ b) : Ex G (wb G x o b l) := fun c y e => by
  have h1 : c ≠ b := fun z => by rw [z, gb] at e; cases e
  have h2 : c ≠ x := fun z => by rw [z, gx] at e; cases e
  unfold wb
  rw [upd_ne h1, upd_ne h2]; exact e
theorem wb_x (n : x ≠ b) : wb G x o b l x = some o := by unfold wb; rw [upd_ne n, upd_same]
theorem wb_b : wb G x o b l b = some (.lst l) := upd_same
theorem wb_tup {C dx : Addr} {fs : List (Str × V)} {a : Addr} {xs : List V} (h : wb G x (.ins C dx fs) b l a = some (.tup xs)) : G a = some (.tup xs) := by
  unfold wb at h
  by_cases q : a = b
  · subst q; rw [upd_same] at h; cases h
  · rw [upd_ne q] at h
    by_cases q : a = x
    · subst q; rw [upd_same] at h; cases h
    · rw [upd_ne q] at h; exact h
/-! ### a Worths under way -/
section
variable {C dx g w : Addr} {va : V} {R : Int} {gs : List Int} {bs ws : List V} {bd wd : List (List Stp)}
theorem WoAt.nexg (h : WoAt C G H x dx va R g b w gs bs ws bd wd) : x ≠ g := fun z => by have := h.obj; rw [z, h.gl] at this; cases this
theorem WoAt.nexb (h : WoAt C G H x dx va R g b w gs bs ws bd wd) : x ≠ b := fun z => by have := h.obj; rw [z, h.bl] at this; cases this
theorem WoAt.nexw (h : WoAt C G H x dx va R g b w gs bs ws bd wd) : x ≠ w := fun z => by have := h.obj; rw [z, h.wl] at this; cases this
theorem WoAt.all (h : WoAt C G H x dx va R g b w gs bs ws bd wd) : ∀ a ∈ [g, b, w], H a ≠ none := fun a m => by
  rcases List.mem_cons.mp m with rfl | m
  · rw [h.gl]; intro z; cases z
  rcases List.mem_cons.mp m with rfl | m
  · rw [h.bl]; intro z; cases z
  rcases List.mem_cons.mp m with rfl | m
  · rw [h.wl]; intro z; cases z
  · cases m
theorem WoAt.scal (h : WoAt C G H x dx va R g b w gs bs ws bd wd) (e : Ex H H2) : WoAt C G H2 x dx va R g b w gs bs ws bd wd := ⟨e _ _ h.obj, e _ _ h.gl, e _ _ h.bl, e _ _ h.wl, h.bi, h.wi, h.gx, h.gg, h.gb, h.gw, h.gb', h.gw', h.bw'⟩
theorem WoAt.data (h : WoAt C G H x dx va R g b w gs bs ws bd wd) (a : Ex G H) (e : Ex H H2) : WoAt C (gr G H H2) H2 x dx va R g b w gs bs ws bd wd := ⟨e _ _ h.obj, e _ _ h.gl, e _ _ h.bl, e _ _ h.wl, h.bi.mono (ex_gr a), h.wi.mono (ex_gr a), (gr_old h.obj).trans h.gx, (gr_old h.gl).trans h.gg, (gr_old h.bl).trans h.gb, (gr_old h.wl).trans h.gw, h.gb', h.gw', h.bw'⟩
theorem WoAt.setG (h : WoAt C G H x dx va R g b w gs bs ws bd wd) (gs' : List Int) : WoAt C G (upd H g (.lst (gs'.map V.int))) x dx va R g b w gs' bs ws bd wd :=
  ⟨by rw [upd_ne h.nexg]; exact h.obj, upd_same, by rw [upd_ne h.gb'.symm]; exact h.bl, by rw [upd_ne h.gw'.symm]; exact h.wl, h.bi, h.wi, h.gx, h.gg, h.gb, h.gw, h.gb', h.gw', h.bw'⟩
theorem WoAt.setB (h : WoAt C G H x dx va R g b w gs bs ws bd wd) {bs' : List V} {bd' : List (List Stp)} (z : DsA G bs' (bd'.map deedsD)) : WoAt C G (upd H b (.lst bs')) x dx va R g b w gs bs' ws bd' wd :=
  ⟨by rw [upd_ne h.nexb]; exact h.obj, by rw [upd_ne h.gb']; exact h.gl, upd_same, by rw [upd_ne h.bw'.symm]; exact h.wl, z, h.wi, h.gx, h.gg, h.gb, h.gw, h.gb', h.gw', h.bw'⟩
theorem WoAt.setW (h : WoAt C G H x dx va R g b w gs bs ws bd wd) {ws' : List V} {wd' : List (List Stp)} (z : DsA G ws' (wd'.map deedsD)) : WoAt C G (upd H w (.lst ws')) x dx va R g b w gs bs ws' bd wd' :=
  ⟨by rw [upd_ne h.nexw]; exact h.obj, by rw [upd_ne h.gw']; exact h.gl, by rw [upd_ne h.bw']; exact h.bl, upd_same, h.bi, z, h.gx, h.gg, h.gb, h.gw, h.gb', h.gw', h.bw'⟩
theorem WoAt.appB (h : WoAt C G H x dx va R g b w gs bs ws bd wd) {v : V} {st : List Stp} (z : Ds G v (deedsD st)) : WoAt C G (upd H b (.lst (bs ++ [v]))) x dx va R g b w gs (bs ++ [v]) ws (bd ++ [st]) wd :=
  h.setB (by rw [List.map_append]; exact h.bi.append (.cons z .nil))
theorem WoAt.appW (h : WoAt C G H x dx va R g b w gs bs ws bd wd) {v : V} {st : List Stp} (z : Ds G v (deedsD st)) : WoAt C G (upd H w (.lst (ws ++ [v]))) x dx va R g b w gs bs (ws ++ [v]) bd (wd ++ [st]) :=
  h.setW (by rw [List.map_append]; exact h.wi.append (.cons z .nil))
/-- done with: nobody writes to it again -/
theorem WoAt.own {l : List Day} (h : WoAt C G H x dx va R g b w (gainsF R l) bs ws (behindsF R l) (widesF R l)) (u : Up G0 H0 G H) (zv : Ds G va (daysD l)) (hx : H0 x = none) (hg : H0 g = none) (hb : H0 b = none) (hw : H0 w = none) :
    ∃ G', Up G0 H0 G' H ∧ Ex G G' ∧ WoI C G' x R l := by
  have n1 := h.nexg
  have n2 := h.nexb
  have n3 := h.nexw
  have u1 := u.adopt h.gx hx h.obj
  have g1 : (upd G x (.ins C dx (woFs va R g b w))) g = none := by rw [upd_ne n1.symm]; exact h.gg
  have u2 := u1.adopt g1 hg h.gl
  have g2 : (upd (upd G x (.ins C dx (woFs va R g b w))) g (.lst ((gainsF R l).map V.int))) b = none := by rw [upd_ne h.gb'.symm, upd_ne n2.symm]; exact h.gb
  have u3 := u2.adopt g2 hb h.bl
  have g3 : (upd (upd (upd G x (.ins C dx (woFs va R g b w))) g (.lst ((gainsF R l).map V.int))) b (.lst bs)) w = none := by rw [upd_ne h.bw'.symm, upd_ne h.gw'.symm, upd_ne n3.symm]; exact h.gw
  have u4 := u3.adopt g3 hw h.wl
  have e1 : Ex G (upd G x (.ins C dx (woFs va R g b w))) := Ex.new h.gx
  have e2 : Ex (upd G x (.ins C dx (woFs va R g b w))) _ := Ex.new (o := .lst ((gainsF R l).map V.int)) g1
  have e3 := Ex.new (o := .lst bs) g2
  have e4 := Ex.new (o := .lst ws) g3
  have e34 := e3.trans e4
  have e24 := e2.trans e34
  have e14 := e1.trans e24
  exact ⟨_, u4, e14, ⟨dx, va, g, b, w, e24 _ _ upd_same, zv.mono e14, .list (e34 _ _ upd_same) (.ints _), .list (e4 _ _ upd_same) (h.bi.mono e14), .list upd_same (h.wi.mono e14)⟩⟩
end
section
variable {K : PySem.W.Frag} {σ : St} {Ga : Hp} {te : TE} {ds : List PyData} {D : Ends} {u : TS}
/-- a new list of flat things, its words read in a wider base -/
theorem q_setW {i : Nat} (a : Ex Ga H) (h : EvN te σ Ga ds) (f : ∀ d ∈ ds, flatD d = true) (ht : ∀ a xs, Ga a = some (.tup xs) → G a = some (.tup xs)) (k : ∀ v H2, Ex H H2 → Ds (gr G H H2) v (.list ds) → u D (σ.set i (some v)) H2) : tSeq (tAsg te (gName i)) u D σ H :=
  q_setN a h fun p vs H2 e hp h2 z => k _ H2 e (.list (by rw [gr_new hp]; exact h2) ((z.flat f (flat_gr e hp ht)).mono but_ex))
end
end
end Gs

/-! xs[a::c], a and c numbers written out. -/
namespace Gs
open PySem PySem.Spec PyProof.Rows L2 Evl
def idxS (n : Nat) (a c : Int) : List Nat := sliceRange (sliceBounds (some a) none (some c) n).1 (sliceBounds (some a) none (some c) n).2.1 (sliceBounds (some a) none (some c) n).2.2
def stepV (xs : List V) (a c : Int) : List V := (idxS xs.length a c).filterMap (xs[·]?)
def tStepL (K : PySem.W.Frag) (te : TE) (a c : Int) : TE := fun σ H Q => te σ H fun x H1 => ∃ l xs, x = .ref l ∧ SqL K H1 l xs ∧ ∀ p, H1 p = none → Q (.ref p) (upd H1 p (.lst (stepV xs a c)))
theorem vals_pick {xs : List V} {its : List Value} (r : Vals xs its) : ∀ ix : List Nat, Vals (ix.filterMap (xs[·]?)) (ix.filterMap (its[·]?))
  | [] => .nil
  | i :: ix => by
    have ih := vals_pick r ix
    have key : ∀ {xs : List V} {its : List Value}, Vals xs its → ∀ i : Nat, (xs[i]? = none ∧ its[i]? = none) ∨ ∃ x v, xs[i]? = some x ∧ its[i]? = some v ∧ RelV x v := by
      intro xs its r
      induction r with
      | nil => intro i; exact .inl ⟨rfl, rfl⟩
      | cons h _ ih =>
        intro i
        cases i with
        | zero => exact .inr ⟨_, _, rfl, rfl, h⟩
        | succ i => simpa using ih i
    rcases key r i with ⟨h1, h2⟩ | ⟨x, v, h1, h2, h3⟩
    · rw [List.filterMap_cons, List.filterMap_cons, h1, h2]
      exact ih
    · rw [List.filterMap_cons, List.filterMap_cons, h1, h2]
      exact .cons h3 ih
theorem idx_length (n : Nat) {a c : Int} (h0 : 0 < c) : (idxS n a c).length ≤ n := by
  unfold idxS
  refine sliceRange_length_le _ _ _ n (fun _ => ?_) (fun h => absurd h0 h)
  have hc : c > 0 := h0
  simp only [sliceBounds, Option.getD_some, hc, if_true]
  constructor
  · omega
  · exact Int.le_refl _
theorem pick_size (items : Array Value) {a c : Int} (h0 : 0 < c) : (slicePick items (some a) none (some c)) = ((idxS items.size a c).filterMap (items[·]?)).toArray := rfl
section
variable {X : Cx}
theorem pe_slStep {e : Expr} {te : TE} {k1 k2 : Nat} {a c : Int} {p1 p2 p3 pos : Pos} (he : PE X e te) (h0 : 0 < c) : PE X (.Subscript e (.Slice (some (.Constant (.int a) k1 p1)) none (some (.Constant (.int c) k2 p2)) p3) pos) (tStepL X.K te a c) := by
  refine ⟨fun pins s σ H Q I h => ?_⟩
  refine Subscript_ (thn (he.run pins s σ H _ I h) fun v s1 ⟨x, H1, I1, r1, q1⟩ => ?_)
  obtain ⟨l, xs, ex, hx, q⟩ := q1
  subst ex
  cases r1
  have hlo : PO X (some (.Constant (.int a) k1 p1)) (tPart (tC (.int a))) := po_some pe_int
  have hst : PO X (some (.Constant (.int c) k2 p2)) (tPart (tC (.int c))) := po_some pe_int
  refine wpAny_Slice (thn (hlo.run pins s1 σ H1 (fun o H2 => o = some a ∧ H2 = H1) I1 ⟨a, rfl, rfl, rfl⟩) fun vl s2 ⟨o1, H2, I2, pl, el, e2⟩ => ?_)
  subst el e2
  refine thn (po_none.run pins s2 σ H2 (fun o H3 => o = none ∧ H3 = H2) I2 ⟨rfl, rfl⟩) fun vu s3 ⟨u, H3, I3, pu, eu, e3⟩ => ?_
  subst eu e3
  refine thn (hst.run pins s3 σ H3 (fun o H4 => o = some c ∧ H4 = H3) I3 ⟨c, rfl, rfl, rfl⟩) fun vs s4 ⟨o, H4, I4, ps, eo, e4⟩ => ?_
  subst eo e4
  have I5 : Inv X pins σ H4 { s4 with heap := s4.heap.push { cls := .type "slice", data := .fields #[vl, vu, vs] } } := I4.kept (t' := s4.toks) fun b ob q => Heap.get?_push_of_some _ q
  obtain ⟨its, r, ht, hz⟩ := I5.list hx
  have hlen := r.length
  show wpAny (model X.prog X.w) X.A (subscriptTail e (.Slice (some (.Constant (.int a) k1 p1)) none (some (.Constant (.int c) k2 p2)) p3) (.ref l) (.ref s4.heap.objs.size)) (EP X pins σ Q) X.xe { s4 with heap := s4.heap.push { cls := .type "slice", data := .fields #[vl, vu, vs] } }
  refine tail_any (ops := [.ref l, .ref s4.heap.objs.size]) ht.isList.typeIs (PySem.slot_list_getitem.lookup) ?_ (by with_unfolding_all rfl)
  refine wpAny_getItem_list_slice ht.isList (Heap.IsSliceOf.new _ vl vu vs) pl pu ps (fun h => by have := Option.some.inj h; omega) ?_ (by rw [List.size_toArray]; omega)
  have es : its.toArray.size = xs.length := by rw [List.size_toArray]; exact hlen.symm
  have ep : slicePick its.toArray (some a) none (some c) = ((idxS xs.length a c).filterMap (its[·]?)).toArray := by
    rw [pick_size _ h0, es]
    congr 2
    funext i
    simp
  rw [ep]
  refine ⟨.ref _, _, I5.laid (t' := s4.toks) (o := .lst (stepV xs a c)) (fun b ob q => Heap.get?_push_of_some _ q) (Nat.le_refl _) ?_, rfl, q _ (I5.hok.fresh (Nat.le_refl _))⟩
  have hl2 : (stepV xs a c).length ≤ xs.length := Nat.le_trans (List.length_filterMap_le _ _) (idx_length _ h0)
  exact ⟨by omega, _, 0, vals_pick r _, Heap.get?_push_size _ rfl⟩
theorem pe_slStepK (K : PySem.W.Frag) {e : Expr} {te : TE} {k1 k2 : Nat} {a c : Int} {p1 p2 p3 pos : Pos} (he : PE X e te) (h0 : 0 < c) (h : X.K = K := by rfl) : PE X (.Subscript e (.Slice (some (.Constant (.int a) k1 p1)) none (some (.Constant (.int c) k2 p2)) p3) pos) (tStepL K te a c) := by
  subst h
  exact pe_slStep he h0
end
end Gs

/-! Answers bent by hand. -/
namespace Gs
open PySem L2 Evl
theorem cutD_mid {l : List PyData} {i : Nat} (n : Nat) (h : i ≤ l.length) : cutD l (some (i : Int)) (some ((i : Int) + (n : Int))) = (l.drop i).take n := by
  unfold cutD
  rw [show HT.sIx l.length 0 (some (i : Int)) = min i l.length from HT.sIx_nat _ _ i, show ((i : Int) + (n : Int)) = ((i + n : Nat) : Int) by omega, show HT.sIx l.length l.length (some ((i + n : Nat) : Int)) = min (i + n) l.length from HT.sIx_nat _ _ _, Nat.min_eq_left h]
  by_cases q : i + n ≤ l.length
  · rw [Nat.min_eq_left q, Nat.add_sub_cancel_left]
  · rw [Nat.min_eq_right (by omega), List.take_of_length_le (by rw [List.length_drop]; exact Nat.le_refl _), List.take_of_length_le (by rw [List.length_drop]; omega)]
theorem sIx_m1 (n : Nat) : HT.sIx n 0 (some (-1)) = n - 1 := by
  show (if (-1 : Int) < 0 then ((-1 : Int) + (n : Int)).toNat else min (-1 : Int).toNat n) = n - 1
  rw [if_pos (by decide)]
  omega
theorem cutD_last {l : List PyData} : cutD l (some (-1)) none = l.drop (l.length - 1) := by
  unfold cutD
  rw [HT.sIx_none, sIx_m1]
  rw [List.take_of_length_le (by rw [List.length_drop]; exact Nat.le_refl _)]
def bentI (ws : List Int) (k : Int) (i : Nat) : List Int :=
  if k = 1 ∨ k = 2 then ws.take i ++ ((ws.drop i).take 1).map (fun x => x + pick [1, -1] (k - 1)) ++ ws.drop (i + 1)
  else if k = 3 then ws.take i ++ ws.drop (i + 1)
  else if k = 4 then ws.take i ++ (ws.drop i).take 1 ++ ws.drop i
  else if k = 5 then ws.map (fun x => x + 1)
  else if k = 6 then ws.take i ++ ((ws.drop i).take 1).map (fun x => -x - 1) ++ ws.drop (i + 1)
  else if k = 7 then ws.reverse else ws
def bentF (ws : List Int) (c : Int) : List Int := bentI ws (c % 8) (c / 8 % ((ws.length : Int) + 1)).toNat
def dealtI (m : List Deed) (k q : Int) (i : Nat) : List Deed :=
  if k = 1 then m.take i ++ ((m.drop i).take 1).map (fun d => (d.1 + pick [1, -1, -7] q, d.2)) ++ m.drop (i + 1)
  else if k = 2 then m.take i ++ ((m.drop i).take 1).map (fun d => (d.1, d.2 + pick [1, -1, -7] q)) ++ m.drop (i + 1)
  else if k = 3 then m.take i ++ ((m.drop i).take 2).reverse ++ m.drop (i + 2)
  else if q = 1 then m.take i ++ m.drop (i + 1) else m ++ m.drop (m.length - 1)
def dealtF (m : List Deed) (c : Int) : List Deed := dealtI m (c % 4) (c / 4 % 3) (c / 9 % ((m.length : Int) + 1)).toNat
theorem bent_all {P Q : Int → Prop} {ws : List Int} {c : Int} (h : ∀ w ∈ ws, P w) (h0 : ∀ w, P w → Q w) (h1 : ∀ w, P w → Q (w + 1)) (h2 : ∀ w, P w → Q (w + -1)) (h3 : ∀ w, P w → Q (-w - 1)) : ∀ w ∈ bentF ws c, Q w := by
  unfold bentF
  generalize (c / 8 % ((ws.length : Int) + 1)).toNat = i
  have pk : c % 8 = 1 ∨ c % 8 = 2 → ∀ w, P w → Q (w + pick [1, -1] (c % 8 - 1)) := fun q w hw => by
    rcases q with q | q <;> rw [q]
    · exact h1 w hw
    · exact h2 w hw
  generalize c % 8 = k at pk
  have t : ∀ w ∈ ws.take i, Q w := fun w hw => h0 w (h w (List.mem_of_mem_take hw))
  have d : ∀ n, ∀ w ∈ ws.drop n, P w := fun n w hw => h w (List.mem_of_mem_drop hw)
  have mid : ∀ w ∈ (ws.drop i).take 1, P w := fun w hw => d i w (List.mem_of_mem_take hw)
  intro w hw
  unfold bentI at hw
  split at hw
  · rename_i q
    rcases List.mem_append.mp hw with hw | hw
    · rcases List.mem_append.mp hw with hw | hw
      · exact t w hw
      · obtain ⟨y, hy, rfl⟩ := List.mem_map.mp hw
        exact pk q y (mid y hy)
    · exact h0 w (d _ w hw)
  split at hw
  · rcases List.mem_append.mp hw with hw | hw
    · exact t w hw
    · exact h0 w (d _ w hw)
  split at hw
  · rcases List.mem_append.mp hw with hw | hw
    · rcases List.mem_append.mp hw with hw | hw
      · exact t w hw
      · exact h0 w (mid w hw)
    · exact h0 w (d _ w hw)
  split at hw
  · obtain ⟨y, hy, rfl⟩ := List.mem_map.mp hw
    exact h1 y (h y hy)
  split at hw
  · rcases List.mem_append.mp hw with hw | hw
    · rcases List.mem_append.mp hw with hw | hw
      · exact t w hw
      · obtain ⟨y, hy, rfl⟩ := List.mem_map.mp hw
        exact h3 y (mid y hy)
    · exact h0 w (d _ w hw)
  split at hw
  · exact h0 w (h w (List.mem_reverse.mp hw))
  · exact h0 w (h w hw)
theorem bent_length (ws : List Int) (c : Int) : (bentF ws c).length ≤ 2 * ws.length + 1 := by
  unfold bentF bentI
  generalize (c / 8 % ((ws.length : Int) + 1)).toNat = i
  split
  · simp only [List.length_append, List.length_map, List.length_take, List.length_drop]; omega
  split
  · simp only [List.length_append, List.length_map, List.length_take, List.length_drop]; omega
  split
  · simp only [List.length_append, List.length_map, List.length_take, List.length_drop]; omega
  split
  · simp only [List.length_map]; omega
  split
  · simp only [List.length_append, List.length_map, List.length_take, List.length_drop]; omega
  split
  · simp only [List.length_reverse]; omega
  · omega
theorem dealt_all {P Q : Deed → Prop} {m : List Deed} {c : Int} (h : ∀ w ∈ m, P w) (h0 : ∀ w, P w → Q w) (h1 : ∀ w y, P w → y = 1 ∨ y = -1 ∨ y = -7 → Q (w.1 + y, w.2) ∧ Q (w.1, w.2 + y)) : ∀ w ∈ dealtF m c, Q w := by
  unfold dealtF
  generalize (c / 9 % ((m.length : Int) + 1)).toNat = i
  have pk : ∀ w, P w → Q (w.1 + pick [1, -1, -7] (c / 4 % 3), w.2) ∧ Q (w.1, w.2 + pick [1, -1, -7] (c / 4 % 3)) := fun w hw => by
    refine h1 w _ hw ?_
    have : c / 4 % 3 = 0 ∨ c / 4 % 3 = 1 ∨ c / 4 % 3 = 2 := by omega
    rcases this with q | q | q <;> rw [q]
    · exact .inl rfl
    · exact .inr (.inl rfl)
    · exact .inr (.inr rfl)
  generalize c / 4 % 3 = q at pk
  generalize c % 4 = k
  have t : ∀ w ∈ m.take i, Q w := fun w hw => h0 w (h w (List.mem_of_mem_take hw))
  have d : ∀ n, ∀ w ∈ m.drop n, P w := fun n w hw => h w (List.mem_of_mem_drop hw)
  have mid : ∀ n, ∀ w ∈ (m.drop i).take n, P w := fun n w hw => d i w (List.mem_of_mem_take hw)
  intro w hw
  unfold dealtI at hw
  split at hw
  · rcases List.mem_append.mp hw with hw | hw
    · rcases List.mem_append.mp hw with hw | hw
      · exact t w hw
      · obtain ⟨y, hy, rfl⟩ := List.mem_map.mp hw
        exact (pk y (mid 1 y hy)).1
    · exact h0 w (d _ w hw)
  split at hw
  · rcases List.mem_append.mp hw with hw | hw
    · rcases List.mem_append.mp hw with hw | hw
      · exact t w hw
      · obtain ⟨y, hy, rfl⟩ := List.mem_map.mp hw
        exact (pk y (mid 1 y hy)).2
    · exact h0 w (d _ w hw)
  split at hw
  · rcases List.mem_append.mp hw with hw | hw
    · rcases List.mem_append.mp hw with hw | hw
      · exact t w hw
      · exact h0 w (mid 2 w (List.mem_reverse.mp hw))
    · exact h0 w (d _ w hw)
  split at hw
  · rcases List.mem_append.mp hw with hw | hw
    · exact t w hw
    · exact h0 w (d _ w hw)
  · rcases List.mem_append.mp hw with hw | hw
    · exact h0 w (h w hw)
    · exact h0 w (d _ w hw)
theorem dealt_length (m : List Deed) (c : Int) : (dealtF m c).length ≤ 2 * m.length + 2 := by
  unfold dealtF dealtI
  generalize (c / 9 % ((m.length : Int) + 1)).toNat = i
  split
  · simp only [List.length_append, List.length_map, List.length_take, List.length_drop]; omega
  split
  · simp only [List.length_append, List.length_map, List.length_take, List.length_drop]; omega
  split
  · simp only [List.length_append, List.length_reverse, List.length_take, List.length_drop]; omega
  split
  · simp only [List.length_append, List.length_take, List.length_drop]; omega
  · simp only [List.length_append, List.length_drop]; omega
def stepI (ns : List Int) (a c : Int) : List Int := (idxS ns.length a c).filterMap (ns[·]?)
theorem step_ints (ns : List Int) (a c : Int) : stepV (ns.map V.int) a c = (stepI ns a c).map V.int := by
  unfold stepV stepI
  rw [List.length_map]
  have key : ∀ ix : List Nat, ix.filterMap ((ns.map V.int)[·]?) = (ix.filterMap (ns[·]?)).map V.int := by
    intro ix
    induction ix with
    | nil => rfl
    | cons i ix ih =>
      rw [List.filterMap_cons, List.filterMap_cons, List.getElem?_map]
      cases ns[i]? with
      | none => exact ih
      | some n => show V.int n :: _ = V.int n :: _; rw [ih]
  exact key _
theorem step_length (ns : List Int) {a c : Int} (h : 0 < c) : (stepI ns a c).length ≤ ns.length := Nat.le_trans (List.length_filterMap_le _ _) (idx_length _ h)
section
variable {K : PySem.W.Frag} {σ : St} {G H : Hp} {ta tb te : TE} {D : Ends}
theorem evn_stepS {l : Addr} {ns : List Int} {j : Nat} {a c : Int} (h : Scr K G l ns) (e : σ[j]? = some (some (.ref l))) : EvN (tStepL K (tVar j) a c) σ G ((stepI ns a c).map PyData.int) := fun H1 g Q q =>
  ⟨_, e, l, ns.map V.int, rfl, h.mono g, fun p hp => by
    rw [step_ints]
    exact q p _ _ (Ex.new hp) hp upd_same (.ints _)⟩
theorem evn_slS {l : Addr} {ns : List Int} {j : Nat} {tl th : TO} {lo hi : Option Int} (h : Scr K G l ns) (e : σ[j]? = some (some (.ref l))) (hl : EvO tl σ G lo) (hh : EvO th σ G hi) : EvN (tSl (rSlL K) (tVar j) tl th) σ G (cutD (ns.map PyData.int) lo hi) := fun H1 g Q q =>
  ⟨_, e, hl H1 g _ fun H2 e2 => hh H2 (g.trans e2) _ fun H3 e3 => ⟨l, ns.map V.int, rfl, h.mono (g.trans (e2.trans e3)), fun p hp => q p _ _ ((e2.trans e3).trans (Ex.new hp)) (none_of_ex (e2.trans e3) hp) upd_same ((DsA.ints ns).cut lo hi)⟩⟩
theorem evd_inI {k : Int} {ns : List Int} {b : Bool} (ha : EvD ta σ G (.int k)) (hb : EvD tb σ G (.list (ns.map PyData.int))) (e : (ns.map V.int).any (fun y => eqV y (.int k)) = b) : EvD (tOp (rIn K false) ta tb) σ G (.bool b) := fun H1 a Q q =>
  ha.seq hb a fun x y H3 ex zx zy => by
    obtain ⟨l, xs, rfl, h2, h3⟩ := zy.ofList
    have := h3.ofInts
    subst this
    rw [zx.ofInt]
    refine ⟨l, ns.map V.int, rfl, .inl (SqL.of (gr_ex a ex _ _ h2)), rfl, ?_, ?_⟩
    · rw [List.all_map]; exact List.all_eq_true.mpr fun _ _ => rfl
    · show Q (.bl ((ns.map V.int).any fun y => eqV y (.int k))) H3
      rw [e]
      exact q _ H3 ex (.bl _)
theorem gr_from {G H1 H2 H3 : Hp} (a : Ex G H1) (e : Ex H1 H2) : Ex (gr G H2 H3) (gr G H1 H3) := fun x o hxo => by
  cases q1 : H1 x with
  | none =>
    rw [gr_new q1]
    cases q2 : H2 x with
    | none => rw [gr_new q2] at hxo; exact hxo
    | some y => rw [gr_old q2] at hxo; exact absurd (a x o hxo) (by rw [q1]; intro z; cases z)
  | some y => rw [gr_old q1]; rw [gr_old (e x y q1)] at hxo; exact hxo
theorem evn_if {t : TT} {b : Bool} {ds : List PyData} (h : EvT t σ G b) (h1 : b = true → EvN ta σ G ds) (h2 : b = false → EvN tb σ G ds) : EvN (tIf t ta tb) σ G ds := fun H1 a Q q => h H1 a _ fun H2 e => by
  have go : ∀ {tx : TE}, EvN tx σ G ds → tx σ H2 Q := fun {tx} hx => hx H2 (a.trans e) Q fun p vs H3 e3 hp h3 z => q p vs H3 (e.trans e3) (none_of_ex e hp) h3 (z.mono (but_mono (gr_from a e)))
  cases b with
  | true => exact go (h1 rfl)
  | false => exact go (h2 rfl)
end
end Gs

namespace Gt
open PySem PySem.Spec PyProof.Rows L2 Evl Gs
local macro_rules | `(tactic| walk_at "ev1") => `(tactic| first
  | exact evd_ci | exact evd_cb | exact evd_cn | exact evd_cs
  | exact evd_vi rfl | exact evd_vb rfl | exact evd_vn rfl
  | exact evd_var rfl (by assumption)
  | exact evd_sumS (by assumption) rfl | exact evd_lenS (by assumption) rfl
  | apply evd_I0 | apply evd_B0 | apply evd_U
  | apply evd_ixT | apply evd_ixL
  | apply evd_chain
  | apply evd_max2 | apply evd_min2 | apply evd_min3
  | exact evd_len (evd_var rfl (by assumption)) | exact evd_lenT (evd_var rfl (by assumption)) | apply evd_len
  | refine evd_tup ?_
  | apply evd_eq | apply evd_ne | apply evd_eqB | apply evd_neB
  | apply evd_isi | refine evd_not ?_
  | apply evd_I
  | exact eva_nil | refine eva_cons ?_ ?_
  | refine evn_lst ?_ | refine evn_sl ?_ ?_ ?_ | refine evn_cat ?_ ?_ ?_ | refine evn_listOf ?_ | refine evn_revL ?_
  | exact evo_none | refine evo_some ?_
  | refine EvN.asD (evn_lst ?_) | refine EvN.asD (evn_sl ?_ ?_ ?_) | refine EvN.asD (evn_cat ?_ ?_ ?_) | refine EvN.asD (evn_listOf ?_) | refine EvN.asD (evn_revL ?_)
  | refine evt_test ?_ | refine evt_B ?_
  | exact kit_int_int | exact kit_int_bool | exact kit_list_list | exact kit_tuple_tuple | exact kit_bool_int | exact kit_bool_bool | exact kit_none_int | exact kit_str_int | exact kit_list_int | exact kit_tuple_int | exact kit_int_tuple | exact kit_none_tuple | exact kit_list_tuple | exact kit_str_tuple | exact kit_bool_tuple | exact kit_tuple_list | exact kit_none_list | exact kit_str_list | exact kit_int_list
  | (show EvD _ _ _ _; assumption) | (show atI _ _ = _; first | assumption | rfl) | (show SeqAt.shaped _ = true; first | assumption | rfl)
  | (show CMulW _ _; first | assumption | exact mul_ok (by omega) (by omega)) | (show CDivW _ _; first | assumption | exact div_lit (by decide +kernel) | exact div_ok (by omega) (by omega)) | (show (0 : Int) < _; omega) | (show CPow _ _; exact ⟨by decide, by decide, by decide⟩))
local macro_rules | `(tactic| walk_at "ev") => `(tactic| repeat' (walk_at "ev1"))

def top (i : Nat) : Stmt := PySem.Challenge.pw_grainstore_k05_answers_by_hand.main.body.getD i (.Pass ⟨0, 0, 0, 0⟩)
abbrev st_is_number : Stmt := top 5
abbrev N_is_number : List Str := ["thing"]
abbrev ps_is_number : List Str := ["thing"]
theorem sc_is_number : FnScope N_is_number ps_is_number (defScope st_is_number) := ⟨rfl, rfl, rfl, by decide +kernel, rfl, by decide +kernel, by decide +kernel⟩
abbrev st_are_numbers : Stmt := top 6
abbrev N_are_numbers : List Str := ["thing", "many", "one"]
abbrev ps_are_numbers : List Str := ["thing", "many"]
theorem sc_are_numbers : FnScope N_are_numbers ps_are_numbers (defScope st_are_numbers) := ⟨rfl, rfl, rfl, by decide +kernel, rfl, by decide +kernel, by decide +kernel⟩
abbrev st_asked_days : Stmt := top 7
abbrev N_asked_days : List Str := ["days", "day"]
abbrev ps_asked_days : List Str := ["days"]
theorem sc_asked_days : FnScope N_asked_days ps_asked_days (defScope st_asked_days) := ⟨rfl, rfl, rfl, by decide +kernel, rfl, by decide +kernel, by decide +kernel⟩
abbrev st_asked_room : Stmt := top 8
abbrev N_asked_room : List Str := ["room"]
abbrev ps_asked_room : List Str := ["room"]
theorem sc_asked_room : FnScope N_asked_room ps_asked_room (defScope st_asked_room) := ⟨rfl, rfl, rfl, by decide +kernel, rfl, by decide +kernel, by decide +kernel⟩
abbrev st_nights : Stmt := top 9
abbrev N_nights : List Str := ["dealing", "found", "left", "bought", "sold"]
abbrev ps_nights : List Str := ["dealing"]
theorem sc_nights : FnScope N_nights ps_nights (defScope st_nights) := ⟨rfl, rfl, rfl, by decide +kernel, rfl, by decide +kernel, by decide +kernel⟩
abbrev st_gain_of : Stmt := top 10
abbrev N_gain_of : List Str := ["days", "dealing", "day", "deed"]
abbrev ps_gain_of : List Str := ["days", "dealing"]
theorem sc_gain_of : FnScope N_gain_of ps_gain_of (defScope st_gain_of) := ⟨rfl, rfl, rfl, by decide +kernel, rfl, by decide +kernel, by decide +kernel⟩
abbrev st_first_fault : Stmt := top 11
abbrev N_first_fault : List Str := ["days", "room", "dealing", "at", "left", "bought", "sold"]
abbrev ps_first_fault : List Str := ["days", "room", "dealing"]
theorem sc_first_fault : FnScope N_first_fault ps_first_fault (defScope st_first_fault) := ⟨rfl, rfl, rfl, by decide +kernel, rfl, by decide +kernel, by decide +kernel⟩
abbrev st_bound_of : Stmt := top 13
abbrev N_bound_of : List Str := ["days", "room", "worths", "total", "at", "day", "price", "most", "other_price", "other_most"]
abbrev ps_bound_of : List Str := ["days", "room", "worths"]
theorem sc_bound_of : FnScope N_bound_of ps_bound_of (defScope st_bound_of) := ⟨rfl, rfl, rfl, by decide +kernel, rfl, by decide +kernel, by decide +kernel⟩
abbrev st_Best___init__ : Stmt := inClass (top 14) 0
abbrev N_Best___init__ : List Str := ["self", "dealing", "worths"]
abbrev ps_Best___init__ : List Str := ["self", "dealing", "worths"]
theorem sc_Best___init__ : FnScope N_Best___init__ ps_Best___init__ (defScope st_Best___init__) := ⟨rfl, rfl, rfl, by decide +kernel, rfl, by decide +kernel, by decide +kernel⟩
abbrev st_Best_shows : Stmt := inClass (top 14) 1
abbrev N_Best_shows : List Str := ["self", "days", "room", "worth"]
abbrev ps_Best_shows : List Str := ["self", "days", "room"]
theorem sc_Best_shows : FnScope N_Best_shows ps_Best_shows (defScope st_Best_shows) := ⟨rfl, rfl, rfl, by decide +kernel, rfl, by decide +kernel, by decide +kernel⟩
abbrev st_put_in : Stmt := top 16
abbrev N_put_in : List Str := ["steps", "worth", "many", "at"]
abbrev ps_put_in : List Str := ["steps", "worth", "many"]
theorem sc_put_in : FnScope N_put_in ps_put_in (defScope st_put_in) := ⟨rfl, rfl, rfl, by decide +kernel, rfl, by decide +kernel, by decide +kernel⟩
abbrev st_cut_front : Stmt := top 17
abbrev N_cut_front : List Str := ["steps", "many", "total", "left", "at", "worth", "length"]
abbrev ps_cut_front : List Str := ["steps", "many"]
theorem sc_cut_front : FnScope N_cut_front ps_cut_front (defScope st_cut_front) := ⟨rfl, rfl, rfl, by decide +kernel, rfl, by decide +kernel, by decide +kernel⟩
abbrev st_kept : Stmt := top 18
abbrev N_kept : List Str := ["steps", "many", "found", "left", "worth", "length"]
abbrev ps_kept : List Str := ["steps", "many"]
theorem sc_kept : FnScope N_kept ps_kept (defScope st_kept) := ⟨rfl, rfl, rfl, by decide +kernel, rfl, by decide +kernel, by decide +kernel⟩
abbrev st_Worths___init__ : Stmt := inClass (top 19) 0
abbrev N_Worths___init__ : List Str := ["self", "days", "room", "day"]
abbrev ps_Worths___init__ : List Str := ["self", "days", "room"]
theorem sc_Worths___init__ : FnScope N_Worths___init__ ps_Worths___init__ (defScope st_Worths___init__) := ⟨rfl, rfl, rfl, by decide +kernel, rfl, by decide +kernel, by decide +kernel⟩
abbrev st_Worths_add : Stmt := inClass (top 19) 1
abbrev N_Worths_add : List Str := ["self", "day", "price", "most", "other_price", "other_most", "steps", "total", "later"]
abbrev ps_Worths_add : List Str := ["self", "day"]
theorem sc_Worths_add : FnScope N_Worths_add ps_Worths_add (defScope st_Worths_add) := ⟨rfl, rfl, rfl, by decide +kernel, rfl, by decide +kernel, by decide +kernel⟩
abbrev st_Worths_worth_above : Stmt := inClass (top 19) 2
abbrev N_Worths_worth_above : List Str := ["self", "at", "left", "total", "later", "step"]
abbrev ps_Worths_worth_above : List Str := ["self", "at", "left"]
theorem sc_Worths_worth_above : FnScope N_Worths_worth_above ps_Worths_worth_above (defScope st_Worths_worth_above) := ⟨rfl, rfl, rfl, by decide +kernel, rfl, by decide +kernel, by decide +kernel⟩
abbrev st_Worths_worth_below : Stmt := inClass (top 19) 3
abbrev N_Worths_worth_below : List Str := ["self", "at", "left", "steps", "step"]
abbrev ps_Worths_worth_below : List Str := ["self", "at", "left"]
theorem sc_Worths_worth_below : FnScope N_Worths_worth_below ps_Worths_worth_below (defScope st_Worths_worth_below) := ⟨rfl, rfl, rfl, by decide +kernel, rfl, by decide +kernel, by decide +kernel⟩
abbrev st_Worths_deed : Stmt := inClass (top 19) 4
abbrev N_Worths_deed : List Str := ["self", "at", "left", "worth", "price", "most", "other_price", "other_most", "low", "high", "least", "greatest", "steps", "floor", "bought", "sold", "value", "length"]
abbrev ps_Worths_deed : List Str := ["self", "at", "left", "worth"]
theorem sc_Worths_deed : FnScope N_Worths_deed ps_Worths_deed (defScope st_Worths_deed) := ⟨rfl, rfl, rfl, by decide +kernel, rfl, by decide +kernel, by decide +kernel⟩
abbrev st_best : Stmt := top 20
abbrev N_best : List Str := ["days", "room", "told", "dealing", "worths", "left", "at", "worth", "deed"]
abbrev ps_best : List Str := ["days", "room"]
theorem sc_best : FnScope N_best ps_best (defScope st_best) := ⟨rfl, rfl, rfl, by decide +kernel, rfl, by decide +kernel, by decide +kernel⟩
abbrev st__law_days : Stmt := top 22
abbrev N__law_days : List Str := ["_law_script", "_law_mixed", "_law_high", "_law_most", "_law_found", "_law_at", "_law_cell", "_law_price", "_law_other", "_law_some"]
abbrev ps__law_days : List Str := ["_law_script"]
theorem sc__law_days : FnScope N__law_days ps__law_days (defScope st__law_days) := ⟨rfl, rfl, rfl, by decide +kernel, rfl, by decide +kernel, by decide +kernel⟩
abbrev st__law_room : Stmt := top 23
abbrev N__law_room : List Str := ["_law_script", "_law_mixed"]
abbrev ps__law_room : List Str := ["_law_script"]
theorem sc__law_room : FnScope N__law_room ps__law_room (defScope st__law_room) := ⟨rfl, rfl, rfl, by decide +kernel, rfl, by decide +kernel, by decide +kernel⟩
abbrev st__law_can : Stmt := top 24
abbrev N__law_can : List Str := ["_law_days_here", "_law_room_here", "_law_dealing", "_law_left", "_law_at", "_law_deed"]
abbrev ps__law_can : List Str := ["_law_days_here", "_law_room_here", "_law_dealing"]
theorem sc__law_can : FnScope N__law_can ps__law_can (defScope st__law_can) := ⟨rfl, rfl, rfl, by decide +kernel, rfl, by decide +kernel, by decide +kernel⟩
abbrev st__law_bound : Stmt := top 25
abbrev N__law_bound : List Str := ["_law_days_here", "_law_room_here", "_law_worths", "_law_total", "_law_ahead", "_law_day", "_law_worth"]
abbrev ps__law_bound : List Str := ["_law_days_here", "_law_room_here", "_law_worths"]
theorem sc__law_bound : FnScope N__law_bound ps__law_bound (defScope st__law_bound) := ⟨rfl, rfl, rfl, by decide +kernel, rfl, by decide +kernel, by decide +kernel⟩
abbrev st__law_best : Stmt := top 26
abbrev N__law_best : List Str := ["_law_days_here", "_law_room_here", "_law_dealing", "_law_worths", "_law_gain", "_law_day", "_law_deed", "_law_worth"]
abbrev ps__law_best : List Str := ["_law_days_here", "_law_room_here", "_law_dealing", "_law_worths"]
theorem sc__law_best : FnScope N__law_best ps__law_best (defScope st__law_best) := ⟨rfl, rfl, rfl, by decide +kernel, rfl, by decide +kernel, by decide +kernel⟩
abbrev st__law_says : Stmt := top 27
abbrev N__law_says : List Str := ["_law_said", "_law_due"]
abbrev ps__law_says : List Str := ["_law_said", "_law_due"]
theorem sc__law_says : FnScope N__law_says ps__law_says (defScope st__law_says) := ⟨rfl, rfl, rfl, by decide +kernel, rfl, by decide +kernel, by decide +kernel⟩
abbrev st__law_bent : Stmt := top 28
abbrev N__law_bent : List Str := ["_law_some", "_law_cell", "_law_kind", "_law_at", "_law_one"]
abbrev ps__law_bent : List Str := ["_law_some", "_law_cell"]
theorem sc__law_bent : FnScope N__law_bent ps__law_bent (defScope st__law_bent) := ⟨rfl, rfl, rfl, by decide +kernel, rfl, by decide +kernel, by decide +kernel⟩
abbrev st__law_dealt : Stmt := top 29
abbrev N__law_dealt : List Str := ["_law_dealing", "_law_cell", "_law_at", "_law_by", "_law_deed"]
abbrev ps__law_dealt : List Str := ["_law_dealing", "_law_cell"]
theorem sc__law_dealt : FnScope N__law_dealt ps__law_dealt (defScope st__law_dealt) := ⟨rfl, rfl, rfl, by decide +kernel, rfl, by decide +kernel, by decide +kernel⟩
abbrev st_law : Stmt := top 30
abbrev N_law : List Str := ["_law_script", "_law_days_here", "_law_room_here", "_law_told", "_law_cell", "_law_both", "_law_asked", "_law_dealing", "_law_worths", "_law_handed", "_law_answer", "_law_deed", "_law_day"]
abbrev ps_law : List Str := ["_law_script"]
theorem sc_law : FnScope N_law ps_law (defScope st_law) := ⟨rfl, rfl, rfl, by decide +kernel, rfl, by decide +kernel, by decide +kernel⟩
section
variable {P : Program} {w : World} {K : PySem.W.Frag} {mg : Str → Option Value} {base : Heap}
def sp_is_number : Sp := spD fun ds d => ∃ x, ds = [x] ∧ d = .bool (isNum x)
theorem ok_is_number (F : FunH K mg "is_number" "is_number" st_is_number ps_is_number) (B : Blt mg)  : Has P w K mg base CX0 1 "is_number" ps_is_number sp_is_number := by
  refine F.has (N := N_is_number) sc_is_number (fun vs H Q E h => ?_) (fun f cdv A outer s H vs Q E hr h => ?_)
  · obtain ⟨G, ds, d, _, hz, ⟨x, rfl, _⟩, _⟩ := h
    exact hz.1
  · obtain ⟨G, ds, d, a, hz, ⟨x, rfl, rfl⟩, k⟩ := h
    obtain ⟨v, rfl, z⟩ := hz.one
    have u := Up.refl a
    have nd := sc_is_number.nd
    refine ⟨_, (pss_one (ps_ret (pe_and (pe_callB (call_isiKK K) (by rfl) B.isinstance (by decide +kernel) (pa_cons (pv 0) (pa_cons (pe_bltn (v := .ty "int") (by rfl) B.int (by decide +kernel) rfl) pa_nil))) (pe_and (pe_not (pe_callB (call_isiKK K) (by rfl) B.isinstance (by decide +kernel) (pa_cons (pv 0) (pa_cons (pe_bltn (v := .ty "bool") (by rfl) B.bool (by decide +kernel) rfl) pa_nil)))) (pe_one (pe_cmpR op_ge (pv 0) pe_int (nomark _))))))), ?_⟩
    refine z_ret u.s ?_ (u.retD k)
    cases x with
    | int n => exact (evd_and (a := true) (by walk_at "ev") fun _ => evd_and (a := true) (b := decide (0 ≤ n)) (evd_not (a := false) (by walk_at "ev")) fun _ => (by walk_at "ev")).to (by show PyData.bool (true && (true && decide (0 ≤ n))) = PyData.bool (decide (0 ≤ n)); rfl)
    | bool b => exact (evd_and (a := true) (b := false) (by walk_at "ev") fun _ => (evd_and (a := false) (b := false) (evd_not (a := true) (by walk_at "ev")) fun h => nomatch h)).to rfl
    | none => exact (evd_and (a := false) (b := false) (by walk_at "ev") fun h => nomatch h).to rfl
    | str b => exact (evd_and (a := false) (b := false) (by walk_at "ev") fun h => nomatch h).to rfl
    | list b => exact (evd_and (a := false) (b := false) (by walk_at "ev") fun h => nomatch h).to rfl
    | tuple b => exact (evd_and (a := false) (b := false) (by walk_at "ev") fun h => nomatch h).to rfl
    | dict b => cases z
def sp_are_numbers : Sp := spD fun ds d => ∃ x m, ds = [x, .int m] ∧ (∀ xs, x = .tuple xs → xs.length ≤ 40000) ∧ d = .bool (areNums x m)
theorem ok_are_numbers (F : FunH K mg "are_numbers" "are_numbers" st_are_numbers ps_are_numbers) (B : Blt mg) (h_is_number : Has P w K mg base CX0 1 "is_number" ps_is_number sp_is_number) : Has P w K mg base CX0 2 "are_numbers" ps_are_numbers sp_are_numbers := by
  refine F.has (N := N_are_numbers) sc_are_numbers (fun vs H Q E h => ?_) (fun f cdv A outer s H vs Q E hr h => ?_)
  · obtain ⟨G, ds, d, _, hz, ⟨x, m, rfl, _⟩, _⟩ := h
    exact hz.1
  · obtain ⟨G, ds, d, a, hz, ⟨x, m, rfl, hl, rfl⟩, k⟩ := h
    obtain ⟨v, v2, rfl, z, z2⟩ := hz.two
    cases z2
    have u := Up.refl a
    have nd := sc_are_numbers.nd
    refine ⟨_, (pss_one (ps_ret (pe_and (pe_callB (call_isiKK K) (by rfl) B.isinstance (by decide +kernel) (pa_cons (pv 0) (pa_cons (pe_bltn (v := .ty "tuple") (by rfl) B.tuple (by decide +kernel) rfl) pa_nil))) (pe_and (pe_cmpR op_eq (pe_callB (cb_lenK K) (by rfl) B.len (by decide +kernel) (pa_cons (pv 0) pa_nil)) (pv 1) (nomark _)) (pe_one (pe_callB (cr_allK K) (by rfl) B.all (by decide +kernel) (pa_cons (pe_lc (own := [("one", 2)]) (by rfl) nd (pi_tupK K (pv 0)) (blkOk_by (own := [("one", 2)]) (N := N_are_numbers) (sc := defScope st_are_numbers) (by decide +kernel)) (fun _ _ _ _ _ => (pg_name (i := 2) nd rfl (Or.inl rfl))) (fun _ _ _ _ _ => pts_nil) (fun _ _ _ _ _ => (pe_f h_is_number (hr.mono (by decide)) (pa_cons (pv 2) pa_nil)))) pa_nil))))))), ?_⟩
    refine z_ret u.s ?_ (u.retD k)
    cases x with
    | tuple xs =>
      refine (evd_and (a := true) (by walk_at "ev") fun _ => evd_and (a := decide ((xs.length : Int) = m)) (b := (xs.map isNum).all id) (by walk_at "ev") fun _ => evd_all ?_).to (by show PyData.bool (true && (_ && _)) = _; rfl)
      refine EvN.asD (EvN.to (evn_lcT (fun d => .bool (isNum d)) (by walk_at "ev") (hl xs rfl) (fun _ => rfl) fun Gx v d g hd zd => ?_) (by rw [List.map_map]; rfl))
      exact evd_call (by walk_at "ev") ⟨d, rfl, rfl⟩
    | int n => exact (evd_and (a := false) (b := false) (by walk_at "ev") fun h => nomatch h).to rfl
    | bool b => exact (evd_and (a := false) (b := false) (by walk_at "ev") fun h => nomatch h).to rfl
    | none => exact (evd_and (a := false) (b := false) (by walk_at "ev") fun h => nomatch h).to rfl
    | str b => exact (evd_and (a := false) (b := false) (by walk_at "ev") fun h => nomatch h).to rfl
    | list b => exact (evd_and (a := false) (b := false) (by walk_at "ev") fun h => nomatch h).to rfl
    | dict b => cases z
end
end Gt

namespace Gt
open PySem PySem.Spec PyProof.Rows L2 Evl Gs
local macro_rules | `(tactic| walk_at "ev1") => `(tactic| first
  | exact evd_ci | exact evd_cb | exact evd_cn | exact evd_cs
  | exact evd_vi rfl | exact evd_vb rfl | exact evd_vn rfl
  | exact evd_var rfl (by assumption)
  | exact evd_sumS (by assumption) rfl | exact evd_lenS (by assumption) rfl
  | apply evd_I0 | apply evd_B0 | apply evd_U
  | apply evd_ixT | apply evd_ixL
  | apply evd_chain
  | apply evd_max2 | apply evd_min2 | apply evd_min3
  | exact evd_len (evd_var rfl (by assumption)) | exact evd_lenT (evd_var rfl (by assumption)) | apply evd_len
  | refine evd_tup ?_
  | apply evd_eq | apply evd_ne | apply evd_eqB | apply evd_neB
  | apply evd_isi | refine evd_not ?_
  | apply evd_I
  | exact eva_nil | refine eva_cons ?_ ?_
  | refine evn_lst ?_ | refine evn_sl ?_ ?_ ?_ | refine evn_cat ?_ ?_ ?_ | refine evn_listOf ?_ | refine evn_revL ?_
  | exact evo_none | refine evo_some ?_
  | refine EvN.asD (evn_lst ?_) | refine EvN.asD (evn_sl ?_ ?_ ?_) | refine EvN.asD (evn_cat ?_ ?_ ?_) | refine EvN.asD (evn_listOf ?_) | refine EvN.asD (evn_revL ?_)
  | refine evt_test ?_ | refine evt_B ?_
  | exact kit_int_int | exact kit_int_bool | exact kit_list_list | exact kit_tuple_tuple | exact kit_bool_int | exact kit_bool_bool | exact kit_none_int | exact kit_str_int | exact kit_list_int | exact kit_tuple_int | exact kit_int_tuple | exact kit_none_tuple | exact kit_list_tuple | exact kit_str_tuple | exact kit_bool_tuple | exact kit_tuple_list | exact kit_none_list | exact kit_str_list | exact kit_int_list
  | (show EvD _ _ _ _; assumption) | (show atI _ _ = _; first | assumption | rfl) | (show SeqAt.shaped _ = true; first | assumption | rfl)
  | (show CMulW _ _; first | assumption | exact mul_ok (by omega) (by omega)) | (show CDivW _ _; first | assumption | exact div_lit (by decide +kernel) | exact div_ok (by omega) (by omega)) | (show (0 : Int) < _; omega) | (show CPow _ _; exact ⟨by decide, by decide, by decide⟩))
local macro_rules | `(tactic| walk_at "ev") => `(tactic| repeat' (walk_at "ev1"))

section
variable {P : Program} {w : World} {K : PySem.W.Frag} {mg : Str → Option Value} {base : Heap}
def sp_asked_days : Sp := spD fun ds d => ∃ l : List Day, ds = [daysD l] ∧ l.length ≤ 40000 ∧ (∀ x ∈ l, goodDay x) ∧ d = .none
theorem good_areNums {d : Day} (h : goodDay d) : areNums (dayD d) 4 = true := by
  obtain ⟨h1, h2, h3, h4⟩ := h
  show (decide ((4 : Int) = 4) && (decide (0 ≤ d.1) && (decide (0 ≤ d.2.1) && (decide (0 ≤ d.2.2.1) && (decide (0 ≤ d.2.2.2) && true))))) = true
  simp [h1, h2, h3, h4]
theorem ok_asked_days (F : FunH K mg "asked_days" "asked_days" st_asked_days ps_asked_days) (B : Blt mg) (h_are_numbers : Has P w K mg base CX0 2 "are_numbers" ps_are_numbers sp_are_numbers) : Has P w K mg base CX0 3 "asked_days" ps_asked_days sp_asked_days := by
  refine F.has (N := N_asked_days) sc_asked_days (fun vs H Q E h => ?_) (fun f cdv A outer s H vs Q E hr h => ?_)
  · obtain ⟨G, ds, d, _, hz, ⟨l, rfl, _⟩, _⟩ := h
    exact hz.1
  · obtain ⟨G, ds, d, a, hz, ⟨l, rfl, hl, hg, rfl⟩, k⟩ := h
    obtain ⟨v, rfl, z⟩ := hz.one
    have z : Ds G v (.list (l.map dayD)) := z
    have u := Up.refl a
    have nd := sc_asked_days.nd
    refine ⟨_, (pss_one (ps_if (PW.pt (pw_or (pt_not (pt_val (pe_callB (call_isiKK K) (by rfl) B.isinstance (by decide +kernel) (pa_cons (pv 0) (pa_cons (pe_bltn (v := .ty "list") (by rfl) B.list (by decide +kernel) rfl) pa_nil))))) (pw_or1 (pt_not (pt_val (pe_callB (cr_allK K) (by rfl) B.all (by decide +kernel) (pa_cons (pe_lc (own := [("day", 1)]) (by rfl) nd (pi_listK K (pv 0)) (blkOk_by (own := [("day", 1)]) (N := N_asked_days) (sc := defScope st_asked_days) (by decide +kernel)) (fun _ _ _ _ _ => (pg_name (i := 1) nd rfl (Or.inl rfl))) (fun _ _ _ _ _ => pts_nil) (fun _ _ _ _ _ => (pe_f h_are_numbers (hr.mono (by decide)) (pa_cons (pv 1) (pa_cons pe_int pa_nil))))) pa_nil)))))))
  (pss_one ps_never)
  pss_nil)), ?_⟩
    refine z_if u.s (b := false) (et_is (et_or (a := false) (b := false) (et_not (a := true) (by walk_at "ev")) fun _ => et_not (a := true) ?_) rfl) (fun h => nomatch h) (fun _ H2 e => (u.scal e).outD k .non)
    refine evt_B ((evd_all (ns := l.map fun d => areNums (dayD d) 4) (EvN.asD (EvN.to (evn_lcL (fun d => .bool (areNums d 4)) (by walk_at "ev") (by rw [List.length_map]; exact hl) (fun _ => rfl) fun Gx v d g hd zd => ?_) (by rw [List.map_map, List.map_map]; rfl)))).to ?_)
    · obtain ⟨x, _, rfl⟩ := List.mem_map.mp hd
      exact evd_call (by walk_at "ev") ⟨dayD x, 4, rfl, (fun xs e => by have e := tuple_inj e; subst e; show 4 ≤ 40000; decide), rfl⟩
    · rw [List.all_map, List.all_eq_true.mpr]
      exact fun x hx => good_areNums (hg x hx)
def sp_asked_room : Sp := spD fun ds d => ∃ n : Int, ds = [.int n] ∧ 0 ≤ n ∧ d = .none
theorem ok_asked_room (F : FunH K mg "asked_room" "asked_room" st_asked_room ps_asked_room) (B : Blt mg) (h_is_number : Has P w K mg base CX0 1 "is_number" ps_is_number sp_is_number) : Has P w K mg base CX0 2 "asked_room" ps_asked_room sp_asked_room := by
  refine F.has (N := N_asked_room) sc_asked_room (fun vs H Q E h => ?_) (fun f cdv A outer s H vs Q E hr h => ?_)
  · obtain ⟨G, ds, d, _, hz, ⟨l, rfl, _⟩, _⟩ := h
    exact hz.1
  · obtain ⟨G, ds, d, a, hz, ⟨n, rfl, hn, rfl⟩, k⟩ := h
    obtain ⟨v, rfl, z⟩ := hz.one
    have u := Up.refl a
    have nd := sc_asked_room.nd
    refine ⟨_, (pss_one (ps_if (pt_not (pt_val (pe_f h_is_number (hr.mono (by decide)) (pa_cons (pv 0) pa_nil))))
  (pss_one ps_never)
  pss_nil)), ?_⟩
    refine z_if u.s (b := false) (et_not (a := true) (evt_B (evd_call (by walk_at "ev") ⟨.int n, rfl, ?_⟩))) (fun h => nomatch h) (fun _ H2 e => (u.scal e).outD k .non)
    show PyData.bool true = PyData.bool (decide (0 ≤ n))
    rw [decide_eq_true hn]
def goodDeed (d : Deed) : Prop := 0 ≤ d.1 ∧ 0 ≤ d.2
theorem good_areNums2 {d : Deed} (h : goodDeed d) : areNums (deedD d) 2 = true := by
  obtain ⟨h1, h2⟩ := h
  show (decide ((2 : Int) = 2) && (decide (0 ≤ d.1) && (decide (0 ≤ d.2) && true))) = true
  simp [h1, h2]
def sp_nights : Sp := spN fun ds es => ∃ l : List Deed, ds = [deedsD l] ∧ l.length ≤ 40000 ∧ es = (nights 0 l).map .int
theorem ok_nights (F : FunH K mg "nights" "nights" st_nights ps_nights) (B : Blt mg)  : Has P w K mg base CX0 1 "nights" ps_nights sp_nights := by
  refine F.has (N := N_nights) sc_nights (fun vs H Q E h => ?_) (fun f cdv A outer s H vs Q E hr h => ?_)
  · obtain ⟨G, ds, d, _, hz, ⟨l, rfl, _⟩, _⟩ := h
    exact hz.1
  · obtain ⟨G, ds, d, a, hz, ⟨l, rfl, hl, rfl⟩, k⟩ := h
    obtain ⟨v, rfl, z⟩ := hz.one
    have z : Ds G v (.list (l.map deedD)) := z
    have u := Up.refl a
    have nd := sc_nights.nd
    refine ⟨_, (pss_cons (ps_set (i := 1) nd rfl (Or.inl rfl) (pe_lst pa_nil))
  (pss_cons (ps_set (i := 2) nd rfl (Or.inl rfl) pe_int)
  (pss_cons (ps_for PassesOwn.never rfl (pi_listK K (pv 0)) (pg_tupK K (n := 2) (pgs_names (pg_name (i := 3) nd rfl (Or.inl rfl)) (pgs_names (pg_name (i := 4) nd rfl (Or.inl rfl)) pgs_done)))
  (pss_cons (ps_set (i := 2) nd rfl (Or.inl rfl) (pe_op op_sub (pe_op op_add (pv 2) (pv 3)) (pv 4)))
  (pss_one (ps_expr (pe_bm PySem.F.plainAttrs_list PySem.F.slot_list_append PySem.F.type_list_append mt_append (pv 1) (pa_cons (pv 2) pa_nil))))))
  (pss_one (ps_ret (pv 1)))))), ?_⟩
    refine q_setN u.s (evn_lst eva_nil) fun p xs H1 e1 hp h1 z1 => ?_
    cases z1.unnil
    have gp : G p = none := none_of_ex u.s hp
    refine q_setI (n := 0) (u.scal e1).s (by walk_at "ev") fun H2 e2 => ?_
    have u2 := (u.scal e1).scal e2
    refine q_for u2.s (src_listT (js := [3, 4]) (m := 2) (ds := l.map deedD) (by walk_at "ev") rfl (deed_tuples l)) fun H3 e3 =>
      ⟨fun i σ' G' H' => ∃ v3 v4, σ' = [some v, some (.ref p), some (.int (leftOf 0 (l.take i))), v3, v4] ∧ Up G H G' H' ∧ Ex (gr G H2 H3) G' ∧ G' p = none ∧ H' p = some (.lst ((nights 0 (l.take i)).map V.int)), ?_, ?_, ?_, ?_⟩
    · have p2 : H2 p = some (.lst []) := e2 _ _ h1
      exact ⟨none, none, rfl, u2.data e3, Ex.refl _, by rw [gr_old p2]; exact gp, e3 _ _ p2⟩
    · rintro i σ' G' H' ⟨_, _, _, u', g', _⟩
      exact ⟨g', u'.s⟩
    · rintro i σ' G' H' H4 σ4 hi ⟨v3, v4, rfl, u', g', gp', hp'⟩ e4 hS
      obtain ⟨d, hd, rfl⟩ := stp_deed hS
      have u4 := u'.scal e4
      refine q_setI (n := leftOf 0 (l.take i) + d.1 - d.2) u4.s (by walk_at "ev") fun H5 e5 => ?_
      have u5 := u4.scal e5
      have ls : leftOf 0 (l.take (i + 1)) = leftOf 0 (l.take i) + d.1 - d.2 := by rw [take_succ_of hd, leftOf_append]; rfl
      refine z_app (xs := (nights 0 (l.take i)).map V.int) u5.s rfl (e5 _ _ (e4 _ _ hp')) (d := .int (leftOf 0 (l.take i) + d.1 - d.2)) (by walk_at "ev") (by rw [List.length_map, nights_length, List.length_take]; omega) fun v6 H6 e6 z6 => ?_
      cases z6
      refine ⟨G', some (.int d.1), some (.int d.2), ?_, (u5.scal e6).mut gp' hp, g', gp', ?_⟩
      · rw [ls]; rfl
      · rw [upd_same, take_succ_of hd, nights_append, List.map_append]
        rfl
    · rintro σ' G' H' ⟨v3, v4, rfl, u', g', gp', hp'⟩
      rw [List.length_map, List.take_length] at hp'
      exact ⟨_, rfl, u'.outN k hp gp' hp' (DsA.ints _)⟩
end
end Gt

namespace Gt
open PySem PySem.Spec PyProof.Rows L2 Evl Gs
local macro_rules | `(tactic| walk_at "ev1") => `(tactic| first
  | exact evd_ci | exact evd_cb | exact evd_cn | exact evd_cs
  | exact evd_vi rfl | exact evd_vb rfl | exact evd_vn rfl
  | exact evd_var rfl (by assumption)
  | exact evd_sumS (by assumption) rfl | exact evd_lenS (by assumption) rfl
  | apply evd_I0 | apply evd_B0 | apply evd_U
  | apply evd_ixT | apply evd_ixL
  | apply evd_chain
  | apply evd_max2 | apply evd_min2 | apply evd_min3
  | exact evd_len (evd_var rfl (by assumption)) | exact evd_lenT (evd_var rfl (by assumption)) | apply evd_len
  | refine evd_tup ?_
  | apply evd_eq | apply evd_ne | apply evd_eqB | apply evd_neB
  | apply evd_isi | refine evd_not ?_
  | apply evd_I
  | exact eva_nil | refine eva_cons ?_ ?_
  | refine evn_lst ?_ | refine evn_sl ?_ ?_ ?_ | refine evn_cat ?_ ?_ ?_ | refine evn_listOf ?_ | refine evn_revL ?_
  | exact evo_none | refine evo_some ?_
  | refine EvN.asD (evn_lst ?_) | refine EvN.asD (evn_sl ?_ ?_ ?_) | refine EvN.asD (evn_cat ?_ ?_ ?_) | refine EvN.asD (evn_listOf ?_) | refine EvN.asD (evn_revL ?_)
  | refine evt_test ?_ | refine evt_B ?_
  | exact kit_int_int | exact kit_int_bool | exact kit_list_list | exact kit_tuple_tuple | exact kit_bool_int | exact kit_bool_bool | exact kit_none_int | exact kit_str_int | exact kit_list_int | exact kit_tuple_int | exact kit_int_tuple | exact kit_none_tuple | exact kit_list_tuple | exact kit_str_tuple | exact kit_bool_tuple | exact kit_tuple_list | exact kit_none_list | exact kit_str_list | exact kit_int_list
  | (show EvD _ _ _ _; assumption) | (show atI _ _ = _; first | assumption | rfl) | (show SeqAt.shaped _ = true; first | assumption | rfl)
  | (show CMulW _ _; first | assumption | exact mul_ok (by omega) (by omega)) | (show CDivW _ _; first | assumption | exact div_lit (by decide +kernel) | exact div_ok (by omega) (by omega)) | (show (0 : Int) < _; omega) | (show CPow _ _; exact ⟨by decide, by decide, by decide⟩))
local macro_rules | `(tactic| walk_at "ev") => `(tactic| repeat' (walk_at "ev1"))

section
variable {P : Program} {w : World} {K : PySem.W.Frag} {mg : Str → Option Value} {base : Heap}
def sp_gain_of : Sp := spD fun ds d => ∃ (l : List Day) (m : List Deed), ds = [daysD l, deedsD m] ∧ l.length ≤ 40000 ∧ (∀ x ∈ l, smallDay x) ∧ (∀ x ∈ m, smallDeed x) ∧ d = .int (gainOf l m)
theorem ok_gain_of (F : FunH K mg "gain_of" "gain_of" st_gain_of ps_gain_of) (B : Blt mg)  : Has P w K mg base CX0 1 "gain_of" ps_gain_of sp_gain_of := by
  refine F.has (N := N_gain_of) sc_gain_of (fun vs H Q E h => ?_) (fun f cdv A outer s H vs Q E hr h => ?_)
  · obtain ⟨G, ds, d, _, hz, ⟨l, m, rfl, _⟩, _⟩ := h
    exact hz.1
  · obtain ⟨G, ds, d, a, hz, ⟨l, m, rfl, hl, hs, hs', rfl⟩, k⟩ := h
    obtain ⟨v, v', rfl, z, z'⟩ := hz.two
    have z : Ds G v (.list (l.map dayD)) := z
    have z' : Ds G v' (.list (m.map deedD)) := z'
    have u := Up.refl a
    have nd := sc_gain_of.nd
    refine ⟨_, (pss_one (ps_ret (pe_callB (cr_sumK K) (by rfl) B.sum (by decide +kernel) (pa_cons (pe_lc (own := [("day", 2), ("deed", 3)]) (by rfl) nd (pi_zipK K B.zip (pa_cons (pv 0) (pa_cons (pv 1) pa_nil))) (blkOk_by (own := [("day", 2), ("deed", 3)]) (N := N_gain_of) (sc := defScope st_gain_of) (by decide +kernel)) (fun _ _ _ _ _ => (pg_tupK K (n := 2) (pgs_names (pg_name (i := 2) nd rfl (Or.inl rfl)) (pgs_names (pg_name (i := 3) nd rfl (Or.inl rfl)) pgs_done)))) (fun _ _ _ _ _ => pts_nil) (fun _ _ _ _ _ => (pe_op op_sub (pe_op op_mulW (pe_ix (ix_tupK K) (pv 3) pe_int (fun _ _ => rfl)) (pe_ix (ix_tupK K) (pv 2) pe_int (fun _ _ => rfl))) (pe_op op_mulW (pe_ix (ix_tupK K) (pv 3) pe_int (fun _ _ => rfl)) (pe_ix (ix_tupK K) (pv 2) pe_int (fun _ _ => rfl)))))) pa_nil)))), ?_⟩
    refine z_ret u.s (evd_sum (map_int_of ?_ (evn_lcZ (l := l) (m := m) (fun x y => .int (gainD x y)) (by walk_at "ev") (by walk_at "ev") hl (fun _ _ => rfl) fun Gx v w x y g hx hy zx zy => ?_))) (u.retD k)
    · rw [List.map_zipWith]
    · obtain ⟨b1, b2, b3, b4⟩ := hs x hx
      obtain ⟨c1, c2⟩ := hs' y hy
      show EvD _ _ _ (.int (y.2 * x.2.2.1 - y.1 * x.1))
      walk_at "ev"
def sp_first_fault : Sp := spD fun ds d => ∃ (l : List Day) (room : Int) (m : List Deed), ds = [daysD l, .int room, deedsD m] ∧ m.length ≤ 40000 ∧ m.length ≤ l.length ∧ d = .int (faultOf l room m)
theorem ok_first_fault (F : FunH K mg "first_fault" "first_fault" st_first_fault ps_first_fault) (B : Blt mg) (h_nights : Has P w K mg base CX0 1 "nights" ps_nights sp_nights) : Has P w K mg base CX0 2 "first_fault" ps_first_fault sp_first_fault := by
  refine F.has (N := N_first_fault) sc_first_fault (fun vs H Q E h => ?_) (fun f cdv A outer s H vs Q E hr h => ?_)
  · obtain ⟨G, ds, d, _, hz, ⟨l, room, m, rfl, _⟩, _⟩ := h
    exact hz.1
  · obtain ⟨G, ds, d, a, hz, ⟨l, room, m, rfl, hm, hl, rfl⟩, k⟩ := h
    obtain ⟨v, vr, v', rfl, z, zr, z'⟩ := hz.three
    cases zr
    have z : Ds G v (.list (l.map dayD)) := z
    have z' : Ds G v' (.list (m.map deedD)) := z'
    have u := Up.refl a
    have nd := sc_first_fault.nd
    refine ⟨_, (pss_cons (ps_for PassesOwn.never rfl (pi_enumK K B.enumerate (pa_cons (pe_f h_nights (hr.mono (by decide)) (pa_cons (pv 2) pa_nil)) pa_nil)) (pg_tupK K (n := 2) (pgs_names (pg_name (i := 3) nd rfl (Or.inl rfl)) (pgs_names (pg_name (i := 4) nd rfl (Or.inl rfl)) pgs_done)))
  (pss_cons (ps_asg (pe_ix (ix_listK K) (pv 2) (pv 3) (fun _ _ => rfl)) (pg_tupK K (n := 2) (pgs_names (pg_name (i := 5) nd rfl (Or.inl rfl)) (pgs_names (pg_name (i := 6) nd rfl (Or.inl rfl)) pgs_done))))
  (pss_one (ps_if (PW.pt (pw_or (pt_not (pt_chain op_le op_le pe_int (pv 5) (pe_ix (ix_tupK K) (pe_ix (ix_listK K) (pv 0) (pv 3) (fun _ _ => rfl)) pe_int (fun _ _ => rfl)))) (pw_or (pt_not (pt_chain op_le op_le pe_int (pv 6) (pe_ix (ix_tupK K) (pe_ix (ix_listK K) (pv 0) (pv 3) (fun _ _ => rfl)) pe_int (fun _ _ => rfl)))) (pw_or1 (pt_not (pt_chain op_le op_le pe_int (pv 4) (pv 1)))))))
  (pss_one (ps_ret (pv 3)))
  pss_nil))))
  (pss_one (ps_ret (pe_un un_neg pe_int)))), ?_⟩
    refine q_for u.s (src_enum (ds := (nights 0 m).map .int) (j := 3) (k := 4) (evn_call (by walk_at "ev") ⟨m, rfl, hm, rfl⟩).asD) fun H1 e1 =>
      ⟨fun i σ' G' H' => ∃ v3 v4 v5 v6, σ' = [some v, some (.int room), some v', v3, v4, v5, v6] ∧ Up G H G' H' ∧ Ex (gr G H H1) G' ∧ faultOf l room m = faultFrom (l.drop i) room (leftOf 0 (m.take i)) i (m.drop i), ?_, ?_, ?_, ?_⟩
    · exact ⟨none, none, none, none, rfl, u.data e1, Ex.refl _, rfl⟩
    · rintro i σ' G' H' ⟨_, _, _, _, _, u', g', _⟩
      exact ⟨g', u'.s⟩
    · rintro i σ' G' H' H3 σ3 hi ⟨v3, v4, v5, v6, rfl, u', g', hf⟩ e3 ⟨a3, a4, d3, d4, h3, h4, z3, z4, rfl⟩
      rw [List.length_map, nights_length] at hi
      obtain ⟨d, hd⟩ := get_of_lt hi
      obtain ⟨x, hx⟩ := get_of_lt (Nat.lt_of_lt_of_le hi hl)
      cases h3
      have h4 : ((nights 0 m).map PyData.int)[i]? = some d4 := h4
      rw [List.getElem?_map, nights_get hd] at h4
      cases h4
      cases z3
      cases z4
      have u3 := u'.scal e3
      have zl := z.mono u3.g
      have zm := z'.mono u3.g
      have ia := atI_map (f := dayD) hx
      have ib := atI_map (f := deedD) hd
      refine q_deed (x := d) u3.s (by walk_at "ev") fun H4 e4 => ?_
      have u4 := u3.scal e4
      have ls : leftOf 0 (m.take (i + 1)) = leftOf 0 (m.take i) + d.1 - d.2 := by rw [take_succ_of hd, leftOf_append]; rfl
      refine z_if1 (b := !okDeed x room (leftOf 0 (m.take i) + d.1 - d.2) d) u4.s (et_is (et_or (et_not (evt_test (by walk_at "ev"))) fun _ => et_or (et_not (evt_test (by walk_at "ev"))) fun _ => et_not (evt_test (by walk_at "ev"))) ?_) (fun hb H5 e5 => ?_) (fun hb H5 e5 => ?_)
      · unfold okDeed
        cases (decide (0 ≤ d.1) && decide (d.1 ≤ x.2.1)) <;> cases (decide (0 ≤ d.2) && decide (d.2 ≤ x.2.2.2)) <;> rfl
      · rw [faultFrom_drop hx hd, if_neg (by intro q; rw [q] at hb; cases hb)] at hf
        refine ⟨_, rfl, (u4.scal e5).outD k ?_⟩
        rw [hf]
        exact .int _
      · rw [faultFrom_drop hx hd, if_pos (by simpa using hb)] at hf
        exact ⟨G', some (.int i), some (.int (leftOf 0 (m.take i) + d.1 - d.2)), some (.int d.1), some (.int d.2), rfl, u4.scal e5, g', by rw [hf, ls]; rfl⟩
    · rintro σ' G' H' ⟨v3, v4, v5, v6, rfl, u', g', hf⟩
      rw [List.length_map, nights_length, List.drop_length] at hf
      have e : faultOf l room m = -1 := by rw [hf]; cases l.drop m.length <;> rfl
      rw [e] at k
      exact z_ret u'.s (by walk_at "ev") (u'.retD k)
end
end Gt

namespace Gt
open PySem PySem.Spec PyProof.Rows L2 Evl Gs
local macro_rules | `(tactic| walk_at "ev1") => `(tactic| first
  | exact evd_ci | exact evd_cb | exact evd_cn | exact evd_cs
  | exact evd_vi rfl | exact evd_vb rfl | exact evd_vn rfl
  | exact evd_var rfl (by assumption)
  | exact evd_sumS (by assumption) rfl | exact evd_lenS (by assumption) rfl
  | apply evd_I0 | apply evd_B0 | apply evd_U
  | apply evd_ixT | apply evd_ixL
  | apply evd_chain
  | apply evd_max2 | apply evd_min2 | apply evd_min3
  | exact evd_len (evd_var rfl (by assumption)) | exact evd_lenT (evd_var rfl (by assumption)) | apply evd_len
  | refine evd_tup ?_
  | apply evd_eq | apply evd_ne | apply evd_eqB | apply evd_neB
  | apply evd_isi | refine evd_not ?_
  | apply evd_I
  | exact eva_nil | refine eva_cons ?_ ?_
  | refine evn_lst ?_ | refine evn_sl ?_ ?_ ?_ | refine evn_cat ?_ ?_ ?_ | refine evn_listOf ?_ | refine evn_revL ?_
  | exact evo_none | refine evo_some ?_
  | refine EvN.asD (evn_lst ?_) | refine EvN.asD (evn_sl ?_ ?_ ?_) | refine EvN.asD (evn_cat ?_ ?_ ?_) | refine EvN.asD (evn_listOf ?_) | refine EvN.asD (evn_revL ?_)
  | refine evt_test ?_ | refine evt_B ?_
  | exact kit_int_int | exact kit_int_bool | exact kit_list_list | exact kit_tuple_tuple | exact kit_bool_int | exact kit_bool_bool | exact kit_none_int | exact kit_str_int | exact kit_list_int | exact kit_tuple_int | exact kit_int_tuple | exact kit_none_tuple | exact kit_list_tuple | exact kit_str_tuple | exact kit_bool_tuple | exact kit_tuple_list | exact kit_none_list | exact kit_str_list | exact kit_int_list
  | (show EvD _ _ _ _; assumption) | (show atI _ _ = _; first | assumption | rfl) | (show SeqAt.shaped _ = true; first | assumption | rfl)
  | (show CMulW _ _; first | assumption | exact mul_ok (by omega) (by omega)) | (show CDivW _ _; first | assumption | exact div_lit (by decide +kernel) | exact div_ok (by omega) (by omega)) | (show (0 : Int) < _; omega) | (show CPow _ _; exact ⟨by decide, by decide, by decide⟩))
local macro_rules | `(tactic| walk_at "ev") => `(tactic| repeat' (walk_at "ev1"))

section
variable {P : Program} {w : World} {K : PySem.W.Frag} {mg : Str → Option Value} {base : Heap}
theorem sl_take {σ : L2.St} {G : Hp} {j k i : Nat} {v : V} {st : List Stp} (z : Ds G v (.list (st.map deedD))) (h : σ[j]? = some (some v)) (hi : σ[k]? = some (some (.int (i : Int)))) : EvN (tSl (rSlL K) (tVar j) tNoPart (tPart (tVar k))) σ G ((st.take i).map deedD) :=
  EvN.to (evn_sl (evd_var h z) evo_none (evo_some (evd_vi hi))) (by rw [cutD_take, List.map_take])
theorem sl_drop {σ : L2.St} {G : Hp} {j k i : Nat} {v : V} {st : List Stp} (z : Ds G v (.list (st.map deedD))) (h : σ[j]? = some (some v)) (hi : σ[k]? = some (some (.int (i : Int)))) : EvN (tSl (rSlL K) (tVar j) (tPart (tVar k)) tNoPart) σ G ((st.drop i).map deedD) :=
  EvN.to (evn_sl (evd_var h z) (evo_some (evd_vi hi)) evo_none) (by rw [cutD_drop, List.map_drop])
theorem sl_drop1 {σ : L2.St} {G : Hp} {j k i : Nat} {v : V} {st : List Stp} (z : Ds G v (.list (st.map deedD))) (h : σ[j]? = some (some v)) (hi : σ[k]? = some (some (.int (i : Int)))) : EvN (tSl (rSlL K) (tVar j) (tPart (tOp (rI0 fun i j => V.int (i + j)) (tVar k) (tC (V.int 1)))) tNoPart) σ G ((st.drop (i + 1)).map deedD) :=
  EvN.to (evn_sl (evd_var h z) (evo_some (evd_I0 (evd_vi hi) evd_ci)) evo_none) (by rw [show ((i : Int) + 1) = ((i + 1 : Nat) : Int) from rfl, cutD_drop, List.map_drop])
def sp_put_in : Sp := spN fun ds es => ∃ (st : List Stp) (v n : Int), ds = [deedsD st, .int v, .int n] ∧ st.length ≤ 20000 ∧ es = (putIn st v n).map deedD
theorem ok_put_in (F : FunH K mg "put_in" "put_in" st_put_in ps_put_in) (B : Blt mg)  : Has P w K mg base CX0 1 "put_in" ps_put_in sp_put_in := by
  refine F.has (N := N_put_in) sc_put_in (fun vs H Q E h => ?_) (fun f cdv A outer s H vs Q E hr h => ?_)
  · obtain ⟨G, ds, d, _, hz, ⟨l, m, r, rfl, _⟩, _⟩ := h
    exact hz.1
  · obtain ⟨G, ds, d, a, hz, ⟨st, v, n, rfl, hl, rfl⟩, k⟩ := h
    obtain ⟨v0, v1, v2, rfl, z, z1, z2⟩ := hz.three
    cases z1
    cases z2
    have z : Ds G v0 (.list (st.map deedD)) := z
    have u := Up.refl a
    have nd := sc_put_in.nd
    refine ⟨_, (pss_cons (ps_set (i := 3) nd rfl (Or.inl rfl) pe_int)
  (pss_cons (ps_while PassesOwn.never (PW.pt (pw_and (pt_cmpR op_lt (pv 3) (pe_callB (cb_lenK K) (by rfl) B.len (by decide +kernel) (pa_cons (pv 0) pa_nil)) (nomark _)) (pw_and1 (pt_cmpR op_gt (pe_ix (ix_tupK K) (pe_ix (ix_listK K) (pv 0) (pv 3) (fun _ _ => rfl)) pe_int (fun _ _ => rfl)) (pv 1) (nomark _)))))
  (pss_one (ps_set (i := 3) nd rfl (Or.inl rfl) (pe_op op_add (pv 3) pe_int))))
  (pss_cons (ps_if (PW.pt (pw_and (pt_cmpR op_lt (pv 3) (pe_callB (cb_lenK K) (by rfl) B.len (by decide +kernel) (pa_cons (pv 0) pa_nil)) (nomark _)) (pw_and1 (pt_cmpR op_eq (pe_ix (ix_tupK K) (pe_ix (ix_listK K) (pv 0) (pv 3) (fun _ _ => rfl)) pe_int (fun _ _ => rfl)) (pv 1) (nomark _)))))
  (pss_one (ps_ret (pe_op op_cat (pe_op op_cat (pe_slice (sl_listK K) (pv 0) po_none (po_some (pv 3))) (pe_lst (pa_cons (pe_tup (pa_cons (pv 1) (pa_cons (pe_op op_add (pe_ix (ix_tupK K) (pe_ix (ix_listK K) (pv 0) (pv 3) (fun _ _ => rfl)) pe_int (fun _ _ => rfl)) (pv 2)) pa_nil))) pa_nil))) (pe_slice (sl_listK K) (pv 0) (po_some (pe_op op_add (pv 3) pe_int)) po_none))))
  pss_nil)
  (pss_one (ps_ret (pe_op op_cat (pe_op op_cat (pe_slice (sl_listK K) (pv 0) po_none (po_some (pv 3))) (pe_lst (pa_cons (pe_tup (pa_cons (pv 1) (pa_cons (pv 2) pa_nil))) pa_nil))) (pe_slice (sl_listK K) (pv 0) (po_some (pv 3)) po_none))))))), ?_⟩
    refine q_setI (n := 0) u.s (by walk_at "ev") fun H1 e1 => ?_
    refine q_while (fun m σ' G' H' => ∃ i : Nat, i ≤ st.length ∧ m = st.length - i ∧ (∀ j s, j < i → st[j]? = some s → s.1 > v) ∧ σ' = [some v0, some (.int v), some (.int n), some (.int (i : Int))] ∧ Up G H G' H') st.length ⟨0, Nat.zero_le _, rfl, fun j s hj => absurd hj (Nat.not_lt_zero _), rfl, u.scal e1⟩ ?_
    rintro m σ' G' H' ⟨i, hi, rfl, hb, rfl, u'⟩
    have z := z.mono u'.g
    refine ⟨u'.s, ?_⟩
    by_cases hlt : i < st.length
    · obtain ⟨s, hs⟩ := get_of_lt hlt
      have ia := atI_map (f := deedD) hs
      have hgo : EvT (tAnd (tTest (tOp (rI0 fun i j => V.bl (decide (i < j))) (tVar 3) (tCB (rLenS K) (tCons (tVar 0) tNil)))) (tTest (tOp (rI0 fun i j => V.bl (decide (j < i))) (tOp (rIxT K) (tOp (rIxL K) (tVar 0) (tVar 3)) (tC (.int 0))) (tVar 1)))) [some v0, some (.int v), some (.int n), some (.int (i : Int))] G' (decide (v < s.1)) :=
        et_is (et_and (a := true) (evt_test (EvD.to (evd_B0 (by walk_at "ev") (EvD.to (evd_len (evd_var rfl z)) (by rw [List.length_map]))) (by rw [decide_eq_true (by omega)]))) fun _ => evt_test (by walk_at "ev")) rfl
      refine ⟨decide (v < s.1), hgo, fun hc H2 e2 => ?_, fun hc H2 e2 => ?_⟩
      · refine z_setI (n := (i : Int) + 1) (u'.scal e2).s (by walk_at "ev") fun H3 e3 => ⟨G', st.length - (i + 1), by omega, i + 1, hlt, rfl, fun j t hj ht => ?_, rfl, (u'.scal e2).scal e3⟩
        by_cases q : j < i
        · exact hb j t q ht
        · have : j = i := by omega
          subst this
          rw [hs] at ht
          cases ht
          exact of_decide_eq_true hc
      · have hp := put_at st v n i hb hi (fun t ht => by rw [hs] at ht; cases ht; simpa using hc)
        rw [hs] at hp
        have hp : putIn st v n = if s.1 = v then st.take i ++ [(v, s.2 + n)] ++ st.drop (i + 1) else st.take i ++ [(v, n)] ++ st.drop i := hp
        have u2 := u'.scal e2
        refine q_if1 (b := decide (s.1 = v)) u2.s (et_is (et_and (a := true) (evt_test (EvD.to (evd_B0 (by walk_at "ev") (EvD.to (evd_len (evd_var rfl z)) (by rw [List.length_map]))) (by rw [decide_eq_true (by omega)]))) fun _ => evt_test (by walk_at "ev")) rfl) (fun hc2 H3 e3 => ?_) (fun hc2 H3 e3 => ?_)
        · rw [if_pos (of_decide_eq_true hc2)] at hp
          rw [hp] at k
          refine z_retN (u2.scal e3).s (EvN.to (evn_cat (evn_cat (sl_take z rfl rfl).asD (EvN.asD (evn_lst (ds := [deedD (v, s.2 + n)]) (by show EvAr _ _ _ [.tuple [.int v, .int (s.2 + n)]]; walk_at "ev"))) ?_).asD (sl_drop1 z rfl rfl).asD ?_) (by rw [List.map_append, List.map_append]; rfl)) ((u2.scal e3).retN k)
          · simp only [List.length_map, List.length_take, List.length_cons, List.length_nil]; omega
          · simp only [List.length_append, List.length_map, List.length_take, List.length_drop, List.length_cons, List.length_nil]; omega
        · rw [if_neg (of_decide_eq_false hc2)] at hp
          rw [hp] at k
          refine z_retN (u2.scal e3).s (EvN.to (evn_cat (evn_cat (sl_take z rfl rfl).asD (EvN.asD (evn_lst (ds := [deedD (v, n)]) (by show EvAr _ _ _ [.tuple [.int v, .int n]]; walk_at "ev"))) ?_).asD (sl_drop z rfl rfl).asD ?_) (by rw [List.map_append, List.map_append]; rfl)) ((u2.scal e3).retN k)
          · simp only [List.length_map, List.length_take, List.length_cons, List.length_nil]; omega
          · simp only [List.length_append, List.length_map, List.length_take, List.length_drop, List.length_cons, List.length_nil]; omega
    · have hn : st[i]? = none := List.getElem?_eq_none (by omega)
      have hp := put_at st v n i hb hi (fun t ht => by rw [hn] at ht; cases ht)
      rw [hn] at hp
      have hp : putIn st v n = st.take i ++ [(v, n)] ++ st.drop i := hp
      have hno : ∀ {t : TT}, EvT (tAnd (tTest (tOp (rI0 fun i j => V.bl (decide (i < j))) (tVar 3) (tCB (rLenS K) (tCons (tVar 0) tNil)))) t) [some v0, some (.int v), some (.int n), some (.int (i : Int))] G' false := fun {t} =>
        et_is (et_and (a := false) (b := false) (evt_test (EvD.to (evd_B0 (by walk_at "ev") (EvD.to (evd_len (evd_var rfl z)) (by rw [List.length_map]))) (by rw [decide_eq_false (by omega)]))) fun h => nomatch h) rfl
      refine ⟨false, hno, fun h => (nomatch h), fun _ H2 e2 => ?_⟩
      have u2 := u'.scal e2
      refine q_if1 (b := false) u2.s hno (fun h => (nomatch h)) (fun _ H3 e3 => ?_)
      rw [hp] at k
      refine z_retN (u2.scal e3).s (EvN.to (evn_cat (evn_cat (sl_take z rfl rfl).asD (EvN.asD (evn_lst (ds := [deedD (v, n)]) (by show EvAr _ _ _ [.tuple [.int v, .int n]]; walk_at "ev"))) ?_).asD (sl_drop z rfl rfl).asD ?_) (by rw [List.map_append, List.map_append]; rfl)) ((u2.scal e3).retN k)
      · simp only [List.length_map, List.length_take, List.length_cons, List.length_nil]; omega
      · simp only [List.length_append, List.length_map, List.length_take, List.length_drop, List.length_cons, List.length_nil]; omega
def sp_cut_front : Sp := spD fun ds d => ∃ (st : List Stp) (n : Int), ds = [deedsD st, .int n] ∧ st.length ≤ 20000 ∧ Good st ∧ smallS st ∧ 0 ≤ n ∧ n.natAbs < 10 * big ∧ d = .tuple [.int (topS st n), deedsD (cutF 0 st n).2]
theorem ok_cut_front (F : FunH K mg "cut_front" "cut_front" st_cut_front ps_cut_front) (B : Blt mg)  : Has P w K mg base CX0 1 "cut_front" ps_cut_front sp_cut_front := by
  refine F.has (N := N_cut_front) sc_cut_front (fun vs H Q E h => ?_) (fun f cdv A outer s H vs Q E hr h => ?_)
  · obtain ⟨G, ds, d, _, hz, ⟨l, m, rfl, _⟩, _⟩ := h
    exact hz.1
  · obtain ⟨G, ds, d, a, hz, ⟨st, n, rfl, hl, hg, hs, hn0, hn, rfl⟩, k⟩ := h
    obtain ⟨v0, v1, rfl, z, z1⟩ := hz.two
    cases z1
    have z : Ds G v0 (.list (st.map deedD)) := z
    have u := Up.refl a
    have nd := sc_cut_front.nd
    refine ⟨_, (pss_cons (ps_set (i := 2) nd rfl (Or.inl rfl) pe_int)
  (pss_cons (ps_set (i := 3) nd rfl (Or.inl rfl) (pv 1))
  (pss_cons (ps_set (i := 4) nd rfl (Or.inl rfl) pe_int)
  (pss_cons (ps_while PassesOwn.never (PW.pt (pw_and (pt_cmpR op_lt (pv 4) (pe_callB (cb_lenK K) (by rfl) B.len (by decide +kernel) (pa_cons (pv 0) pa_nil)) (nomark _)) (pw_and1 (pt_cmpR op_le (pe_ix (ix_tupK K) (pe_ix (ix_listK K) (pv 0) (pv 4) (fun _ _ => rfl)) pe_int (fun _ _ => rfl)) (pv 3) (nomark _)))))
  (pss_cons (ps_set (i := 2) nd rfl (Or.inl rfl) (pe_op op_add (pv 2) (pe_op op_mulW (pe_ix (ix_tupK K) (pe_ix (ix_listK K) (pv 0) (pv 4) (fun _ _ => rfl)) pe_int (fun _ _ => rfl)) (pe_ix (ix_tupK K) (pe_ix (ix_listK K) (pv 0) (pv 4) (fun _ _ => rfl)) pe_int (fun _ _ => rfl)))))
  (pss_cons (ps_set (i := 3) nd rfl (Or.inl rfl) (pe_op op_sub (pv 3) (pe_ix (ix_tupK K) (pe_ix (ix_listK K) (pv 0) (pv 4) (fun _ _ => rfl)) pe_int (fun _ _ => rfl))))
  (pss_one (ps_set (i := 4) nd rfl (Or.inl rfl) (pe_op op_add (pv 4) pe_int))))))
  (pss_cons (ps_if (PW.pt (pw_or (pt_cmpR op_eq (pv 3) pe_int (nomark _)) (pw_or1 (pt_cmpR op_eq (pv 4) (pe_callB (cb_lenK K) (by rfl) B.len (by decide +kernel) (pa_cons (pv 0) pa_nil)) (nomark _)))))
  (pss_one (ps_ret (pe_tup (pa_cons (pv 2) (pa_cons (pe_slice (sl_listK K) (pv 0) (po_some (pv 4)) po_none) pa_nil)))))
  pss_nil)
  (pss_cons (ps_asg (pe_ix (ix_listK K) (pv 0) (pv 4) (fun _ _ => rfl)) (pg_tupK K (n := 2) (pgs_names (pg_name (i := 5) nd rfl (Or.inl rfl)) (pgs_names (pg_name (i := 6) nd rfl (Or.inl rfl)) pgs_done))))
  (pss_one (ps_ret (pe_tup (pa_cons (pe_op op_add (pv 2) (pe_op op_mulW (pv 5) (pv 3))) (pa_cons (pe_op op_cat (pe_lst (pa_cons (pe_tup (pa_cons (pv 5) (pa_cons (pe_op op_sub (pv 6) (pv 3)) pa_nil))) pa_nil)) (pe_slice (sl_listK K) (pv 0) (po_some (pe_op op_add (pv 4) pe_int)) po_none)) pa_nil))))))))))), ?_⟩
    refine q_setI (n := 0) u.s (by walk_at "ev") fun H1 e1 => ?_
    refine q_setI (n := n) (u.scal e1).s (by walk_at "ev") fun H2 e2 => ?_
    refine q_setI (n := 0) ((u.scal e1).scal e2).s (by walk_at "ev") fun H3 e3 => ?_
    refine q_while (fun m σ' G' H' => ∃ (i : Nat) (total left : Int) (v5 v6 : Option V), i ≤ st.length ∧ m = st.length - i ∧ Good (st.drop i) ∧ 0 ≤ left ∧ left ≤ n ∧ cutF 0 st n = cutF total (st.drop i) left ∧ σ' = [some v0, some (.int n), some (.int total), some (.int left), some (.int (i : Int)), v5, v6] ∧ Up G H G' H') st.length ⟨0, 0, n, none, none, Nat.zero_le _, rfl, hg, hn0, Int.le_refl _, rfl, rfl, ((u.scal e1).scal e2).scal e3⟩ ?_
    rintro m σ' G' H' ⟨i, total, left, v5, v6, hi, rfl, hgi, h0, h1, hc, rfl, u'⟩
    have z := z.mono u'.g
    refine ⟨u'.s, ?_⟩
    by_cases hlt : i < st.length
    · obtain ⟨s, hs'⟩ := get_of_lt hlt
      have ia := atI_map (f := deedD) hs'
      obtain ⟨b1, b2⟩ := hs s (List.mem_of_getElem? hs')
      rw [drop_cons_of hs'] at hc hgi
      obtain ⟨g1, g2, g3⟩ := hgi
      simp only [cutF] at hc
      refine ⟨decide (s.2 ≤ left), et_is (et_and (a := true) (evt_test (EvD.to (evd_B0 (by walk_at "ev") (EvD.to (evd_len (evd_var rfl z)) (by rw [List.length_map]))) (by rw [decide_eq_true (by omega)]))) fun _ => evt_test (by walk_at "ev")) rfl, fun hcc H2 e2 => ?_, fun hcc H2 e2 => ?_⟩
      · rw [if_pos (of_decide_eq_true hcc)] at hc
        have hle := of_decide_eq_true hcc
        have u2 := u'.scal e2
        refine q_setI (n := total + s.1 * s.2) u2.s (by walk_at "ev") fun H3 e3 => ?_
        have u3 := u2.scal e3
        refine q_setI (n := left - s.2) u3.s (by walk_at "ev") fun H4 e4 => ?_
        have u4 := u3.scal e4
        refine z_setI (n := (i : Int) + 1) u4.s (by walk_at "ev") fun H5 e5 => ⟨G', st.length - (i + 1), by omega, i + 1, total + s.1 * s.2, left - s.2, v5, v6, hlt, rfl, g3, by omega, by omega, hc, rfl, u4.scal e5⟩
      · have hgt := of_decide_eq_false hcc
        rw [if_neg hgt] at hc
        have u2 := u'.scal e2
        refine q_if1 (b := decide (left = 0)) u2.s (et_is (et_or (b := false) (evt_test (by walk_at "ev")) fun _ => evt_test (EvD.to (evd_eq (by walk_at "ev") (EvD.to (evd_len (evd_var rfl z)) (by rw [List.length_map]))) (by rw [decide_eq_false (by omega)]))) (Bool.or_false _)) (fun hz0 H3 e3 => ?_) (fun hz0 H3 e3 => ?_)
        · rw [if_pos (of_decide_eq_true hz0)] at hc
          have u3 := u2.scal e3
          unfold topS at k
          rw [hc] at k
          refine z_ret u3.s (evd_tup (ds := [.int total, deedsD (s :: st.drop (i + 1))]) (eva_cons (by walk_at "ev") (eva_cons ?_ eva_nil))) (u3.retD k)
          rw [← drop_cons_of hs']
          exact (sl_drop z rfl rfl).asD
        · have hnz := of_decide_eq_false hz0
          rw [if_neg hnz] at hc
          have u3 := u2.scal e3
          refine q_deed (x := s) u3.s (by walk_at "ev") fun H4 e4 => ?_
          have u4 := u3.scal e4
          unfold topS at k
          rw [hc] at k
          refine z_ret u4.s (evd_tup (ds := [.int (total + s.1 * left), deedsD ((s.1, s.2 - left) :: st.drop (i + 1))]) (eva_cons (by walk_at "ev") (eva_cons ?_ eva_nil))) (u4.retD k)
          refine EvN.asD (EvN.to (evn_cat (EvN.asD (evn_lst (ds := [deedD (s.1, s.2 - left)]) (by show EvAr _ _ _ [.tuple [.int s.1, .int (s.2 - left)]]; walk_at "ev"))) (sl_drop1 z rfl rfl).asD ?_) rfl)
          simp only [List.length_map, List.length_drop, List.length_cons, List.length_nil]; omega
    · have hd : st.drop i = [] := List.drop_of_length_le (by omega)
      rw [hd] at hc
      refine ⟨false, et_is (et_and (a := false) (b := false) (evt_test (EvD.to (evd_B0 (by walk_at "ev") (EvD.to (evd_len (evd_var rfl z)) (by rw [List.length_map]))) (by rw [decide_eq_false (by omega)]))) fun h => nomatch h) rfl, fun h => (nomatch h), fun _ H2 e2 => ?_⟩
      have u2 := u'.scal e2
      refine q_if1 (b := true) u2.s (et_is (et_or (b := true) (evt_test (by walk_at "ev")) fun _ => evt_test (EvD.to (evd_eq (by walk_at "ev") (EvD.to (evd_len (evd_var rfl z)) (by rw [List.length_map]))) (by rw [decide_eq_true (by omega)]))) (Bool.or_true _)) (fun _ H3 e3 => ?_) (fun h => (nomatch h))
      have u3 := u2.scal e3
      unfold topS at k
      rw [hc] at k
      refine z_ret u3.s (evd_tup (ds := [.int total, deedsD []]) (eva_cons (by walk_at "ev") (eva_cons ?_ eva_nil))) (u3.retD k)
      rw [← hd]
      exact (sl_drop z rfl rfl).asD
def sp_kept : Sp := spN fun ds es => ∃ (st : List Stp) (n : Int), ds = [deedsD st, .int n] ∧ st.length ≤ 20000 ∧ es = (keptF st n).map deedD
theorem ok_kept (F : FunH K mg "kept" "kept" st_kept ps_kept) (B : Blt mg)  : Has P w K mg base CX0 1 "kept" ps_kept sp_kept := by
  refine F.has (N := N_kept) sc_kept (fun vs H Q E h => ?_) (fun f cdv A outer s H vs Q E hr h => ?_)
  · obtain ⟨G, ds, d, _, hz, ⟨l, m, rfl, _⟩, _⟩ := h
    exact hz.1
  · obtain ⟨G, ds, d, a, hz, ⟨st, n, rfl, hl, rfl⟩, k⟩ := h
    obtain ⟨v0, v1, rfl, z, z1⟩ := hz.two
    cases z1
    have z : Ds G v0 (.list (st.map deedD)) := z
    have u := Up.refl a
    have nd := sc_kept.nd
    refine ⟨_, (pss_cons (ps_set (i := 2) nd rfl (Or.inl rfl) (pe_lst pa_nil))
  (pss_cons (ps_set (i := 3) nd rfl (Or.inl rfl) (pv 1))
  (pss_cons (ps_for PassesOwn.never rfl (pi_listK K (pv 0)) (pg_tupK K (n := 2) (pgs_names (pg_name (i := 4) nd rfl (Or.inl rfl)) (pgs_names (pg_name (i := 5) nd rfl (Or.inl rfl)) pgs_done)))
  (pss_one (ps_if (pt_cmpR op_gt (pv 3) pe_int (nomark _))
  (pss_cons (ps_expr (pe_bm PySem.F.plainAttrs_list PySem.F.slot_list_append PySem.F.type_list_append mt_append (pv 2) (pa_cons (pe_tup (pa_cons (pv 4) (pa_cons (pe_callB (cb_min2 rfl) (by rfl) B.min (by decide +kernel) (pa_cons (pv 5) (pa_cons (pv 3) pa_nil))) pa_nil))) pa_nil)))
  (pss_one (ps_set (i := 3) nd rfl (Or.inl rfl) (pe_op op_sub (pv 3) (pe_callB (cb_min2 rfl) (by rfl) B.min (by decide +kernel) (pa_cons (pv 5) (pa_cons (pv 3) pa_nil)))))))
  pss_nil)))
  (pss_one (ps_ret (pv 2)))))), ?_⟩
    refine q_setN u.s (evn_lst eva_nil) fun p xs H1 e1 hp h1 z1 => ?_
    cases z1.unnil
    have gp : G p = none := none_of_ex u.s hp
    refine q_setI (n := n) (u.scal e1).s (by walk_at "ev") fun H2 e2 => ?_
    have u2 := (u.scal e1).scal e2
    refine q_for u2.s (src_listT (js := [4, 5]) (m := 2) (ds := st.map deedD) (by walk_at "ev") rfl (deed_tuples st)) fun H3 e3 =>
      ⟨fun i σ' G' H' => ∃ (v4 v5 : Option V) (left : Int) (got : List Stp) (xs : List V), σ' = [some v0, some (.int n), some (.ref p), some (.int left), v4, v5] ∧ Up G H G' H' ∧ Ex (gr G H2 H3) G' ∧ G' p = none ∧ H' p = some (.lst xs) ∧ DsA G' xs (got.map deedD) ∧ got.length ≤ i ∧ keptF st n = got ++ keptF (st.drop i) left, ?_, ?_, ?_, ?_⟩
    · have p2 : H2 p = some (.lst []) := e2 _ _ h1
      exact ⟨none, none, n, [], [], rfl, u2.data e3, Ex.refl _, by rw [gr_old p2]; exact gp, e3 _ _ p2, .nil, Nat.zero_le _, rfl⟩
    · rintro i σ' G' H' ⟨_, _, _, _, _, _, u', g', _⟩
      exact ⟨g', u'.s⟩
    · rintro i σ' G' H' H4 σ4 hi ⟨v4, v5, left, got, xs, rfl, u', g', gp', hp', zx, hgl, hk⟩ e4 hS
      obtain ⟨d, hd, rfl⟩ := stp_deed hS
      have hi' := lt_of_get hd
      have u4 := u'.scal e4
      rw [drop_cons_of hd] at hk
      simp only [keptF] at hk
      refine z_if1 (b := decide (0 < left)) u4.s (evt_test (by walk_at "ev")) (fun hc H5 e5 => ?_) (fun hc H5 e5 => ?_)
      · have hc := of_decide_eq_true hc
        rw [if_pos hc] at hk
        have u5 := u4.scal e5
        refine q_app (xs := xs) u5.s rfl (e5 _ _ (e4 _ _ hp')) (d := deedD (d.1, min d.2 left)) (by show EvD _ _ _ (.tuple [.int d.1, .int (min d.2 left)]); walk_at "ev") (by rw [zx.1, List.length_map]; omega) fun v6 H6 e6 z6 => ?_
        have u6 := u5.data e6
        have p5 : H5 p = some (.lst xs) := e5 _ _ (e4 _ _ hp')
        have gp6 : gr G' H5 H6 p = none := by rw [gr_old p5]; exact gp'
        have u6 := u6.mut (o := .lst (xs ++ [v6])) gp6 hp
        refine z_setI (n := left - min d.2 left) u6.s (by walk_at "ev") fun H7 e7 => ?_
        refine ⟨gr G' H5 H6, some (.int d.1), some (.int d.2), left - min d.2 left, got ++ [(d.1, min d.2 left)], xs ++ [v6], rfl, u6.scal e7, g'.trans (ex_gr u5.s), gp6, e7 _ _ upd_same, ?_, by rw [List.length_append]; show got.length + 1 ≤ i + 1; omega, by rw [hk, List.append_assoc]; rfl⟩
        rw [List.map_append]
        exact (zx.mono (ex_gr u5.s)).append (.cons z6 .nil)
      · have hc := of_decide_eq_false hc
        rw [if_neg hc] at hk
        exact ⟨G', some (.int d.1), some (.int d.2), left, got, xs, rfl, u4.scal e5, g', gp', e5 _ _ (e4 _ _ hp'), zx, by omega, hk⟩
    · rintro σ' G' H' ⟨v4, v5, left, got, xs, rfl, u', g', gp', hp', zx, hgl, hk⟩
      rw [List.length_map, List.drop_length] at hk
      have hk : keptF st n = got := by rw [hk]; simp [keptF]
      rw [hk] at k
      exact ⟨_, rfl, u'.outN k hp gp' hp' zx⟩
end
end Gt

namespace Gt
open PySem PySem.Spec PyProof.Rows L2 Evl Gs
local macro_rules | `(tactic| walk_at "ev1") => `(tactic| first
  | exact evd_ci | exact evd_cb | exact evd_cn | exact evd_cs
  | exact evd_vi rfl | exact evd_vb rfl | exact evd_vn rfl
  | exact evd_var rfl (by assumption)
  | exact evd_sumS (by assumption) rfl | exact evd_lenS (by assumption) rfl
  | apply evd_I0 | apply evd_B0 | apply evd_U
  | apply evd_ixT | apply evd_ixL
  | apply evd_chain
  | apply evd_max2 | apply evd_min2 | apply evd_min3
  | exact evd_len (evd_var rfl (by assumption)) | exact evd_lenT (evd_var rfl (by assumption)) | apply evd_len
  | refine evd_tup ?_
  | apply evd_eq | apply evd_ne | apply evd_eqB | apply evd_neB
  | apply evd_isi | refine evd_not ?_
  | apply evd_I
  | exact eva_nil | refine eva_cons ?_ ?_
  | refine evn_lst ?_ | refine evn_sl ?_ ?_ ?_ | refine evn_cat ?_ ?_ ?_ | refine evn_listOf ?_ | refine evn_revL ?_
  | exact evo_none | refine evo_some ?_
  | refine EvN.asD (evn_lst ?_) | refine EvN.asD (evn_sl ?_ ?_ ?_) | refine EvN.asD (evn_cat ?_ ?_ ?_) | refine EvN.asD (evn_listOf ?_) | refine EvN.asD (evn_revL ?_)
  | refine evt_test ?_ | refine evt_B ?_
  | exact kit_int_int | exact kit_int_bool | exact kit_list_list | exact kit_tuple_tuple | exact kit_bool_int | exact kit_bool_bool | exact kit_none_int | exact kit_str_int | exact kit_list_int | exact kit_tuple_int | exact kit_int_tuple | exact kit_none_tuple | exact kit_list_tuple | exact kit_str_tuple | exact kit_bool_tuple | exact kit_tuple_list | exact kit_none_list | exact kit_str_list | exact kit_int_list
  | (show EvD _ _ _ _; assumption) | (show atI _ _ = _; first | assumption | rfl) | (show SeqAt.shaped _ = true; first | assumption | rfl)
  | (show CMulW _ _; first | assumption | exact mul_ok (by omega) (by omega)) | (show CDivW _ _; first | assumption | exact div_lit (by decide +kernel) | exact div_ok (by omega) (by omega)) | (show (0 : Int) < _; omega) | (show CPow _ _; exact ⟨by decide, by decide, by decide⟩))
local macro_rules | `(tactic| walk_at "ev") => `(tactic| repeat' (walk_at "ev1"))

section
variable {P : Program} {w : World} {K : PySem.W.Frag} {mg : Str → Option Value} {base : Heap}
def sp_bound_of : Sp := spD fun ds d => ∃ (l : List Day) (room : Int) (ws : List Int), ds = [daysD l, .int room, intsD ws] ∧ l.length ≤ 40000 ∧ ws.length = l.length ∧ (∀ x ∈ l, smallDay x) ∧ room.natAbs < 10 * big ∧ (∀ w ∈ ws, w.natAbs < 10 * big) ∧ d = .int (boundOf l room ws)
theorem ok_bound_of (F : FunH K mg "bound_of" "bound_of" st_bound_of ps_bound_of) (B : Blt mg)  : Has P w K mg base CX0 1 "bound_of" ps_bound_of sp_bound_of := by
  refine F.has (N := N_bound_of) sc_bound_of (fun vs H Q E h => ?_) (fun f cdv A outer s H vs Q E hr h => ?_)
  · obtain ⟨G, ds, d, _, hz, ⟨l, m, r, rfl, _⟩, _⟩ := h
    exact hz.1
  · obtain ⟨G, ds, d, a, hz, ⟨l, room, ws, rfl, hl, hw, hs, hr1, hws, rfl⟩, k⟩ := h
    obtain ⟨v0, v1, v2, rfl, z, z1, z2⟩ := hz.three
    cases z1
    have z : Ds G v0 (.list (l.map dayD)) := z
    have z2 : Ds G v2 (.list (ws.map PyData.int)) := z2
    have u := Up.refl a
    have nd := sc_bound_of.nd
    refine ⟨_, (pss_cons (ps_set (i := 3) nd rfl (Or.inl rfl) pe_int)
  (pss_cons (ps_for PassesOwn.never rfl (pi_enumK K B.enumerate (pa_cons (pv 0) pa_nil)) (pg_tupK K (n := 2) (pgs_names (pg_name (i := 4) nd rfl (Or.inl rfl)) (pgs_names (pg_name (i := 5) nd rfl (Or.inl rfl)) pgs_done)))
  (pss_cons (ps_asg (pv 5) (pg_tupK K (n := 4) (pgs_names (pg_name (i := 6) nd rfl (Or.inl rfl)) (pgs_names (pg_name (i := 7) nd rfl (Or.inl rfl)) (pgs_names (pg_name (i := 8) nd rfl (Or.inl rfl)) (pgs_names (pg_name (i := 9) nd rfl (Or.inl rfl)) pgs_done))))))
  (pss_cons (ps_set (i := 3) nd rfl (Or.inl rfl) (pe_op op_add (pe_op op_add (pv 3) (pe_op op_mulW (pv 7) (pe_callB (cb_max2 rfl) (by rfl) B.max (by decide +kernel) (pa_cons pe_int (pa_cons (pe_op op_sub (pe_ix (ix_listK K) (pv 2) (pv 4) (fun _ _ => rfl)) (pv 6)) pa_nil))))) (pe_op op_mulW (pv 9) (pe_callB (cb_max2 rfl) (by rfl) B.max (by decide +kernel) (pa_cons pe_int (pa_cons (pe_op op_sub (pv 8) (pe_ix (ix_listK K) (pv 2) (pv 4) (fun _ _ => rfl))) pa_nil))))))
  (pss_one (ps_if (pt_cmpR op_gt (pv 4) pe_int (nomark _))
  (pss_one (ps_set (i := 3) nd rfl (Or.inl rfl) (pe_op op_add (pv 3) (pe_op op_mulW (pv 1) (pe_callB (cb_max2 rfl) (by rfl) B.max (by decide +kernel) (pa_cons pe_int (pa_cons (pe_op op_sub (pe_ix (ix_listK K) (pv 2) (pv 4) (fun _ _ => rfl)) (pe_ix (ix_listK K) (pv 2) (pe_op op_sub (pv 4) pe_int) (fun _ _ => rfl))) pa_nil)))))))
  pss_nil)))))
  (pss_one (ps_ret (pv 3))))), ?_⟩
    refine q_setI (n := 0) u.s (by walk_at "ev") fun H0 e0 => ?_
    have u0 := u.scal e0
    refine q_for u0.s (src_enum (ds := l.map dayD) (j := 4) (k := 5) (by walk_at "ev")) fun H1 e1 =>
      ⟨fun i σ' G' H' => ∃ (total : Int) (v4 v5 v6 v7 v8 v9 : Option V), σ' = [some v0, some (.int room), some v2, some (.int total), v4, v5, v6, v7, v8, v9] ∧ Up G H G' H' ∧ Ex (gr G H0 H1) G' ∧ total + boundFrom room (prevAt ws i) (l.drop i) (ws.drop i) = boundOf l room ws, ?_, ?_, ?_, ?_⟩
    · exact ⟨0, none, none, none, none, none, none, rfl, u0.data e1, Ex.refl _, by show 0 + boundFrom room none l ws = boundFrom room none l ws; omega⟩
    · rintro i σ' G' H' ⟨_, _, _, _, _, _, _, _, u', g', _⟩
      exact ⟨g', u'.s⟩
    · rintro i σ' G' H' H3 σ3 hi ⟨total, v4, v5, v6, v7, v8, v9, rfl, u', g', hf⟩ e3 ⟨a3, a4, d3, d4, h3, h4, z3, z4, rfl⟩
      rw [List.length_map] at hi
      obtain ⟨d, hd, rfl⟩ := map_get h4
      obtain ⟨w, hwi⟩ := get_of_lt (l := ws) (i := i) (by omega)
      cases h3
      cases z3
      have u3 := u'.data e3
      have z2' := z2.mono u3.g
      have iw := atI_map (f := PyData.int) hwi
      obtain ⟨b1, b2, b3, b4⟩ := hs d (List.mem_of_getElem? hd)
      have bw := hws w (List.mem_of_getElem? hwi)
      rw [boundFrom_drop hd hwi] at hf
      refine q_day (x := d) u3.s (evd_var rfl z4) fun H4 e4 => ?_
      have u4 := u3.scal e4
      refine q_setI (n := total + d.2.1 * max 0 (w - d.1) + d.2.2.2 * max 0 (d.2.2.1 - w)) u4.s (by walk_at "ev") fun H5 e5 => ?_
      have u5 := u4.scal e5
      refine z_if1 (b := decide ((0 : Int) < (i : Int))) u5.s (evt_test (by walk_at "ev")) (fun hb H6 e6 => ?_) (fun hb H6 e6 => ?_)
      · have hb := of_decide_eq_true hb
        have u6 := u5.scal e6
        obtain ⟨q, hq⟩ := get_of_lt (l := ws) (i := i - 1) (by omega)
        have bq := hws q (List.mem_of_getElem? hq)
        have ip : atI (ws.map PyData.int) ((i : Int) - 1) = some (.int q) := by
          have e : ((i : Int) - 1) = ((i - 1 : Nat) : Int) := by omega
          rw [e]
          exact atI_map hq
        have pr : prevAt ws i = some q := by
          unfold prevAt
          rw [if_neg (by omega), hq]
        rw [pr] at hf
        refine z_setI (n := total + d.2.1 * max 0 (w - d.1) + d.2.2.2 * max 0 (d.2.2.1 - w) + room * max 0 (w - q)) u6.s (by walk_at "ev") fun H7 e7 => ?_
        refine ⟨_, _, some (.int i), some a4, some (.int d.1), some (.int d.2.1), some (.int d.2.2.1), some (.int d.2.2.2), rfl, u6.scal e7, g'.trans (ex_gr u'.s), ?_⟩
        have pr2 : prevAt ws (i + 1) = some w := by
          unfold prevAt
          rw [if_neg (by omega), Nat.add_sub_cancel, hwi]
        rw [pr2, ← hf]
        unfold dayBound
        show _ = total + (_ + _ + room * max 0 (w - q) + _)
        omega
      · have hb := of_decide_eq_false hb
        have i0 : i = 0 := by omega
        have pr : prevAt ws i = none := by
          unfold prevAt
          rw [if_pos i0]
        rw [pr] at hf
        refine ⟨_, _, some (.int i), some a4, some (.int d.1), some (.int d.2.1), some (.int d.2.2.1), some (.int d.2.2.2), rfl, u5.scal e6, g'.trans (ex_gr u'.s), ?_⟩
        have pr2 : prevAt ws (i + 1) = some w := by
          unfold prevAt
          rw [if_neg (by omega), Nat.add_sub_cancel, hwi]
        rw [pr2, ← hf]
        unfold dayBound
        show _ = total + (_ + _ + 0 + _)
        omega
    · rintro σ' G' H' ⟨total, v4, v5, v6, v7, v8, v9, rfl, u', g', hf⟩
      rw [List.length_map, List.drop_length] at hf
      have hf : total = boundOf l room ws := by rw [← hf]; show total = total + 0; omega
      rw [← hf] at k
      exact z_ret u'.s (by walk_at "ev") (u'.retD k)
def sp_Best (C : Addr) : Sp := fun vs H Q _ => ∃ (G : Hp) (x dx : Addr) (vd vw : V) (m : List Deed) (ws : List Int), vs = [.ref x, vd, vw] ∧ Ex G H ∧ G x = none ∧ H x = some (.ins C dx []) ∧ Ds G vd (deedsD m) ∧ Ds G vw (intsD ws) ∧
  ∀ (G2 H2 : Hp) (p q : Addr) (xs : List V), Upm G H G2 H2 [x] → BestAt C G2 H2 x dx p q xs m ws → H p = none → H q = none → Q .non H2
theorem ok_Best___init__ {CBest : Addr} (TBest : Cls K CBest) (NBest : NaBest K CBest) (F : IniH K mg CBest "Best" "Best.__init__" st_Best___init__ ps_Best___init__) (B : Blt mg)  : HasC P w K mg base CX0 1 CBest "Best" ps_Best___init__ (sp_Best CBest) := by
  refine F.has (N := N_Best___init__) sc_Best___init__ (fun vs H Q E h => ?_) (fun f cdv A outer s H vs Q E hr h => ?_)
  · obtain ⟨G, x, dx, vd, vw, m, ws, rfl, _⟩ := h
    rfl
  · obtain ⟨G, x, dx, vd, vw, m, ws, rfl, a, gx, hx, zd, zw, k⟩ := h
    have zd : Ds G vd (.list (m.map deedD)) := zd
    have zw : Ds G vw (.list (ws.map PyData.int)) := zw
    have nd := sc_Best___init__.nd
    refine ⟨_, (pss_cons (ps_fldK K (pv 0) (pe_callTy (cb_listK K) (by rfl) B.list (by decide +kernel) (pa_cons (pv 1) pa_nil)))
  (pss_one (ps_fldK K (pv 0) (pe_callTy (cb_listK K) (by rfl) B.list (by decide +kernel) (pa_cons (pv 2) pa_nil))))), ?_⟩
    refine q_fldN TBest NBest.dealing a rfl hx (by decide) (evn_listOf (evd_var rfl zd)) fun p xs H1 e1 hp h1 z1 => ?_
    have nxp : x ≠ p := ne_of_none hx hp
    have g1 : Ex G (but (gr G H H1) p) := ex_but (ex_gr a) (none_of_ex a hp)
    have s1 : Ex (but (gr G H H1) p) (upd H1 x (.ins CBest dx (putF "dealing" (.ref p) []))) := fun b o e => by
      have nb : b ≠ x := fun z => by
        subst z
        rw [but_ne nxp, gr_old hx, gx] at e
        cases e
      rw [upd_ne nb]
      exact (gr_ex a e1) b o (but_ex b o e)
    have hl1 : (putF ("dealing" : Str) (.ref p) ([] : List (Str × V))).length < 1000 := by show 1 < 1000; decide
    refine z_fldN TBest NBest.worths s1 rfl upd_same hl1 (evn_listOf (evd_var rfl (zw.mono g1))) fun q ys H2 e2 hq h2 z2 => ?_
    have z2 := z2.ofInts
    subst z2
    have hq1 : H1 q = none := by
      by_cases nq : q = x
      · rw [nq, upd_same] at hq; cases hq
      · rw [upd_ne nq] at hq; exact hq
    have nqx : q ≠ x := fun z => by rw [z, upd_same] at hq; cases hq
    have hq0 : H q = none := none_of_ex e1 hq1
    have npq : p ≠ q := fun z => by rw [z, hq1] at h1; cases h1
    rw [bestFs_mk]
    have x2 : H2 x = some (.ins CBest dx (putF "dealing" (.ref p) [])) := e2 _ _ upd_same
    refine k (but (gr G H H1) p) _ p q xs ⟨g1, ?_, ?_, ?_⟩ ⟨upd_same, ?_, ?_, z1, ?_, but_self, ?_, npq⟩ hp hq0
    · intro b o e
      have nb : b ≠ x := fun z => by
        subst z
        rw [but_ne nxp, gr_old hx, gx] at e
        cases e
      rw [upd_ne nb]
      exact e2 _ _ (s1 b o e)
    · intro b o e nb
      have nb : b ≠ x := by simpa using nb
      rw [upd_ne nb]
      refine e2 _ _ ?_
      rw [upd_ne nb]
      exact e1 _ _ e
    · intro b o e h
      by_cases nb : b = p
      · rw [nb, but_self] at h; exact absurd rfl h
      · rw [but_ne nb, gr_old e] at h; exact h
    · rw [upd_ne (Ne.symm nxp)]
      refine e2 _ _ ?_
      rw [upd_ne (Ne.symm nxp)]
      exact h1
    · rw [upd_ne nqx]; exact h2
    · rw [but_ne nxp, gr_old hx]; exact gx
    · rw [but_ne (Ne.symm npq), gr_new hq0]
      exact hq1
def sp_Best_shows (C : Addr) : Sp := fun vs H Q _ => ∃ (G : Hp) (x dx p q : Addr) (vd : V) (room : Int) (l : List Day) (m : List Deed) (ws : List Int), vs = [.ref x, vd, .int room] ∧ Ex G H ∧ G x = some (.ins C dx (bestFs p q)) ∧ Ds G (.ref p) (deedsD m) ∧ Ds G (.ref q) (intsD ws) ∧ Ds G vd (daysD l) ∧
  l.length ≤ 20000 ∧ m.length ≤ 20000 ∧ ws.length ≤ 20000 ∧ (∀ x ∈ l, smallDay x) ∧ (∀ x ∈ m, smallDeed x) ∧ room.natAbs < 10 * big ∧ (∀ w ∈ ws, w.natAbs < 10 * big) ∧ ∀ H2, Ex H H2 → Q (.bl (showsF l room m ws)) H2
theorem ok_Best_shows {CBest : Addr} (TBest : Cls K CBest) (NBest : NaBest K CBest) (F : MetH K CBest "shows" "Best.shows" st_Best_shows ps_Best_shows) (B : Blt mg) (h_bound_of : Has P w K mg base CX0 1 "bound_of" ps_bound_of sp_bound_of) (h_first_fault : Has P w K mg base CX0 2 "first_fault" ps_first_fault sp_first_fault) (h_gain_of : Has P w K mg base CX0 1 "gain_of" ps_gain_of sp_gain_of) : HasM P w K mg base CX0 3 CBest "shows" ps_Best_shows (sp_Best_shows CBest) := by
  refine F.has (N := N_Best_shows) sc_Best_shows (fun vs H Q E h => ?_) (fun f cdv A outer s H vs Q E hr h => ?_)
  · obtain ⟨G, x, dx, p, q, vd, room, l, m, ws, rfl, _⟩ := h
    rfl
  · obtain ⟨G, x, dx, p, q, vd, room, l, m, ws, rfl, a, hx, zp, zq, zd, hl, hm, hw, hs, hs2, hr1, hws, k⟩ := h
    have zp : Ds G (.ref p) (.list (m.map deedD)) := zp
    have zq : Ds G (.ref q) (.list (ws.map PyData.int)) := zq
    have zd : Ds G vd (.list (l.map dayD)) := zd
    have u := Up.refl a
    have nd := sc_Best_shows.nd
    refine ⟨_, (pss_cons (ps_if (PW.pt (pw_or (pt_cmpR op_ne (pe_callB (cb_lenK K) (by rfl) B.len (by decide +kernel) (pa_cons (pe_fldK K (pv 0)) pa_nil)) (pe_callB (cb_lenK K) (by rfl) B.len (by decide +kernel) (pa_cons (pv 1) pa_nil)) (nomark _)) (pw_or1 (pt_cmpR op_ne (pe_callB (cb_lenK K) (by rfl) B.len (by decide +kernel) (pa_cons (pe_fldK K (pv 0)) pa_nil)) (pe_callB (cb_lenK K) (by rfl) B.len (by decide +kernel) (pa_cons (pv 1) pa_nil)) (nomark _)))))
  (pss_one (ps_ret pe_bl))
  pss_nil)
  (pss_cons (ps_if (PW.pt (pw_or (pt_not (pt_val (pe_callB (cr_allK K) (by rfl) B.all (by decide +kernel) (pa_cons (pe_lc (own := [("worth", 3)]) (by rfl) nd (pi_listK K (pe_fldK K (pv 0))) (blkOk_by (own := [("worth", 3)]) (N := N_Best_shows) (sc := defScope st_Best_shows) (by decide +kernel)) (fun _ _ _ _ _ => (pg_name (i := 3) nd rfl (Or.inl rfl))) (fun _ _ _ _ _ => pts_nil) (fun _ _ _ _ _ => (pe_cmpR op_ge (pv 3) pe_int (nomark _)))) pa_nil)))) (pw_or1 (pt_cmpR op_ge (pe_f h_first_fault (hr.mono (by decide)) (pa_cons (pv 1) (pa_cons (pv 2) (pa_cons (pe_fldK K (pv 0)) pa_nil)))) pe_int (nomark _)))))
  (pss_one (ps_ret pe_bl))
  pss_nil)
  (pss_one (ps_ret (pe_cmpR op_eq (pe_f h_gain_of (hr.mono (by decide)) (pa_cons (pv 1) (pa_cons (pe_fldK K (pv 0)) pa_nil))) (pe_f h_bound_of (hr.mono (by decide)) (pa_cons (pv 1) (pa_cons (pv 2) (pa_cons (pe_fldK K (pv 0)) pa_nil)))) (nomark _)))))), ?_⟩
    have fd : ∀ {σ : L2.St} {d : PyData}, σ[0]? = some (some (.ref x)) → Ds G (.ref p) d → EvD (tFld K (tVar 0) "dealing") σ G d := fun h z => evd_fld TBest NBest.dealing h hx (bestFs_d p q) z
    have fw : ∀ {σ : L2.St} {d : PyData}, σ[0]? = some (some (.ref x)) → Ds G (.ref q) d → EvD (tFld K (tVar 0) "worths") σ G d := fun h z => evd_fld TBest NBest.worths h hx (bestFs_w p q) z
    refine q_if1 (b := decide (m.length ≠ l.length ∨ ws.length ≠ l.length)) u.s (et_is (et_or (a := decide (m.length ≠ l.length)) (b := decide (ws.length ≠ l.length)) (evt_test (EvD.to (evd_ne (EvD.to (evd_len (fd rfl zp)) (by rw [List.length_map])) (EvD.to (evd_len (evd_var rfl zd)) (by rw [List.length_map]))) ?_)) fun _ => evt_test (EvD.to (evd_ne (EvD.to (evd_len (fw rfl zq)) (by rw [List.length_map])) (EvD.to (evd_len (evd_var rfl zd)) (by rw [List.length_map]))) ?_)) ?_) (fun hb H1 e1 => ?_) (fun hb H1 e1 => ?_)
    · congr 1; rw [Bool.eq_iff_iff]; simp only [Bool.not_eq_true', decide_eq_false_iff_not, decide_eq_true_eq]; omega
    · congr 1; rw [Bool.eq_iff_iff]; simp only [Bool.not_eq_true', decide_eq_false_iff_not, decide_eq_true_eq]; omega
    · rw [Bool.eq_iff_iff]; simp
    · have e : showsF l room m ws = false := if_pos (of_decide_eq_true hb)
      rw [e] at k
      refine z_ret (u.scal e1).s evd_cb fun v H2 e2 z => ?_
      cases z
      exact k H2 (e1.trans e2)
    · have hb := of_decide_eq_false hb
      have u1 := u.scal e1
      have lm : m.length = l.length := by omega
      have lw : ws.length = l.length := by omega
      have ee : showsF l room m ws = if (ws.map fun w => decide (0 ≤ w)).all id = false ∨ 0 ≤ faultOf l room m then false else decide (gainOf l m = boundOf l room ws) := if_neg hb
      refine q_if1 (b := decide ((ws.map fun w => decide (0 ≤ w)).all id = false ∨ 0 ≤ faultOf l room m)) u1.s (et_is (et_or (a := !(ws.map fun w => decide (0 ≤ w)).all id) (b := decide (0 ≤ faultOf l room m)) (et_not (evt_B (evd_all ?_))) fun _ => evt_test (EvD.to (evd_B0 (evd_call (eva_cons (evd_var rfl zd) (eva_cons (by walk_at "ev") (eva_cons (fd rfl zp) eva_nil))) ⟨l, room, m, rfl, by omega, by omega, rfl⟩) (by walk_at "ev")) rfl)) ?_) (fun hb2 H2 e2 => ?_) (fun hb2 H2 e2 => ?_)
      · refine EvN.asD (EvN.to (evn_lcL (ds := ws.map PyData.int) (fun d => match d with
          | .int w => .bool (decide (0 ≤ w))
          | _ => .none) (fw rfl zq) (by rw [List.length_map]; omega) (fun _ => rfl) fun Gx v d g hd z => ?_) ?_)
        · obtain ⟨y, _, rfl⟩ := List.mem_map.mp hd
          cases z
          walk_at "ev"
        · rw [List.map_map, List.map_map]; rfl
      · rw [Bool.eq_iff_iff]; simp
      · rw [ee, if_pos (of_decide_eq_true hb2)] at k
        refine z_ret (u1.scal e2).s evd_cb fun v H3 e3 z => ?_
        cases z
        exact k H3 ((e1.trans e2).trans e3)
      · rw [ee, if_neg (of_decide_eq_false hb2)] at k
        refine z_ret (u1.scal e2).s (evd_eq (evd_call (eva_cons (evd_var rfl zd) (eva_cons (fd rfl zp) eva_nil)) ⟨l, m, rfl, by omega, hs, hs2, rfl⟩) (evd_call (eva_cons (evd_var rfl zd) (eva_cons (by walk_at "ev") (eva_cons (fw rfl zq) eva_nil))) ⟨l, room, ws, rfl, by omega, lw, hs, hr1, hws, rfl⟩)) fun v H3 e3 z => ?_
        cases z
        exact k H3 ((e1.trans e2).trans e3)
end
end Gt

namespace Gt
open PySem PySem.Spec PyProof.Rows L2 Evl Gs
local macro_rules | `(tactic| walk_at "ev1") => `(tactic| first
  | exact evd_ci | exact evd_cb | exact evd_cn | exact evd_cs
  | exact evd_vi rfl | exact evd_vb rfl | exact evd_vn rfl
  | exact evd_var rfl (by assumption)
  | exact evd_sumS (by assumption) rfl | exact evd_lenS (by assumption) rfl
  | apply evd_I0 | apply evd_B0 | apply evd_U
  | apply evd_ixT | apply evd_ixL
  | apply evd_chain
  | apply evd_max2 | apply evd_min2 | apply evd_min3
  | exact evd_len (evd_var rfl (by assumption)) | exact evd_lenT (evd_var rfl (by assumption)) | apply evd_len
  | refine evd_tup ?_
  | apply evd_eq | apply evd_ne | apply evd_eqB | apply evd_neB
  | apply evd_isi | refine evd_not ?_
  | apply evd_I
  | exact eva_nil | refine eva_cons ?_ ?_
  | refine evn_lst ?_ | refine evn_sl ?_ ?_ ?_ | refine evn_cat ?_ ?_ ?_ | refine evn_listOf ?_ | refine evn_revL ?_
  | exact evo_none | refine evo_some ?_
  | refine EvN.asD (evn_lst ?_) | refine EvN.asD (evn_sl ?_ ?_ ?_) | refine EvN.asD (evn_cat ?_ ?_ ?_) | refine EvN.asD (evn_listOf ?_) | refine EvN.asD (evn_revL ?_)
  | refine evt_test ?_ | refine evt_B ?_
  | exact kit_int_int | exact kit_int_bool | exact kit_list_list | exact kit_tuple_tuple | exact kit_bool_int | exact kit_bool_bool | exact kit_none_int | exact kit_str_int | exact kit_list_int | exact kit_tuple_int | exact kit_int_tuple | exact kit_none_tuple | exact kit_list_tuple | exact kit_str_tuple | exact kit_bool_tuple | exact kit_tuple_list | exact kit_none_list | exact kit_str_list | exact kit_int_list
  | (show EvD _ _ _ _; assumption) | (show atI _ _ = _; first | assumption | rfl) | (show SeqAt.shaped _ = true; first | assumption | rfl)
  | (show CMulW _ _; first | assumption | exact mul_ok (by omega) (by omega)) | (show CDivW _ _; first | assumption | exact div_lit (by decide +kernel) | exact div_ok (by omega) (by omega)) | (show (0 : Int) < _; omega) | (show CPow _ _; exact ⟨by decide, by decide, by decide⟩))
local macro_rules | `(tactic| walk_at "ev") => `(tactic| repeat' (walk_at "ev1"))

section
variable {P : Program} {w : World} {K : PySem.W.Frag} {mg : Str → Option Value} {base : Heap}
/-- what the days and the room are -/
structure Ins (l : List Day) (R : Int) : Prop where
  good : ∀ d ∈ l, goodDay d
  small : ∀ d ∈ l, smallDay d
  r0 : 0 ≤ R
  r1 : R.natAbs < big
  len : l.length ≤ 5000
theorem Ins.wide {l : List Day} {R : Int} (h : Ins l R) {i : Nat} {d : Day} (hd : l[i]? = some d) : smallS (putDay (tab R (l.drop (i + 1))).2 d) ∧ Good (putDay (tab R (l.drop (i + 1))).2 d) ∧ (putDay (tab R (l.drop (i + 1))).2 d).length ≤ 20000 := by
  have e := drop_cons_of hd
  have m : ∀ x ∈ d :: l.drop (i + 1), x ∈ l := fun x hx => by rw [← e] at hx; exact List.mem_of_mem_drop hx
  obtain ⟨h1, h2⟩ := wide_small R h.r0 h.r1 d (l.drop (i + 1)) (fun x hx => h.good x (m x hx)) (fun x hx => h.small x (m x hx))
  have h3 := wide_length R d (l.drop (i + 1))
  rw [List.length_drop] at h3
  have := h.len
  exact ⟨h1, h2, by omega⟩
def sp_Worths_worth_below (C : Addr) : Sp := fun vs H Q _ => ∃ (G : Hp) (x : Addr) (R left : Int) (l : List Day) (i : Nat) (d : Day), vs = [.ref x, .int (i : Int), .int left] ∧ Ex G H ∧ WoI C G x R l ∧ Ins l R ∧ l[i]? = some d ∧
  ∀ H2, Ex H H2 → Q (.int (worthBelow (putDay (tab R (l.drop (i + 1))).2 d) (d.2.1 + left))) H2
theorem ok_Worths_worth_below {CWorths : Addr} (TWorths : Cls K CWorths) (NWorths : NaWorths K CWorths) (F : MetH K CWorths "worth_below" "Worths.worth_below" st_Worths_worth_below ps_Worths_worth_below) (B : Blt mg) (h_kept : Has P w K mg base CX0 1 "kept" ps_kept sp_kept) : HasM P w K mg base CX0 2 CWorths "worth_below" ps_Worths_worth_below (sp_Worths_worth_below CWorths) := by
  refine F.has (N := N_Worths_worth_below) sc_Worths_worth_below (fun vs H Q E h => ?_) (fun f cdv A outer s H vs Q E hr h => ?_)
  · obtain ⟨G, x, R, left, l, i, d, rfl, _⟩ := h
    rfl
  · obtain ⟨G, x, R, left, l, i, d, rfl, a, ⟨dx, va, g, b, w, hx, z1, z2, z3, z4⟩, hI, hd, k⟩ := h
    have z1 : Ds G va (.list (l.map dayD)) := z1
    have u := Up.refl a
    obtain ⟨s1, s2, s3⟩ := hI.wide hd
    have iw := atI_map (f := deedsD) (wides_get R l i d hd)
    have id := atI_map (f := dayD) hd
    have nd := sc_Worths_worth_below.nd
    refine ⟨_, (pss_cons (ps_setLc (i := 3) (own := [("step", 4)]) (by rfl) nd rfl rfl (sw_true rfl rfl rfl (by decide +kernel)) (pi_listK K (pe_f h_kept (hr.mono (by decide)) (pa_cons (pe_ix (ix_listK K) (pe_fldK K (pv 0)) (pv 1) (fun _ _ => rfl)) (pa_cons (pe_op op_add (pe_ix (ix_tupK K) (pe_ix (ix_listK K) (pe_fldK K (pv 0)) (pv 1) (fun _ _ => rfl)) pe_int (fun _ _ => rfl)) (pv 2)) pa_nil)))) (blkOk_by (own := [("step", 4)]) (N := N_Worths_worth_below) (sc := defScope st_Worths_worth_below) (by decide +kernel)) (fun _ _ _ _ _ => (pg_name (i := 4) nd rfl (Or.inl rfl))) (fun _ _ _ _ _ => (pts_one (pt_cmpR op_gt (pe_ix (ix_tupK K) (pv 4) pe_int (fun _ _ => rfl)) pe_int (nomark _)))) (fun _ _ _ _ _ => (pv 4)))
  (pss_one (ps_ret (pe_ifExp (pt_cmpR (op_neDK K hr.units) (pv 3) (pe_lst pa_nil) (nomark _)) (pe_ix (ix_tupK K) (pe_ix (ix_listK K) (pv 3) (pe_un un_neg pe_int) (fun _ _ => rfl)) pe_int (fun _ _ => rfl)) pe_int)))), ?_⟩
    generalize putDay (tab R (l.drop (i + 1))).2 d = W at s1 s2 s3 iw k
    have e1 : EvD (tOp (rIxL K) (tFld K (tVar 0) "wide") (tVar 1)) (start N_Worths_worth_below [.ref x, .int (i : Int), .int left]) G (deedsD W) := evd_ixL (evd_fld TWorths NWorths.wide rfl hx (fs_wide _ _ _ _ _) z4) (evd_vi rfl) iw
    have e2 : EvD (tOp (rI0 fun i j => V.int (i + j)) (tOp (rIxT K) (tOp (rIxL K) (tFld K (tVar 0) "days") (tVar 1)) (tC (.int 1))) (tVar 2)) (start N_Worths_worth_below [.ref x, .int (i : Int), .int left]) G (.int (d.2.1 + left)) :=
      evd_I0 (evd_ixT (evd_ixL (evd_fld TWorths NWorths.days rfl hx (fs_days _ _ _ _ _) z1) (evd_vi rfl) id) evd_ci rfl) (evd_vi rfl)
    refine q_set u.s (evn_lcS (l := keptF W (d.2.1 + left)) (fun s => decide (s.2 > 0)) (evn_call (eva_cons e1 (eva_cons e2 eva_nil)) ⟨W, _, rfl, s3, rfl⟩).asD (by have := kept_length W (d.2.1 + left); omega) (by decide) (fun Gx v d g hd z => evt_test (by walk_at "ev")) (fun Gx v d g hd z => by walk_at "ev")).asD fun v H1 e1 z => ?_
    have u1 := u.data e1
    unfold worthBelow at k
    have lp : lastPos (keptF W (d.2.1 + left)) = ((keptF W (d.2.1 + left)).filter fun s => decide (s.2 > 0)).getLast? := rfl
    generalize hfl : (keptF W (d.2.1 + left)).filter (fun s => decide (s.2 > 0)) = fl at z lp
    rcases List.eq_nil_or_concat fl with rfl | ⟨r, t, e⟩
    · rw [lp] at k
      refine z_ret (d := .int 0) u1.s (evd_if (b := false) (evt_test (evd_neNil plain_deed (evd_var rfl z))) (fun h => nomatch h) (fun _ => evd_ci)) fun v H2 e2 z => ?_
      cases z
      exact k H2 (u1.scal e2).h
    · rw [List.concat_eq_append] at e
      subst e
      rw [lp, List.getLast?_concat] at k
      have il : atI ((r ++ [t]).map deedD) (-1) = some (deedD t) := by rw [List.map_append]; exact atI_last _ _
      refine z_ret (d := .int t.1) u1.s (evd_if (b := true) (evt_test (EvD.to (evd_neNil plain_deed (evd_var rfl z)) (by simp))) (fun _ => evd_ixT (evd_ixL (evd_var rfl z) (evd_U evd_ci) il) evd_ci rfl) (fun h => nomatch h)) fun v H2 e2 z => ?_
      cases z
      exact k H2 (u1.scal e2).h
def sp_Worths_worth_above (C : Addr) : Sp := fun vs H Q _ => ∃ (G : Hp) (x : Addr) (R left : Int) (l : List Day) (i : Nat) (d : Day), vs = [.ref x, .int (i : Int), .int left] ∧ Ex G H ∧ WoI C G x R l ∧ Ins l R ∧ l[i]? = some d ∧ 0 ≤ left ∧ left ≤ R ∧
  ∀ H2, Ex H H2 → Q (.int (worthAbove (putDay (tab R (l.drop (i + 1))).2 d) (d.2.1 + left))) H2
theorem ok_Worths_worth_above {CWorths : Addr} (TWorths : Cls K CWorths) (NWorths : NaWorths K CWorths) (F : MetH K CWorths "worth_above" "Worths.worth_above" st_Worths_worth_above ps_Worths_worth_above) (B : Blt mg) (h_Worths_worth_below : HasM P w K mg base CX0 2 CWorths "worth_below" ps_Worths_worth_below (sp_Worths_worth_below CWorths)) (h_cut_front : Has P w K mg base CX0 1 "cut_front" ps_cut_front sp_cut_front) : HasM P w K mg base CX0 3 CWorths "worth_above" ps_Worths_worth_above (sp_Worths_worth_above CWorths) := by
  refine F.has (N := N_Worths_worth_above) sc_Worths_worth_above (fun vs H Q E h => ?_) (fun f cdv A outer s H vs Q E hr h => ?_)
  · obtain ⟨G, x, R, left, l, i, d, rfl, _⟩ := h
    rfl
  · obtain ⟨G, x, R, left, l, i, d, rfl, a, hWo, hI, hd, l0, l1, k⟩ := h
    have hWo' := hWo
    obtain ⟨dx, va, g, b, w, hx, z1, z2, z3, z4⟩ := hWo
    have z1 : Ds G va (.list (l.map dayD)) := z1
    have u := Up.refl a
    obtain ⟨s1, s2, s3⟩ := hI.wide hd
    have iw := atI_map (f := deedsD) (wides_get R l i d hd)
    have id := atI_map (f := dayD) hd
    obtain ⟨_, q1, _, q2⟩ := hI.small d (List.mem_of_getElem? hd)
    obtain ⟨_, q3, _, q4⟩ := hI.good d (List.mem_of_getElem? hd)
    have q5 := hI.r1
    have nd := sc_Worths_worth_above.nd
    refine ⟨_, (pss_cons (ps_asg (pe_f h_cut_front (hr.mono (by decide)) (pa_cons (pe_ix (ix_listK K) (pe_fldK K (pv 0)) (pv 1) (fun _ _ => rfl)) (pa_cons (pe_op op_add (pe_ix (ix_tupK K) (pe_ix (ix_listK K) (pe_fldK K (pv 0)) (pv 1) (fun _ _ => rfl)) pe_int (fun _ _ => rfl)) (pv 2)) pa_nil))) (pg_tupK K (n := 2) (pgs_names (pg_name (i := 3) nd rfl (Or.inl rfl)) (pgs_names (pg_name (i := 4) nd rfl (Or.inl rfl)) pgs_done))))
  (pss_cons (ps_setLc (i := 4) (own := [("step", 5)]) (by rfl) nd rfl rfl (sw_true rfl rfl rfl (by decide +kernel)) (pi_listK K (pv 4)) (blkOk_by (own := [("step", 5)]) (N := N_Worths_worth_above) (sc := defScope st_Worths_worth_above) (by decide +kernel)) (fun _ _ _ _ _ => (pg_name (i := 5) nd rfl (Or.inl rfl))) (fun _ _ _ _ _ => (pts_one (pt_cmpR op_gt (pe_ix (ix_tupK K) (pv 5) pe_int (fun _ _ => rfl)) pe_int (nomark _)))) (fun _ _ _ _ _ => (pv 5)))
  (pss_cons (ps_if (pt_cmpR (op_neDK K hr.units) (pv 4) (pe_lst pa_nil) (nomark _))
  (pss_one (ps_ret (pe_ix (ix_tupK K) (pe_ix (ix_listK K) (pv 4) pe_int (fun _ _ => rfl)) pe_int (fun _ _ => rfl))))
  pss_nil)
  (pss_one (ps_ret (pe_m (pv 0) TWorths h_Worths_worth_below (hr.mono (by decide)) (pa_cons (pv 1) (pa_cons (pv 2) pa_nil)))))))), ?_⟩
    have e1 : EvD (tOp (rIxL K) (tFld K (tVar 0) "wide") (tVar 1)) (start N_Worths_worth_above [.ref x, .int (i : Int), .int left]) G (deedsD (putDay (tab R (l.drop (i + 1))).2 d)) := evd_ixL (evd_fld TWorths NWorths.wide rfl hx (fs_wide _ _ _ _ _) z4) (evd_vi rfl) iw
    have e2 : EvD (tOp (rI0 fun i j => V.int (i + j)) (tOp (rIxT K) (tOp (rIxL K) (tFld K (tVar 0) "days") (tVar 1)) (tC (.int 1))) (tVar 2)) (start N_Worths_worth_above [.ref x, .int (i : Int), .int left]) G (.int (d.2.1 + left)) :=
      evd_I0 (evd_ixT (evd_ixL (evd_fld TWorths NWorths.days rfl hx (fs_days _ _ _ _ _) z1) (evd_vi rfl) id) evd_ci rfl) (evd_vi rfl)
    have e3 : worthBelow (putDay (tab R (l.drop (i + 1))).2 d) (d.2.1 + left) = worthBelow (putDay (tab R (l.drop (i + 1))).2 d) (d.2.1 + left) := rfl
    generalize hW : putDay (tab R (l.drop (i + 1))).2 d = W at s1 s2 s3 iw k e1
    refine q_pairI (d := deedsD (cutF 0 W (d.2.1 + left)).2) u.s (evd_call (eva_cons e1 (eva_cons e2 eva_nil)) ⟨W, _, rfl, s3, s2, s1, by omega, by omega, rfl⟩) fun v H1 e1 z => ?_
    have u1 := u.data e1
    refine q_set u1.s (evn_lcS (l := (cutF 0 W (d.2.1 + left)).2) (fun s => decide (s.2 > 0)) (evd_var rfl z) (by have := cut_length 0 W (d.2.1 + left); omega) (by decide) (fun Gx v d g hd z => evt_test (by walk_at "ev")) (fun Gx v d g hd z => by walk_at "ev")).asD fun v2 H2 e2 z2 => ?_
    have u2 := u1.data e2
    unfold worthAbove at k
    have lp : firstPos (cutF 0 W (d.2.1 + left)).2 = (((cutF 0 W (d.2.1 + left)).2).filter fun s => decide (s.2 > 0)).head? := rfl
    generalize hfl : ((cutF 0 W (d.2.1 + left)).2).filter (fun s => decide (s.2 > 0)) = fl at z2 lp
    cases fl with
    | nil =>
      rw [lp] at k
      refine q_if1 (b := false) u2.s (evt_test (evd_neNil plain_deed (evd_var rfl z2))) (fun h => (nomatch h)) fun _ H3 e3 => ?_
      have u3 := u2.scal e3
      have hx3 := u3.s _ _ (u3.g _ _ hx)
      refine ⟨_, rfl, x, dx, _, rfl, hx3, fs_no _ _ _ _ _ (by decide +kernel) (by decide +kernel) (by decide +kernel) (by decide +kernel) (by decide +kernel), _, rfl, _, rfl, ?_⟩
      refine ⟨_, x, R, left, l, i, d, rfl, u3.s, hWo'.mono u3.g, hI, hd, fun H4 e4 => ?_⟩
      rw [hW]
      exact k H4 (u3.h.trans e4)
    | cons t r =>
      rw [lp] at k
      refine q_if1 (b := true) u2.s (evt_test (evd_neNil plain_deed (evd_var rfl z2))) (fun _ H3 e3 => ?_) (fun h => (nomatch h))
      have u3 := u2.scal e3
      refine z_ret (d := .int t.1) u3.s (evd_ixT (evd_ixL (evd_var rfl z2) evd_ci (atI_nat (j := 0) rfl)) evd_ci rfl) fun v H4 e4 z => ?_
      cases z
      exact k H4 (u3.h.trans e4)
end
end Gt

namespace Gt
open PySem PySem.Spec PyProof.Rows L2 Evl Gs
local macro_rules | `(tactic| walk_at "ev1") => `(tactic| first
  | exact evd_ci | exact evd_cb | exact evd_cn | exact evd_cs
  | exact evd_vi rfl | exact evd_vb rfl | exact evd_vn rfl
  | exact evd_var rfl (by assumption)
  | exact evd_sumS (by assumption) rfl | exact evd_lenS (by assumption) rfl
  | apply evd_I0 | apply evd_B0 | apply evd_U
  | apply evd_ixT | apply evd_ixL
  | apply evd_chain
  | apply evd_max2 | apply evd_min2 | apply evd_min3
  | exact evd_len (evd_var rfl (by assumption)) | exact evd_lenT (evd_var rfl (by assumption)) | apply evd_len
  | refine evd_tup ?_
  | apply evd_eq | apply evd_ne | apply evd_eqB | apply evd_neB
  | apply evd_isi | refine evd_not ?_
  | apply evd_I
  | exact eva_nil | refine eva_cons ?_ ?_
  | refine evn_lst ?_ | refine evn_sl ?_ ?_ ?_ | refine evn_cat ?_ ?_ ?_ | refine evn_listOf ?_ | refine evn_revL ?_
  | exact evo_none | refine evo_some ?_
  | refine EvN.asD (evn_lst ?_) | refine EvN.asD (evn_sl ?_ ?_ ?_) | refine EvN.asD (evn_cat ?_ ?_ ?_) | refine EvN.asD (evn_listOf ?_) | refine EvN.asD (evn_revL ?_)
  | refine evt_test ?_ | refine evt_B ?_
  | exact kit_int_int | exact kit_int_bool | exact kit_list_list | exact kit_tuple_tuple | exact kit_bool_int | exact kit_bool_bool | exact kit_none_int | exact kit_str_int | exact kit_list_int | exact kit_tuple_int | exact kit_int_tuple | exact kit_none_tuple | exact kit_list_tuple | exact kit_str_tuple | exact kit_bool_tuple | exact kit_tuple_list | exact kit_none_list | exact kit_str_list | exact kit_int_list
  | (show EvD _ _ _ _; assumption) | (show atI _ _ = _; first | assumption | rfl) | (show SeqAt.shaped _ = true; first | assumption | rfl)
  | (show CMulW _ _; first | assumption | exact mul_ok (by omega) (by omega)) | (show CDivW _ _; first | assumption | exact div_lit (by decide +kernel) | exact div_ok (by omega) (by omega)) | (show (0 : Int) < _; omega) | (show CPow _ _; exact ⟨by decide, by decide, by decide⟩))
local macro_rules | `(tactic| walk_at "ev") => `(tactic| repeat' (walk_at "ev1"))

section
variable {P : Program} {w : World} {K : PySem.W.Frag} {mg : Str → Option Value} {base : Heap}
def sp_Worths_deed (C : Addr) : Sp := fun vs H Q _ => ∃ (G : Hp) (x : Addr) (R left wo : Int) (l : List Day) (i : Nat) (d : Day), vs = [.ref x, .int (i : Int), .int left, .int wo] ∧ Ex G H ∧ WoI C G x R l ∧ Ins l R ∧ l[i]? = some d ∧
  ∀ v H2, Ex H H2 → Ds (gr G H H2) v (deedD (deedF d (tab R (l.drop (i + 1))).2 left wo)) → Q v H2
theorem ok_Worths_deed {CWorths : Addr} (TWorths : Cls K CWorths) (NWorths : NaWorths K CWorths) (F : MetH K CWorths "deed" "Worths.deed" st_Worths_deed ps_Worths_deed) (B : Blt mg)  : HasM P w K mg base CX0 1 CWorths "deed" ps_Worths_deed (sp_Worths_deed CWorths) := by
  refine F.has (N := N_Worths_deed) sc_Worths_deed (fun vs H Q E h => ?_) (fun f cdv A outer s H vs Q E hr h => ?_)
  · obtain ⟨G, x, R, left, wo, l, i, d, rfl, _⟩ := h
    rfl
  · obtain ⟨G, x, R, left, wo, l, i, d, rfl, a, ⟨dx, va, g, b, w, hx, z1, z2, z3, z4⟩, hI, hd, k⟩ := h
    have z1 : Ds G va (.list (l.map dayD)) := z1
    have u := Up.refl a
    have ib := atI_map (f := deedsD) (behinds_get R l (i + 1) (lt_of_get hd))
    have id := atI_map (f := dayD) hd
    have hl := tab_length R (l.drop (i + 1))
    rw [List.length_drop] at hl
    have hlen := hI.len
    have nd := sc_Worths_deed.nd
    refine ⟨_, (pss_cons (ps_asg (pe_ix (ix_listK K) (pe_fldK K (pv 0)) (pv 1) (fun _ _ => rfl)) (pg_tupK K (n := 4) (pgs_names (pg_name (i := 4) nd rfl (Or.inl rfl)) (pgs_names (pg_name (i := 5) nd rfl (Or.inl rfl)) (pgs_names (pg_name (i := 6) nd rfl (Or.inl rfl)) (pgs_names (pg_name (i := 7) nd rfl (Or.inl rfl)) pgs_done))))))
  (pss_cons (ps_set (i := 8) nd rfl (Or.inl rfl) (pe_ifExp (pt_cmpR op_gt (pv 3) (pv 4) (nomark _)) (pv 5) pe_int))
  (pss_cons (ps_set (i := 9) nd rfl (Or.inl rfl) (pe_ifExp (pt_cmpR op_ge (pv 3) (pv 4) (nomark _)) (pv 5) pe_int))
  (pss_cons (ps_set (i := 10) nd rfl (Or.inl rfl) (pe_ifExp (pt_cmpR op_lt (pv 3) (pv 6) (nomark _)) (pv 7) pe_int))
  (pss_cons (ps_set (i := 11) nd rfl (Or.inl rfl) (pe_ifExp (pt_cmpR op_le (pv 3) (pv 6) (nomark _)) (pv 7) pe_int))
  (pss_cons (ps_set (i := 12) nd rfl (Or.inl rfl) (pe_ix (ix_listK K) (pe_fldK K (pv 0)) (pe_op op_add (pv 1) pe_int) (fun _ _ => rfl)))
  (pss_cons (ps_set (i := 13) nd rfl (Or.inl rfl) (pe_callB (cr_sumK K) (by rfl) B.sum (by decide +kernel) (pa_cons (pe_lc (own := [("value", 16), ("length", 17)]) (by rfl) nd (pi_listK K (pv 12)) (blkOk_by (own := [("value", 16), ("length", 17)]) (N := N_Worths_deed) (sc := defScope st_Worths_deed) (by decide +kernel)) (fun _ _ _ _ _ => (pg_tupK K (n := 2) (pgs_names (pg_name (i := 16) nd rfl (Or.inl rfl)) (pgs_names (pg_name (i := 17) nd rfl (Or.inl rfl)) pgs_done)))) (fun _ _ _ _ _ => (pts_one (pt_cmpR op_gt (pv 16) (pv 3) (nomark _)))) (fun _ _ _ _ _ => (pv 17))) pa_nil)))
  (pss_cons (ps_set (i := 14) nd rfl (Or.inl rfl) (pe_callB (cb_max2 rfl) (by rfl) B.max (by decide +kernel) (pa_cons (pv 8) (pa_cons (pe_op op_add (pe_op op_sub (pv 13) (pv 2)) (pv 10)) pa_nil))))
  (pss_cons (ps_set (i := 15) nd rfl (Or.inl rfl) (pe_callB (cb_min2 rfl) (by rfl) B.min (by decide +kernel) (pa_cons (pv 11) (pa_cons (pe_op op_sub (pe_op op_add (pv 14) (pv 2)) (pv 13)) pa_nil))))
  (pss_one (ps_ret (pe_tup (pa_cons (pe_callB (cb_min2 rfl) (by rfl) B.min (by decide +kernel) (pa_cons (pv 14) (pa_cons (pv 9) pa_nil))) (pa_cons (pv 15) pa_nil)))))))))))))), ?_⟩
    generalize (tab R (l.drop (i + 1))).2 = st at ib hl k
    refine q_day (x := d) u.s (evd_ixL (evd_fld TWorths NWorths.days rfl hx (fs_days _ _ _ _ _) z1) (evd_vi rfl) id) fun H1 e1 => ?_
    have u1 := u.scal e1
    have ife : ∀ {σ : L2.St} {c : Bool} {t : TT} {j : Nat} {n : Int}, EvT t σ G c → σ[j]? = some (some (.int n)) → EvD (tIf t (tVar j) (tC (.int 0))) σ G (.int (if c = true then n else 0)) := fun {σ c t j n} h1 h2 =>
      evd_if h1 (fun hc => by subst hc; exact evd_vi h2) (fun hc => by subst hc; exact evd_ci)
    have dif : ∀ {p : Prop} [Decidable p] {n : Int}, (if decide p = true then n else 0) = if p then n else 0 := fun {p} _ {n} => by by_cases h : p <;> simp [h]
    refine q_setI (n := if wo > d.1 then d.2.1 else 0) u1.s (EvD.to (ife (evt_test (by walk_at "ev")) rfl) (by rw [dif])) fun H2 e2 => ?_
    have u2 := u1.scal e2
    refine q_setI (n := if wo ≥ d.1 then d.2.1 else 0) u2.s (EvD.to (ife (evt_test (by walk_at "ev")) rfl) (by rw [dif])) fun H3 e3 => ?_
    have u3 := u2.scal e3
    refine q_setI (n := if wo < d.2.2.1 then d.2.2.2 else 0) u3.s (EvD.to (ife (evt_test (by walk_at "ev")) rfl) (by rw [dif])) fun H4 e4 => ?_
    have u4 := u3.scal e4
    refine q_setI (n := if wo ≤ d.2.2.1 then d.2.2.2 else 0) u4.s (EvD.to (ife (evt_test (by walk_at "ev")) rfl) (by rw [dif])) fun H5 e5 => ?_
    have u5 := u4.scal e5
    generalize hlo : (if wo > d.1 then d.2.1 else 0) = low
    generalize hhi : (if wo ≥ d.1 then d.2.1 else 0) = high
    generalize hle : (if wo < d.2.2.1 then d.2.2.2 else 0) = least
    generalize hgr : (if wo ≤ d.2.2.1 then d.2.2.2 else 0) = greatest
    refine q_set (d := deedsD st) u5.s (evd_ixL (evd_fld TWorths NWorths.behind rfl hx (fs_behind _ _ _ _ _) z3) (evd_I0 (evd_vi rfl) evd_ci) ib) fun v H6 e6 z6 => ?_
    have u6 := u5.data e6
    refine q_setI (n := gtS wo st) u6.s (EvD.to (evd_sum (map_int_of (ns := (st.filter fun s => decide (wo < s.1)).map fun s => s.2) ?_ (evn_lcP (l := st) (fun s => decide (wo < s.1)) (fun s => .int s.2) (evd_var rfl z6) (by omega) (by decide) (by decide) ?_ ?_))) (by rw [gt_sum])) fun H7 e7 => ?_
    · rw [List.map_map]; rfl
    · exact fun Gx d g hd => evt_test (by walk_at "ev")
    · exact fun Gx d g hd => by walk_at "ev"
    have u7 := u6.scal e7
    have hk : deedF d st left wo = (min (max low (gtS wo st - left + least)) high, min greatest (max low (gtS wo st - left + least) + left - gtS wo st)) := by
      unfold deedF
      rw [hlo, hhi, hle, hgr]
    rw [hk] at k
    refine q_setI (n := max low (gtS wo st - left + least)) u7.s (by walk_at "ev") fun H8 e8 => ?_
    have u8 := u7.scal e8
    refine q_setI (n := min greatest (max low (gtS wo st - left + least) + left - gtS wo st)) u8.s (by walk_at "ev") fun H9 e9 => ?_
    have u9 := u8.scal e9
    exact z_ret u9.s (by show EvD _ _ _ (.tuple [.int (min (max low (gtS wo st - left + least)) high), .int (min greatest (max low (gtS wo st - left + least) + left - gtS wo st))]); walk_at "ev") (u9.retD k)
end
end Gt

namespace Gt
open PySem PySem.Spec PyProof.Rows L2 Evl Gs
local macro_rules | `(tactic| walk_at "ev1") => `(tactic| first
  | exact evd_ci | exact evd_cb | exact evd_cn | exact evd_cs
  | exact evd_vi rfl | exact evd_vb rfl | exact evd_vn rfl
  | exact evd_var rfl (by assumption)
  | exact evd_sumS (by assumption) rfl | exact evd_lenS (by assumption) rfl
  | apply evd_I0 | apply evd_B0 | apply evd_U
  | apply evd_ixT | apply evd_ixL
  | apply evd_chain
  | apply evd_max2 | apply evd_min2 | apply evd_min3
  | exact evd_len (evd_var rfl (by assumption)) | exact evd_lenT (evd_var rfl (by assumption)) | apply evd_len
  | refine evd_tup ?_
  | apply evd_eq | apply evd_ne | apply evd_eqB | apply evd_neB
  | apply evd_isi | refine evd_not ?_
  | apply evd_I
  | exact eva_nil | refine eva_cons ?_ ?_
  | refine evn_lst ?_ | refine evn_sl ?_ ?_ ?_ | refine evn_cat ?_ ?_ ?_ | refine evn_listOf ?_ | refine evn_revL ?_
  | exact evo_none | refine evo_some ?_
  | refine EvN.asD (evn_lst ?_) | refine EvN.asD (evn_sl ?_ ?_ ?_) | refine EvN.asD (evn_cat ?_ ?_ ?_) | refine EvN.asD (evn_listOf ?_) | refine EvN.asD (evn_revL ?_)
  | refine evt_test ?_ | refine evt_B ?_
  | exact kit_int_int | exact kit_int_bool | exact kit_list_list | exact kit_tuple_tuple | exact kit_bool_int | exact kit_bool_bool | exact kit_none_int | exact kit_str_int | exact kit_list_int | exact kit_tuple_int | exact kit_int_tuple | exact kit_none_tuple | exact kit_list_tuple | exact kit_str_tuple | exact kit_bool_tuple | exact kit_tuple_list | exact kit_none_list | exact kit_str_list | exact kit_int_list
  | (show EvD _ _ _ _; assumption) | (show atI _ _ = _; first | assumption | rfl) | (show SeqAt.shaped _ = true; first | assumption | rfl)
  | (show CMulW _ _; first | assumption | exact mul_ok (by omega) (by omega)) | (show CDivW _ _; first | assumption | exact div_lit (by decide +kernel) | exact div_ok (by omega) (by omega)) | (show (0 : Int) < _; omega) | (show CPow _ _; exact ⟨by decide, by decide, by decide⟩))
local macro_rules | `(tactic| walk_at "ev") => `(tactic| repeat' (walk_at "ev1"))

section
variable {P : Program} {w : World} {K : PySem.W.Frag} {mg : Str → Option Value} {base : Heap}
def sp_Worths_add (C : Addr) : Sp := fun vs H Q _ => ∃ (G : Hp) (x dx : Addr) (va dv : V) (R : Int) (g b w : Addr) (bs ws : List V) (l : List Day) (d : Day), vs = [.ref x, dv] ∧ Ex G H ∧ Ds G dv (dayD d) ∧ WoAt C G H x dx va R g b w (gainsF R l).reverse bs ws (behindsF R l).reverse (widesF R l).reverse ∧ Ins (d :: l) R ∧
  ∀ (G2 H2 : Hp) (bs2 ws2 : List V), Upm G H G2 H2 [g, b, w] → WoAt C G2 H2 x dx va R g b w (gainsF R (d :: l)).reverse bs2 ws2 (behindsF R (d :: l)).reverse (widesF R (d :: l)).reverse → Q .non H2
theorem ok_Worths_add {CWorths : Addr} (TWorths : Cls K CWorths) (NWorths : NaWorths K CWorths) (F : MetH K CWorths "add" "Worths.add" st_Worths_add ps_Worths_add) (B : Blt mg) (h_cut_front : Has P w K mg base CX0 1 "cut_front" ps_cut_front sp_cut_front) (h_kept : Has P w K mg base CX0 1 "kept" ps_kept sp_kept) (h_put_in : Has P w K mg base CX0 1 "put_in" ps_put_in sp_put_in) : HasM P w K mg base CX0 2 CWorths "add" ps_Worths_add (sp_Worths_add CWorths) := by
  refine F.has (N := N_Worths_add) sc_Worths_add (fun vs H Q E h => ?_) (fun f cdv A outer s H vs Q E hr h => ?_)
  · obtain ⟨G, x, dx, va, dv, R, g, b, w, bs, ws, l, d, rfl, _⟩ := h
    rfl
  · obtain ⟨G, x, dx, va, dv, R, g, b, w, bs, ws, l, d, rfl, a, zd, wo, hI, k⟩ := h
    obtain ⟨s1, s2, s3⟩ := hI.wide (i := 0) (d := d) rfl
    have s1 : smallS (putDay (tab R l).2 d) := s1
    have s2 : Good (putDay (tab R l).2 d) := s2
    have s3 : (putDay (tab R l).2 d).length ≤ 20000 := s3
    obtain ⟨r1, er1⟩ := behinds_head R l
    obtain ⟨r2, er2⟩ := gains_head R l
    obtain ⟨p1, p2, p3, p4⟩ := hI.small d List.mem_cons_self
    obtain ⟨p5, p6, p7, p8⟩ := hI.good d List.mem_cons_self
    have hl1 := tab_length R l
    have hl2 := put_length (tab R l).2 d.1 d.2.1
    have hl3 : l.length + 1 ≤ 5000 := hI.len
    have ib : atI ((behindsF R l).reverse.map deedsD) (-1) = some (deedsD (tab R l).2) := by rw [er1, List.reverse_cons, List.map_append]; exact atI_last _ _
    have ig : atI ((gainsF R l).reverse.map PyData.int) (-1) = some (.int (tab R l).1) := by rw [er2, List.reverse_cons, List.map_append]; exact atI_last _ _
    have lb : bs.length < 100000 := by rw [wo.bi.1, List.length_map, List.length_reverse, behinds_length]; omega
    have lw : ws.length < 100000 := by rw [wo.wi.1, List.length_map, List.length_reverse, wides_length]; omega
    have lg : ((gainsF R l).reverse.map V.int).length < 100000 := by rw [List.length_map, List.length_reverse, gains_length]; omega
    have eg : (gainsF R (d :: l)).reverse = (gainsF R l).reverse ++ [(tab R (d :: l)).1] := by simp only [gainsF, List.reverse_cons]
    have eb : (behindsF R (d :: l)).reverse = (behindsF R l).reverse ++ [(tab R (d :: l)).2] := by simp only [behindsF, List.reverse_cons]
    have ew : (widesF R (d :: l)).reverse = (widesF R l).reverse ++ [putDay (tab R l).2 d] := by simp only [widesF, List.reverse_cons]
    rw [eg, eb, ew] at k
    have et1 : (tab R (d :: l)).1 = (tab R l).1 - d.1 * d.2.1 + topS (putDay (tab R l).2 d) d.2.1 := rfl
    have et2 : (tab R (d :: l)).2 = keptF (cutF 0 (putDay (tab R l).2 d) d.2.1).2 R := rfl
    rw [et1, et2] at k
    have m := Upm.refl (ms := [g, b, w]) a
    have nd := sc_Worths_add.nd
    refine ⟨_, (pss_cons (ps_asg (pv 1) (pg_tupK K (n := 4) (pgs_names (pg_name (i := 2) nd rfl (Or.inl rfl)) (pgs_names (pg_name (i := 3) nd rfl (Or.inl rfl)) (pgs_names (pg_name (i := 4) nd rfl (Or.inl rfl)) (pgs_names (pg_name (i := 5) nd rfl (Or.inl rfl)) pgs_done))))))
  (pss_cons (ps_set (i := 6) nd rfl (Or.inl rfl) (pe_f h_put_in (hr.mono (by decide)) (pa_cons (pe_f h_put_in (hr.mono (by decide)) (pa_cons (pe_ix (ix_listK K) (pe_fldK K (pv 0)) (pe_un un_neg pe_int) (fun _ _ => rfl)) (pa_cons (pv 2) (pa_cons (pv 3) pa_nil)))) (pa_cons (pv 4) (pa_cons (pv 5) pa_nil)))))
  (pss_cons (ps_expr (pe_bm PySem.F.plainAttrs_list PySem.F.slot_list_append PySem.F.type_list_append mt_append (pe_fldK K (pv 0)) (pa_cons (pv 6) pa_nil)))
  (pss_cons (ps_asg (pe_f h_cut_front (hr.mono (by decide)) (pa_cons (pv 6) (pa_cons (pv 3) pa_nil))) (pg_tupK K (n := 2) (pgs_names (pg_name (i := 7) nd rfl (Or.inl rfl)) (pgs_names (pg_name (i := 8) nd rfl (Or.inl rfl)) pgs_done))))
  (pss_cons (ps_expr (pe_bm PySem.F.plainAttrs_list PySem.F.slot_list_append PySem.F.type_list_append mt_append (pe_fldK K (pv 0)) (pa_cons (pe_op op_add (pe_op op_sub (pe_ix (ix_listK K) (pe_fldK K (pv 0)) (pe_un un_neg pe_int) (fun _ _ => rfl)) (pe_op op_mulW (pv 2) (pv 3))) (pv 7)) pa_nil)))
  (pss_one (ps_expr (pe_bm PySem.F.plainAttrs_list PySem.F.slot_list_append PySem.F.type_list_append mt_append (pe_fldK K (pv 0)) (pa_cons (pe_f h_kept (hr.mono (by decide)) (pa_cons (pv 8) (pa_cons (pe_fldK K (pv 0)) pa_nil))) pa_nil))))))))), ?_⟩
    refine q_day (x := d) m.s (evd_var rfl zd) fun H1 e1 => ?_
    have m1 := m.scal e1
    have wo1 := wo.scal e1
    have a1 := wb_in m1.s wo1.obj wo1.bl
    refine q_setW (ds := (putIn (putIn (tab R l).2 d.1 d.2.1) d.2.2.1 d.2.2.2).map deedD) (G := G) a1 (evn_call (eva_cons (EvN.asD (evn_call (eva_cons (evd_ixL (evd_fld TWorths NWorths.behind rfl (wb_x wo1.nexb) (fs_behind _ _ _ _ _) (.list wb_b (wo1.bi.mono (wb_up wo1.gx wo1.gb wo1.nexb)))) (evd_U evd_ci) ib) (eva_cons (evd_vi rfl) (eva_cons (evd_vi rfl) eva_nil))) ⟨(tab R l).2, d.1, d.2.1, rfl, by omega, rfl⟩)) (eva_cons (evd_vi rfl) (eva_cons (evd_vi rfl) eva_nil))) ⟨_, _, _, rfl, by omega, rfl⟩) (flat_deeds _) (fun a xs h => wb_tup h) fun v H2 e2 z2 => ?_
    have z2 : Ds (gr G H1 H2) v (deedsD (putDay (tab R l).2 d)) := z2
    have m2 := m1.data e2 wo1.all
    have wo2 := wo1.data m1.s e2
    generalize putDay (tab R l).2 d = W at s1 s2 s3 z2 k
    refine q_appF TWorths NWorths.wide m2.s rfl wo2.obj (fs_wide _ _ _ _ _) wo2.wl (evd_var rfl z2) lw fun v3 H3 e3 z3 => ?_
    have z23 := z2.mono (ex_gr (H2 := H3) m2.s)
    have m3 := (m2.data e3 wo2.all).mut (l := w) (o := .lst (ws ++ [v3])) (by simp) ((gr_old wo2.wl).trans wo2.gw)
    have wo3 := (wo2.data m2.s e3).appW z3
    refine q_pairI (d := deedsD (cutF 0 W d.2.1).2) (n := topS W d.2.1) m3.s (evd_call (eva_cons (evd_var rfl z23) (eva_cons (evd_vi rfl) eva_nil)) ⟨W, _, rfl, s3, s2, s1, by omega, by omega, rfl⟩) fun v4 H4 e4 z4 => ?_
    have m4 := m3.data e4 wo3.all
    have wo4 := wo3.data m3.s e4
    have a4 := wb_in m4.s wo4.obj wo4.gl
    refine q_appF (d := .int ((tab R l).1 - d.1 * d.2.1 + topS W d.2.1)) TWorths NWorths.gains a4 rfl wo4.obj (fs_gains _ _ _ _ _) wo4.gl (evd_I0 (evd_I0 (evd_ixL (evd_fld TWorths NWorths.gains rfl (wb_x wo4.nexg) (fs_gains _ _ _ _ _) (.list wb_b (.ints _))) (evd_U evd_ci) ig) (evd_I (evd_vi rfl) (evd_vi rfl) (mul_ok (by omega) (by omega)))) (evd_vi rfl)) lg fun v5 H5 e5 z5 => ?_
    cases z5
    have em : (gainsF R l).reverse.map V.int ++ [V.int ((tab R l).1 - d.1 * d.2.1 + topS W d.2.1)] = ((gainsF R l).reverse ++ [(tab R l).1 - d.1 * d.2.1 + topS W d.2.1]).map V.int := by rw [List.map_append]; rfl
    rw [em]
    have m5 := (m4.scal e5).mut (l := g) (o := .lst (((gainsF R l).reverse ++ [(tab R l).1 - d.1 * d.2.1 + topS W d.2.1]).map V.int)) (by simp) wo4.gg
    have wo5 := (wo4.scal e5).setG ((gainsF R l).reverse ++ [(tab R l).1 - d.1 * d.2.1 + topS W d.2.1])
    have a5 := wb_in m5.s wo5.obj wo5.gl
    refine z_appFN (es := (keptF (cutF 0 W d.2.1).2 R).map deedD) TWorths NWorths.behind a5 rfl wo5.obj (fs_behind _ _ _ _ _) wo5.bl (evn_call (eva_cons (evd_var rfl (z4.mono (wb_up wo5.gx wo5.gg wo5.nexg))) (eva_cons (evd_fld TWorths NWorths.room rfl (wb_x wo5.nexg) (fs_room _ _ _ _ _) (.int R)) eva_nil)) ⟨_, _, rfl, by have := cut_length 0 W d.2.1; omega, rfl⟩) lb fun p vs H6 e6 hp h6 z6 => ?_
    have z6 := (z6.flat (flat_deeds _) (flat_gr e6 hp fun a xs h => wb_tup h)).mono but_ex
    have m6 := (m5.data e6 wo5.all).mut (l := b) (o := .lst (bs ++ [.ref p])) (by simp) ((gr_old wo5.bl).trans wo5.gb)
    have wo6 := (wo5.data m5.s e6).appB (v := .ref p) (st := keptF (cutF 0 W d.2.1).2 R) (.list (by rw [gr_new hp]; exact h6) z6)
    exact k _ _ _ _ m6 wo6
end
end Gt

namespace Gt
open PySem PySem.Spec PyProof.Rows L2 Evl Gs
local macro_rules | `(tactic| walk_at "ev1") => `(tactic| first
  | exact evd_ci | exact evd_cb | exact evd_cn | exact evd_cs
  | exact evd_vi rfl | exact evd_vb rfl | exact evd_vn rfl
  | exact evd_var rfl (by assumption)
  | exact evd_sumS (by assumption) rfl | exact evd_lenS (by assumption) rfl
  | apply evd_I0 | apply evd_B0 | apply evd_U
  | apply evd_ixT | apply evd_ixL
  | apply evd_chain
  | apply evd_max2 | apply evd_min2 | apply evd_min3
  | exact evd_len (evd_var rfl (by assumption)) | exact evd_lenT (evd_var rfl (by assumption)) | apply evd_len
  | refine evd_tup ?_
  | apply evd_eq | apply evd_ne | apply evd_eqB | apply evd_neB
  | apply evd_isi | refine evd_not ?_
  | apply evd_I
  | exact eva_nil | refine eva_cons ?_ ?_
  | refine evn_lst ?_ | refine evn_sl ?_ ?_ ?_ | refine evn_cat ?_ ?_ ?_ | refine evn_listOf ?_ | refine evn_revL ?_
  | exact evo_none | refine evo_some ?_
  | refine EvN.asD (evn_lst ?_) | refine EvN.asD (evn_sl ?_ ?_ ?_) | refine EvN.asD (evn_cat ?_ ?_ ?_) | refine EvN.asD (evn_listOf ?_) | refine EvN.asD (evn_revL ?_)
  | refine evt_test ?_ | refine evt_B ?_
  | exact kit_int_int | exact kit_int_bool | exact kit_list_list | exact kit_tuple_tuple | exact kit_bool_int | exact kit_bool_bool | exact kit_none_int | exact kit_str_int | exact kit_list_int | exact kit_tuple_int | exact kit_int_tuple | exact kit_none_tuple | exact kit_list_tuple | exact kit_str_tuple | exact kit_bool_tuple | exact kit_tuple_list | exact kit_none_list | exact kit_str_list | exact kit_int_list
  | (show EvD _ _ _ _; assumption) | (show atI _ _ = _; first | assumption | rfl) | (show SeqAt.shaped _ = true; first | assumption | rfl)
  | (show CMulW _ _; first | assumption | exact mul_ok (by omega) (by omega)) | (show CDivW _ _; first | assumption | exact div_lit (by decide +kernel) | exact div_ok (by omega) (by omega)) | (show (0 : Int) < _; omega) | (show CPow _ _; exact ⟨by decide, by decide, by decide⟩))
local macro_rules | `(tactic| walk_at "ev") => `(tactic| repeat' (walk_at "ev1"))

section
variable {P : Program} {w : World} {K : PySem.W.Frag} {mg : Str → Option Value} {base : Heap}
def sp_Worths (C : Addr) : Sp := fun vs H Q _ => ∃ (G : Hp) (x dx : Addr) (va : V) (R : Int) (l : List Day), vs = [.ref x, va, .int R] ∧ Ex G H ∧ G x = none ∧ H x = some (.ins C dx []) ∧ Ds G va (daysD l) ∧ Ins l R ∧
  ∀ (G2 H2 : Hp) (va2 : V) (g b w : Addr) (bs ws : List V), Upm G H G2 H2 [x] → WoAt C G2 H2 x dx va2 R g b w (gainsF R l) bs ws (behindsF R l) (widesF R l) → Ds G2 va2 (daysD l) → H g = none → H b = none → H w = none → Q .non H2
theorem ok_Worths___init__ {CWorths : Addr} (TWorths : Cls K CWorths) (NWorths : NaWorths K CWorths) (F : IniH K mg CWorths "Worths" "Worths.__init__" st_Worths___init__ ps_Worths___init__) (B : Blt mg) (h_Worths_add : HasM P w K mg base CX0 2 CWorths "add" ps_Worths_add (sp_Worths_add CWorths)) : HasC P w K mg base CX0 3 CWorths "Worths" ps_Worths___init__ (sp_Worths CWorths) := by
  refine F.has (N := N_Worths___init__) sc_Worths___init__ (fun vs H Q E h => ?_) (fun f cdv A outer s H vs Q E hr h => ?_)
  · obtain ⟨G, x, dx, va, R, l, rfl, _⟩ := h
    rfl
  · obtain ⟨G, x, dx, va, R, l, rfl, a, gx, hx, zv, hI, k⟩ := h
    have zv : Ds G va (.list (l.map dayD)) := zv
    have m := Upm.refl (ms := [x]) a
    have nd := sc_Worths___init__.nd
    refine ⟨_, (pss_cons (ps_fldK K (pv 0) (pv 1))
  (pss_cons (ps_fldK K (pv 0) (pv 2))
  (pss_cons (ps_fldK K (pv 0) (pe_lst (pa_cons pe_int pa_nil)))
  (pss_cons (ps_fldK K (pv 0) (pe_lst (pa_cons (pe_lst (pa_cons (pe_tup (pa_cons pe_int (pa_cons (pv 2) pa_nil))) pa_nil)) pa_nil)))
  (pss_cons (ps_fldK K (pv 0) (pe_lst pa_nil))
  (pss_cons (ps_for PassesOwn.never rfl (pi_revK K B.reversed (pa_cons (pv 1) pa_nil)) (pg_name (i := 3) nd rfl (Or.inl rfl))
  (pss_one (ps_expr (pe_m (pv 0) TWorths h_Worths_add (hr.mono (by decide)) (pa_cons (pv 3) pa_nil)))))
  (pss_cons (ps_expr (pe_bm0 PySem.F.plainAttrs_list PySem.F.slot_list_reverse PySem.F.type_list_reverse mt_reverse (pe_fldK K (pv 0))))
  (pss_cons (ps_expr (pe_bm0 PySem.F.plainAttrs_list PySem.F.slot_list_reverse PySem.F.type_list_reverse mt_reverse (pe_fldK K (pv 0))))
  (pss_one (ps_expr (pe_bm0 PySem.F.plainAttrs_list PySem.F.slot_list_reverse PySem.F.type_list_reverse mt_reverse (pe_fldK K (pv 0))))))))))))), ?_⟩
    refine q_fld TWorths NWorths.days m.s rfl hx (by decide) (evd_var rfl zv) fun v1 H1 e1 z1 => ?_
    rw [fs1]
    have n1 : ∀ a ∈ [x], H a ≠ none := by simp [hx]
    have m1 := (m.data e1 n1).mut (l := x) (o := .ins CWorths dx (f1s v1)) (by simp) ((gr_old hx).trans gx)
    have g1 : gr G H H1 x = none := (gr_old hx).trans gx
    refine q_fld TWorths NWorths.room m1.s rfl upd_same (by show 1 < 1000; decide) (evd_vi (n := R) rfl) fun v2 H2 e2 z2 => ?_
    cases z2
    rw [fs2]
    have m2 := (m1.scal e2).mut (l := x) (o := .ins CWorths dx (f2s v1 (.int R))) (by simp) g1
    refine q_fldN TWorths NWorths.gains m2.s rfl upd_same (by show 2 < 1000; decide) (evn_lst (eva_cons (evd_ci (n := 0)) eva_nil)) fun g gv H3 e3 hg h3 z3 => ?_
    have z3 := DsA.ofInts (ns := [0]) z3
    subst z3
    rw [fs3]
    have m3 := (m2.scal e3).mut (l := x) (o := .ins CWorths dx (f3s v1 (.int R) (.ref g))) (by simp) g1
    have nxg : x ≠ g := fun z => by rw [← z, upd_same] at hg; cases hg
    refine q_fldN TWorths NWorths.behind m3.s rfl upd_same (by show 3 < 1000; decide) (ds := [deedsD [(0, R)]]) (evn_lst (eva_cons (EvN.asD (evn_lst (eva_cons (evd_tup (eva_cons evd_ci (eva_cons (evd_vi rfl) eva_nil))) eva_nil))) eva_nil)) fun b bs H4 e4 hb h4 z4 => ?_
    rw [fs4]
    have nxb : x ≠ b := fun z => by rw [← z, upd_same] at hb; cases hb
    have x3 : upd H3 x (.ins CWorths dx (f3s v1 (.int R) (.ref g))) x = some _ := upd_same
    have g3 : gr G H H1 x = none := g1
    have gH3 : upd H3 x (.ins CWorths dx (f3s v1 (.int R) (.ref g))) g = some (.lst ([(0 : Int)].map V.int)) := by rw [upd_ne nxg.symm]; exact h3
    have nbg : b ≠ g := fun z => by rw [z, gH3] at hb; cases hb
    have q3 := m3.data e4 (by simp [x3])
    have x4 := e4 _ _ x3
    have gb4 : but (gr (gr G H H1) (upd H3 x (.ins CWorths dx (f3s v1 (.int R) (.ref g)))) H4) b b = none := but_self
    have gx4 : but (gr (gr G H H1) (upd H3 x (.ins CWorths dx (f3s v1 (.int R) (.ref g)))) H4) b x = none := by rw [but_ne nxb, gr_old x3]; exact g1
    have gg4 : but (gr (gr G H H1) (upd H3 x (.ins CWorths dx (f3s v1 (.int R) (.ref g)))) H4) b g = none := by
      rw [but_ne nbg.symm, gr_old gH3]
      exact none_of_ex (m2.s) hg
    have m4 := (q3.sub (G' := but (gr (gr G H H1) (upd H3 x (.ins CWorths dx (f3s v1 (.int R) (.ref g)))) H4) b) (ex_but q3.g (none_of_ex m3.g (none_of_ex m3.s hb))) but_ex).mut (l := x) (o := .ins CWorths dx (f4s v1 (.int R) (.ref g) (.ref b))) (by simp) gx4
    have gH4 : upd H4 x (.ins CWorths dx (f4s v1 (.int R) (.ref g) (.ref b))) g = some (.lst ([(0 : Int)].map V.int)) := by rw [upd_ne nxg.symm]; exact e4 _ _ gH3
    have bH4 : upd H4 x (.ins CWorths dx (f4s v1 (.int R) (.ref g) (.ref b))) b = some (.lst bs) := by rw [upd_ne nxb.symm]; exact h4
    refine q_fldN TWorths NWorths.wide m4.s rfl upd_same (by show 4 < 1000; decide) (ds := []) (evn_lst eva_nil) fun w wv H5 e5 hw h5 z5 => ?_
    have z5 := z5.unnil
    subst z5
    rw [fs5]
    have nxw : x ≠ w := fun z => by rw [← z, upd_same] at hw; cases hw
    have nwg : w ≠ g := fun z => by rw [z, gH4] at hw; cases hw
    have nwb : w ≠ b := fun z => by rw [z, bH4] at hw; cases hw
    have m5 := (m4.scal e5).mut (l := x) (o := .ins CWorths dx (woFs v1 R g b w)) (by simp) gx4
    have hg0 : H g = none := by
      refine none_of_ex e1 (show H1 g = none from ?_)
      have := none_of_ex e2 (show H2 g = none by rw [upd_ne nxg.symm] at hg; exact hg)
      rwa [upd_ne nxg.symm] at this
    have hb0 : H b = none := by
      have t3 := none_of_ex e3 (show H3 b = none by rw [upd_ne nxb.symm] at hb; exact hb)
      rw [upd_ne nxb.symm] at t3
      have t2 := none_of_ex e2 t3
      rw [upd_ne nxb.symm] at t2
      exact none_of_ex e1 t2
    have hw0 : H w = none := by
      have t4 := none_of_ex e4 (show H4 w = none by rw [upd_ne nxw.symm] at hw; exact hw)
      rw [upd_ne nxw.symm] at t4
      have t3 := none_of_ex e3 t4
      rw [upd_ne nxw.symm] at t3
      have t2 := none_of_ex e2 t3
      rw [upd_ne nxw.symm] at t2
      exact none_of_ex e1 t2
    have wo5 : WoAt CWorths (but (gr (gr G H H1) (upd H3 x (.ins CWorths dx (f3s v1 (.int R) (.ref g)))) H4) b) (upd H5 x (.ins CWorths dx (woFs v1 R g b w))) x dx v1 R g b w [0] bs [] [[(0, R)]] [] :=
      ⟨upd_same, by rw [upd_ne nxg.symm]; exact e5 _ _ gH4, by rw [upd_ne nxb.symm]; exact e5 _ _ bH4, by rw [upd_ne nxw.symm]; exact h5, z4, .nil, gx4, gg4, gb4, none_of_ex m4.s hw, nbg.symm, nwg.symm, nwb.symm⟩
    have zv1 : Ds (but (gr (gr G H H1) (upd H3 x (.ins CWorths dx (f3s v1 (.int R) (.ref g)))) H4) b) v1 (daysD l) := z1.mono (ex_but (ex_gr m3.s) (none_of_ex m3.s hb))
    generalize but (gr (gr G H H1) (upd H3 x (.ins CWorths dx (f3s v1 (.int R) (.ref g)))) H4) b = G5 at m5 wo5 zv1
    generalize upd H5 x (.ins CWorths dx (woFs v1 R g b w)) = H6 at m5 wo5
    refine q_for m5.s (src_rev (j := 3) (evd_var rfl (zv.mono m5.g))) fun H7 e7 =>
      ⟨fun i σ' G' H' => ∃ (v3 : Option V) (bs ws : List V), σ' = [some (.ref x), some va, some (.int R), v3] ∧ Upm G H G' H' [x] ∧ Ex (gr G5 H6 H7) G' ∧ WoAt CWorths G' H' x dx v1 R g b w (gainsF R (l.drop (l.length - i))).reverse bs ws (behindsF R (l.drop (l.length - i))).reverse (widesF R (l.drop (l.length - i))).reverse, ?_, ?_, ?_, ?_⟩
    · refine ⟨none, bs, [], rfl, m5.data e7 (by simp [wo5.obj]), Ex.refl _, ?_⟩
      rw [Nat.sub_zero, List.drop_length]
      exact wo5.data m5.s e7
    · rintro i σ' G' H' ⟨_, _, _, _, m', g', _⟩
      exact ⟨g', m'.s⟩
    · rintro i σ' G' H' H3 σ3 hi ⟨v3, bs, ws, rfl, m', g', wo⟩ e3 ⟨v, d', hd', z, rfl⟩
      rw [List.length_map] at hi
      have hlt : l.length - 1 - i < l.length := by omega
      obtain ⟨d, hd⟩ := get_of_lt hlt
      have : (l.map dayD).reverse[i]? = some (dayD d) := by
        rw [List.getElem?_reverse (by rw [List.length_map]; exact hi), List.length_map, List.getElem?_map, hd]; rfl
      rw [this] at hd'
      cases hd'
      have ed : l.drop (l.length - (i + 1)) = d :: l.drop (l.length - i) := by
        have := drop_cons_of hd
        rw [show l.length - 1 - i = l.length - (i + 1) by omega] at this
        rw [this, show l.length - (i + 1) + 1 = l.length - i by omega]
      have m3 := m'.data e3 (by simp [wo.obj])
      have wo3 := wo.data m'.s e3
      have mem : ∀ y ∈ d :: l.drop (l.length - i), y ∈ l := fun y hy => by rw [← ed] at hy; exact List.mem_of_mem_drop hy
      refine ⟨_, rfl, x, dx, _, rfl, wo3.obj, fs_no _ _ _ _ _ (by decide +kernel) (by decide +kernel) (by decide +kernel) (by decide +kernel) (by decide +kernel), _, rfl, _, x, dx, v1, v, R, g, b, w, bs, ws, l.drop (l.length - i), d, rfl, m3.s, z, wo3, ⟨fun y hy => hI.good y (mem y hy), fun y hy => hI.small y (mem y hy), hI.r0, hI.r1, by rw [← ed, List.length_drop]; have := hI.len; omega⟩, fun G4 H4 bs2 ws2 mm wo4 => ?_⟩
      refine ⟨G4, some v, bs2, ws2, rfl, m3.method mm (fun a h => .inl ?_) (by simp [wo3.obj]), (g'.trans (ex_gr m'.s)).trans mm.g, by rw [ed]; exact wo4⟩
      rcases List.mem_cons.mp h with rfl | h
      · exact hg0
      rcases List.mem_cons.mp h with rfl | h
      · exact hb0
      rcases List.mem_cons.mp h with rfl | h
      · exact hw0
      · cases h
    · rintro σ' G' H' ⟨v3, bs, ws, rfl, m', g', wo⟩
      rw [List.length_map, Nat.sub_self, List.drop_zero] at wo
      refine q_revF TWorths NWorths.gains rfl wo.obj (fs_gains _ _ _ _ _) wo.gl ?_
      rw [← List.map_reverse, List.reverse_reverse]
      have wo1 := wo.setG (gainsF R l)
      have m1 := m'.new (o := .lst ((gainsF R l).map V.int)) hg0 wo.gg
      refine q_revF TWorths NWorths.behind rfl wo1.obj (fs_behind _ _ _ _ _) wo1.bl ?_
      have wo2 := wo1.setB (bs' := bs.reverse) (bd' := behindsF R l) (by have := wo1.bi.reverse; rw [← List.map_reverse, List.reverse_reverse] at this; exact this)
      have m2 := m1.new (o := .lst bs.reverse) hb0 wo1.gb
      refine z_revF TWorths NWorths.wide rfl wo2.obj (fs_wide _ _ _ _ _) wo2.wl ?_
      have wo3 := wo2.setW (ws' := ws.reverse) (wd' := widesF R l) (by have := wo2.wi.reverse; rw [← List.map_reverse, List.reverse_reverse] at this; exact this)
      have m3 := m2.new (o := .lst ws.reverse) hw0 wo2.gw
      exact k _ _ _ _ _ _ _ _ m3 wo3 (zv1.mono ((ex_gr m5.s).trans g')) hg0 hb0 hw0
end
end Gt

namespace Gt
open PySem PySem.Spec PyProof.Rows L2 Evl Gs
local macro_rules | `(tactic| walk_at "ev1") => `(tactic| first
  | exact evd_ci | exact evd_cb | exact evd_cn | exact evd_cs
  | exact evd_vi rfl | exact evd_vb rfl | exact evd_vn rfl
  | exact evd_var rfl (by assumption)
  | exact evd_sumS (by assumption) rfl | exact evd_lenS (by assumption) rfl
  | apply evd_I0 | apply evd_B0 | apply evd_U
  | apply evd_ixT | apply evd_ixL
  | apply evd_chain
  | apply evd_max2 | apply evd_min2 | apply evd_min3
  | exact evd_len (evd_var rfl (by assumption)) | exact evd_lenT (evd_var rfl (by assumption)) | apply evd_len
  | refine evd_tup ?_
  | apply evd_eq | apply evd_ne | apply evd_eqB | apply evd_neB
  | apply evd_isi | refine evd_not ?_
  | apply evd_I
  | exact eva_nil | refine eva_cons ?_ ?_
  | refine evn_lst ?_ | refine evn_sl ?_ ?_ ?_ | refine evn_cat ?_ ?_ ?_ | refine evn_listOf ?_ | refine evn_revL ?_
  | exact evo_none | refine evo_some ?_
  | refine EvN.asD (evn_lst ?_) | refine EvN.asD (evn_sl ?_ ?_ ?_) | refine EvN.asD (evn_cat ?_ ?_ ?_) | refine EvN.asD (evn_listOf ?_) | refine EvN.asD (evn_revL ?_)
  | refine evt_test ?_ | refine evt_B ?_
  | exact kit_int_int | exact kit_int_bool | exact kit_list_list | exact kit_tuple_tuple | exact kit_bool_int | exact kit_bool_bool | exact kit_none_int | exact kit_str_int | exact kit_list_int | exact kit_tuple_int | exact kit_int_tuple | exact kit_none_tuple | exact kit_list_tuple | exact kit_str_tuple | exact kit_bool_tuple | exact kit_tuple_list | exact kit_none_list | exact kit_str_list | exact kit_int_list
  | (show EvD _ _ _ _; assumption) | (show atI _ _ = _; first | assumption | rfl) | (show SeqAt.shaped _ = true; first | assumption | rfl)
  | (show CMulW _ _; first | assumption | exact mul_ok (by omega) (by omega)) | (show CDivW _ _; first | assumption | exact div_lit (by decide +kernel) | exact div_ok (by omega) (by omega)) | (show (0 : Int) < _; omega) | (show CPow _ _; exact ⟨by decide, by decide, by decide⟩))
local macro_rules | `(tactic| walk_at "ev") => `(tactic| repeat' (walk_at "ev1"))

section
variable {P : Program} {w : World} {K : PySem.W.Frag} {mg : Str → Option Value} {base : Heap}
section
variable {σ : L2.St} {G G0 H0 H : Hp} {C : Addr} {E : XK} {ta tA tB tD : TE} {t : TA} {t1 t2 : TT} {ds : List PyData} {D : Ends} {u : TS} {sp : Sp} {l : List Day} {R : Int} {Q : VK}
theorem ev_meth {m : Str} {i : Nat} {x dx : Addr} {fs : List (Str × V)} (a : Ex G H) (hs : σ[i]? = some (some (.ref x))) (hx : G x = some (.ins C dx fs)) (hf : fs.lookup m = none) (ha : EvAr t σ G ds) (k : ∀ vs H2, Ex H H2 → DsA (gr G H H2) vs ds → sp (.ref x :: vs) H2 Q E) : tMeth C m sp [] E (tVar i) t σ H Q :=
  ⟨_, hs, x, dx, fs, rfl, a _ _ hx, hf, ha H a _ fun vs H2 e z => by rw [List.append_nil]; exact k vs H2 e z⟩
theorem q_meth {m : Str} {i j : Nat} {x dx : Addr} {fs : List (Str × V)} (a : Ex G H) (hs : σ[i]? = some (some (.ref x))) (hx : G x = some (.ins C dx fs)) (hf : fs.lookup m = none) (ha : EvAr t σ G ds) (k : ∀ vs H2, Ex H H2 → DsA (gr G H H2) vs ds → sp (.ref x :: vs) H2 (fun v H3 => u D (σ.set j (some v)) H3) E) : tSeq (tAsg (tMeth C m sp [] E (tVar i) t) (gName j)) u D σ H :=
  z_seq (ev_meth a hs hx hf ha k)
theorem q_if3 {j : Nat} {n : Int} {b1 b2 : Bool} (a : Ex G H) (h1 : EvT t1 σ G b1) (h2 : b1 = false → EvT t2 σ G b2) (hA : b1 = true → ∀ H2, Ex H H2 → ∀ Q : VK, (∀ H3, Ex H2 H3 → Q (.int n) H3) → tA σ H2 Q)
    (hB : b1 = false → b2 = true → ∀ H2, Ex H H2 → ∀ Q : VK, (∀ H3, Ex H2 H3 → Q (.int n) H3) → tB σ H2 Q) (hC : b1 = false → b2 = false → ∀ H2, Ex H H2 → ∀ Q : VK, (∀ H3, Ex H2 H3 → Q (.int n) H3) → tD σ H2 Q)
    (k : ∀ H2, Ex H H2 → u D (σ.set j (some (.int n))) H2) : tSeq (tIfS t1 (tAsg tA (gName j)) (tIfS t2 (tAsg tB (gName j)) (tAsg tD (gName j)))) u D σ H :=
  q_if a h1 (fun hb H2 e2 => hA hb H2 e2 _ fun H3 e3 => k H3 (e2.trans e3)) fun hb H2 e2 => z_if (a.trans e2) (h2 hb) (fun hc H3 e3 => hB hb hc H3 (e2.trans e3) _ fun H4 e4 => k H4 ((e2.trans e3).trans e4)) (fun hc H3 e3 => hC hb hc H3 (e2.trans e3) _ fun H4 e4 => k H4 ((e2.trans e3).trans e4))
theorem made_Worths (u : Up G0 H0 G H) (ha : EvAr t σ G [daysD l, .int R]) (hI : Ins l R) (q : ∀ x H2 G2, Up G0 H0 G2 H2 → Ex G G2 → WoI C G2 x R l → Q (.ref x) H2) : tMake C (sp_Worths C) [] E t σ H Q :=
  ha H u.s _ fun vs H1 e1 z => by
    obtain ⟨va, vr, rfl, z1, z2⟩ := z.two
    cases z2
    intro x dx hx hdx ne
    have u1 := u.data e1
    have e : Ex H1 (upd (upd H1 dx (.own x)) x (.ins C dx [])) := (Ex.new hdx).trans (Ex.new (by rw [upd_ne ne.symm]; exact hx))
    have u2 := u1.scal e
    refine ⟨gr G H H1, x, dx, va, R, l, rfl, u2.s, none_of_ex u1.s hx, upd_same, z1, hI, fun G2 H2 va2 g b w bs ws mm wo zv hg hb hw => ⟨rfl, ?_⟩⟩
    have hx0 : H0 x = none := none_of_ex u1.h hx
    have u3 := u2.method mm (by simp [hx0])
    obtain ⟨G', u4, g4, wI⟩ := wo.own u3 zv hx0 (none_of_ex u2.h hg) (none_of_ex u2.h hb) (none_of_ex u2.h hw)
    exact q x H2 G' u4 (((ex_gr u.s).trans mm.g).trans g4) wI
theorem made_Best {m : List Deed} {ws : List Int} (u : Up G0 H0 G H) (ha : EvAr t σ G [deedsD m, intsD ws]) (q : ∀ x dx p y xs G2 H2, Up G0 H0 G2 H2 → Ex G G2 → BestAt C G2 H2 x dx p y xs m ws → H0 x = none → H0 p = none → H0 y = none → Q (.ref x) H2) : tMake C (sp_Best C) [] E t σ H Q :=
  ha H u.s _ fun vs H1 e1 z => by
    obtain ⟨vd, vw, rfl, z1, z2⟩ := z.two
    intro x dx hx hdx ne
    have u1 := u.data e1
    have e : Ex H1 (upd (upd H1 dx (.own x)) x (.ins C dx [])) := (Ex.new hdx).trans (Ex.new (by rw [upd_ne ne.symm]; exact hx))
    have u2 := u1.scal e
    refine ⟨gr G H H1, x, dx, vd, vw, m, ws, rfl, u2.s, none_of_ex u1.s hx, upd_same, z1, z2, fun G2 H2 p y xs mm bo hp hy => ⟨rfl, ?_⟩⟩
    have hx0 : H0 x = none := none_of_ex u1.h hx
    exact q x dx p y xs G2 H2 (u2.method mm (by simp [hx0])) ((ex_gr u.s).trans mm.g) bo hx0 (none_of_ex u2.h hp) (none_of_ex u2.h hy)
theorem evd_gain (c : Cls K C) (n : NoAttr K C "gains") (ha : EvAr t σ G [daysD l, .int R]) (hI : Ins l R) : EvD (tOp (rIxL K) (tFld K (tMake C (sp_Worths C) [] E t) "gains") (tC (.int 0))) σ G (.int (tab R l).1) := fun H1 a Q q => by
  delta tOp tFld
  exact made_Worths (Up.refl a) ha hI fun x H2 G2 u2 g wI => by
    obtain ⟨dx, va, gg, b, w, hx, z1, z2, z3, z4⟩ := wI.ex
    obtain ⟨r, er⟩ := gains_head R l
    obtain ⟨y, xs, e1, e2, e3⟩ := Ds.ofList z2
    cases e1
    rw [er] at e3
    have e3 := e3.ofInts
    subst e3
    exact ⟨x, C, dx, _, _, rfl, u2.s _ _ hx, c, n, fs_gains _ _ _ _ _, gg, _, 0, .int (tab R l).1, rfl, rfl, SqL.of (u2.s _ _ e2), atI_nat (j := 0) rfl, q _ H2 u2.h (.int _)⟩
end
def sp_most_gain : Sp := spD fun ds d => ∃ (l : List Day) (R : Int), ds = [daysD l, .int R] ∧ Ins l R ∧ d = .int (tab R l).1
def sp_best (C : Addr) : Sp := fun vs H Q _ => ∃ (G : Hp) (va : V) (R : Int) (l : List Day), vs = [va, .int R] ∧ Ex G H ∧ Ds G va (daysD l) ∧ Ins l R ∧
  ∀ (G2 H2 : Hp) (x dx p y : Addr) (xs : List V), Up G H G2 H2 → BestAt C G2 H2 x dx p y xs (bestF R l 0 0).1 (bestF R l 0 0).2 → H x = none → H p = none → H y = none → Q (.ref x) H2
theorem ok_best {CBest : Addr} (TBest : Cls K CBest) (NBest : NaBest K CBest) {CWorths : Addr} (TWorths : Cls K CWorths) (NWorths : NaWorths K CWorths) (F : FunH K mg "best" "best" st_best ps_best) (B : Blt mg) (h_Best : HasC P w K mg base CX0 1 CBest "Best" ps_Best___init__ (sp_Best CBest)) (h_Worths : HasC P w K mg base CX0 3 CWorths "Worths" ps_Worths___init__ (sp_Worths CWorths)) (h_Worths_deed : HasM P w K mg base CX0 1 CWorths "deed" ps_Worths_deed (sp_Worths_deed CWorths)) (h_Worths_worth_above : HasM P w K mg base CX0 3 CWorths "worth_above" ps_Worths_worth_above (sp_Worths_worth_above CWorths)) (h_Worths_worth_below : HasM P w K mg base CX0 2 CWorths "worth_below" ps_Worths_worth_below (sp_Worths_worth_below CWorths)) (h_asked_days : Has P w K mg base CX0 3 "asked_days" ps_asked_days sp_asked_days) (h_asked_room : Has P w K mg base CX0 2 "asked_room" ps_asked_room sp_asked_room) : Has P w K mg base CX0 5 "best" ps_best (sp_best CBest) := by
  refine F.has (N := N_best) sc_best (fun vs H Q E h => ?_) (fun f cdv A outer s H vs Q E hr h => ?_)
  · obtain ⟨G, va, R, l, rfl, _⟩ := h
    rfl
  · obtain ⟨G, va, R, l, rfl, a, z, hI, k⟩ := h
    have z : Ds G va (.list (l.map dayD)) := z
    have u := Up.refl a
    have hlen := hI.len
    have nd := sc_best.nd
    refine ⟨_, (pss_cons (ps_expr (pe_f h_asked_days (hr.mono (by decide)) (pa_cons (pv 0) pa_nil)))
  (pss_cons (ps_expr (pe_f h_asked_room (hr.mono (by decide)) (pa_cons (pv 1) pa_nil)))
  (pss_cons (ps_set (i := 2) nd rfl (Or.inl rfl) (pe_c h_Worths (hr.mono (by decide)) (pa_cons (pv 0) (pa_cons (pv 1) pa_nil))))
  (pss_cons (ps_set (i := 3) nd rfl (Or.inl rfl) (pe_lst pa_nil))
  (pss_cons (ps_set (i := 4) nd rfl (Or.inl rfl) (pe_lst pa_nil))
  (pss_cons (ps_set (i := 5) nd rfl (Or.inl rfl) pe_int)
  (pss_cons (ps_for PassesOwn.never rfl (pi_range1 (by rfl) B.range (pa_cons (pe_callB (cb_lenK K) (by rfl) B.len (by decide +kernel) (pa_cons (pv 0) pa_nil)) pa_nil)) (pg_name (i := 6) nd rfl (Or.inl rfl))
  (pss_cons (ps_if (pt_cmpR op_eq (pv 5) pe_int (nomark _))
  (pss_one (ps_set (i := 7) nd rfl (Or.inl rfl) (pe_m (pv 2) TWorths h_Worths_worth_above (hr.mono (by decide)) (pa_cons (pv 6) (pa_cons pe_int pa_nil)))))
  (pss_one (ps_if (pt_cmpR op_eq (pv 5) (pv 1) (nomark _))
  (pss_one (ps_set (i := 7) nd rfl (Or.inl rfl) (pe_m (pv 2) TWorths h_Worths_worth_below (hr.mono (by decide)) (pa_cons (pv 6) (pa_cons (pv 5) pa_nil)))))
  (pss_one (ps_set (i := 7) nd rfl (Or.inl rfl) (pe_ix (ix_listK K) (pv 4) (pe_un un_neg pe_int) (fun _ _ => rfl)))))))
  (pss_cons (ps_set (i := 8) nd rfl (Or.inl rfl) (pe_m (pv 2) TWorths h_Worths_deed (hr.mono (by decide)) (pa_cons (pv 6) (pa_cons (pv 5) (pa_cons (pv 7) pa_nil)))))
  (pss_cons (ps_expr (pe_bm PySem.F.plainAttrs_list PySem.F.slot_list_append PySem.F.type_list_append mt_append (pv 3) (pa_cons (pv 8) pa_nil)))
  (pss_cons (ps_expr (pe_bm PySem.F.plainAttrs_list PySem.F.slot_list_append PySem.F.type_list_append mt_append (pv 4) (pa_cons (pv 7) pa_nil)))
  (pss_one (ps_set (i := 5) nd rfl (Or.inl rfl) (pe_op op_sub (pe_op op_add (pv 5) (pe_ix (ix_tupK K) (pv 8) pe_int (fun _ _ => rfl))) (pe_ix (ix_tupK K) (pv 8) pe_int (fun _ _ => rfl))))))))))
  (pss_one (ps_ret (pe_c h_Best (hr.mono (by decide)) (pa_cons (pv 3) (pa_cons (pv 4) pa_nil)))))))))))), ?_⟩
    refine q_drop u.s (evd_call (by walk_at "ev") ⟨l, rfl, by omega, hI.good, rfl⟩) fun H1 e1 => ?_
    refine q_drop (u.scal e1).s (evd_call (by walk_at "ev") ⟨R, rfl, hI.r0, rfl⟩) fun H2 e2 => ?_
    have u2 := (u.scal e1).scal e2
    refine z_seq (made_Worths u2 (by walk_at "ev") hI fun told H3 G3 u3 g3 wI => ?_)
    refine q_setN u3.s (evn_lst eva_nil) fun pd vs H4 e4 hpd h4 z4 => ?_
    have vs0 := z4.unnil
    subst vs0
    have u4 := u3.scal e4
    refine q_setN u4.s (evn_lst eva_nil) fun pw vs H5 e5 hpw h5 z5 => ?_
    have vs0 := z5.unnil
    subst vs0
    have u5 := u4.scal e5
    have h45 := e5 _ _ h4
    have ne : pd ≠ pw := fun x => by rw [x, hpw] at h4; cases h4
    have hpd0 : H pd = none := none_of_ex u3.h hpd
    have hpw0 : H pw = none := none_of_ex u4.h hpw
    have gpd : G3 pd = none := none_of_ex u3.s hpd
    have gpw : G3 pw = none := none_of_ex u4.s hpw
    refine q_setI (n := 0) u5.s (by walk_at "ev") fun H6 e6 => ?_
    have u6 := u5.scal e6
    refine q_for u6.s (src_range (n := (l.length : Int)) (j := 6) (EvD.to (evd_len (evd_var rfl (z.mono u6.g))) (by rw [List.length_map])) (by omega) (by omega)) fun H7 e7 =>
      ⟨fun i σ' G' H' => ∃ (left prev : Int) (xs : List V) (m : List Deed) (ws : List Int) (v6 v7 v8 : Option V), σ' = [some va, some (.int R), some (.ref told), some (.ref pd), some (.ref pw), some (.int left), v6, v7, v8] ∧ Up G H G' H' ∧ Ex (gr G3 H6 H7) G' ∧
        H' pd = some (.lst xs) ∧ H' pw = some (.lst (ws.map V.int)) ∧ DsA G' xs (m.map deedD) ∧ G' pd = none ∧ G' pw = none ∧ m.length = i ∧ ws.length = i ∧ (i = 0 → left = 0) ∧ (0 < i → ∃ r, ws = r ++ [prev]) ∧ m ++ (bestF R (l.drop i) left prev).1 = (bestF R l 0 0).1 ∧ ws ++ (bestF R (l.drop i) left prev).2 = (bestF R l 0 0).2, ?_, ?_, ?_, ?_⟩
    · exact ⟨0, 0, [], [], [], none, none, none, rfl, u6.data e7, Ex.refl _, e7 _ _ (e6 _ _ h45), e7 _ _ (e6 _ _ h5), .nil, (gr_old (e6 _ _ h45)).trans gpd, (gr_old (e6 _ _ h5)).trans gpw, rfl, rfl, fun _ => rfl, fun h => absurd h (by omega), rfl, rfl⟩
    · rintro i σ' G' H' ⟨_, _, _, _, _, _, _, _, _, u', g', _⟩
      exact ⟨g', u'.s⟩
    · rintro i σ' G' H' H8 σ3 hi ⟨left, prev, xs, m, ws, v6, v7, v8, rfl, u', g', hd, hw, zs, gd, gw, lm, lw, l0, lp, bm, bw⟩ e8 rfl
      have hi : i < l.length := by simpa using hi
      obtain ⟨d, hdi⟩ := get_of_lt hi
      have u8 := u'.scal e8
      have wI' := wI.mono ((ex_gr u6.s).trans g')
      have wI2 := wI'
      obtain ⟨dx, vq, gq, bq, wq, hx, _, _, _, _⟩ := wI'.ex
      rw [drop_cons_of hdi] at bm bw
      have bf : bestF R (d :: l.drop (i + 1)) left prev = ((deedF d (tab R (l.drop (i + 1))).2 left (worthF R d (l.drop (i + 1)) left prev)) :: (bestF R (l.drop (i + 1)) (left + (deedF d (tab R (l.drop (i + 1))).2 left (worthF R d (l.drop (i + 1)) left prev)).1 - (deedF d (tab R (l.drop (i + 1))).2 left (worthF R d (l.drop (i + 1)) left prev)).2) (worthF R d (l.drop (i + 1)) left prev)).1, (worthF R d (l.drop (i + 1)) left prev) :: (bestF R (l.drop (i + 1)) (left + (deedF d (tab R (l.drop (i + 1))).2 left (worthF R d (l.drop (i + 1)) left prev)).1 - (deedF d (tab R (l.drop (i + 1))).2 left (worthF R d (l.drop (i + 1)) left prev)).2) (worthF R d (l.drop (i + 1)) left prev)).2) := rfl
      rw [bf] at bm bw
      refine q_if3 (n := worthF R d (l.drop (i + 1)) left prev) (b1 := decide (left = 0)) (b2 := decide (left = R)) u8.s (evt_test (by walk_at "ev")) (fun _ => evt_test (by walk_at "ev")) (fun hb H9 e9 Q q => ?_) (fun hb hc H9 e9 Q q => ?_) (fun hb hc H9 e9 Q q => ?_) fun H9 e9 => ?_
      · have hb := of_decide_eq_true hb
        refine ev_meth (u8.scal e9).s rfl hx (fs_no _ _ _ _ _ (by decide +kernel) (by decide +kernel) (by decide +kernel) (by decide +kernel) (by decide +kernel)) (ds := [.int (i : Int), .int 0]) (by walk_at "ev") fun vs H10 e10 z => ?_
        obtain ⟨a1, a2, rfl, y1, y2⟩ := z.two
        cases y1
        cases y2
        refine ⟨G', told, R, 0, l, i, d, rfl, ((u8.scal e9).scal e10).s, wI2, hI, hdi, Int.le_refl _, hI.r0, fun H11 e11 => ?_⟩
        have := q H11 (e10.trans e11)
        unfold worthF at this
        rw [if_pos hb] at this
        exact this
      · have hb := of_decide_eq_false hb
        have hc := of_decide_eq_true hc
        refine ev_meth (u8.scal e9).s rfl hx (fs_no _ _ _ _ _ (by decide +kernel) (by decide +kernel) (by decide +kernel) (by decide +kernel) (by decide +kernel)) (ds := [.int (i : Int), .int left]) (by walk_at "ev") fun vs H10 e10 z => ?_
        obtain ⟨a1, a2, rfl, y1, y2⟩ := z.two
        cases y1
        cases y2
        refine ⟨G', told, R, left, l, i, d, rfl, ((u8.scal e9).scal e10).s, wI2, hI, hdi, fun H11 e11 => ?_⟩
        have := q H11 (e10.trans e11)
        unfold worthF at this
        rw [if_neg hb, if_pos hc] at this
        exact this
      · have hb := of_decide_eq_false hb
        have hc := of_decide_eq_false hc
        have ip : 0 < i := by
          rcases Nat.eq_zero_or_pos i with h | h
          · exact absurd (l0 h) hb
          · exact h
        obtain ⟨r, hr2⟩ := lp ip
        have ia : atI (ws.map PyData.int) (-1) = some (.int prev) := by rw [hr2, List.map_append]; exact atI_last _ _
        have ex : Ex (upd G' pw (.lst (ws.map V.int))) H9 := fun b o e => by
          by_cases qq : b = pw
          · subst qq; rw [upd_same] at e; cases e; exact e9 _ _ (e8 _ _ hw)
          · rw [upd_ne qq] at e; exact (u8.scal e9).s _ _ e
        refine evd_ixL (evd_var rfl (adopt_ds gw (.ints ws))) (evd_U evd_ci) ia H9 ex Q fun v H10 e10 zz => ?_
        cases zz
        have := q H10 e10
        unfold worthF at this
        rw [if_neg hb, if_neg hc] at this
        exact this
      · generalize worthF R d (l.drop (i + 1)) left prev = wo at bm bw
        have u9 := u8.scal e9
        refine q_meth u9.s rfl hx (fs_no _ _ _ _ _ (by decide +kernel) (by decide +kernel) (by decide +kernel) (by decide +kernel) (by decide +kernel)) (ds := [.int (i : Int), .int left, .int wo]) (by walk_at "ev") fun vs H10 e10 zq => ?_
        obtain ⟨a1, a2, a3, rfl, y1, y2, y3⟩ := zq.three
        cases y1
        cases y2
        cases y3
        have u10 := u9.scal e10
        refine ⟨G', told, R, left, wo, l, i, d, rfl, u10.s, wI2, hI, hdi, fun v H11 e11 zv => ?_⟩
        generalize deedF d (tab R (l.drop (i + 1))).2 left wo = b at bm bw zv
        have u11 := u10.data e11
        have hd10 := e10 _ _ (e9 _ _ (e8 _ _ hd))
        have hw10 := e10 _ _ (e9 _ _ (e8 _ _ hw))
        have hd11 := e11 _ _ hd10
        have hw11 := e11 _ _ hw10
        have lx : xs.length < 100000 := by rw [zs.1, List.length_map]; omega
        refine q_app u11.s rfl hd11 (evd_var rfl zv) lx fun v12 H12 e12 z12 => ?_
        have u12 := (u11.data e12).mut (l := pd) (o := .lst (xs ++ [v12])) ((gr_old hd11).trans ((gr_old hd10).trans gd)) hpd0
        have hw12 : upd H12 pd (.lst (xs ++ [v12])) pw = some (.lst (ws.map V.int)) := by rw [upd_ne ne.symm]; exact e12 _ _ hw11
        refine q_app u12.s rfl hw12 (evd_vi (n := wo) rfl) (by rw [List.length_map]; omega) fun v13 H13 e13 z13 => ?_
        cases z13
        have hd13 : H13 pd = some (.lst (xs ++ [v12])) := e13 _ _ upd_same
        have gd12 : (gr (gr G' H10 H11) H11 H12) pd = none := (gr_old hd11).trans ((gr_old hd10).trans gd)
        have gw12 : (gr (gr G' H10 H11) H11 H12) pw = none := (gr_old hw11).trans ((gr_old hw10).trans gw)
        have em : ws.map V.int ++ [V.int wo] = (ws ++ [wo]).map V.int := by rw [List.map_append]; rfl
        rw [em]
        have u13 := (u12.scal e13).mut (l := pw) (o := .lst ((ws ++ [wo]).map V.int)) gw12 hpw0
        have zv12 := zv.mono (ex_gr (H2 := H12) u11.s)
        refine z_setI (n := left + b.1 - b.2) u13.s (evd_I0 (evd_I0 (evd_vi rfl) (evd_ixT (evd_var rfl zv12) evd_ci rfl)) (evd_ixT (evd_var rfl zv12) evd_ci rfl)) fun H14 e14 => ?_
        refine ⟨_, left + b.1 - b.2, wo, xs ++ [v12], m ++ [b], ws ++ [wo], _, _, _, rfl, u13.scal e14, (g'.trans (ex_gr u10.s)).trans (ex_gr u11.s), e14 _ _ (by rw [upd_ne ne]; exact hd13), e14 _ _ upd_same, ?_, gd12, gw12, by rw [List.length_append, lm]; rfl, by rw [List.length_append, lw]; rfl, fun h => absurd h (by omega), fun _ => ⟨ws, rfl⟩, ?_, ?_⟩
        · rw [List.map_append]
          exact (zs.mono ((ex_gr u10.s).trans (ex_gr u11.s))).append (.cons z12 .nil)
        · rw [← bm, List.append_assoc]; rfl
        · rw [← bw, List.append_assoc]; rfl
    · rintro σ' G' H' ⟨left, prev, xs, m, ws, v6, v7, v8, rfl, u', g', hd, hw, zs, gd, gw, lm, lw, l0, lp, bm, bw⟩
      have e0 : ((l.length : Int)).toNat = l.length := by omega
      rw [e0, List.drop_length] at bm bw
      have bm : m = (bestF R l 0 0).1 := by rw [← bm]; show m = m ++ []; rw [List.append_nil]
      have bw : ws = (bestF R l 0 0).2 := by rw [← bw]; show ws = ws ++ []; rw [List.append_nil]
      rw [← bm, ← bw] at k
      have u1 := u'.adopt gd hpd0 hd
      have g2 : (upd G' pd (.lst xs)) pw = none := by rw [upd_ne ne.symm]; exact gw
      have u2 := u1.adopt g2 hpw0 hw
      refine made_Best u2 (eva_cons (evd_var rfl (Ds.mono (Ex.new g2) (adopt_ds gd zs))) (eva_cons (evd_var rfl (adopt_ds g2 (.ints ws))) eva_nil)) fun x dx p y ys G2 H2 u3 g3 bo hx hp hy => k G2 H2 x dx p y ys u3 bo hx hp hy
end
end Gt

namespace Gt
open PySem PySem.Spec PyProof.Rows L2 Evl Gs
local macro_rules | `(tactic| walk_at "ev1") => `(tactic| first
  | exact evd_ci | exact evd_cb | exact evd_cn | exact evd_cs
  | exact evd_vi rfl | exact evd_vb rfl | exact evd_vn rfl
  | exact evd_var rfl (by assumption)
  | exact evd_sumS (by assumption) rfl | exact evd_lenS (by assumption) rfl
  | apply evd_I0 | apply evd_B0 | apply evd_U
  | apply evd_ixT | apply evd_ixL
  | apply evd_chain
  | apply evd_max2 | apply evd_min2 | apply evd_min3
  | exact evd_len (evd_var rfl (by assumption)) | exact evd_lenT (evd_var rfl (by assumption)) | apply evd_len
  | refine evd_tup ?_
  | apply evd_eq | apply evd_ne | apply evd_eqB | apply evd_neB
  | apply evd_isi | refine evd_not ?_
  | apply evd_I
  | exact eva_nil | refine eva_cons ?_ ?_
  | refine evn_lst ?_ | refine evn_sl ?_ ?_ ?_ | refine evn_cat ?_ ?_ ?_ | refine evn_listOf ?_ | refine evn_revL ?_
  | exact evo_none | refine evo_some ?_
  | refine EvN.asD (evn_lst ?_) | refine EvN.asD (evn_sl ?_ ?_ ?_) | refine EvN.asD (evn_cat ?_ ?_ ?_) | refine EvN.asD (evn_listOf ?_) | refine EvN.asD (evn_revL ?_)
  | refine evt_test ?_ | refine evt_B ?_
  | exact kit_int_int | exact kit_int_bool | exact kit_list_list | exact kit_tuple_tuple | exact kit_bool_int | exact kit_bool_bool | exact kit_none_int | exact kit_str_int | exact kit_list_int | exact kit_tuple_int | exact kit_int_tuple | exact kit_none_tuple | exact kit_list_tuple | exact kit_str_tuple | exact kit_bool_tuple | exact kit_tuple_list | exact kit_none_list | exact kit_str_list | exact kit_int_list
  | (show EvD _ _ _ _; assumption) | (show atI _ _ = _; first | assumption | rfl) | (show SeqAt.shaped _ = true; first | assumption | rfl)
  | (show CMulW _ _; first | assumption | exact mul_ok (by omega) (by omega)) | (show CDivW _ _; first | assumption | exact div_lit (by decide +kernel) | exact div_ok (by omega) (by omega)) | (show (0 : Int) < _; omega) | (show CPow _ _; exact ⟨by decide, by decide, by decide⟩))
local macro_rules | `(tactic| walk_at "ev") => `(tactic| repeat' (walk_at "ev1"))

section
variable {P : Program} {w : World} {K : PySem.W.Frag} {mg : Str → Option Value} {base : Heap}
theorem best_worths (R : Int) (Pr : Int → Prop) (h0 : Pr 0) : ∀ (l : List Day) (x p : Int), (∀ d ∈ l, Pr d.1 ∧ Pr d.2.2.1) → Pr p → ∀ w ∈ (bestF R l x p).2, Pr w
  | [], x, p, _, _, w, h => by simp [bestF] at h
  | d :: l, x, p, hp, pp, w, h => by
    have w1 := worthF_pr R Pr h0 d l x p hp pp
    simp only [bestF, List.mem_cons] at h
    rcases h with rfl | h
    · exact w1
    · exact best_worths R Pr h0 l _ _ (fun y hy => hp y (List.mem_cons_of_mem _ hy)) w1 w h
theorem feas_deeds (R : Int) : ∀ (l : List Day) (x : Int) (m : List Deed), (∀ d ∈ l, smallDay d) → Feas R l x m → ∀ b ∈ m, goodDeed b ∧ smallDeed b
  | [], x, [], _, _, b, h => by cases h
  | [], x, _ :: _, _, h, _, _ => by cases h
  | _ :: _, x, [], _, h, _, _ => by cases h
  | d :: l, x, b :: m, hs, hf, c, h => by
    obtain ⟨f1, f2⟩ := hf
    obtain ⟨⟨a1, a2⟩, ⟨a3, a4⟩, a5, a6⟩ := okDeed_iff.mp f1
    obtain ⟨_, q1, _, q2⟩ := hs d List.mem_cons_self
    rcases List.mem_cons.mp h with rfl | h
    · exact ⟨⟨a1, a3⟩, by omega, by omega⟩
    · exact feas_deeds R l _ m (fun y hy => hs y (List.mem_cons_of_mem _ hy)) f2 c h
structure BestOk (l : List Day) (R : Int) (m : List Deed) (ws : List Int) : Prop where
  lm : m.length = l.length
  lw : ws.length = l.length
  dg : ∀ b ∈ m, goodDeed b
  ds : ∀ b ∈ m, smallDeed b
  w0 : ∀ w ∈ ws, 0 ≤ w
  w1 : ∀ w ∈ ws, w.natAbs < big
  fe : Feas R l 0 m
  gb : gainOf l m = boundOf l R ws
  gt : gainOf l m = (tab R l).1
theorem Ins.best {l : List Day} {R : Int} (h : Ins l R) : BestOk l R (bestF R l 0 0).1 (bestF R l 0 0).2 := by
  obtain ⟨a1, a2, a3, a4, a5, a6⟩ := best_ok R h.r0 l 0 0 none h.good (Int.le_refl _) h.r0 (fun _ => rfl) (fun q e => nomatch e) (Int.le_refl _) (.inl rfl) (fun e => absurd rfl e)
  have d := feas_deeds R l 0 _ h.small a1
  obtain ⟨g, _⟩ := tab_good R h.r0 l h.good
  refine ⟨a2, a3, fun b hb => (d b hb).1, fun b hb => (d b hb).2, a4, best_worths R (fun v => v.natAbs < big) (by show (0 : Int).natAbs < big; have := h.r1; omega) l 0 0 (fun x hx => ⟨(h.small x hx).1, (h.small x hx).2.2.1⟩) (by show (0 : Int).natAbs < big; have := h.r1; omega), a1, ?_, ?_⟩
  · rw [gainOf_eq, a5]
    show _ + 0 = _
    rw [Int.add_zero]; rfl
  · rw [gainOf_eq, a6]
    show (tab R l).1 + topS (tab R l).2 0 = _
    rw [top_zero _ g, Int.add_zero]
theorem BestOk.fault {l : List Day} {R : Int} {m : List Deed} {ws : List Int} (h : BestOk l R m ws) : faultOf l R m = -1 := (fault_feas R l 0 0 m (Int.le_refl _) h.lm.symm).mpr h.fe
theorem BestOk.shows {l : List Day} {R : Int} {m : List Deed} {ws : List Int} (h : BestOk l R m ws) : showsF l R m ws = true := by
  unfold showsF
  rw [if_neg (by have := h.lm; have := h.lw; omega), if_neg, decide_eq_true h.gb]
  rintro (q | q)
  · have : (ws.map fun w => decide (0 ≤ w)).all id = true := by
      rw [List.all_map]
      exact List.all_eq_true.mpr fun w hw => decide_eq_true (h.w0 w hw)
    rw [this] at q; cases q
  · rw [h.fault] at q; omega
theorem shows_len {l : List Day} {R : Int} {m : List Deed} {ws : List Int} (h : m.length ≠ l.length ∨ ws.length ≠ l.length) : showsF l R m ws = false := if_pos h
/-! ### a Best, read and written -/
section
variable {σ : L2.St} {G G0 H0 H H2 : Hp} {C x dx p q : Addr} {E : XK} {ta : TE} {t : TA} {D : Ends} {u : TS} {l : List Day} {R : Int} {xs : List V} {m : List Deed} {ws : List Int}
theorem bestAt_ne (bo : BestAt C G H x dx p q xs m ws) : x ≠ p ∧ x ≠ q := ⟨fun z => (by have := bo.obj; rw [z, bo.dl] at this; cases this), fun z => (by have := bo.obj; rw [z, bo.wl] at this; cases this)⟩
theorem bestAt_scal (bo : BestAt C G H x dx p q xs m ws) (e : Ex H H2) : BestAt C G H2 x dx p q xs m ws := ⟨e _ _ bo.obj, e _ _ bo.dl, e _ _ bo.wl, bo.items, bo.gx, bo.gp, bo.gq, bo.ne⟩
theorem bestAt_data (bo : BestAt C G H x dx p q xs m ws) (a : Ex G H) (e : Ex H H2) : BestAt C (gr G H H2) H2 x dx p q xs m ws :=
  ⟨e _ _ bo.obj, e _ _ bo.dl, e _ _ bo.wl, bo.items.mono (ex_gr a), (gr_old bo.obj).trans bo.gx, (gr_old bo.dl).trans bo.gp, (gr_old bo.wl).trans bo.gq, bo.ne⟩
theorem bestAt_setD (bo : BestAt C G H x dx p q xs m ws) {ys : List V} {m2 : List Deed} (z : DsA G ys (m2.map deedD)) : BestAt C G (upd H p (.lst ys)) x dx p q ys m2 ws :=
  ⟨by rw [upd_ne (bestAt_ne bo).1]; exact bo.obj, upd_same, by rw [upd_ne bo.ne.symm]; exact bo.wl, z, bo.gx, bo.gp, bo.gq, bo.ne⟩
theorem bestAt_setW (bo : BestAt C G H x dx p q xs m ws) (w2 : List Int) : BestAt C G (upd H q (.lst (w2.map V.int))) x dx p q xs m w2 :=
  ⟨by rw [upd_ne (bestAt_ne bo).2]; exact bo.obj, by rw [upd_ne bo.ne]; exact bo.dl, upd_same, bo.items, bo.gx, bo.gp, bo.gq, bo.ne⟩
theorem bestAt_own (bo : BestAt C G H x dx p q xs m ws) (u : Up G0 H0 G H) (hx : H0 x = none) (hp : H0 p = none) (hq : H0 q = none) :
    ∃ G', Up G0 H0 G' H ∧ Ex G G' ∧ G' x = some (.ins C dx (bestFs p q)) ∧ Ds G' (.ref p) (deedsD m) ∧ Ds G' (.ref q) (intsD ws) := by
  obtain ⟨n1, n2⟩ := bestAt_ne bo
  have u1 := u.adopt bo.gx hx bo.obj
  have g1 : (upd G x (.ins C dx (bestFs p q))) p = none := by rw [upd_ne n1.symm]; exact bo.gp
  have u2 := u1.adopt g1 hp bo.dl
  have g2 : (upd (upd G x (.ins C dx (bestFs p q))) p (.lst xs)) q = none := by rw [upd_ne bo.ne.symm, upd_ne n2.symm]; exact bo.gq
  have u3 := u2.adopt g2 hq bo.wl
  have e1 : Ex G (upd G x (.ins C dx (bestFs p q))) := Ex.new bo.gx
  have e2 := Ex.new (o := .lst xs) g1
  have e3 := Ex.new (o := .lst (ws.map V.int)) g2
  exact ⟨_, u3, e1.trans (e2.trans e3), (e2.trans e3) _ _ upd_same, .list (e3 _ _ upd_same) (bo.items.mono (e1.trans (e2.trans e3))), .list upd_same (.ints ws)⟩
theorem evd_shows {i : Nat} (hs : σ[i]? = some (some (.ref x))) (hx : G x = some (.ins C dx (bestFs p q))) (zp : Ds G (.ref p) (deedsD m)) (zq : Ds G (.ref q) (intsD ws)) (ha : EvAr t σ G [daysD l, .int R]) (hl : l.length ≤ 20000) (hm : m.length ≤ 20000) (hw : ws.length ≤ 20000)
    (h1 : ∀ x ∈ l, smallDay x) (h2 : ∀ x ∈ m, smallDeed x) (h3 : R.natAbs < 10 * big) (h4 : ∀ w ∈ ws, w.natAbs < 10 * big) : EvD (tMeth C "shows" (sp_Best_shows C) [] E (tVar i) t) σ G (.bool (showsF l R m ws)) := fun H1 a Q k =>
  ev_meth a hs hx (bestFs_no p q (by decide +kernel) (by decide +kernel)) ha fun vs H2 e z => by
    obtain ⟨vd, vr, rfl, z1, z2⟩ := z.two
    cases z2
    exact ⟨gr G H1 H2, x, dx, p, q, vd, R, l, m, ws, rfl, gr_ex a e, ex_gr a _ _ hx, zp.mono (ex_gr a), zq.mono (ex_gr a), z1, hl, hm, hw, h1, h2, h3, h4, fun H3 e3 => k _ H3 (e.trans e3) (.bl _)⟩
theorem q_popF {i : Nat} {fs : List (Str × V)} {f : Str} {b : Addr} {y : V} (c : Cls K C) (n : NoAttr K C f) (hs : σ[i]? = some (some (.ref x))) (hx : H x = some (.ins C dx fs)) (hf : fs.lookup f = some (.ref b)) (hl : H b = some (.lst xs)) (hy : xs[xs.length - 1]? = some y)
    (k : u D σ (upd H b (.lst xs.dropLast))) : tSeq (tDrop (tBM0 K "list" rPop (tFld K (tVar i) f))) u D σ H :=
  ⟨_, hs, x, C, dx, fs, _, rfl, hx, c, n, hf, .inl ⟨rfl, xs, SqL.of hl⟩, b, xs, y, rfl, rfl, hl, hy, k⟩
theorem evd_notB {ta tb : TE} {a b : Bool} (ha : EvD ta σ G (.bool a)) (hb : EvD tb σ G (.bool b)) : EvD (tOp rNotB ta tb) σ G (.bool (!decide (a = b))) := fun H1 e Q k =>
  ha.seq hb e fun x y H3 e3 zx zy => ⟨a, b, zx.ofBl, zy.ofBl, k _ H3 e3 (.bl _)⟩
structure IsC (K : PySem.W.Frag) (C : Addr) : Prop where
  ha : PySem.W.findIn K (.ref C) "__class__" = some (some (.builtin "object.__class__"))
  hn : PySem.W.specialIn K (.builtin "object.__class__") "__get__" = some (some (.builtin "getset_descriptor.__get__"))
  htk : PySem.W.takesIn K (.builtin "object.__class__") = some true
  hm : PySem.W.mroIn K C (.type "object") = some true
theorem evd_isC {i : Nat} {fs : List (Str × V)} (c : Cls K C) (I : IsC K C) (hs : σ[i]? = some (some (.ref x))) (hx : G x = some (.ins C dx fs)) : EvD (tCB (rIsi K) (tCons (tVar i) (tCons (tC (.ref C)) tNil))) σ G (.bool true) := fun H1 a Q k =>
  ⟨_, hs, _, _, _, _, true, rfl, .own C, .base (TyOf.ins (a _ _ hx) c I.ha I.hn I.htk I.hm), if_pos (beq_self_eq_true _), k _ H1 (Ex.refl _) (.bl true)⟩
theorem call_best (u : Up G0 H0 G H) (ha : EvAr t σ G [daysD l, .int R]) (hI : Ins l R) {Q : VK} (k : ∀ x dx p q xs G2 H2, Up G0 H0 G2 H2 → Ex G G2 → BestAt C G2 H2 x dx p q xs (bestF R l 0 0).1 (bestF R l 0 0).2 → H0 x = none → H0 p = none → H0 q = none → Q (.ref x) H2) : tCall (sp_best C) [] E t σ H Q :=
  ha H u.s _ fun vs H1 e1 z => by
    obtain ⟨va, vr, rfl, z1, z2⟩ := z.two
    cases z2
    have u1 := u.data e1
    exact ⟨gr G H H1, va, R, l, rfl, u1.s, z1, hI, fun G2 H2 x dx p q xs u2 bo hx hp hq => k x dx p q xs G2 H2 ⟨u1.g.trans u2.g, u2.s, u1.h.trans u2.h, fun a o h z => u1.n a o h (u2.n a o (u1.h a o h) z)⟩ ((ex_gr u.s).trans u2.g) bo (none_of_ex u1.h hx) (none_of_ex u1.h hp) (none_of_ex u1.h hq)⟩
theorem evd_bestD (c : Cls K C) (n : NoAttr K C "dealing") (ha : EvAr t σ G [daysD l, .int R]) (hI : Ins l R) : EvD (tFld K (tCall (sp_best C) [] E t) "dealing") σ G (deedsD (bestF R l 0 0).1) := fun H1 a Q k => by
  delta tFld
  refine call_best (Up.refl a) ha hI fun x dx p q xs G2 H2 u2 g bo hx hp hq => ?_
  exact ⟨x, C, dx, _, _, rfl, bo.obj, c, n, bestFs_d p q, k _ H2 u2.h (.list (by rw [gr_new hp]; exact bo.dl) (bo.items.mono u2.ex))⟩
end
end
end Gt

namespace Gt
open PySem PySem.Spec PyProof.Rows L2 Evl Gs
local macro_rules | `(tactic| walk_at "ev1") => `(tactic| first
  | exact evd_ci | exact evd_cb | exact evd_cn | exact evd_cs
  | exact evd_vi rfl | exact evd_vb rfl | exact evd_vn rfl
  | exact evd_var rfl (by assumption)
  | exact evd_sumS (by assumption) rfl | exact evd_lenS (by assumption) rfl
  | apply evd_I0 | apply evd_B0 | apply evd_U
  | apply evd_ixT | apply evd_ixL
  | apply evd_chain
  | apply evd_max2 | apply evd_min2 | apply evd_min3
  | exact evd_len (evd_var rfl (by assumption)) | exact evd_lenT (evd_var rfl (by assumption)) | apply evd_len
  | refine evd_tup ?_
  | apply evd_eq | apply evd_ne | apply evd_eqB | apply evd_neB
  | apply evd_isi | refine evd_not ?_
  | apply evd_I
  | exact eva_nil | refine eva_cons ?_ ?_
  | refine evn_lst ?_ | refine evn_sl ?_ ?_ ?_ | refine evn_cat ?_ ?_ ?_ | refine evn_listOf ?_ | refine evn_revL ?_
  | exact evo_none | refine evo_some ?_
  | refine EvN.asD (evn_lst ?_) | refine EvN.asD (evn_sl ?_ ?_ ?_) | refine EvN.asD (evn_cat ?_ ?_ ?_) | refine EvN.asD (evn_listOf ?_) | refine EvN.asD (evn_revL ?_)
  | refine evt_test ?_ | refine evt_B ?_
  | exact kit_int_int | exact kit_int_bool | exact kit_list_list | exact kit_tuple_tuple | exact kit_bool_int | exact kit_bool_bool | exact kit_none_int | exact kit_str_int | exact kit_list_int | exact kit_tuple_int | exact kit_int_tuple | exact kit_none_tuple | exact kit_list_tuple | exact kit_str_tuple | exact kit_bool_tuple | exact kit_tuple_list | exact kit_none_list | exact kit_str_list | exact kit_int_list
  | (show EvD _ _ _ _; assumption) | (show atI _ _ = _; first | assumption | rfl) | (show SeqAt.shaped _ = true; first | assumption | rfl)
  | (show CMulW _ _; first | assumption | exact mul_ok (by omega) (by omega)) | (show CDivW _ _; first | assumption | exact div_lit (by decide +kernel) | exact div_ok (by omega) (by omega)) | (show (0 : Int) < _; omega) | (show CPow _ _; exact ⟨by decide, by decide, by decide⟩))
local macro_rules | `(tactic| walk_at "ev") => `(tactic| repeat' (walk_at "ev1"))

section
variable {P : Program} {w : World} {K : PySem.W.Frag} {mg : Str → Option Value} {base : Heap}
def sp__law_room (K : PySem.W.Frag) : Sp := fun vs H Q _ => ∃ (G : Hp) (l : Addr) (ns : List Int), vs = [.ref l] ∧ Ex G H ∧ Scr K G l ns ∧ ∀ H2, Ex H H2 → Q (.int (lawRoom ns)) H2
theorem evd_room {σ : L2.St} {G : Hp} {l : Addr} {ns : List Int} {j : Nat} {E : XK} (h : Scr K G l ns) (e : σ[j]? = some (some (.ref l))) : EvD (tCall (sp__law_room K) [] E (tCons (tVar j) tNil)) σ G (.int (lawRoom ns)) :=
  fun H1 a Q q => ⟨_, e, H1, l, ns, rfl, Ex.refl _, h.mono a, fun H2 e2 => q _ H2 e2 (.int _)⟩
theorem ok__law_room (F : FunH K mg "_law_room" "_law_room" st__law_room ps__law_room) (B : Blt mg)  : Has P w K mg base CX0 1 "_law_room" ps__law_room (sp__law_room K) := by
  refine F.has (N := N__law_room) sc__law_room (fun vs H Q E h => ?_) (fun f cdv A outer s H vs Q E hr h => ?_)
  · obtain ⟨G, l, ns, rfl, _⟩ := h
    rfl
  · obtain ⟨G, l, ns, rfl, a, hS, k⟩ := h
    have u := Up.refl a
    have nd := sc__law_room.nd
    refine ⟨_, (pss_cons (ps_set (i := 1) nd rfl (Or.inl rfl) (pe_callB (cr_sumK K) (by rfl) B.sum (by decide +kernel) (pa_cons (pv 0) pa_nil)))
  (pss_one (ps_ret (pe_ix (ix_tupK K) (pe_tup (pa_cons pe_int (pa_cons (pe_op op_add pe_int (pe_op op_mod (pe_op op_fdivW (pv 1) pe_int) pe_int)) (pa_cons (pe_op op_add pe_int (pe_op op_mod (pe_op op_fdivW (pv 1) pe_int) pe_int)) (pa_cons (pe_op op_add (pe_op op_pow pe_int pe_int) (pe_op op_mod (pv 1) pe_int)) (pa_cons (pe_op op_pow pe_int pe_int) pa_nil)))))) (pe_op op_mod (pe_op op_fdivW (pv 1) pe_int) pe_int) (fun _ _ => rfl))))), ?_⟩
    refine q_setI (n := ns.sum) u.s (by walk_at "ev") fun H1 e1 => ?_
    refine z_ret (d := .int (lawRoom ns)) (u.scal e1).s (evd_ixT (i := ns.sum / 3 % 5) (ds := (rooms ns.sum).map PyData.int) ?_ (by walk_at "ev") (pick_at (by omega) (by show ns.sum / 3 % 5 < 5; omega))) (fun v H2 e2 z => by rw [z.ofInt]; exact k H2 (e1.trans e2))
    unfold rooms
    walk_at "ev"
    all_goals exact div_ok (by omega) (by have := big_1000000; omega)
def sp__law_days (K : PySem.W.Frag) : Sp := fun vs H Q _ => ∃ (G : Hp) (l : Addr) (ns : List Int), vs = [.ref l] ∧ Ex G H ∧ Scr K G l ns ∧ ns.length ≤ 63 ∧ ∀ p xs H2, Ex H H2 → H p = none → H2 p = some (.lst xs) → DsA (but (gr G H H2) p) xs ((lawDays ns).map dayD) → Q (.ref p) H2
theorem evn_days {σ : L2.St} {G : Hp} {l : Addr} {ns : List Int} {j : Nat} {E : XK} (h : Scr K G l ns) (hl : ns.length ≤ 63) (e : σ[j]? = some (some (.ref l))) : EvN (tCall (sp__law_days K) [] E (tCons (tVar j) tNil)) σ G ((lawDays ns).map dayD) :=
  fun H1 a Q q => ⟨_, e, G, l, ns, rfl, a, h, hl, q⟩
theorem ite_days {P : Prop} [Decidable P] {A B : List Day} : (if P then A else B).map dayD = if P then A.map dayD else B.map dayD := by split <;> rfl
theorem ok__law_days (F : FunH K mg "_law_days" "_law_days" st__law_days ps__law_days) (B : Blt mg)  : Has P w K mg base CX0 1 "_law_days" ps__law_days (sp__law_days K) := by
  refine F.has (N := N__law_days) sc__law_days (fun vs H Q E h => ?_) (fun f cdv A outer s H vs Q E hr h => ?_)
  · obtain ⟨G, l, ns, rfl, _⟩ := h
    rfl
  · obtain ⟨G, l, ns, rfl, a, hS, hl, k⟩ := h
    have u := Up.refl a
    have bg := big_1000000
    have bl := big_law
    have nd := sc__law_days.nd
    refine ⟨_, (pss_cons (ps_set (i := 1) nd rfl (Or.inl rfl) (pe_callB (cr_sumK K) (by rfl) B.sum (by decide +kernel) (pa_cons (pv 0) pa_nil)))
  (pss_cons (ps_set (i := 2) nd rfl (Or.inl rfl) (pe_ix (ix_tupK K) (pe_tup (pa_cons pe_int (pa_cons pe_int (pa_cons (pe_op op_pow pe_int pe_int) (pa_cons pe_int pa_nil))))) (pe_op op_mod (pv 1) pe_int) (fun _ _ => rfl)))
  (pss_cons (ps_set (i := 3) nd rfl (Or.inl rfl) (pe_ix (ix_tupK K) (pe_tup (pa_cons pe_int (pa_cons pe_int (pa_cons (pe_op op_pow pe_int pe_int) (pa_cons pe_int pa_nil))))) (pe_op op_mod (pe_op op_fdivW (pv 1) pe_int) pe_int) (fun _ _ => rfl)))
  (pss_cons (ps_set (i := 4) nd rfl (Or.inl rfl) (pe_lst pa_nil))
  (pss_cons (ps_for PassesOwn.never rfl (pi_enumK K B.enumerate (pa_cons (pv 0) pa_nil)) (pg_tupK K (n := 2) (pgs_names (pg_name (i := 5) nd rfl (Or.inl rfl)) (pgs_names (pg_name (i := 6) nd rfl (Or.inl rfl)) pgs_done)))
  (pss_cons (ps_set (i := 7) nd rfl (Or.inl rfl) (pe_op op_mod (pv 6) (pv 2)))
  (pss_cons (ps_set (i := 8) nd rfl (Or.inl rfl) (pe_ifExp (pt_cmpR op_gt (pe_op op_mod (pe_op op_fdivW (pv 1) pe_int) pe_int) pe_int (nomark _)) (pe_op op_mod (pe_op op_fdivW (pv 6) pe_int) (pv 2)) (pe_op op_sub (pe_op op_add (pv 7) (pe_op op_mod (pe_op op_fdivW (pv 6) pe_int) pe_int)) pe_int)))
  (pss_one (ps_expr (pe_bm PySem.F.plainAttrs_list PySem.F.slot_list_append PySem.F.type_list_append mt_append (pv 4) (pa_cons (pe_tup (pa_cons (pv 7) (pa_cons (pe_op op_mod (pe_op op_fdivW (pv 6) pe_int) (pv 3)) (pa_cons (pe_callB (cb_max2 rfl) (by rfl) B.max (by decide +kernel) (pa_cons pe_int (pa_cons (pv 8) pa_nil))) (pa_cons (pe_op op_mod (pe_op op_fdivW (pe_op op_add (pv 6) (pv 5)) pe_int) (pv 3)) pa_nil))))) pa_nil)))))))
  (pss_cons (ps_if (PW.pt (pw_and (pt_cmpR op_eq (pe_op op_mod (pe_op op_fdivW (pv 1) pe_int) pe_int) pe_int (nomark _)) (pw_and1 (pt_cmpR (op_neDK K hr.units) (pv 0) (pe_lst pa_nil) (nomark _)))))
  (pss_cons (ps_set (i := 9) nd rfl (Or.inr rfl) (pv 4))
  (pss_one (ps_setLc (i := 4) (own := [("_law_at", 5)]) (by rfl) nd rfl rfl (sw_true rfl rfl rfl (by decide +kernel)) (pi_range1 (by rfl) B.range (pa_cons (pe_op op_add pe_int (pe_op op_mod (pv 1) pe_int)) pa_nil)) (blkOk_by (own := [("_law_at", 5)]) (N := N__law_days) (sc := defScope st__law_days) (by decide +kernel)) (fun _ _ _ _ _ => (pg_name (i := 5) nd rfl (Or.inl rfl))) (fun _ _ _ _ _ => pts_nil) (fun _ _ _ _ _ => (pe_ix (ix_listK K) (pv 9) (pe_op op_mod (pe_op op_add (pe_op op_mulW (pv 5) (pv 5)) (pe_op op_fdivW (pv 5) pe_int)) (pe_callB (cb_lenK K) (by rfl) B.len (by decide +kernel) (pa_cons (pv 9) pa_nil))) (fun _ _ => rfl))))))
  pss_nil)
  (pss_one (ps_ret (pv 4))))))))), ?_⟩
    refine q_setI (n := ns.sum) u.s (by walk_at "ev") fun H1 e1 => ?_
    refine q_setI (n := highOf ns.sum) (u.scal e1).s (evd_ixT (i := ns.sum % 4) (ds := highs.map PyData.int) (by unfold highs; walk_at "ev") (by walk_at "ev") (pick_at (by omega) (by show ns.sum % 4 < 4; omega))) fun H2 e2 => ?_
    refine q_setI (n := mostOf ns.sum) ((u.scal e1).scal e2).s (evd_ixT (i := ns.sum / 4 % 4) (ds := mosts.map PyData.int) (by unfold mosts; walk_at "ev") (by walk_at "ev") (pick_at (by omega) (by show ns.sum / 4 % 4 < 4; omega))) fun H3 e3 => ?_
    have u3 := ((u.scal e1).scal e2).scal e3
    refine q_setN u3.s (evn_lst eva_nil) fun p xs H4 e4 hp h4 z4 => ?_
    cases z4.unnil
    have gp : G p = none := none_of_ex u3.s hp
    have u4 := u3.scal e4
    have h0p : H p = none := none_of_ex u3.h hp
    refine q_for u4.s (src_enumS (K := K) (l := l) (ns := ns) (j := 5) (k := 6) rfl hS) fun H5 e5 =>
      ⟨fun i σ' G' H' => ∃ v5 v6 v7 v8 v9 xs, σ' = [some (.ref l), some (.int ns.sum), some (.int (highOf ns.sum)), some (.int (mostOf ns.sum)), some (.ref p), v5, v6, v7, v8, v9] ∧ Up G H G' H' ∧ Ex (gr G H4 H5) G' ∧ G' p = none ∧ H' p = some (.lst xs) ∧ DsA G' xs ((daysFrom ns.sum 0 (ns.take i)).map dayD), ?_, ?_, ?_, ?_⟩
    · exact ⟨none, none, none, none, none, [], rfl, u4.data e5, Ex.refl _, by rw [gr_old h4]; exact gp, e5 _ _ h4, .nil⟩
    · rintro i σ' G' H' ⟨_, _, _, _, _, _, _, u', g', _⟩
      exact ⟨g', u'.s⟩
    · rintro i σ' G' H' H6 σ6 hi ⟨v5, v6, v7, v8, v9, xs, rfl, u', g', gp', hp', zx⟩ e6 ⟨c, hc, rfl⟩
      have u6 := u'.scal e6
      obtain ⟨hh1, hh2⟩ := high_pos ns.sum
      obtain ⟨hm1, hm2⟩ := most_pos ns.sum
      refine q_setI (n := c % highOf ns.sum) u6.s (by walk_at "ev") fun H7 e7 => ?_
      have u7 := u6.scal e7
      refine q_setI (n := otherOf ns.sum c) u7.s (evd_if (b := decide (ns.sum / 16 % 3 > 0)) (by walk_at "ev") (fun hb => ?_) (fun hb => ?_)) fun H8 e8 => ?_
      · have hb := of_decide_eq_true hb
        rw [show otherOf ns.sum c = c / 7 % highOf ns.sum from if_pos hb]
        walk_at "ev"
      · have hb := of_decide_eq_false hb
        rw [show otherOf ns.sum c = c % highOf ns.sum + c / 7 % 3 - 1 from if_neg hb]
        walk_at "ev"
      have u8 := u7.scal e8
      have p8 : H8 p = some (.lst xs) := e8 _ _ (e7 _ _ (e6 _ _ hp'))
      refine z_app (xs := xs) u8.s rfl p8 (d := dayD (dayOf ns.sum i c)) ?_ (by rw [zx.1, List.length_map, daysFrom_length, List.length_take]; omega) fun v9 H9 e9 z9 => ?_
      · show EvD _ _ _ (.tuple [.int (c % highOf ns.sum), .int (c / 11 % mostOf ns.sum), .int (max 0 (otherOf ns.sum c)), .int ((c + (i : Int)) / 13 % mostOf ns.sum)])
        walk_at "ev"
      have u9 := u8.data e9
      have gp9 : gr G' H8 H9 p = none := by rw [gr_old p8]; exact gp'
      refine ⟨_, _, _, _, _, _, xs ++ [v9], rfl, u9.mut gp9 h0p, g'.trans (ex_gr u8.s), gp9, upd_same, ?_⟩
      rw [take_succ_of hc, daysFrom_append, List.map_append]
      refine (zx.mono (ex_gr u8.s)).append (.cons ?_ .nil)
      have e0 : 0 + (ns.take i).length = i := by rw [List.length_take]; omega
      rw [e0]
      exact z9
    · rintro σ' G' H' ⟨v5, v6, v7, v8, v9, xs, rfl, u', g', gp', hp', zx⟩
      rw [List.take_length] at zx
      have hS' := hS.mono u'.g
      refine q_if1 u'.s (b := decide (ns.sum / 48 % 9 = 2) && !ns.isEmpty) (et_and (evt_test (by walk_at "ev")) fun _ => evt_test (evd_neS hS' rfl)) (fun hb H6 e6 => ?_) (fun hb H6 e6 => ?_)
      · have hb1 : ns.sum / 48 % 9 = 2 := by simp only [Bool.and_eq_true, decide_eq_true_eq] at hb; exact hb.1
        have hb2 : ns ≠ [] := by
          intro q
          subst q
          simp at hb
        have ed : lawDays ns = moreDays ns.sum (daysFrom ns.sum 0 ns) := if_pos ⟨hb1, hb2⟩
        have hpos : 0 < ns.length := List.length_pos_iff.mpr hb2
        rw [ed] at k
        -- the list that was filled stands under another name
        have u6 := (u'.scal e6).adopt gp' h0p (e6 _ _ hp')
        have zp := adopt_ds gp' zx
        refine q_set u6.s (evd_var rfl zp) fun v7 H7 e7 z7 => ?_
        have u7 := u6.data e7
        rw [moreDays_map] at k
        refine z_setN u7.s (evn_lcR (n := 70 + ns.sum % 20) (fun (i : Nat) => dayD ((daysFrom ns.sum 0 ns).getD (((i : Int) * (i : Int) + (i : Int) / 7) % ((daysFrom ns.sum 0 ns).length : Int)).toNat (0, 0, 0, 0))) (by walk_at "ev") (by omega) (by omega) (fun _ => rfl) fun Gx i g hi => ?_) fun q ys H8 e8 hq h8 z8 => ?_
        · have z7' := z7.mono g
          rw [daysFrom_length]
          have hp1 : (0 : Int) < (ns.length : Int) := by omega
          refine evd_ixL (i := ((i : Int) * (i : Int) + (i : Int) / 7) % (ns.length : Int)) (evd_var rfl z7') ?_ (atI_getD (Int.emod_nonneg _ (by omega)) (by rw [daysFrom_length]; exact Int.emod_lt_of_pos _ hp1))
          refine evd_I (j := (ns.length : Int)) (by walk_at "ev") (EvD.to (evd_len (evd_var rfl z7')) (by rw [List.length_map, daysFrom_length])) hp1
        · have u8 := u7.data e8
          refine ⟨_, rfl, ?_⟩
          exact k q ys H8 u8.h (none_of_ex u7.h hq) h8 (z8.mono (but_mono u8.ex))
      · have ed : lawDays ns = daysFrom ns.sum 0 ns := if_neg fun q => by
          simp only [q.1, decide_true, Bool.true_and, Bool.not_eq_false', List.isEmpty_iff] at hb
          exact q.2 hb
        rw [ed] at k
        exact ⟨_, rfl, (u'.scal e6).outN k h0p gp' (e6 _ _ hp') zx⟩
end
end Gt

namespace Gt
open PySem PySem.Spec PyProof.Rows L2 Evl Gs
local macro_rules | `(tactic| walk_at "ev1") => `(tactic| first
  | exact evd_ci | exact evd_cb | exact evd_cn | exact evd_cs
  | exact evd_vi rfl | exact evd_vb rfl | exact evd_vn rfl
  | exact evd_var rfl (by assumption)
  | exact evd_sumS (by assumption) rfl | exact evd_lenS (by assumption) rfl
  | apply evd_I0 | apply evd_B0 | apply evd_U
  | apply evd_ixT | apply evd_ixL
  | apply evd_chain
  | apply evd_max2 | apply evd_min2 | apply evd_min3
  | exact evd_len (evd_var rfl (by assumption)) | exact evd_lenT (evd_var rfl (by assumption)) | apply evd_len
  | refine evd_tup ?_
  | apply evd_eq | apply evd_ne | apply evd_eqB | apply evd_neB
  | apply evd_isi | refine evd_not ?_
  | apply evd_I
  | exact eva_nil | refine eva_cons ?_ ?_
  | refine evn_lst ?_ | refine evn_sl ?_ ?_ ?_ | refine evn_cat ?_ ?_ ?_ | refine evn_listOf ?_ | refine evn_revL ?_
  | exact evo_none | refine evo_some ?_
  | refine EvN.asD (evn_lst ?_) | refine EvN.asD (evn_sl ?_ ?_ ?_) | refine EvN.asD (evn_cat ?_ ?_ ?_) | refine EvN.asD (evn_listOf ?_) | refine EvN.asD (evn_revL ?_)
  | refine evt_test ?_ | refine evt_B ?_
  | exact kit_int_int | exact kit_int_bool | exact kit_list_list | exact kit_tuple_tuple | exact kit_bool_int | exact kit_bool_bool | exact kit_none_int | exact kit_str_int | exact kit_list_int | exact kit_tuple_int | exact kit_int_tuple | exact kit_none_tuple | exact kit_list_tuple | exact kit_str_tuple | exact kit_bool_tuple | exact kit_tuple_list | exact kit_none_list | exact kit_str_list | exact kit_int_list
  | (show EvD _ _ _ _; assumption) | (show atI _ _ = _; first | assumption | rfl) | (show SeqAt.shaped _ = true; first | assumption | rfl)
  | (show CMulW _ _; first | assumption | exact mul_ok (by omega) (by omega)) | (show CDivW _ _; first | assumption | exact div_lit (by decide +kernel) | exact div_ok (by omega) (by omega)) | (show (0 : Int) < _; omega) | (show CPow _ _; exact ⟨by decide, by decide, by decide⟩))
local macro_rules | `(tactic| walk_at "ev") => `(tactic| repeat' (walk_at "ev1"))

section
variable {P : Program} {w : World} {K : PySem.W.Frag} {mg : Str → Option Value} {base : Heap}
def sp__law_can : Sp := spD fun ds d => ∃ (l : List Day) (room : Int) (m : List Deed), ds = [daysD l, .int room, deedsD m] ∧ m.length ≤ 40000 ∧ m.length ≤ l.length ∧ d = .int (faultOf l room m)
theorem ok__law_can (F : FunH K mg "_law_can" "_law_can" st__law_can ps__law_can) (B : Blt mg)  : Has P w K mg base CX0 1 "_law_can" ps__law_can sp__law_can := by
  refine F.has (N := N__law_can) sc__law_can (fun vs H Q E h => ?_) (fun f cdv A outer s H vs Q E hr h => ?_)
  · obtain ⟨G, ds, d, _, hz, ⟨l, room, m, rfl, _⟩, _⟩ := h
    exact hz.1
  · obtain ⟨G, ds, d, a, hz, ⟨l, room, m, rfl, hm, hl, rfl⟩, k⟩ := h
    obtain ⟨v, vr, v', rfl, z, zr, z'⟩ := hz.three
    cases zr
    have z : Ds G v (.list (l.map dayD)) := z
    have z' : Ds G v' (.list (m.map deedD)) := z'
    have u := Up.refl a
    have nd := sc__law_can.nd
    refine ⟨_, (pss_cons (ps_set (i := 3) nd rfl (Or.inl rfl) pe_int)
  (pss_cons (ps_for PassesOwn.never rfl (pi_enumK K B.enumerate (pa_cons (pv 2) pa_nil)) (pg_tupK K (n := 2) (pgs_names (pg_name (i := 4) nd rfl (Or.inl rfl)) (pgs_names (pg_name (i := 5) nd rfl (Or.inl rfl)) pgs_done)))
  (pss_cons (ps_set (i := 3) nd rfl (Or.inl rfl) (pe_op op_sub (pe_op op_add (pv 3) (pe_ix (ix_tupK K) (pv 5) pe_int (fun _ _ => rfl))) (pe_ix (ix_tupK K) (pv 5) pe_int (fun _ _ => rfl))))
  (pss_one (ps_if (PW.pt (pw_or (pt_cmpR op_lt (pe_callB (cb_min3 rfl) (by rfl) B.min (by decide +kernel) (pa_cons (pe_ix (ix_tupK K) (pv 5) pe_int (fun _ _ => rfl)) (pa_cons (pe_ix (ix_tupK K) (pv 5) pe_int (fun _ _ => rfl)) (pa_cons (pv 3) pa_nil)))) pe_int (nomark _)) (pw_or (pt_cmpR op_gt (pe_ix (ix_tupK K) (pv 5) pe_int (fun _ _ => rfl)) (pe_ix (ix_tupK K) (pe_ix (ix_listK K) (pv 0) (pv 4) (fun _ _ => rfl)) pe_int (fun _ _ => rfl)) (nomark _)) (pw_or (pt_cmpR op_gt (pe_ix (ix_tupK K) (pv 5) pe_int (fun _ _ => rfl)) (pe_ix (ix_tupK K) (pe_ix (ix_listK K) (pv 0) (pv 4) (fun _ _ => rfl)) pe_int (fun _ _ => rfl)) (nomark _)) (pw_or1 (pt_cmpR op_gt (pv 3) (pv 1) (nomark _)))))))
  (pss_one (ps_ret (pv 4)))
  pss_nil))))
  (pss_one (ps_ret (pe_un un_neg pe_int))))), ?_⟩
    refine q_setI (n := 0) u.s (by walk_at "ev") fun H0 e0 => ?_
    have u0 := u.scal e0
    refine q_for u0.s (src_enum (ds := m.map deedD) (j := 4) (k := 5) (by walk_at "ev")) fun H1 e1 =>
      ⟨fun i σ' G' H' => ∃ v4 v5, σ' = [some v, some (.int room), some v', some (.int (leftOf 0 (m.take i))), v4, v5] ∧ Up G H G' H' ∧ Ex (gr G H0 H1) G' ∧ faultOf l room m = faultFrom (l.drop i) room (leftOf 0 (m.take i)) i (m.drop i), ?_, ?_, ?_, ?_⟩
    · exact ⟨none, none, rfl, u0.data e1, Ex.refl _, rfl⟩
    · rintro i σ' G' H' ⟨_, _, _, u', g', _⟩
      exact ⟨g', u'.s⟩
    · rintro i σ' G' H' H3 σ3 hi ⟨v4, v5, rfl, u', g', hf⟩ e3 ⟨a3, a4, d3, d4, h3, h4, z3, z4, rfl⟩
      rw [List.length_map] at hi
      obtain ⟨d, hd, rfl⟩ := map_get h4
      obtain ⟨x, hx⟩ := get_of_lt (Nat.lt_of_lt_of_le hi hl)
      cases h3
      cases z3
      have u3 := u'.data e3
      have zl := z.mono u3.g
      have ia := atI_map (f := dayD) hx
      have ls : leftOf 0 (m.take (i + 1)) = leftOf 0 (m.take i) + d.1 - d.2 := by rw [take_succ_of hd, leftOf_append]; rfl
      refine q_setI (n := leftOf 0 (m.take i) + d.1 - d.2) u3.s (by walk_at "ev") fun H4 e4 => ?_
      have u4 := u3.scal e4
      refine z_if1 (b := !okDeed x room (leftOf 0 (m.take i) + d.1 - d.2) d) u4.s (et_is (et_or (evt_test (by walk_at "ev")) fun _ => et_or (evt_test (by walk_at "ev")) fun _ => et_or (evt_test (by walk_at "ev")) fun _ => evt_test (by walk_at "ev")) ?_) (fun hb H5 e5 => ?_) (fun hb H5 e5 => ?_)
      · unfold okDeed
        rw [Bool.eq_iff_iff]
        simp only [Bool.or_eq_true, Bool.not_eq_true', Bool.and_eq_false_iff, decide_eq_true_eq, decide_eq_false_iff_not]
        omega
      · rw [faultFrom_drop hx hd, if_neg (by intro q; rw [q] at hb; cases hb)] at hf
        refine ⟨_, rfl, (u4.scal e5).outD k ?_⟩
        rw [hf]
        exact .int _
      · rw [faultFrom_drop hx hd, if_pos (by simpa using hb)] at hf
        exact ⟨_, some (.int i), some a4, by rw [ls]; rfl, u4.scal e5, g'.trans (ex_gr u'.s), by rw [hf, ls]; rfl⟩
    · rintro σ' G' H' ⟨v4, v5, rfl, u', g', hf⟩
      rw [List.length_map, List.drop_length] at hf
      have e : faultOf l room m = -1 := by rw [hf]; cases l.drop m.length <;> rfl
      rw [e] at k
      exact z_ret u'.s (by walk_at "ev") (u'.retD k)
end
end Gt

namespace Gt
open PySem PySem.Spec PyProof.Rows L2 Evl Gs
local macro_rules | `(tactic| walk_at "ev1") => `(tactic| first
  | exact evd_ci | exact evd_cb | exact evd_cn | exact evd_cs
  | exact evd_vi rfl | exact evd_vb rfl | exact evd_vn rfl
  | exact evd_var rfl (by assumption)
  | exact evd_sumS (by assumption) rfl | exact evd_lenS (by assumption) rfl
  | apply evd_I0 | apply evd_B0 | apply evd_U
  | apply evd_ixT | apply evd_ixL
  | apply evd_chain
  | apply evd_max2 | apply evd_min2 | apply evd_min3
  | exact evd_len (evd_var rfl (by assumption)) | exact evd_lenT (evd_var rfl (by assumption)) | apply evd_len
  | refine evd_tup ?_
  | apply evd_eq | apply evd_ne | apply evd_eqB | apply evd_neB
  | apply evd_isi | refine evd_not ?_
  | apply evd_I
  | exact eva_nil | refine eva_cons ?_ ?_
  | refine evn_lst ?_ | refine evn_sl ?_ ?_ ?_ | refine evn_cat ?_ ?_ ?_ | refine evn_listOf ?_ | refine evn_revL ?_
  | exact evo_none | refine evo_some ?_
  | refine EvN.asD (evn_lst ?_) | refine EvN.asD (evn_sl ?_ ?_ ?_) | refine EvN.asD (evn_cat ?_ ?_ ?_) | refine EvN.asD (evn_listOf ?_) | refine EvN.asD (evn_revL ?_)
  | refine evt_test ?_ | refine evt_B ?_
  | exact kit_int_int | exact kit_int_bool | exact kit_list_list | exact kit_tuple_tuple | exact kit_bool_int | exact kit_bool_bool | exact kit_none_int | exact kit_str_int | exact kit_list_int | exact kit_tuple_int | exact kit_int_tuple | exact kit_none_tuple | exact kit_list_tuple | exact kit_str_tuple | exact kit_bool_tuple | exact kit_tuple_list | exact kit_none_list | exact kit_str_list | exact kit_int_list
  | (show EvD _ _ _ _; assumption) | (show atI _ _ = _; first | assumption | rfl) | (show SeqAt.shaped _ = true; first | assumption | rfl)
  | (show CMulW _ _; first | assumption | exact mul_ok (by omega) (by omega)) | (show CDivW _ _; first | assumption | exact div_lit (by decide +kernel) | exact div_ok (by omega) (by omega)) | (show (0 : Int) < _; omega) | (show CPow _ _; exact ⟨by decide, by decide, by decide⟩))
local macro_rules | `(tactic| walk_at "ev") => `(tactic| repeat' (walk_at "ev1"))

section
variable {P : Program} {w : World} {K : PySem.W.Frag} {mg : Str → Option Value} {base : Heap}
theorem max_mul {m x : Int} (h : 0 ≤ m) : max 0 (m * x) = m * max 0 x := by
  rcases Int.le_total 0 x with q | q
  · have := Int.mul_nonneg h q
    rw [Int.max_eq_right q, Int.max_eq_right this]
  · have := Int.mul_nonneg h (show 0 ≤ -x by omega)
    rw [Int.mul_neg] at this
    rw [Int.max_eq_left q, Int.max_eq_left (by omega), Int.mul_zero]
def optI : Option Int → V
  | none => .non
  | some p => .int p
def sp__law_bound : Sp := spD fun ds d => ∃ (l : List Day) (R : Int) (ws : List Int), ds = [daysD l, .int R, intsD ws] ∧ l.length ≤ 40000 ∧ ws.length = l.length ∧ (∀ x ∈ l, goodDay x) ∧ (∀ x ∈ l, smallDay x) ∧ 0 ≤ R ∧ R.natAbs < 10 * big ∧ (∀ w ∈ ws, w.natAbs < 10 * big) ∧ d = .int (boundOf l R ws)
theorem ok__law_bound (F : FunH K mg "_law_bound" "_law_bound" st__law_bound ps__law_bound) (B : Blt mg)  : Has P w K mg base CX0 1 "_law_bound" ps__law_bound sp__law_bound := by
  refine F.has (N := N__law_bound) sc__law_bound (fun vs H Q E h => ?_) (fun f cdv A outer s H vs Q E hr h => ?_)
  · obtain ⟨G, ds, d, _, hz, ⟨l, R, ws, rfl, _⟩, _⟩ := h
    exact hz.1
  · obtain ⟨G, ds, d, a, hz, ⟨l, R, ws, rfl, hl, hw, hg, hs, r0, r1, hws, rfl⟩, k⟩ := h
    obtain ⟨v0, v1, v2, rfl, z, z1, z2⟩ := hz.three
    cases z1
    have z : Ds G v0 (.list (l.map dayD)) := z
    have z2 : Ds G v2 (.list (ws.map PyData.int)) := z2
    have u := Up.refl a
    have nd := sc__law_bound.nd
    refine ⟨_, (pss_cons (ps_set (i := 3) nd rfl (Or.inl rfl) pe_int)
  (pss_cons (ps_set (i := 4) nd rfl (Or.inl rfl) pe_non)
  (pss_cons (ps_for PassesOwn.never rfl (pi_zipK K B.zip (pa_cons (pv 0) (pa_cons (pv 2) pa_nil))) (pg_tupK K (n := 2) (pgs_names (pg_name (i := 5) nd rfl (Or.inl rfl)) (pgs_names (pg_name (i := 6) nd rfl (Or.inl rfl)) pgs_done)))
  (pss_cons (ps_set (i := 3) nd rfl (Or.inl rfl) (pe_op op_add (pe_op op_add (pv 3) (pe_callB (cb_max2 rfl) (by rfl) B.max (by decide +kernel) (pa_cons pe_int (pa_cons (pe_op op_mulW (pe_ix (ix_tupK K) (pv 5) pe_int (fun _ _ => rfl)) (pe_op op_sub (pv 6) (pe_ix (ix_tupK K) (pv 5) pe_int (fun _ _ => rfl)))) pa_nil)))) (pe_callB (cb_max2 rfl) (by rfl) B.max (by decide +kernel) (pa_cons pe_int (pa_cons (pe_op op_mulW (pe_ix (ix_tupK K) (pv 5) pe_int (fun _ _ => rfl)) (pe_op op_sub (pe_ix (ix_tupK K) (pv 5) pe_int (fun _ _ => rfl)) (pv 6))) pa_nil)))))
  (pss_cons (ps_if (pt_cmpR op_notN (pv 4) pe_non (nomark _))
  (pss_one (ps_set (i := 3) nd rfl (Or.inl rfl) (pe_op op_add (pv 3) (pe_callB (cb_max2 rfl) (by rfl) B.max (by decide +kernel) (pa_cons pe_int (pa_cons (pe_op op_mulW (pv 1) (pe_op op_sub (pv 6) (pv 4))) pa_nil))))))
  pss_nil)
  (pss_one (ps_set (i := 4) nd rfl (Or.inl rfl) (pv 6))))))
  (pss_one (ps_ret (pv 3)))))), ?_⟩
    refine q_setI (n := 0) u.s (by walk_at "ev") fun H0 e0 => ?_
    refine q_setZ (u.scal e0).s (by walk_at "ev") fun H1 e1 => ?_
    have u1 := (u.scal e0).scal e1
    refine q_for u1.s (src_zip (ds := l.map dayD) (es := ws.map PyData.int) (j := 5) (k := 6) (by walk_at "ev") (by walk_at "ev")) fun H2 e2 =>
      ⟨fun i σ' G' H' => ∃ (total : Int) (prev : Option Int) (v5 v6 : Option V), σ' = [some v0, some (.int R), some v2, some (.int total), some (optI prev), v5, v6] ∧ Up G H G' H' ∧ Ex (gr G H1 H2) G' ∧ (∀ p, prev = some p → p.natAbs < 10 * big) ∧ total + boundFrom R prev (l.drop i) (ws.drop i) = boundOf l R ws, ?_, ?_, ?_, ?_⟩
    · exact ⟨0, none, none, none, rfl, u1.data e2, Ex.refl _, (fun p h => nomatch h), by show 0 + boundFrom R none l ws = boundFrom R none l ws; omega⟩
    · rintro i σ' G' H' ⟨_, _, _, _, _, u', g', _⟩
      exact ⟨g', u'.s⟩
    · rintro i σ' G' H' H3 σ3 hi ⟨total, prev, v5, v6, rfl, u', g', hp, hf⟩ e3 ⟨a3, a4, d3, d4, h3, h4, z3, z4, rfl⟩
      rw [List.length_map, List.length_map] at hi
      obtain ⟨d, hd, rfl⟩ := map_get h3
      obtain ⟨w, hwi, rfl⟩ := map_get h4
      cases z4
      have u3 := u'.data e3
      obtain ⟨b1, b2, b3, b4⟩ := hs d (List.mem_of_getElem? hd)
      obtain ⟨c1, c2, c3, c4⟩ := hg d (List.mem_of_getElem? hd)
      have bw := hws w (List.mem_of_getElem? hwi)
      rw [boundFrom_drop hd hwi] at hf
      have z3 : Ds (gr G' H' H3) a3 (.tuple [.int d.1, .int d.2.1, .int d.2.2.1, .int d.2.2.2]) := z3
      have g1 : atI [PyData.int d.1, .int d.2.1, .int d.2.2.1, .int d.2.2.2] 1 = some (.int d.2.1) := rfl
      have g3 : atI [PyData.int d.1, .int d.2.1, .int d.2.2.1, .int d.2.2.2] 3 = some (.int d.2.2.2) := rfl
      refine q_setI (n := total + max 0 (d.2.1 * (w - d.1)) + max 0 (d.2.2.2 * (d.2.2.1 - w))) u3.s (by walk_at "ev") fun H4 e4 => ?_
      have u4 := u3.scal e4
      have last : ∀ (D : Ends) (t2 : Int) H5, D.nx = Px (fun i σ' G' H' => ∃ (total : Int) (prev : Option Int) (v5 v6 : Option V), σ' = [some v0, some (.int R), some v2, some (.int total), some (optI prev), v5, v6] ∧ Up G H G' H' ∧ Ex (gr G H1 H2) G' ∧ (∀ p, prev = some p → p.natAbs < 10 * big) ∧ total + boundFrom R prev (l.drop i) (ws.drop i) = boundOf l R ws) (i + 1) → Ex H4 H5 → t2 + boundFrom R (some w) (l.drop (i + 1)) (ws.drop (i + 1)) = boundOf l R ws →
          tAsg (tVar 6) (gName 4) D [some v0, some (.int R), some v2, some (.int t2), some (optI prev), some a3, some (.int w)] H5 := fun D t2 H5 hD e5 ht => by
        refine z_setI (n := w) (u4.scal e5).s (by walk_at "ev") fun H6 e6 => ?_
        rw [hD]
        exact ⟨_, t2, some w, some a3, some (.int w), rfl, (u4.scal e5).scal e6, g'.trans (ex_gr u'.s), fun p h => by cases h; exact bw, ht⟩
      cases prev with
      | none =>
        refine q_if1 (b := false) u4.s (fun H5 a5 Q q => ⟨_, rfl, rfl, _, rfl, q H5 (Ex.refl _)⟩) (fun h => nomatch h) (fun _ H5 e5 => last _ _ H5 rfl e5 ?_)
        rw [← hf]
        unfold dayBound
        rw [max_mul c2, max_mul c4]
        show _ = total + (_ + _ + 0 + _)
        omega
      | some p =>
        have bp := hp p rfl
        refine q_if1 (b := true) u4.s (fun H5 a5 Q q => ⟨_, rfl, rfl, _, rfl, q H5 (Ex.refl _)⟩) (fun _ H5 e5 => ?_) (fun h => nomatch h)
        refine z_setI (n := total + max 0 (d.2.1 * (w - d.1)) + max 0 (d.2.2.2 * (d.2.2.1 - w)) + max 0 (R * (w - p))) (u4.scal e5).s (evd_I0 (evd_vi rfl) (evd_max2 evd_ci (evd_I (evd_vi rfl) (evd_I0 (evd_vi rfl) (evd_vi rfl)) (mul_ok (by omega) (by omega))))) fun H6 e6 => last _ _ H6 rfl (e5.trans e6) ?_
        rw [← hf]
        unfold dayBound
        rw [max_mul c2, max_mul c4, max_mul r0]
        show _ = total + (_ + _ + R * max 0 (w - p) + _)
        omega
    · rintro σ' G' H' ⟨total, prev, v5, v6, rfl, u', g', hp, hf⟩
      rw [List.length_map, List.length_map, hw, Nat.min_self, List.drop_length] at hf
      have hf : total = boundOf l R ws := by rw [← hf]; show total = total + boundFrom R prev [] _; cases prev <;> simp [boundFrom]
      rw [← hf] at k
      exact z_ret u'.s (by walk_at "ev") (u'.retD k)
def sp__law_best : Sp := spD fun ds d => ∃ (l : List Day) (R : Int) (m : List Deed) (ws : List Int), ds = [daysD l, .int R, deedsD m, intsD ws] ∧ l.length ≤ 20000 ∧ m.length ≤ 20000 ∧ ws.length ≤ 20000 ∧ (∀ x ∈ l, goodDay x) ∧ (∀ x ∈ l, smallDay x) ∧ (∀ x ∈ m, smallDeed x) ∧ 0 ≤ R ∧ R.natAbs < 10 * big ∧ (∀ w ∈ ws, w.natAbs < 10 * big) ∧ d = .bool (showsF l R m ws)
theorem any_neg : ∀ ws : List Int, (ws.map fun w => decide (w < 0)).any id = !(ws.map fun w => decide (0 ≤ w)).all id
  | [] => rfl
  | w :: ws => by
    have ih := any_neg ws
    simp only [List.map_cons, List.any_cons, List.all_cons, id] at ih ⊢
    rw [ih]
    by_cases h : w < 0
    · rw [decide_eq_true h, decide_eq_false (by omega)]; rfl
    · rw [decide_eq_false h, decide_eq_true (by omega)]; simp
theorem ok__law_best (F : FunH K mg "_law_best" "_law_best" st__law_best ps__law_best) (B : Blt mg) (h__law_bound : Has P w K mg base CX0 1 "_law_bound" ps__law_bound sp__law_bound) (h__law_can : Has P w K mg base CX0 1 "_law_can" ps__law_can sp__law_can) : Has P w K mg base CX0 2 "_law_best" ps__law_best sp__law_best := by
  refine F.has (N := N__law_best) sc__law_best (fun vs H Q E h => ?_) (fun f cdv A outer s H vs Q E hr h => ?_)
  · obtain ⟨G, ds, d, _, hz, ⟨l, R, m, ws, rfl, _⟩, _⟩ := h
    exact hz.1
  · obtain ⟨G, ds, d, a, hz, ⟨l, R, m, ws, rfl, hl, hm, hw, hg, hs, hs2, r0, r1, hws, rfl⟩, k⟩ := h
    obtain ⟨v0, v1, v2, v3, rfl, zd, z1, zp, zq⟩ := hz.four
    cases z1
    have zd : Ds G v0 (.list (l.map dayD)) := zd
    have zp : Ds G v2 (.list (m.map deedD)) := zp
    have zq : Ds G v3 (.list (ws.map PyData.int)) := zq
    have u := Up.refl a
    have nd := sc__law_best.nd
    refine ⟨_, (pss_cons (ps_if (PW.pt (pw_or (pt_cmpR op_ne (pe_callB (cb_lenK K) (by rfl) B.len (by decide +kernel) (pa_cons (pv 2) pa_nil)) (pe_callB (cb_lenK K) (by rfl) B.len (by decide +kernel) (pa_cons (pv 0) pa_nil)) (nomark _)) (pw_or (pt_cmpR op_ne (pe_callB (cb_lenK K) (by rfl) B.len (by decide +kernel) (pa_cons (pv 3) pa_nil)) (pe_callB (cb_lenK K) (by rfl) B.len (by decide +kernel) (pa_cons (pv 0) pa_nil)) (nomark _)) (pw_or1 (pt_val (pe_callB (cr_anyK K) (by rfl) B.any (by decide +kernel) (pa_cons (pe_lc (own := [("_law_worth", 7)]) (by rfl) nd (pi_listK K (pv 3)) (blkOk_by (own := [("_law_worth", 7)]) (N := N__law_best) (sc := defScope st__law_best) (by decide +kernel)) (fun _ _ _ _ _ => (pg_name (i := 7) nd rfl (Or.inl rfl))) (fun _ _ _ _ _ => pts_nil) (fun _ _ _ _ _ => (pe_cmpR op_lt (pv 7) pe_int (nomark _)))) pa_nil)))))))
  (pss_one (ps_ret pe_bl))
  pss_nil)
  (pss_cons (ps_if (pt_cmpR op_ge (pe_f h__law_can (hr.mono (by decide)) (pa_cons (pv 0) (pa_cons (pv 1) (pa_cons (pv 2) pa_nil)))) pe_int (nomark _))
  (pss_one (ps_ret pe_bl))
  pss_nil)
  (pss_cons (ps_set (i := 4) nd rfl (Or.inl rfl) (pe_callB (cr_sumK K) (by rfl) B.sum (by decide +kernel) (pa_cons (pe_lc (own := [("_law_day", 5), ("_law_deed", 6)]) (by rfl) nd (pi_zipK K B.zip (pa_cons (pv 0) (pa_cons (pv 2) pa_nil))) (blkOk_by (own := [("_law_day", 5), ("_law_deed", 6)]) (N := N__law_best) (sc := defScope st__law_best) (by decide +kernel)) (fun _ _ _ _ _ => (pg_tupK K (n := 2) (pgs_names (pg_name (i := 5) nd rfl (Or.inl rfl)) (pgs_names (pg_name (i := 6) nd rfl (Or.inl rfl)) pgs_done)))) (fun _ _ _ _ _ => pts_nil) (fun _ _ _ _ _ => (pe_op op_sub (pe_op op_mulW (pe_ix (ix_tupK K) (pv 6) pe_int (fun _ _ => rfl)) (pe_ix (ix_tupK K) (pv 5) pe_int (fun _ _ => rfl))) (pe_op op_mulW (pe_ix (ix_tupK K) (pv 6) pe_int (fun _ _ => rfl)) (pe_ix (ix_tupK K) (pv 5) pe_int (fun _ _ => rfl)))))) pa_nil)))
  (pss_one (ps_ret (pe_cmpR op_eq (pv 4) (pe_f h__law_bound (hr.mono (by decide)) (pa_cons (pv 0) (pa_cons (pv 1) (pa_cons (pv 3) pa_nil)))) (nomark _))))))), ?_⟩
    refine q_if1 (b := decide (m.length ≠ l.length ∨ ws.length ≠ l.length ∨ (ws.map fun w => decide (0 ≤ w)).all id = false)) u.s (et_is (et_or (a := decide (m.length ≠ l.length)) (b := decide (ws.length ≠ l.length ∨ (ws.map fun w => decide (0 ≤ w)).all id = false)) (evt_test (EvD.to (evd_ne (EvD.to (evd_len (evd_var rfl zp)) (by rw [List.length_map])) (EvD.to (evd_len (evd_var rfl zd)) (by rw [List.length_map]))) ?_)) fun _ => et_is (et_or (a := decide (ws.length ≠ l.length)) (b := (ws.map fun w => decide (w < 0)).any id) (evt_test (EvD.to (evd_ne (EvD.to (evd_len (evd_var rfl zq)) (by rw [List.length_map])) (EvD.to (evd_len (evd_var rfl zd)) (by rw [List.length_map]))) ?_)) fun _ => evt_B (evd_any ?_)) ?_) ?_) (fun hb H1 e1 => ?_) (fun hb H1 e1 => ?_)
    · congr 1; rw [Bool.eq_iff_iff]; simp only [Bool.not_eq_true', decide_eq_false_iff_not, decide_eq_true_eq]; omega
    · congr 1; rw [Bool.eq_iff_iff]; simp only [Bool.not_eq_true', decide_eq_false_iff_not, decide_eq_true_eq]; omega
    · refine EvN.asD (EvN.to (evn_lcL (ds := ws.map PyData.int) (fun d => match d with
          | .int w => .bool (decide (w < 0))
          | _ => .none) (evd_var rfl zq) (by rw [List.length_map]; omega) (fun _ => rfl) fun Gx v d g hd z => ?_) ?_)
      · obtain ⟨y, _, rfl⟩ := List.mem_map.mp hd
        cases z
        walk_at "ev"
      · rw [List.map_map, List.map_map]; rfl
    · rw [any_neg, Bool.eq_iff_iff]; simp
    · rw [Bool.eq_iff_iff]; simp
    · have hb := of_decide_eq_true hb
      have e : showsF l R m ws = false := by
        unfold showsF
        split
        · rfl
        · rename_i q
          exact if_pos (.inl (hb.elim (fun h => absurd (.inl h) q) fun h => h.elim (fun h => absurd (.inr h) q) id))
      rw [e] at k
      exact z_ret (u.scal e1).s evd_cb ((u.scal e1).retD k)
    · have hb := of_decide_eq_false hb
      have u1 := u.scal e1
      have lm : m.length = l.length := by omega
      have lw : ws.length = l.length := by omega
      have ha : ¬ (ws.map fun w => decide (0 ≤ w)).all id = false := fun q => hb (.inr (.inr q))
      have ee : showsF l R m ws = if 0 ≤ faultOf l R m then false else decide (gainOf l m = boundOf l R ws) := by
        unfold showsF
        rw [if_neg (by omega)]
        by_cases q : 0 ≤ faultOf l R m
        · rw [if_pos (.inr q), if_pos q]
        · rw [if_neg (fun z => z.elim ha q), if_neg q]
      refine q_if1 (b := decide (0 ≤ faultOf l R m)) u1.s (evt_test (EvD.to (evd_B0 (evd_call (by walk_at "ev") ⟨l, R, m, rfl, by omega, by omega, rfl⟩) (by walk_at "ev")) rfl)) (fun hb2 H2 e2 => ?_) (fun hb2 H2 e2 => ?_)
      · rw [ee, if_pos (of_decide_eq_true hb2)] at k
        exact z_ret (u1.scal e2).s evd_cb ((u1.scal e2).retD k)
      · rw [ee, if_neg (of_decide_eq_false hb2)] at k
        have u2 := u1.scal e2
        refine q_setI (n := gainOf l m) u2.s (evd_sum (map_int_of ?_ (evn_lcZ (l := l) (m := m) (fun x y => .int (gainD x y)) (by walk_at "ev") (by walk_at "ev") (by omega) (fun _ _ => rfl) fun Gx v w x y g hx hy zx zy => ?_))) fun H3 e3 => ?_
        · rw [List.map_zipWith]
        · obtain ⟨b1, b2, b3, b4⟩ := hs x hx
          obtain ⟨c1, c2⟩ := hs2 y hy
          show EvD _ _ _ (.int (y.2 * x.2.2.1 - y.1 * x.1))
          walk_at "ev"
        have u3 := u2.scal e3
        exact z_ret u3.s (evd_eq (by walk_at "ev") (evd_call (by walk_at "ev") ⟨l, R, ws, rfl, by omega, lw, hg, hs, r0, r1, hws, rfl⟩)) (u3.retD k)
end
end Gt

namespace Gt
open PySem PySem.Spec PyProof.Rows L2 Evl Gs
local macro_rules | `(tactic| walk_at "ev1") => `(tactic| first
  | exact evd_ci | exact evd_cb | exact evd_cn | exact evd_cs
  | exact evd_vi rfl | exact evd_vb rfl | exact evd_vn rfl
  | exact evd_var rfl (by assumption)
  | exact evd_sumS (by assumption) rfl | exact evd_lenS (by assumption) rfl
  | apply evd_I0 | apply evd_B0 | apply evd_U
  | apply evd_ixT | apply evd_ixL
  | apply evd_chain
  | apply evd_max2 | apply evd_min2 | apply evd_min3
  | exact evd_len (evd_var rfl (by assumption)) | exact evd_lenT (evd_var rfl (by assumption)) | apply evd_len
  | refine evd_tup ?_
  | apply evd_eq | apply evd_ne | apply evd_eqB | apply evd_neB
  | apply evd_isi | refine evd_not ?_
  | apply evd_I
  | exact eva_nil | refine eva_cons ?_ ?_
  | refine evn_lst ?_ | refine evn_sl ?_ ?_ ?_ | refine evn_cat ?_ ?_ ?_ | refine evn_listOf ?_ | refine evn_revL ?_
  | exact evo_none | refine evo_some ?_
  | refine EvN.asD (evn_lst ?_) | refine EvN.asD (evn_sl ?_ ?_ ?_) | refine EvN.asD (evn_cat ?_ ?_ ?_) | refine EvN.asD (evn_listOf ?_) | refine EvN.asD (evn_revL ?_)
  | refine evt_test ?_ | refine evt_B ?_
  | exact kit_int_int | exact kit_int_bool | exact kit_list_list | exact kit_tuple_tuple | exact kit_bool_int | exact kit_bool_bool | exact kit_none_int | exact kit_str_int | exact kit_list_int | exact kit_tuple_int | exact kit_int_tuple | exact kit_none_tuple | exact kit_list_tuple | exact kit_str_tuple | exact kit_bool_tuple | exact kit_tuple_list | exact kit_none_list | exact kit_str_list | exact kit_int_list
  | (show EvD _ _ _ _; assumption) | (show atI _ _ = _; first | assumption | rfl) | (show SeqAt.shaped _ = true; first | assumption | rfl)
  | (show CMulW _ _; first | assumption | exact mul_ok (by omega) (by omega)) | (show CDivW _ _; first | assumption | exact div_lit (by decide +kernel) | exact div_ok (by omega) (by omega)) | (show (0 : Int) < _; omega) | (show CPow _ _; exact ⟨by decide, by decide, by decide⟩))
local macro_rules | `(tactic| walk_at "ev") => `(tactic| repeat' (walk_at "ev1"))

section
variable {P : Program} {w : World} {K : PySem.W.Frag} {mg : Str → Option Value} {base : Heap}
def sp__law_says : Sp := spD fun ds d => ∃ a b : Bool, ds = [.bool a, .bool b] ∧ d = .bool (decide (a = b))
theorem ok__law_says (F : FunH K mg "_law_says" "_law_says" st__law_says ps__law_says) (B : Blt mg)  : Has P w K mg base CX0 1 "_law_says" ps__law_says sp__law_says := by
  refine F.has (N := N__law_says) sc__law_says (fun vs H Q E h => ?_) (fun f cdv A outer s H vs Q E hr h => ?_)
  · obtain ⟨G, ds, d, _, hz, ⟨a, b, rfl, _⟩, _⟩ := h
    exact hz.1
  · obtain ⟨G, ds, d, e, hz, ⟨a, b, rfl, rfl⟩, k⟩ := h
    obtain ⟨v, w, rfl, z1, z2⟩ := hz.two
    cases z1
    cases z2
    have u := Up.refl e
    have nd := sc__law_says.nd
    refine ⟨_, (pss_one (ps_ret (pe_and (pe_callB (call_isiKK K) (by rfl) B.isinstance (by decide +kernel) (pa_cons (pv 0) (pa_cons (pe_bltn (v := .ty "bool") (by rfl) B.bool (by decide +kernel) rfl) pa_nil))) (pe_one (pe_cmpR op_eq (pv 0) (pv 1) (nomark _)))))), ?_⟩
    exact z_ret u.s (EvD.to (evd_and (a := true) (b := decide (a = b)) (evd_isi (evd_vb rfl) kit_bool_bool) fun _ => evd_eqB (evd_vb rfl) (evd_vb rfl)) rfl) (u.retD k)
theorem ints_cut {ws : List Int} {lo hi : Option Int} {r : List Int} {r' : List PyData} (h : cutD (ws.map PyData.int) lo hi = r') (e : r' = r.map PyData.int) : PyData.list (cutD (ws.map PyData.int) lo hi) = .list (r.map PyData.int) := by rw [h, e]
def sp__law_bent : Sp := spN fun ds es => ∃ (ws : List Int) (c : Int), ds = [intsD ws, .int c] ∧ ws.length ≤ 1000 ∧ es = (bentF ws c).map PyData.int
theorem ok__law_bent (F : FunH K mg "_law_bent" "_law_bent" st__law_bent ps__law_bent) (B : Blt mg)  : Has P w K mg base CX0 1 "_law_bent" ps__law_bent sp__law_bent := by
  refine F.has (N := N__law_bent) sc__law_bent (fun vs H Q E h => ?_) (fun f cdv A outer s H vs Q E hr h => ?_)
  · obtain ⟨G, ds, d, _, hz, ⟨ws, c, rfl, _⟩, _⟩ := h
    exact hz.1
  · obtain ⟨G, ds, d, a, hz, ⟨ws, c, rfl, hl, rfl⟩, k⟩ := h
    obtain ⟨v, w, rfl, z, z2⟩ := hz.two
    cases z2
    have z : Ds G v (.list (ws.map PyData.int)) := z
    have u := Up.refl a
    have nd := sc__law_bent.nd
    refine ⟨_, (pss_cons (ps_set (i := 2) nd rfl (Or.inr rfl) (pe_op op_mod (pv 1) pe_int))
  (pss_cons (ps_set (i := 3) nd rfl (Or.inl rfl) (pe_op op_mod (pe_op op_fdivW (pv 1) pe_int) (pe_op op_add (pe_callB (cb_lenK K) (by rfl) B.len (by decide +kernel) (pa_cons (pv 0) pa_nil)) pe_int)))
  (pss_cons (ps_if (pt_cmpR (op_inK K) (pv 2) (pe_lst (pa_cons pe_int (pa_cons pe_int pa_nil))) (by rfl))
  (pss_one (ps_ret (pe_op op_cat (pe_op op_cat (pe_slice (sl_listK K) (pv 0) po_none (po_some (pv 3))) (pe_lc (own := [("_law_one", 4)]) (by rfl) nd (pi_listK K (pe_slice (sl_listK K) (pv 0) (po_some (pv 3)) (po_some (pe_op op_add (pv 3) pe_int)))) (blkOk_by (own := [("_law_one", 4)]) (N := N__law_bent) (sc := defScope st__law_bent) (by decide +kernel)) (fun _ _ _ _ _ => (pg_name (i := 4) nd rfl (Or.inl rfl))) (fun _ _ _ _ _ => pts_nil) (fun _ _ _ _ _ => (pe_op op_add (pv 4) (pe_ix (ix_tupK K) (pe_tup (pa_cons pe_int (pa_cons (pe_un un_neg pe_int) pa_nil))) (pe_op op_sub (pv 2) pe_int) (fun _ _ => rfl)))))) (pe_slice (sl_listK K) (pv 0) (po_some (pe_op op_add (pv 3) pe_int)) po_none))))
  pss_nil)
  (pss_cons (ps_if (pt_cmpR op_eq (pv 2) pe_int (nomark _))
  (pss_one (ps_ret (pe_op op_cat (pe_slice (sl_listK K) (pv 0) po_none (po_some (pv 3))) (pe_slice (sl_listK K) (pv 0) (po_some (pe_op op_add (pv 3) pe_int)) po_none))))
  pss_nil)
  (pss_cons (ps_if (pt_cmpR op_eq (pv 2) pe_int (nomark _))
  (pss_one (ps_ret (pe_op op_cat (pe_op op_cat (pe_slice (sl_listK K) (pv 0) po_none (po_some (pv 3))) (pe_slice (sl_listK K) (pv 0) (po_some (pv 3)) (po_some (pe_op op_add (pv 3) pe_int)))) (pe_slice (sl_listK K) (pv 0) (po_some (pv 3)) po_none))))
  pss_nil)
  (pss_cons (ps_if (pt_cmpR op_eq (pv 2) pe_int (nomark _))
  (pss_one (ps_ret (pe_lc (own := [("_law_one", 4)]) (by rfl) nd (pi_listK K (pv 0)) (blkOk_by (own := [("_law_one", 4)]) (N := N__law_bent) (sc := defScope st__law_bent) (by decide +kernel)) (fun _ _ _ _ _ => (pg_name (i := 4) nd rfl (Or.inl rfl))) (fun _ _ _ _ _ => pts_nil) (fun _ _ _ _ _ => (pe_op op_add (pv 4) pe_int)))))
  pss_nil)
  (pss_cons (ps_if (pt_cmpR op_eq (pv 2) pe_int (nomark _))
  (pss_one (ps_ret (pe_op op_cat (pe_op op_cat (pe_slice (sl_listK K) (pv 0) po_none (po_some (pv 3))) (pe_lc (own := [("_law_one", 4)]) (by rfl) nd (pi_listK K (pe_slice (sl_listK K) (pv 0) (po_some (pv 3)) (po_some (pe_op op_add (pv 3) pe_int)))) (blkOk_by (own := [("_law_one", 4)]) (N := N__law_bent) (sc := defScope st__law_bent) (by decide +kernel)) (fun _ _ _ _ _ => (pg_name (i := 4) nd rfl (Or.inl rfl))) (fun _ _ _ _ _ => pts_nil) (fun _ _ _ _ _ => (pe_op op_sub (pe_un un_neg (pv 4)) pe_int)))) (pe_slice (sl_listK K) (pv 0) (po_some (pe_op op_add (pv 3) pe_int)) po_none))))
  pss_nil)
  (pss_one (ps_ret (pe_ifExp (pt_cmpR op_eq (pv 2) pe_int (nomark _)) (pe_revLK K (pv 0)) (pe_callTy (cb_listK K) (by rfl) B.list (by decide +kernel) (pa_cons (pv 0) pa_nil)))))))))))), ?_⟩
    have eight : (0 : Int) < 8 := by decide
    refine q_setI (n := c % 8) u.s (evd_I (evd_vi rfl) evd_ci eight) fun H1 e1 => ?_
    have u1 := u.scal e1
    obtain ⟨i, hi⟩ := Int.eq_ofNat_of_zero_le (Int.emod_nonneg (c / 8) (show (ws.length : Int) + 1 ≠ 0 by omega))
    have hi2 := Int.emod_lt_of_pos (c / 8) (show 0 < (ws.length : Int) + 1 by omega)
    have hi3 : i ≤ ws.length := by omega
    have hF : bentF ws c = bentI ws (c % 8) i := by unfold bentF; rw [hi]; rfl
    have hpos : (0 : Int) < (ws.length : Int) + 1 := by omega
    refine q_setI (n := (i : Int)) u1.s (EvD.to (evd_I (evd_I (evd_vi rfl) evd_ci (div_lit (by decide +kernel))) (evd_I0 (EvD.to (evd_len (evd_var rfl z)) (by rw [List.length_map])) evd_ci) hpos) (by rw [hi])) fun H2 e2 => ?_
    have u2 := u1.scal e2
    have hk0 : 0 ≤ c % 8 := by omega
    have hk1 : c % 8 < 8 := by omega
    rw [hF] at k
    generalize c % 8 = kd at hk0 hk1 k ⊢
    have vv : ∀ {σ : L2.St}, σ[0]? = some (some v) → EvD (tVar 0) σ G (.list (ws.map PyData.int)) := fun h => evd_var h z
    have s1 : ∀ {σ : L2.St}, σ[0]? = some (some v) → σ[3]? = some (some (.int (i : Int))) → EvD (tSl (rSlL K) (tVar 0) tNoPart (tPart (tVar 3))) σ G (.list ((ws.take i).map PyData.int)) := fun h g => EvD.to (EvN.asD (evn_sl (vv h) evo_none (evo_some (evd_vi g)))) (ints_cut cutD_take (by rw [List.map_take]))
    have s2 : ∀ {σ : L2.St}, σ[0]? = some (some v) → σ[3]? = some (some (.int (i : Int))) → EvD (tSl (rSlL K) (tVar 0) (tPart (tVar 3)) (tPart (tOp (rI0 fun i j => .int (i + j)) (tVar 3) (tC (.int 1))))) σ G (.list (((ws.drop i).take 1).map PyData.int)) := fun h g => EvD.to (EvN.asD (evn_sl (vv h) (evo_some (evd_vi g)) (evo_some (evd_I0 (evd_vi g) evd_ci)))) (ints_cut (cutD_mid 1 (by rw [List.length_map]; exact hi3)) (by rw [List.map_take, List.map_drop]))
    have s3 : ∀ {σ : L2.St}, σ[0]? = some (some v) → σ[3]? = some (some (.int (i : Int))) → EvD (tSl (rSlL K) (tVar 0) (tPart (tOp (rI0 fun i j => .int (i + j)) (tVar 3) (tC (.int 1)))) tNoPart) σ G (.list ((ws.drop (i + 1)).map PyData.int)) := fun h g => EvD.to (EvN.asD (evn_sl (vv h) (evo_some (evd_I0 (evd_vi g) evd_ci)) evo_none)) (ints_cut (cutD_drop (i := i + 1)) (by rw [List.map_drop]))
    have s4 : ∀ {σ : L2.St}, σ[0]? = some (some v) → σ[3]? = some (some (.int (i : Int))) → EvD (tSl (rSlL K) (tVar 0) (tPart (tVar 3)) tNoPart) σ G (.list ((ws.drop i).map PyData.int)) := fun h g => EvD.to (EvN.asD (evn_sl (vv h) (evo_some (evd_vi g)) evo_none)) (ints_cut cutD_drop (by rw [List.map_drop]))
    have l1 : (ws.take i).length ≤ 1000 := by rw [List.length_take]; omega
    have l2 : ((ws.drop i).take 1).length ≤ 1000 := by rw [List.length_take, List.length_drop]; omega
    have l3 : (ws.drop (i + 1)).length ≤ 1000 := by rw [List.length_drop]; omega
    have l4 : (ws.drop i).length ≤ 1000 := by rw [List.length_drop]; omega
    refine q_if1 (b := decide (kd = 1 ∨ kd = 2)) u2.s (evt_test (evd_inI (ns := [1, 2]) (evd_vi rfl) (EvN.asD (evn_lst (eva_cons evd_ci (eva_cons evd_ci eva_nil)))) ?_)) (fun hb H3 e3 => ?_) (fun hb H3 e3 => ?_)
    · show ((1 : Int) == kd || ((2 : Int) == kd || false)) = _
      rw [Bool.eq_iff_iff]
      simp only [Bool.or_eq_true, beq_iff_eq, Bool.or_false, decide_eq_true_eq]
      omega
    · have hb := of_decide_eq_true hb
      have hr : 0 ≤ kd - 1 ∧ kd - 1 < 2 := by omega
      have pa : atI ([(1 : Int), -1].map PyData.int) (kd - 1) = some (.int (pick [1, -1] (kd - 1))) := pick_at hr.1 hr.2
      refine z_retN (u2.scal e3).s (EvN.to (evn_cat (EvN.asD (evn_cat (s1 rfl rfl) (EvN.asD (EvN.to (evn_lcL (ds := ((ws.drop i).take 1).map PyData.int) (fun d => match d with
        | .int x => .int (x + pick [1, -1] (kd - 1))
        | _ => .none) (s2 rfl rfl) (by rw [List.length_map]; omega) (fun _ => rfl) fun Gx y d g hd zd => ?_) (es := (((ws.drop i).take 1).map fun x => x + pick [1, -1] (kd - 1)).map PyData.int) (by rw [List.map_map, List.map_map]; rfl))) (by simp only [List.length_map]; omega))) (s3 rfl rfl) (by simp only [List.length_append, List.length_map]; omega)) ?_) ((u2.scal e3).retN k)
      · obtain ⟨y, _, rfl⟩ := List.mem_map.mp hd
        cases zd
        exact evd_I0 (evd_vi rfl) (evd_ixT (ds := [(1 : Int), -1].map PyData.int) (evd_tup (eva_cons evd_ci (eva_cons (evd_U evd_ci) eva_nil))) (evd_I0 (evd_vi rfl) evd_ci) pa)
      · unfold bentI
        rw [if_pos hb, List.map_append, List.map_append]
    have n1 := of_decide_eq_false hb
    have u3 := u2.scal e3
    refine q_if1 (b := decide (kd = 3)) u3.s (evt_test (evd_eq (evd_vi rfl) evd_ci)) (fun hb H4 e4 => ?_) (fun hb H4 e4 => ?_)
    · have hb := of_decide_eq_true hb
      refine z_retN (u3.scal e4).s (EvN.to (evn_cat (s1 rfl rfl) (s3 rfl rfl) (by simp only [List.length_map]; omega)) ?_) ((u3.scal e4).retN k)
      unfold bentI
      rw [if_neg n1, if_pos hb, List.map_append]
    have n2 := of_decide_eq_false hb
    have u4 := u3.scal e4
    refine q_if1 (b := decide (kd = 4)) u4.s (evt_test (evd_eq (evd_vi rfl) evd_ci)) (fun hb H5 e5 => ?_) (fun hb H5 e5 => ?_)
    · have hb := of_decide_eq_true hb
      refine z_retN (u4.scal e5).s (EvN.to (evn_cat (EvN.asD (evn_cat (s1 rfl rfl) (s2 rfl rfl) (by simp only [List.length_map]; omega))) (s4 rfl rfl) (by simp only [List.length_append, List.length_map]; omega)) ?_) ((u4.scal e5).retN k)
      unfold bentI
      rw [if_neg n1, if_neg n2, if_pos hb, List.map_append, List.map_append]
    have n3 := of_decide_eq_false hb
    have u5 := u4.scal e5
    refine q_if1 (b := decide (kd = 5)) u5.s (evt_test (evd_eq (evd_vi rfl) evd_ci)) (fun hb H6 e6 => ?_) (fun hb H6 e6 => ?_)
    · have hb := of_decide_eq_true hb
      refine z_retN (u5.scal e6).s (EvN.to (evn_lcL (ds := ws.map PyData.int) (fun d => match d with
        | .int x => .int (x + 1)
        | _ => .none) (vv rfl) (by rw [List.length_map]; omega) (fun _ => rfl) fun Gx y d g hd zd => ?_) ?_) ((u5.scal e6).retN k)
      · obtain ⟨y, _, rfl⟩ := List.mem_map.mp hd
        cases zd
        exact evd_I0 (evd_vi rfl) evd_ci
      · unfold bentI
        rw [if_neg n1, if_neg n2, if_neg n3, if_pos hb, List.map_map, List.map_map]
        rfl
    have n4 := of_decide_eq_false hb
    have u6 := u5.scal e6
    refine q_if1 (b := decide (kd = 6)) u6.s (evt_test (evd_eq (evd_vi rfl) evd_ci)) (fun hb H7 e7 => ?_) (fun hb H7 e7 => ?_)
    · have hb := of_decide_eq_true hb
      refine z_retN (u6.scal e7).s (EvN.to (evn_cat (EvN.asD (evn_cat (s1 rfl rfl) (EvN.asD (EvN.to (evn_lcL (ds := ((ws.drop i).take 1).map PyData.int) (fun d => match d with
        | .int x => .int (-x - 1)
        | _ => .none) (s2 rfl rfl) (by rw [List.length_map]; omega) (fun _ => rfl) fun Gx y d g hd zd => ?_) (es := (((ws.drop i).take 1).map fun x => -x - 1).map PyData.int) (by rw [List.map_map, List.map_map]; rfl))) (by simp only [List.length_map]; omega))) (s3 rfl rfl) (by simp only [List.length_append, List.length_map]; omega)) ?_) ((u6.scal e7).retN k)
      · obtain ⟨y, _, rfl⟩ := List.mem_map.mp hd
        cases zd
        exact evd_I0 (evd_U (evd_vi rfl)) evd_ci
      · unfold bentI
        rw [if_neg n1, if_neg n2, if_neg n3, if_neg n4, if_pos hb, List.map_append, List.map_append]
    have n5 := of_decide_eq_false hb
    have u7 := u6.scal e7
    have hB : bentI ws kd i = if kd = 7 then ws.reverse else ws := by
      unfold bentI
      rw [if_neg n1, if_neg n2, if_neg n3, if_neg n4, if_neg n5]
    rw [hB] at k
    refine z_retN u7.s (evn_if (b := decide (kd = 7)) (evt_test (evd_eq (evd_vi rfl) evd_ci)) (fun hb => EvN.to (evn_revL (vv rfl)) ?_) (fun hb => EvN.to (evn_listOf (vv rfl)) ?_)) (u7.retN k)
    · rw [if_pos (of_decide_eq_true hb), List.map_reverse]
    · rw [if_neg (of_decide_eq_false hb)]
theorem deeds_cut {m : List Deed} {lo hi : Option Int} {r : List Deed} {r' : List PyData} (h : cutD (m.map deedD) lo hi = r') (e : r' = r.map deedD) : PyData.list (cutD (m.map deedD) lo hi) = .list (r.map deedD) := by rw [h, e]
def dX (f : Deed → Deed) : PyData → PyData
  | .tuple [.int a, .int b] => deedD (f (a, b))
  | _ => .none
def sp__law_dealt : Sp := spN fun ds es => ∃ (m : List Deed) (c : Int), ds = [deedsD m, .int c] ∧ m.length ≤ 1000 ∧ es = (dealtF m c).map deedD
theorem ok__law_dealt (F : FunH K mg "_law_dealt" "_law_dealt" st__law_dealt ps__law_dealt) (B : Blt mg)  : Has P w K mg base CX0 1 "_law_dealt" ps__law_dealt sp__law_dealt := by
  refine F.has (N := N__law_dealt) sc__law_dealt (fun vs H Q E h => ?_) (fun f cdv A outer s H vs Q E hr h => ?_)
  · obtain ⟨G, ds, d, _, hz, ⟨ws, c, rfl, _⟩, _⟩ := h
    exact hz.1
  · obtain ⟨G, ds, d, a, hz, ⟨m, c, rfl, hl, rfl⟩, k⟩ := h
    obtain ⟨v, w, rfl, z, z2⟩ := hz.two
    cases z2
    have z : Ds G v (.list (m.map deedD)) := z
    have u := Up.refl a
    have nd := sc__law_dealt.nd
    refine ⟨_, (pss_cons (ps_set (i := 2) nd rfl (Or.inl rfl) (pe_op op_mod (pe_op op_fdivW (pv 1) pe_int) (pe_op op_add (pe_callB (cb_lenK K) (by rfl) B.len (by decide +kernel) (pa_cons (pv 0) pa_nil)) pe_int)))
  (pss_cons (ps_set (i := 3) nd rfl (Or.inr rfl) (pe_ix (ix_tupK K) (pe_tup (pa_cons pe_int (pa_cons (pe_un un_neg pe_int) (pa_cons (pe_un un_neg pe_int) pa_nil)))) (pe_op op_mod (pe_op op_fdivW (pv 1) pe_int) pe_int) (fun _ _ => rfl)))
  (pss_cons (ps_if (pt_cmpR op_eq (pe_op op_mod (pv 1) pe_int) pe_int (nomark _))
  (pss_one (ps_ret (pe_op op_cat (pe_op op_cat (pe_slice (sl_listK K) (pv 0) po_none (po_some (pv 2))) (pe_lc (own := [("_law_deed", 4)]) (by rfl) nd (pi_listK K (pe_slice (sl_listK K) (pv 0) (po_some (pv 2)) (po_some (pe_op op_add (pv 2) pe_int)))) (blkOk_by (own := [("_law_deed", 4)]) (N := N__law_dealt) (sc := defScope st__law_dealt) (by decide +kernel)) (fun _ _ _ _ _ => (pg_name (i := 4) nd rfl (Or.inl rfl))) (fun _ _ _ _ _ => pts_nil) (fun _ _ _ _ _ => (pe_tup (pa_cons (pe_op op_add (pe_ix (ix_tupK K) (pv 4) pe_int (fun _ _ => rfl)) (pv 3)) (pa_cons (pe_ix (ix_tupK K) (pv 4) pe_int (fun _ _ => rfl)) pa_nil)))))) (pe_slice (sl_listK K) (pv 0) (po_some (pe_op op_add (pv 2) pe_int)) po_none))))
  pss_nil)
  (pss_cons (ps_if (pt_cmpR op_eq (pe_op op_mod (pv 1) pe_int) pe_int (nomark _))
  (pss_one (ps_ret (pe_op op_cat (pe_op op_cat (pe_slice (sl_listK K) (pv 0) po_none (po_some (pv 2))) (pe_lc (own := [("_law_deed", 4)]) (by rfl) nd (pi_listK K (pe_slice (sl_listK K) (pv 0) (po_some (pv 2)) (po_some (pe_op op_add (pv 2) pe_int)))) (blkOk_by (own := [("_law_deed", 4)]) (N := N__law_dealt) (sc := defScope st__law_dealt) (by decide +kernel)) (fun _ _ _ _ _ => (pg_name (i := 4) nd rfl (Or.inl rfl))) (fun _ _ _ _ _ => pts_nil) (fun _ _ _ _ _ => (pe_tup (pa_cons (pe_ix (ix_tupK K) (pv 4) pe_int (fun _ _ => rfl)) (pa_cons (pe_op op_add (pe_ix (ix_tupK K) (pv 4) pe_int (fun _ _ => rfl)) (pv 3)) pa_nil)))))) (pe_slice (sl_listK K) (pv 0) (po_some (pe_op op_add (pv 2) pe_int)) po_none))))
  pss_nil)
  (pss_cons (ps_if (pt_cmpR op_eq (pe_op op_mod (pv 1) pe_int) pe_int (nomark _))
  (pss_one (ps_ret (pe_op op_cat (pe_op op_cat (pe_slice (sl_listK K) (pv 0) po_none (po_some (pv 2))) (pe_revLK K (pe_slice (sl_listK K) (pv 0) (po_some (pv 2)) (po_some (pe_op op_add (pv 2) pe_int))))) (pe_slice (sl_listK K) (pv 0) (po_some (pe_op op_add (pv 2) pe_int)) po_none))))
  pss_nil)
  (pss_one (ps_ret (pe_ifExp (pt_cmpR op_eq (pe_op op_mod (pe_op op_fdivW (pv 1) pe_int) pe_int) pe_int (nomark _)) (pe_op op_cat (pe_slice (sl_listK K) (pv 0) po_none (po_some (pv 2))) (pe_slice (sl_listK K) (pv 0) (po_some (pe_op op_add (pv 2) pe_int)) po_none)) (pe_op op_cat (pv 0) (pe_slice (sl_listK K) (pv 0) (po_some (pe_un un_neg pe_int)) po_none)))))))))), ?_⟩
    have three : (0 : Int) < 3 := by decide
    have four : (0 : Int) < 4 := by decide
    obtain ⟨i, hi⟩ := Int.eq_ofNat_of_zero_le (Int.emod_nonneg (c / 9) (show (m.length : Int) + 1 ≠ 0 by omega))
    have hi2 := Int.emod_lt_of_pos (c / 9) (show 0 < (m.length : Int) + 1 by omega)
    have hi3 : i ≤ m.length := by omega
    have hF : dealtF m c = dealtI m (c % 4) (c / 4 % 3) i := by unfold dealtF; rw [hi]; rfl
    have hpos : (0 : Int) < (m.length : Int) + 1 := by omega
    refine q_setI (n := (i : Int)) u.s (EvD.to (evd_I (evd_I (evd_vi rfl) evd_ci (div_lit (by decide +kernel))) (evd_I0 (EvD.to (evd_len (evd_var rfl z)) (by rw [List.length_map])) evd_ci) hpos) (by rw [hi])) fun H1 e1 => ?_
    have u1 := u.scal e1
    have pa : atI ([(1 : Int), -1, -7].map PyData.int) (c / 4 % 3) = some (.int (pick [1, -1, -7] (c / 4 % 3))) := pick_at (by omega) (by show c / 4 % 3 < 3; omega)
    obtain ⟨by', hby⟩ : ∃ y, y = pick [1, -1, -7] (c / 4 % 3) := ⟨_, rfl⟩
    rw [← hby] at pa
    refine q_setI (n := by') u1.s (evd_ixT (ds := [(1 : Int), -1, -7].map PyData.int) (evd_tup (eva_cons evd_ci (eva_cons (evd_U evd_ci) (eva_cons (evd_U evd_ci) eva_nil)))) (evd_I (evd_I (evd_vi rfl) evd_ci (div_lit (by decide +kernel))) evd_ci three) pa) fun H2 e2 => ?_
    have u2 := u1.scal e2
    rw [hF] at k
    have mk : ∀ {σ : L2.St}, σ[1]? = some (some (.int c)) → EvD (tOp (rI (fun _ j => 0 < j) fun i j => .int (i % j)) (tVar 1) (tC (.int 4))) σ G (.int (c % 4)) := fun h => evd_I (evd_vi h) evd_ci four
    have vv : ∀ {σ : L2.St}, σ[0]? = some (some v) → EvD (tVar 0) σ G (.list (m.map deedD)) := fun h => evd_var h z
    have s1 : ∀ {σ : L2.St}, σ[0]? = some (some v) → σ[2]? = some (some (.int (i : Int))) → EvD (tSl (rSlL K) (tVar 0) tNoPart (tPart (tVar 2))) σ G (.list ((m.take i).map deedD)) := fun h g => EvD.to (EvN.asD (evn_sl (vv h) evo_none (evo_some (evd_vi g)))) (deeds_cut cutD_take (by rw [List.map_take]))
    have s2 : ∀ {σ : L2.St} (n : Nat), σ[0]? = some (some v) → σ[2]? = some (some (.int (i : Int))) → EvD (tSl (rSlL K) (tVar 0) (tPart (tVar 2)) (tPart (tOp (rI0 fun i j => .int (i + j)) (tVar 2) (tC (.int (n : Int)))))) σ G (.list (((m.drop i).take n).map deedD)) := fun n h g => EvD.to (EvN.asD (evn_sl (vv h) (evo_some (evd_vi g)) (evo_some (evd_I0 (evd_vi g) evd_ci)))) (deeds_cut (cutD_mid n (by rw [List.length_map]; exact hi3)) (by rw [List.map_take, List.map_drop]))
    have s3 : ∀ {σ : L2.St} (n : Nat), σ[0]? = some (some v) → σ[2]? = some (some (.int (i : Int))) → EvD (tSl (rSlL K) (tVar 0) (tPart (tOp (rI0 fun i j => .int (i + j)) (tVar 2) (tC (.int (n : Int))))) tNoPart) σ G (.list ((m.drop (i + n)).map deedD)) := fun n h g => EvD.to (EvN.asD (evn_sl (vv h) (evo_some (evd_I0 (evd_vi g) evd_ci)) evo_none)) (deeds_cut (cutD_drop (i := i + n)) (by rw [List.map_drop]))
    have l1 : (m.take i).length ≤ 1000 := by rw [List.length_take]; omega
    have l2 : ∀ n, ((m.drop i).take n).length ≤ 1000 := fun n => by rw [List.length_take, List.length_drop]; omega
    have l3 : ∀ n, (m.drop n).length ≤ 1000 := fun n => by rw [List.length_drop]; omega
    have l21 := l2 1
    have l22 := l2 2
    have l31 := l3 (i + 1)
    have l32 := l3 (i + 2)
    have l33 := l3 (m.length - 1)
    refine q_if1 (b := decide (c % 4 = 1)) u2.s (evt_test (evd_eq (mk rfl) evd_ci)) (fun hb H3 e3 => ?_) (fun hb H3 e3 => ?_)
    · have hb := of_decide_eq_true hb
      refine z_retN (u2.scal e3).s (EvN.to (evn_cat (EvN.asD (evn_cat (s1 rfl rfl) (EvN.asD (EvN.to (evn_lcL (ds := ((m.drop i).take 1).map deedD) (dX fun d => (d.1 + by', d.2)) (s2 1 rfl rfl) (by rw [List.length_map]; omega) (fun _ => rfl) fun Gx y d g hd zd => ?_) (es := (((m.drop i).take 1).map fun d => (d.1 + by', d.2)).map deedD) (by rw [List.map_map, List.map_map]; rfl))) (by simp only [List.length_map]; omega))) (s3 1 rfl rfl) (by simp only [List.length_append, List.length_map]; omega)) ?_) ((u2.scal e3).retN k)
      · obtain ⟨y, _, rfl⟩ := List.mem_map.mp hd
        have zd : Ds Gx _ (.tuple [.int y.1, .int y.2]) := zd
        show EvD _ _ _ (.tuple [.int (y.1 + by'), .int y.2])
        exact evd_tup (eva_cons (evd_I0 (evd_ixT (evd_var rfl zd) evd_ci rfl) (evd_vi rfl)) (eva_cons (evd_ixT (evd_var rfl zd) evd_ci rfl) eva_nil))
      · unfold dealtI
        rw [if_pos hb, ← hby, List.map_append, List.map_append]
    have n1 := of_decide_eq_false hb
    have u3 := u2.scal e3
    refine q_if1 (b := decide (c % 4 = 2)) u3.s (evt_test (evd_eq (mk rfl) evd_ci)) (fun hb H4 e4 => ?_) (fun hb H4 e4 => ?_)
    · have hb := of_decide_eq_true hb
      refine z_retN (u3.scal e4).s (EvN.to (evn_cat (EvN.asD (evn_cat (s1 rfl rfl) (EvN.asD (EvN.to (evn_lcL (ds := ((m.drop i).take 1).map deedD) (dX fun d => (d.1, d.2 + by')) (s2 1 rfl rfl) (by rw [List.length_map]; omega) (fun _ => rfl) fun Gx y d g hd zd => ?_) (es := (((m.drop i).take 1).map fun d => (d.1, d.2 + by')).map deedD) (by rw [List.map_map, List.map_map]; rfl))) (by simp only [List.length_map]; omega))) (s3 1 rfl rfl) (by simp only [List.length_append, List.length_map]; omega)) ?_) ((u3.scal e4).retN k)
      · obtain ⟨y, _, rfl⟩ := List.mem_map.mp hd
        have zd : Ds Gx _ (.tuple [.int y.1, .int y.2]) := zd
        show EvD _ _ _ (.tuple [.int y.1, .int (y.2 + by')])
        exact evd_tup (eva_cons (evd_ixT (evd_var rfl zd) evd_ci rfl) (eva_cons (evd_I0 (evd_ixT (evd_var rfl zd) evd_ci rfl) (evd_vi rfl)) eva_nil))
      · unfold dealtI
        rw [if_neg n1, if_pos hb, ← hby, List.map_append, List.map_append]
    have n2 := of_decide_eq_false hb
    have u4 := u3.scal e4
    refine q_if1 (b := decide (c % 4 = 3)) u4.s (evt_test (evd_eq (mk rfl) evd_ci)) (fun hb H5 e5 => ?_) (fun hb H5 e5 => ?_)
    · have hb := of_decide_eq_true hb
      refine z_retN (u4.scal e5).s (EvN.to (evn_cat (EvN.asD (evn_cat (s1 rfl rfl) (EvN.asD (evn_revL (s2 2 rfl rfl))) (by simp only [List.length_map, List.length_reverse]; omega))) (s3 2 rfl rfl) (by simp only [List.length_append, List.length_map, List.length_reverse]; omega)) ?_) ((u4.scal e5).retN k)
      unfold dealtI
      rw [if_neg n1, if_neg n2, if_pos hb, List.map_append, List.map_append, List.map_reverse]
    have n3 := of_decide_eq_false hb
    have u5 := u4.scal e5
    have hB : dealtI m (c % 4) (c / 4 % 3) i = if c / 4 % 3 = 1 then m.take i ++ m.drop (i + 1) else m ++ m.drop (m.length - 1) := by
      unfold dealtI
      rw [if_neg n1, if_neg n2, if_neg n3]
    rw [hB] at k
    refine z_retN u5.s (evn_if (b := decide (c / 4 % 3 = 1)) (evt_test (evd_eq (evd_I (evd_I (evd_vi rfl) evd_ci (div_lit (by decide +kernel))) evd_ci three) evd_ci)) (fun hb => EvN.to (evn_cat (s1 rfl rfl) (s3 1 rfl rfl) (by simp only [List.length_map]; omega)) ?_) (fun hb => EvN.to (evn_cat (vv rfl) (EvD.to (EvN.asD (evn_sl (vv rfl) (evo_some (evd_U evd_ci)) evo_none)) (deeds_cut cutD_last (r := m.drop (m.length - 1)) (by rw [List.length_map, List.map_drop]))) (by simp only [List.length_map]; omega)) ?_)) (u5.retN k)
    · rw [if_pos (of_decide_eq_true hb), List.map_append]
    · rw [if_neg (of_decide_eq_false hb), List.map_append]
end
end Gt

namespace Gt
open PySem PySem.Spec PyProof.Rows L2 Evl Gs
local macro_rules | `(tactic| walk_at "ev1") => `(tactic| first
  | exact evd_ci | exact evd_cb | exact evd_cn | exact evd_cs
  | exact evd_vi rfl | exact evd_vb rfl | exact evd_vn rfl
  | exact evd_var rfl (by assumption)
  | exact evd_sumS (by assumption) rfl | exact evd_lenS (by assumption) rfl
  | apply evd_I0 | apply evd_B0 | apply evd_U
  | apply evd_ixT | apply evd_ixL
  | apply evd_chain
  | apply evd_max2 | apply evd_min2 | apply evd_min3
  | exact evd_len (evd_var rfl (by assumption)) | exact evd_lenT (evd_var rfl (by assumption)) | apply evd_len
  | refine evd_tup ?_
  | apply evd_eq | apply evd_ne | apply evd_eqB | apply evd_neB
  | apply evd_isi | refine evd_not ?_
  | apply evd_I
  | exact eva_nil | refine eva_cons ?_ ?_
  | refine evn_lst ?_ | refine evn_sl ?_ ?_ ?_ | refine evn_cat ?_ ?_ ?_ | refine evn_listOf ?_ | refine evn_revL ?_
  | exact evo_none | refine evo_some ?_
  | refine EvN.asD (evn_lst ?_) | refine EvN.asD (evn_sl ?_ ?_ ?_) | refine EvN.asD (evn_cat ?_ ?_ ?_) | refine EvN.asD (evn_listOf ?_) | refine EvN.asD (evn_revL ?_)
  | refine evt_test ?_ | refine evt_B ?_
  | exact kit_int_int | exact kit_int_bool | exact kit_list_list | exact kit_tuple_tuple | exact kit_bool_int | exact kit_bool_bool | exact kit_none_int | exact kit_str_int | exact kit_list_int | exact kit_tuple_int | exact kit_int_tuple | exact kit_none_tuple | exact kit_list_tuple | exact kit_str_tuple | exact kit_bool_tuple | exact kit_tuple_list | exact kit_none_list | exact kit_str_list | exact kit_int_list
  | (show EvD _ _ _ _; assumption) | (show atI _ _ = _; first | assumption | rfl) | (show SeqAt.shaped _ = true; first | assumption | rfl)
  | (show CMulW _ _; first | assumption | exact mul_ok (by omega) (by omega)) | (show CDivW _ _; first | assumption | exact div_lit (by decide +kernel) | exact div_ok (by omega) (by omega)) | (show (0 : Int) < _; omega) | (show CPow _ _; exact ⟨by decide, by decide, by decide⟩))
local macro_rules | `(tactic| walk_at "ev") => `(tactic| repeat' (walk_at "ev1"))

section
variable {P : Program} {w : World} {K : PySem.W.Frag} {mg : Str → Option Value} {base : Heap}
def sp_law (K : PySem.W.Frag) : Sp := fun vs H Q _ => ∃ (l : Addr) (ns : List Int), vs = [.ref l] ∧ SqL K H l (ns.map V.int) ∧ ns.length ≤ 63 ∧ ∀ H2, Q (.bl true) H2
theorem law_start {K : PySem.W.Frag} {H : Hp} {a : Addr} {ns : List Int} (hS : SqL K H a (ns.map V.int)) (hl : ns.length ≤ 63) : sp_law K [.ref a] H (fun v _ => v = .bl true) (fun _ _ _ => False) := ⟨a, ns, rfl, hS, hl, fun _ => rfl⟩
theorem law_ins {l : List Day} {R : Int} (h : ∀ d ∈ l, lawDay d) (hl : l.length ≤ 100) (r0 : 0 ≤ R) (r1 : R ≤ 10 ^ 60) : Ins l R :=
  ⟨fun d hd => (h d hd).good, fun d hd => (h d hd).small, r0, by have := big_law; omega, by omega⟩
section
variable {σ : L2.St} {G G0 H0 H H2 : Hp} {C x dx : Addr} {E E' : XK} {ta tb te : TE} {t t2 : TA} {D : Ends} {u : TS} {ds es : List PyData} {d : PyData} {i : Nat}
theorem q_two (uu : Up G0 H0 G H) (fe : ∀ d ∈ es, flatD d = true) (ha : EvN ta σ G ds) (hb : EvN tb σ G es) (k : ∀ p1 p2 p xs ys Gn H2, Up G0 H0 Gn H2 → Ex G Gn → H p1 = none → H p2 = none → H p = none → p1 ≠ p2 → p ≠ p1 → p ≠ p2 → Gn p1 = none → Gn p2 = none → Gn p = none →
    H2 p1 = some (.lst xs) → H2 p2 = some (.lst ys) → H2 p = some (.lst [.ref p1, .ref p2]) → DsA Gn xs ds → DsA Gn ys es → u D (σ.set i (some (.ref p))) H2) : tSeq (tAsg (tLst (tCons ta (tCons tb tNil))) (gName i)) u D σ H := z_seq (ha H uu.s _ fun p1 xs H1 e1 n1 h1 z1 =>
  (hb.mono (ex_gr (H2 := H1) uu.s)) H1 (gr_ex uu.s e1) _ fun p2 ys H2 e2 n2 h2 z2 => ⟨line_of (by show 2 ≤ 100000; decide), fun p hp => by
    have e12 := e1.trans e2
    have e3 : Ex H2 (upd H2 p (.lst [.ref p1, .ref p2])) := Ex.new hp
    have e13 := e12.trans e3
    have u3 := uu.data e13
    have ne12 : p1 ≠ p2 := fun z => by rw [z, n2] at h1; cases h1
    have np2 : p ≠ p2 := fun z => by rw [z, h2] at hp; cases hp
    have np1 : p ≠ p1 := fun z => by rw [z, e2 _ _ h1] at hp; cases hp
    have m1 : H p1 = none := n1
    have m2 : H p2 = none := none_of_ex e1 n2
    have m3 : H p = none := none_of_ex e12 hp
    have g1 : G p1 = none := none_of_ex uu.s m1
    have g2 : G p2 = none := none_of_ex uu.s m2
    have g3 : G p = none := none_of_ex uu.s m3
    obtain ⟨Gn, hGn⟩ : ∃ Gn, Gn = but (but (but (gr G H (upd H2 p (.lst [.ref p1, .ref p2]))) p1) p2) p := ⟨_, rfl⟩
    have eG : Ex G Gn := by rw [hGn]; exact ex_but (ex_but (ex_but (ex_gr uu.s) g1) g2) g3
    have eS : Ex Gn (gr G H (upd H2 p (.lst [.ref p1, .ref p2]))) := by rw [hGn]; exact but_ex.trans (but_ex.trans but_ex)
    have k1 : Gn p1 = none := by rw [hGn, but_ne np1.symm, but_ne ne12, but_self]
    have k2 : Gn p2 = none := by rw [hGn, but_ne np2.symm, but_self]
    have k3 : Gn p = none := by rw [hGn, but_self]
    have x1 : Ex (but (gr G H H1) p1) Gn := by
      rw [hGn]
      refine ex_but (ex_but (ex_but (but_ex.trans (gr_later uu.s e1 (e2.trans e3))) but_self) ?_) ?_
      · rw [but_ne ne12.symm]; exact none_of_ex (gr_ex uu.s e1) n2
      · rw [but_ne np1]; exact none_of_ex (gr_ex uu.s e1) (none_of_ex e2 hp)
    rw [gr_gr e1 e2] at z2
    have w2 : DsA Gn ys es := z2.flat fe fun c zs hc => by
      have c2 : c ≠ p2 := fun z => by rw [z, but_self] at hc; cases hc
      rw [but_ne c2] at hc
      have c3 : c ≠ p := fun z => by rw [z, gr_new m3, hp] at hc; cases hc
      have c1 : c ≠ p1 := fun z => by rw [z, gr_new m1, e2 _ _ h1] at hc; cases hc
      rw [hGn, but_ne c3, but_ne c2, but_ne c1]
      exact gr_later uu.s e12 e3 _ _ hc
    exact k p1 p2 p xs ys Gn _ (u3.sub (uu.g.trans eG) eS) eG m1 m2 m3 ne12 np1 np2 k1 k2 k3 (e3 _ _ (e2 _ _ h1)) (e3 _ _ h2) upd_same (z1.mono x1) w2⟩)
theorem q_appIx {p b : Addr} {ls xs : List V} {n : Int} (a : Ex G H) (hs : σ[i]? = some (some (.ref p))) (hp : H p = some (.lst ls)) (hi : atI ls n = some (.ref b)) (hb : H b = some (.lst xs)) (h : EvD te σ G d) (hz : xs.length < 100000)
    (k : ∀ v H2, Ex H H2 → Ds (gr G H H2) v d → u D σ (upd H2 b (.lst (xs ++ [v])))) : tSeq (tDrop (tBM K "list" rAppend (tOp (rIxL K) (tVar i) (tC (.int n))) (tCons te tNil))) u D σ H :=
  ⟨_, hs, p, ls, n, .ref b, rfl, rfl, SqL.of hp, hi, .inl ⟨rfl, xs, SqL.of hb⟩, h H a _ fun v H2 e z => ⟨b, xs, v, rfl, rfl, e _ _ hb, Nat.lt_of_lt_of_le hz (line_of (Nat.le_refl _)), k v H2 e z⟩⟩
theorem bestAt_other {p q l : Addr} {xs : List V} {m : List Deed} {ws : List Int} {o : HO} (bo : BestAt C G H x dx p q xs m ws) (n1 : l ≠ x) (n2 : l ≠ p) (n3 : l ≠ q) : BestAt C G (upd H l o) x dx p q xs m ws :=
  ⟨by rw [upd_ne n1.symm]; exact bo.obj, by rw [upd_ne n2.symm]; exact bo.dl, by rw [upd_ne n3.symm]; exact bo.wl, bo.items, bo.gx, bo.gp, bo.gq, bo.ne⟩
theorem evd_showsNew {l : List Day} {R : Int} {m : List Deed} {ws : List Int} (ha : EvAr t σ G [deedsD m, intsD ws]) (hb : EvAr t2 σ G [daysD l, .int R]) (hl : l.length ≤ 20000) (hm : m.length ≤ 20000) (hw : ws.length ≤ 20000)
    (h1 : ∀ x ∈ l, smallDay x) (h2 : ∀ x ∈ m, smallDeed x) (h3 : R.natAbs < 10 * big) (h4 : ∀ w ∈ ws, w.natAbs < 10 * big) : EvD (tMeth C "shows" (sp_Best_shows C) [] E (tMake C (sp_Best C) [] E' t) t2) σ G (.bool (showsF l R m ws)) := fun H1 a Q k => by
  delta tMeth
  refine made_Best (Up.refl a) ha fun x dx p q xs G2 H2 u2 g2 bo hx hp hq => ?_
  obtain ⟨Gr, uR, gR, hxr, zp, zq⟩ := bestAt_own bo u2 hx hp hq
  refine ⟨x, dx, _, rfl, bo.obj, bestFs_no p q (by decide +kernel) (by decide +kernel), (hb.mono (g2.trans gR)) H2 uR.s _ fun vs H3 e z => ?_⟩
  obtain ⟨vd, vr, rfl, y1, y2⟩ := z.two
  cases y2
  have a3 := ex_gr (H2 := H3) uR.s
  exact ⟨gr Gr H2 H3, x, dx, p, q, vd, R, l, m, ws, rfl, gr_ex uR.s e, a3 _ _ hxr, zp.mono a3, zq.mono a3, y1, hl, hm, hw, h1, h2, h3, h4, fun H4 e4 => k _ H4 (u2.h.trans (e.trans e4)) (.bl _)⟩
end
def pX (x : List Deed × List Int) : PyData := .tuple [deedsD x.1, intsD x.2]
theorem cut5 (ns : List Int) : cutD (ns.map PyData.int) none (some 5) = (ns.take 5).map PyData.int := (cutD_take (i := 5)).trans (by rw [List.map_take])
theorem flat_ints (ws : List Int) : ∀ d ∈ ws.map PyData.int, flatD d = true := fun d hd => by
  obtain ⟨x, _, rfl⟩ := List.mem_map.mp hd
  rfl
end
end Gt

namespace Gt
open PySem PySem.Spec PyProof.Rows L2 Evl Gs
local macro_rules | `(tactic| walk_at "ev1") => `(tactic| first
  | exact evd_ci | exact evd_cb | exact evd_cn | exact evd_cs
  | exact evd_vi rfl | exact evd_vb rfl | exact evd_vn rfl
  | exact evd_var rfl (by assumption)
  | exact evd_sumS (by assumption) rfl | exact evd_lenS (by assumption) rfl
  | apply evd_I0 | apply evd_B0 | apply evd_U
  | apply evd_ixT | apply evd_ixL
  | apply evd_chain
  | apply evd_max2 | apply evd_min2 | apply evd_min3
  | exact evd_len (evd_var rfl (by assumption)) | exact evd_lenT (evd_var rfl (by assumption)) | apply evd_len
  | refine evd_tup ?_
  | apply evd_eq | apply evd_ne | apply evd_eqB | apply evd_neB
  | apply evd_isi | refine evd_not ?_
  | apply evd_I
  | exact eva_nil | refine eva_cons ?_ ?_
  | refine evn_lst ?_ | refine evn_sl ?_ ?_ ?_ | refine evn_cat ?_ ?_ ?_ | refine evn_listOf ?_ | refine evn_revL ?_
  | exact evo_none | refine evo_some ?_
  | refine EvN.asD (evn_lst ?_) | refine EvN.asD (evn_sl ?_ ?_ ?_) | refine EvN.asD (evn_cat ?_ ?_ ?_) | refine EvN.asD (evn_listOf ?_) | refine EvN.asD (evn_revL ?_)
  | refine evt_test ?_ | refine evt_B ?_
  | exact kit_int_int | exact kit_int_bool | exact kit_list_list | exact kit_tuple_tuple | exact kit_bool_int | exact kit_bool_bool | exact kit_none_int | exact kit_str_int | exact kit_list_int | exact kit_tuple_int | exact kit_int_tuple | exact kit_none_tuple | exact kit_list_tuple | exact kit_str_tuple | exact kit_bool_tuple | exact kit_tuple_list | exact kit_none_list | exact kit_str_list | exact kit_int_list
  | (show EvD _ _ _ _; assumption) | (show atI _ _ = _; first | assumption | rfl) | (show SeqAt.shaped _ = true; first | assumption | rfl)
  | (show CMulW _ _; first | assumption | exact mul_ok (by omega) (by omega)) | (show CDivW _ _; first | assumption | exact div_lit (by decide +kernel) | exact div_ok (by omega) (by omega)) | (show (0 : Int) < _; omega) | (show CPow _ _; exact ⟨by decide, by decide, by decide⟩))
local macro_rules | `(tactic| walk_at "ev") => `(tactic| repeat' (walk_at "ev1"))

section
variable {P : Program} {w : World} {K : PySem.W.Frag} {mg : Str → Option Value} {base : Heap}
theorem ok_law {CBest : Addr} (TBest : Cls K CBest) (NBest : NaBest K CBest) {f : Addr} {fd : FuncData} (F : Fun K "law" "law" st_law f fd) (B : Blt mg) (h_Best : HasC P w K mg base CX0 1 CBest "Best" ps_Best___init__ (sp_Best CBest)) (h_Best_shows : HasM P w K mg base CX0 3 CBest "shows" ps_Best_shows (sp_Best_shows CBest)) (h__law_bent : Has P w K mg base CX0 1 "_law_bent" ps__law_bent sp__law_bent) (h__law_best : Has P w K mg base CX0 2 "_law_best" ps__law_best sp__law_best) (h__law_days : Has P w K mg base CX0 1 "_law_days" ps__law_days (sp__law_days K)) (h__law_dealt : Has P w K mg base CX0 1 "_law_dealt" ps__law_dealt sp__law_dealt) (h__law_room : Has P w K mg base CX0 1 "_law_room" ps__law_room (sp__law_room K)) (h__law_says : Has P w K mg base CX0 1 "_law_says" ps__law_says sp__law_says) (h_best : Has P w K mg base CX0 5 "best" ps_best (sp_best CBest)) : FnOk P w K mg base CX0 6 f fd ps_law (sp_law K) := by
  refine F.ok (N := N_law) sc_law (fun vs H Q E h => ?_) (fun cdv A outer s H vs Q E hr h => ?_)
  · obtain ⟨l, ns, rfl, _⟩ := h
    rfl
  · obtain ⟨l, ns, rfl, hS, hl, k⟩ := h
    have u := Up.refl (Ex.refl H)
    have bl := big_law
    have hS : Scr K H l ns := hS
    have nd := sc_law.nd
    refine ⟨_, (pss_cons (ps_set (i := 1) nd rfl (Or.inl rfl) (pe_f h__law_days (hr.mono (by decide)) (pa_cons (pv 0) pa_nil)))
  (pss_cons (ps_set (i := 2) nd rfl (Or.inl rfl) (pe_f h__law_room (hr.mono (by decide)) (pa_cons (pv 0) pa_nil)))
  (pss_cons (ps_set (i := 3) nd rfl (Or.inl rfl) (pe_f h_best (hr.mono (by decide)) (pa_cons (pv 1) (pa_cons (pv 2) pa_nil))))
  (pss_cons (ps_for PassesOwn.never rfl (pi_listK K (pe_op op_cat (pe_slice (sl_listK K) (pv 0) po_none (po_some pe_int)) (pe_slStepK K (pv 0) (by decide)))) (pg_name (i := 4) nd rfl (Or.inl rfl))
  (pss_cons (ps_setLc (i := 5) (own := [("_law_deed", 11)]) (by rfl) nd rfl rfl (sw_true rfl rfl rfl (by decide +kernel)) (pi_listK K (pe_fldK K (pv 3))) (blkOk_by (own := [("_law_deed", 11)]) (N := N_law) (sc := defScope st_law) (by decide +kernel)) (fun _ _ _ _ _ => (pg_name (i := 11) nd rfl (Or.inl rfl))) (fun _ _ _ _ _ => pts_nil) (fun _ _ _ _ _ => (pe_tup (pa_cons (pe_op op_add (pe_ix (ix_tupK K) (pv 11) pe_int (fun _ _ => rfl)) pe_int) (pa_cons (pe_op op_add (pe_ix (ix_tupK K) (pv 11) pe_int (fun _ _ => rfl)) pe_int) pa_nil)))))
  (pss_cons (ps_set (i := 6) nd rfl (Or.inl rfl) (pe_lst (pa_cons (pe_tup (pa_cons (pe_fldK K (pv 3)) (pa_cons (pe_fldK K (pv 3)) pa_nil))) (pa_cons (pe_tup (pa_cons (pe_fldK K (pv 3)) (pa_cons (pe_f h__law_bent (hr.mono (by decide)) (pa_cons (pe_fldK K (pv 3)) (pa_cons (pv 4) pa_nil))) pa_nil))) pa_nil))))
  (pss_cons (ps_set (i := 6) nd rfl (Or.inl rfl) (pe_op op_cat (pv 6) (pe_lst (pa_cons (pe_tup (pa_cons (pe_f h__law_dealt (hr.mono (by decide)) (pa_cons (pe_fldK K (pv 3)) (pa_cons (pv 4) pa_nil))) (pa_cons (pe_fldK K (pv 3)) pa_nil))) (pa_cons (pe_tup (pa_cons (pv 5) (pa_cons (pe_fldK K (pv 3)) pa_nil))) pa_nil)))))
  (pss_cons (ps_expr (pe_bm PySem.F.plainAttrs_list PySem.F.slot_list_append PySem.F.type_list_append mt_append (pv 6) (pa_cons (pe_tup (pa_cons (pe_lc (own := [("_law_day", 12)]) (by rfl) nd (pi_listK K (pv 1)) (blkOk_by (own := [("_law_day", 12)]) (N := N_law) (sc := defScope st_law) (by decide +kernel)) (fun _ _ _ _ _ => (pg_name (i := 12) nd rfl (Or.inl rfl))) (fun _ _ _ _ _ => pts_nil) (fun _ _ _ _ _ => (pe_tup (pa_cons pe_int (pa_cons pe_int pa_nil))))) (pa_cons (pe_fldK K (pv 3)) pa_nil))) pa_nil)))
  (pss_one (ps_for PassesOwn.never rfl (pi_listK K (pv 6)) (pg_tupK K (n := 2) (pgs_names (pg_name (i := 7) nd rfl (Or.inl rfl)) (pgs_names (pg_name (i := 8) nd rfl (Or.inl rfl)) pgs_done)))
  (pss_cons (ps_set (i := 9) nd rfl (Or.inl rfl) (pe_lst (pa_cons (pe_callTy (cb_listK K) (by rfl) B.list (by decide +kernel) (pa_cons (pv 7) pa_nil)) (pa_cons (pe_callTy (cb_listK K) (by rfl) B.list (by decide +kernel) (pa_cons (pv 8) pa_nil)) pa_nil))))
  (pss_cons (ps_set (i := 10) nd rfl (Or.inl rfl) (pe_c h_Best (hr.mono (by decide)) (pa_cons (pe_ix (ix_listK K) (pv 9) pe_int (fun _ _ => rfl)) (pa_cons (pe_ix (ix_listK K) (pv 9) pe_int (fun _ _ => rfl)) pa_nil))))
  (pss_cons (ps_expr (pe_bm PySem.F.plainAttrs_list PySem.F.slot_list_append PySem.F.type_list_append mt_append (pe_ix (ix_listK K) (pv 9) pe_int (fun _ _ => rfl)) (pa_cons (pe_tup (pa_cons pe_int (pa_cons pe_int pa_nil))) pa_nil)))
  (pss_cons (ps_expr (pe_bm PySem.F.plainAttrs_list PySem.F.slot_list_append PySem.F.type_list_append mt_append (pe_ix (ix_listK K) (pv 9) pe_int (fun _ _ => rfl)) (pa_cons pe_int pa_nil)))
  (pss_cons (ps_if (PW.pt (pw_or (pt_cmpR (op_neDK K hr.units) (pe_fldK K (pv 10)) (pv 7) (nomark _)) (pw_or1 (pt_cmpR (op_neDK K hr.units) (pe_fldK K (pv 10)) (pv 8) (nomark _)))))
  (pss_one (ps_ret pe_bl))
  pss_nil)
  (pss_one (ps_if (pt_not (pt_val (pe_f h__law_says (hr.mono (by decide)) (pa_cons (pe_m (pv 10) TBest h_Best_shows (hr.mono (by decide)) (pa_cons (pv 1) (pa_cons (pv 2) pa_nil))) (pa_cons (pe_f h__law_best (hr.mono (by decide)) (pa_cons (pv 1) (pa_cons (pv 2) (pa_cons (pv 7) (pa_cons (pv 8) pa_nil))))) pa_nil)))))
  (pss_one (ps_ret pe_bl))
  pss_nil))))))))))))))
  (pss_cons (ps_if (pt_not (pt_val (pe_f h__law_says (hr.mono (by decide)) (pa_cons (pe_m (pe_c h_Best (hr.mono (by decide)) (pa_cons (pe_lst (pa_cons (pe_tup (pa_cons pe_int (pa_cons pe_int pa_nil))) pa_nil)) (pa_cons (pe_lst (pa_cons pe_int pa_nil)) pa_nil))) TBest h_Best_shows (hr.mono (by decide)) (pa_cons (pe_lst (pa_cons (pe_tup (pa_cons pe_int (pa_cons pe_int (pa_cons pe_int (pa_cons pe_int pa_nil))))) pa_nil)) (pa_cons pe_int pa_nil))) (pa_cons pe_bl pa_nil)))))
  (pss_one (ps_ret pe_bl))
  pss_nil)
  (pss_one (ps_ret (pe_f h__law_says (hr.mono (by decide)) (pa_cons (pe_m (pe_c h_Best (hr.mono (by decide)) (pa_cons (pe_lst (pa_cons (pe_tup (pa_cons pe_int (pa_cons pe_int pa_nil))) pa_nil)) (pa_cons (pe_lst (pa_cons pe_int pa_nil)) pa_nil))) TBest h_Best_shows (hr.mono (by decide)) (pa_cons (pe_lst (pa_cons (pe_tup (pa_cons pe_int (pa_cons pe_int (pa_cons pe_int (pa_cons pe_int pa_nil))))) pa_nil)) (pa_cons pe_int pa_nil))) (pa_cons pe_bl pa_nil)))))))))), ?_⟩
    obtain ⟨ds, hds⟩ : ∃ ds, ds = lawDays ns := ⟨_, rfl⟩
    have dl := lawDays_law ns
    have dlen := lawDays_length ns hl
    obtain ⟨rm0, rm1⟩ := room_law ns
    rw [← hds] at dl dlen
    refine q_set (d := daysD ds) u.s (by rw [hds]; exact (evn_days hS hl rfl).asD) fun v1 H1 e1 z1 => ?_
    have u1 := u.data e1
    have hS1 := hS.mono u1.g
    generalize gr H H H1 = G1 at z1 u1 hS1
    refine q_setI (n := lawRoom ns) u1.s (evd_room hS1 rfl) fun H2 e2 => ?_
    have u2 := u1.scal e2
    generalize lawRoom ns = R at rm0 rm1
    have hI := law_ins dl dlen rm0 rm1
    refine z_seq (call_best u2 (eva_cons (evd_var rfl z1) (eva_cons (evd_vi rfl) eva_nil)) hI fun x dx p q xs G3 H3 u3 g3 bo hx0 hp0 hq0 => ?_)
    have B := hI.best
    generalize (bestF R ds 0 0).1 = m at bo B
    generalize (bestF R ds 0 0).2 = ws at bo B
    have lm := B.lm
    have lw := B.lw
    obtain ⟨Gr, uR, gR, hx, zp, zq⟩ := bestAt_own bo u3 hx0 hp0 hq0
    have z1 := z1.mono (g3.trans gR)
    have hS3 := hS1.mono (g3.trans gR)
    have zp : Ds Gr (.ref p) (.list (m.map deedD)) := zp
    have zq : Ds Gr (.ref q) (.list (ws.map PyData.int)) := zq
    have z1 : Ds Gr v1 (.list (ds.map dayD)) := z1
    have R10 : R.natAbs < 10 * big := by have := hI.r1; omega
    have gd := hI.good
    have sd := hI.small
    have stl := step_length ns (a := 5) (c := 9) (by decide)
    have fd : ∀ {σ : L2.St} {G : Hp}, σ[3]? = some (some (.ref x)) → Ex Gr G → EvD (tFld K (tVar 3) "dealing") σ G (deedsD m) := fun h g => evd_fld TBest NBest.dealing h (g _ _ hx) (bestFs_d p q) (zp.mono g)
    have fw : ∀ {σ : L2.St} {G : Hp}, σ[3]? = some (some (.ref x)) → Ex Gr G → EvD (tFld K (tVar 3) "worths") σ G (intsD ws) := fun h g => evd_fld TBest NBest.worths h (g _ _ hx) (bestFs_w p q) (zq.mono g)
    clear hx hx0 hp0 hq0 gR bo
    -- what holds of every answer made by hand
    obtain ⟨pairs, hpairs⟩ : ∃ f : Int → List (List Deed × List Int), f = fun c => [(m, ws), (m, bentF ws c), (dealtF m c, ws), (m.map (fun d => (d.1 + 1, d.2 + 1)), ws), (ds.map (fun _ => (0, 0)), ws)] := ⟨_, rfl⟩
    have hP : ∀ c, ∀ y ∈ pairs c, y.1.length ≤ 1000 ∧ y.2.length ≤ 1000 ∧ (∀ b ∈ y.1, smallDeed b) ∧ (∀ w ∈ y.2, w.natAbs < 10 * big) := by
      intro c y hy
      have bls := bent_length ws c
      have dls := dealt_length m c
      have w10 : ∀ w ∈ ws, w.natAbs < 10 * big := fun w hw => by have := B.w1 w hw; omega
      have md : ∀ b ∈ m, (0 ≤ b.1 ∧ b.1 ≤ 10 ^ 25) ∧ (0 ≤ b.2 ∧ b.2 ≤ 10 ^ 25) := by
        have key : ∀ (L : List Day) (X : Int) (M : List Deed), (∀ d ∈ L, lawDay d) → Feas R L X M → ∀ b ∈ M, (0 ≤ b.1 ∧ b.1 ≤ 10 ^ 25) ∧ (0 ≤ b.2 ∧ b.2 ≤ 10 ^ 25) := by
          intro L
          induction L with
          | nil => intro X M _ f b hb; cases M with
            | nil => cases hb
            | cons _ _ => cases f
          | cons d L ih =>
            intro X M h f b hb
            cases M with
            | nil => cases f
            | cons b0 M =>
              obtain ⟨f1, f2⟩ := f
              obtain ⟨⟨a1, a2⟩, ⟨a3, a4⟩, a5, a6⟩ := okDeed_iff.mp f1
              obtain ⟨_, ⟨_, c1⟩, _, ⟨_, c2⟩⟩ := h d List.mem_cons_self
              rcases List.mem_cons.mp hb with rfl | hb
              · exact ⟨⟨a1, by omega⟩, ⟨a3, by omega⟩⟩
              · exact ih _ M (fun y hy => h y (List.mem_cons_of_mem _ hy)) f2 b hb
        exact key ds 0 m dl B.fe
      rw [hpairs] at hy
      simp only [List.mem_cons, List.not_mem_nil, or_false] at hy
      rcases hy with rfl | rfl | rfl | rfl | rfl
      · exact ⟨by show m.length ≤ 1000; omega, by show ws.length ≤ 1000; omega, B.ds, w10⟩
      · exact ⟨by show m.length ≤ 1000; omega, by show (bentF ws c).length ≤ 1000; omega, B.ds, bent_all (P := fun w => w.natAbs < big) B.w1 (fun w h => by omega) (fun w h => by omega) (fun w h => by omega) (fun w h => by omega)⟩
      · refine ⟨by show (dealtF m c).length ≤ 1000; omega, by show ws.length ≤ 1000; omega, dealt_all md (fun w h => ⟨by omega, by omega⟩) (fun w y h hy => ⟨⟨?_, ?_⟩, ⟨?_, ?_⟩⟩), w10⟩
        · show (w.1 + y).natAbs < big; omega
        · show w.2.natAbs < big; omega
        · show w.1.natAbs < big; omega
        · show (w.2 + y).natAbs < big; omega
      · refine ⟨by show (m.map _).length ≤ 1000; rw [List.length_map]; omega, by show ws.length ≤ 1000; omega, fun b hb => ?_, w10⟩
        obtain ⟨y, hy, rfl⟩ := List.mem_map.mp hb
        have := md y hy
        exact ⟨by show (y.1 + 1).natAbs < big; omega, by show (y.2 + 1).natAbs < big; omega⟩
      · refine ⟨by show (ds.map _).length ≤ 1000; rw [List.length_map]; omega, by show ws.length ≤ 1000; omega, fun b hb => ?_, w10⟩
        obtain ⟨y, hy, rfl⟩ := List.mem_map.mp hb
        exact ⟨by show (0 : Int).natAbs < big; omega, by show (0 : Int).natAbs < big; omega⟩
    refine q_for uR.s (src_list (ds := (ns.take 5 ++ stepI ns 5 9).map PyData.int) (j := 4) (EvN.asD (EvN.to (evn_cat (EvN.asD (evn_slS hS3 rfl evo_none (evo_some evd_ci))) (EvN.asD (evn_stepS hS3 rfl)) (by rw [cut5]; simp only [List.length_map, List.length_take]; omega)) (by rw [cut5, List.map_append])))) fun H4 e4 =>
      ⟨fun i σ' G' H' => ∃ r4 r5 r6 r7 r8 r9 r10 r11 r12, σ' = [some (.ref l), some v1, some (.int R), some (.ref x), r4, r5, r6, r7, r8, r9, r10, r11, r12] ∧ Up H H G' H' ∧ Ex (gr Gr H3 H4) G', ?_, ?_, ?_, ?_⟩
    · exact ⟨none, none, none, none, none, none, none, none, none, rfl, uR.data e4, Ex.refl _⟩
    · rintro i σ' G' H' ⟨_, _, _, _, _, _, _, _, _, _, u', g'⟩
      exact ⟨g', u'.s⟩
    · rintro i σ' G' H' H5 σ5 hi ⟨r4, r5, r6, r7, r8, r9, r10, r11, r12, rfl, u', g'⟩ e5 ⟨v4, d4, hd4, z4, rfl⟩
      obtain ⟨c, _, rfl⟩ := map_get hd4
      cases z4
      have u5 := u'.scal e5
      have g5 : Ex Gr G' := (ex_gr uR.s).trans g'
      refine q_set (d := deedsD (m.map fun d => (d.1 + 1, d.2 + 1))) u5.s (EvN.asD (EvN.to (evn_lcL (ds := m.map deedD) (dX fun d => (d.1 + 1, d.2 + 1)) (fd rfl g5) (by rw [List.length_map]; omega) (fun _ => rfl) fun Gx y d g hd zd => ?_) (by rw [List.map_map, List.map_map]; rfl))) fun v5 H6 e6 z5 => ?_
      · obtain ⟨y, _, rfl⟩ := List.mem_map.mp hd
        have zd : Ds Gx _ (.tuple [.int y.1, .int y.2]) := zd
        show EvD _ _ _ (.tuple [.int (y.1 + 1), .int (y.2 + 1)])
        exact evd_tup (eva_cons (evd_I0 (evd_ixT (evd_var rfl zd) evd_ci rfl) evd_ci) (eva_cons (evd_I0 (evd_ixT (evd_var rfl zd) evd_ci rfl) evd_ci) eva_nil))
      have u6 := u5.data e6
      have g6 := g5.trans (ex_gr (H2 := H6) u5.s)
      have gg6 := g'.trans (ex_gr (H2 := H6) u5.s)
      generalize gr G' H5 H6 = G6 at u6 g6 gg6 z5
      refine q_set (d := .list ([(m, ws), (m, bentF ws c)].map pX)) u6.s (EvN.asD (evn_lst (eva_cons (evd_tup (eva_cons (fd rfl g6) (eva_cons (fw rfl g6) eva_nil))) (eva_cons (evd_tup (eva_cons (fd rfl g6) (eva_cons (EvN.asD (evn_call (eva_cons (fw rfl g6) (eva_cons (evd_vi rfl) eva_nil)) ⟨ws, c, rfl, by omega, rfl⟩)) eva_nil))) eva_nil)))) fun v6 H7 e7 z6 => ?_
      have u7 := u6.data e7
      have g7 := g6.trans (ex_gr (H2 := H7) u6.s)
      have gg7 := gg6.trans (ex_gr (H2 := H7) u6.s)
      have z5 := z5.mono (ex_gr (H2 := H7) u6.s)
      generalize gr G6 H6 H7 = G7 at u7 g7 gg7 z5 z6
      refine q_setN (ds := [(m, ws), (m, bentF ws c)].map pX ++ [(dealtF m c, ws), (m.map (fun d => (d.1 + 1, d.2 + 1)), ws)].map pX) u7.s (evn_cat (evd_var rfl z6) (EvN.asD (evn_lst (eva_cons (evd_tup (eva_cons (EvN.asD (evn_call (eva_cons (fd rfl g7) (eva_cons (evd_vi rfl) eva_nil)) ⟨m, c, rfl, by omega, rfl⟩)) (eva_cons (fw rfl g7) eva_nil))) (eva_cons (evd_tup (eva_cons (evd_var rfl z5) (eva_cons (fw rfl g7) eva_nil))) eva_nil)))) (by simp)) fun pa as H8 e8 hpa h8 za => ?_
      have gpa : G7 pa = none := none_of_ex u7.s hpa
      have h0pa : H pa = none := none_of_ex u7.h hpa
      have u8 := (u7.data e8).sub (G' := but (gr G7 H7 H8) pa) (ex_but (u7.data e8).g (none_of_ex (Ex.refl H) h0pa)) but_ex
      have g8 : Ex G7 (but (gr G7 H7 H8) pa) := ex_but (ex_gr u7.s) gpa
      have gpa8 : but (gr G7 H7 H8) pa pa = none := but_self
      have g8r := g7.trans g8
      have gg8 := gg7.trans g8
      generalize but (gr G7 H7 H8) pa = G8 at u8 g8r gg8 gpa8 za
      refine q_app (d := pX (ds.map (fun _ => (0, 0)), ws)) u8.s rfl h8 (evd_tup (eva_cons (EvN.asD (EvN.to (evn_lcL (ds := ds.map dayD) (fun _ => deedD (0, 0)) (evd_var rfl (z1.mono g8r)) (by rw [List.length_map]; omega) (fun _ => rfl) fun Gx y d g hd zd => evd_tup (eva_cons evd_ci (eva_cons evd_ci eva_nil))) (es := (ds.map fun _ => ((0, 0) : Deed)).map deedD) (by rw [List.map_map, List.map_map]; rfl))) (eva_cons (fw rfl g8r) eva_nil))) (by rw [za.1]; simp) fun v9 H9 e9 z9 => ?_
      have gp9 : gr G8 H8 H9 pa = none := (gr_old h8).trans gpa8
      have u9 := (u8.data e9).mut (o := .lst (as ++ [v9])) gp9 h0pa
      have g9 := ex_gr (G := G8) (H2 := H9) u8.s
      have zall : DsA (gr G8 H8 H9) (as ++ [v9]) ((pairs c).map pX) := by
        rw [hpairs]
        exact (za.mono g9).append (.cons z9 .nil)
      have uA := u9.adopt gp9 h0pa upd_same
      have zA := adopt_ds gp9 zall
      have gA : Ex G8 (upd (gr G8 H8 H9) pa (.lst (as ++ [v9]))) := g9.trans (Ex.new gp9)
      have gAr := g8r.trans gA
      have ggA := gg8.trans gA
      have hPc := hP c
      generalize upd (gr G8 H8 H9) pa (.lst (as ++ [v9])) = GA at uA zA gAr ggA
      generalize upd H9 pa (.lst (as ++ [v9])) = HA at uA
      generalize pairs c = pr at zA hPc
      refine z_for uA.s (src_listT (js := [7, 8]) (m := 2) (ds := pr.map pX) (evd_var rfl zA) rfl (fun d hd => by
        obtain ⟨y, _, rfl⟩ := List.mem_map.mp hd
        exact ⟨_, rfl, rfl⟩)) fun H10 e10 =>
        ⟨fun n σ' G' H' => ∃ r7 r8 r9 r10, σ' = [some (.ref l), some v1, some (.int R), some (.ref x), some (.int c), some v5, some (.ref pa), r7, r8, r9, r10, r11, r12] ∧ Up H H G' H' ∧ Ex (gr GA HA H10) G', ?_, ?_, ?_, ?_⟩
      · exact ⟨r7, r8, r9, r10, rfl, uA.data e10, Ex.refl _⟩
      · rintro n σ' G' H' ⟨_, _, _, _, _, u', g'⟩
        exact ⟨g', u'.s⟩
      · rintro n σ' G' H' H11 σ11 hn ⟨r7, r8, r9, r10, rfl, u', g'⟩ e11 ⟨vs, es, hd, zz, gs⟩
        obtain ⟨⟨M, W⟩, hmw, hes⟩ := map_get hd
        obtain ⟨lM, lW, sM, sW⟩ := hPc _ (List.mem_of_getElem? hmw)
        have lM : M.length ≤ 1000 := lM
        have lW : W.length ≤ 1000 := lW
        have sM : ∀ b ∈ M, smallDeed b := sM
        have sW : ∀ w ∈ W, w.natAbs < 10 * big := sW
        cases hes
        obtain ⟨v7, v8, rfl, z7, z8⟩ := zz.two
        cases gs with
        | cons gs =>
        cases gs with
        | cons gs =>
        cases gs
        have u11 := u'.data e11
        have g11 := g'.trans (ex_gr (H2 := H11) u'.s)
        have g11r : Ex Gr (gr G' H' H11) := gAr.trans ((ex_gr uA.s).trans g11)
        have z7 : Ds (gr G' H' H11) v7 (.list (M.map deedD)) := z7
        have z8 : Ds (gr G' H' H11) v8 (.list (W.map PyData.int)) := z8
        generalize gr G' H' H11 = G11 at u11 g11 g11r z7 z8
        refine q_two (i := 9) (ds := M.map deedD) (es := W.map PyData.int) u11 (flat_ints W) (evn_listOf (evd_var rfl z7)) (evn_listOf (evd_var rfl z8)) fun p1 p2 ph xs1 xs2 Gn H12 u12 g12 m1 m2 m3 ne12 np1 np2 k1 k2 k3 h1 h2 h3 zx1 zx2 => ?_
        have zx2 := zx2.ofInts
        subst zx2
        have b1 : H p1 = none := none_of_ex u11.h m1
        have b2 : H p2 = none := none_of_ex u11.h m2
        have b3 : H ph = none := none_of_ex u11.h m3
        have ua := u12.adopt k1 b1 h1
        have k2a : (upd Gn p1 (.lst xs1)) p2 = none := by rw [upd_ne ne12.symm]; exact k2
        have ub := ua.adopt k2a b2 h2
        have k3b : (upd (upd Gn p1 (.lst xs1)) p2 (.lst (W.map V.int))) ph = none := by rw [upd_ne np2, upd_ne np1]; exact k3
        have uc := ub.adopt k3b b3 h3
        have x1 : Ex Gn (upd Gn p1 (.lst xs1)) := Ex.new k1
        have x2 := Ex.new (o := .lst (W.map V.int)) k2a
        have x3 := Ex.new (o := .lst [.ref p1, .ref p2]) k3b
        have zd1 : Ds (upd (upd Gn p1 (.lst xs1)) p2 (.lst (W.map V.int))) (.ref p1) (deedsD M) := (adopt_ds k1 zx1).mono x2
        have zd2 : Ds (upd (upd Gn p1 (.lst xs1)) p2 (.lst (W.map V.int))) (.ref p2) (intsD W) := adopt_ds k2a (.ints W)
        have zh : Ds (upd (upd (upd Gn p1 (.lst xs1)) p2 (.lst (W.map V.int))) ph (.lst [.ref p1, .ref p2])) (.ref ph) (.list [deedsD M, intsD W]) := adopt_ds k3b (.cons zd1 (.cons zd2 .nil))
        have q1 : (upd (upd (upd Gn p1 (.lst xs1)) p2 (.lst (W.map V.int))) ph (.lst [.ref p1, .ref p2])) p1 = some (.lst xs1) := by rw [upd_ne np1.symm, upd_ne ne12, upd_same]
        have q2 : (upd (upd (upd Gn p1 (.lst xs1)) p2 (.lst (W.map V.int))) ph (.lst [.ref p1, .ref p2])) p2 = some (.lst (W.map V.int)) := by rw [upd_ne np2.symm, upd_same]
        have q3 : (upd (upd (upd Gn p1 (.lst xs1)) p2 (.lst (W.map V.int))) ph (.lst [.ref p1, .ref p2])) ph = some (.lst [.ref p1, .ref p2]) := upd_same
        have x13 := x1.trans (x2.trans x3)
        generalize (upd (upd (upd Gn p1 (.lst xs1)) p2 (.lst (W.map V.int))) ph (.lst [.ref p1, .ref p2])) = Gc at uc zh q1 q2 q3 x13
        refine z_seq (made_Best uc (m := M) (ws := W) (eva_cons (evd_ixL (evd_var rfl zh) evd_ci rfl) (eva_cons (evd_ixL (evd_var rfl zh) evd_ci rfl) eva_nil)) fun xa dxa pA qA ys G13 H13 u13 g13 bo hxa hpA hqA => ?_)
        have q1 := g13 _ _ q1
        have q2 := g13 _ _ q2
        have q3 := g13 _ _ q3
        have o1 : p1 ≠ xa := fun z => by rw [z, bo.gx] at q1; cases q1
        have o2 : p1 ≠ pA := fun z => by rw [z, bo.gp] at q1; cases q1
        have o3 : p1 ≠ qA := fun z => by rw [z, bo.gq] at q1; cases q1
        have o4 : p2 ≠ xa := fun z => by rw [z, bo.gx] at q2; cases q2
        have o5 : p2 ≠ pA := fun z => by rw [z, bo.gp] at q2; cases q2
        have o6 : p2 ≠ qA := fun z => by rw [z, bo.gq] at q2; cases q2
        have gn0 : Ex Gn (but (but (but G13 p1) p2) ph) := ex_but (ex_but (ex_but (x13.trans g13) k1) k2) k3
        have gs0 : Ex (but (but (but G13 p1) p2) ph) G13 := but_ex.trans (but_ex.trans but_ex)
        have u14 := u13.sub (u12.g.trans gn0) gs0
        have n1 : (but (but (but G13 p1) p2) ph) p1 = none := by rw [but_ne np1.symm, but_ne ne12, but_self]
        have n2 : (but (but (but G13 p1) p2) ph) p2 = none := by rw [but_ne np2.symm, but_self]
        have n3 : (but (but (but G13 p1) p2) ph) ph = none := but_self
        have bo2 : BestAt CBest (but (but (but G13 p1) p2) ph) H13 xa dxa pA qA ys M W := ⟨bo.obj, bo.dl, bo.wl, bo.items.flat (flat_deeds M) (fun c zs hc => by
            have c1 : c ≠ p1 := fun z => by rw [z, q1] at hc; cases hc
            have c2 : c ≠ p2 := fun z => by rw [z, q2] at hc; cases hc
            have c3 : c ≠ ph := fun z => by rw [z, q3] at hc; cases hc
            rw [but_ne c3, but_ne c2, but_ne c1]; exact hc), none_of_ex gs0 bo.gx, none_of_ex gs0 bo.gp, none_of_ex gs0 bo.gq, bo.ne⟩
        have s1 := u13.s _ _ q1
        have s2 := u13.s _ _ q2
        have s3 := u13.s _ _ q3
        have z7 := z7.mono (g12.trans gn0)
        have z8 := z8.mono (g12.trans gn0)
        have g14r := g11r.trans (g12.trans gn0)
        have gg14 := g11.trans (g12.trans gn0)
        generalize (but (but (but G13 p1) p2) ph) = G14 at u14 n1 n2 n3 bo2 z7 z8 g14r gg14
        have ly : xs1.length < 100000 := by rw [zx1.1, List.length_map]; omega
        refine q_appIx (d := deedD (0, 0)) u14.s rfl s3 (atI_nat (j := 0) rfl) s1 (evd_tup (eva_cons evd_ci (eva_cons evd_ci eva_nil))) ly fun v15 H15 e15 z15 => ?_
        have bo3 := bestAt_other (l := p1) (o := .lst (xs1 ++ [v15])) (bestAt_data bo2 u14.s e15) o1 o2 o3
        have u15 := (u14.data e15).mut (l := p1) (o := .lst (xs1 ++ [v15])) ((gr_old s1).trans n1) b1
        have n2' : gr G14 H13 H15 p2 = none := (gr_old s2).trans n2
        have t2 : upd H15 p1 (.lst (xs1 ++ [v15])) p2 = some (.lst (W.map V.int)) := by rw [upd_ne ne12.symm]; exact e15 _ _ s2
        have t3 : upd H15 p1 (.lst (xs1 ++ [v15])) ph = some (.lst [.ref p1, .ref p2]) := by rw [upd_ne np1]; exact e15 _ _ s3
        have g15 := ex_gr (G := G14) (H2 := H15) u14.s
        have z7 := z7.mono g15
        have z8 := z8.mono g15
        have g15r := g14r.trans g15
        have gg15 := gg14.trans g15
        generalize gr G14 H13 H15 = G15 at u15 n2' bo3 z7 z8 g15r gg15
        generalize upd H15 p1 (.lst (xs1 ++ [v15])) = H16 at u15 t2 t3 bo3
        refine q_appIx (d := .int 0) u15.s rfl t3 (atI_nat (j := 1) rfl) t2 evd_ci (by rw [List.length_map]; omega) fun v16 H17 e17 z16 => ?_
        have bo4 := bestAt_other (l := p2) (o := .lst (W.map V.int ++ [v16])) (bestAt_scal bo3 e17) o4 o5 o6
        have u17 := (u15.scal e17).mut (l := p2) (o := .lst (W.map V.int ++ [v16])) n2' b2
        generalize upd H17 p2 (.lst (W.map V.int ++ [v16])) = H18 at u17 bo4
        obtain ⟨Gs, uS, gS, hxs, zps, zqs⟩ := bestAt_own bo4 u17 hxa hpA hqA
        have z7s := z7.mono gS
        have z8s := z8.mono gS
        have z1s := z1.mono (g15r.trans gS)
        have shM := shaped_of 2 (plain_deeds M)
        have eM := eqv_self 2 (plain_deeds M)
        have shW := shaped_of 1 (plain_ints W)
        have eW := eqv_self 1 (plain_ints W)
        refine q_if1 (b := false) uS.s (et_is (et_or (a := false) (b := false) (evt_test (EvD.to (evd_neD (d := deedsD M) (e := deedsD M) (evd_fld TBest NBest.dealing rfl hxs (bestFs_d pA qA) zps) (evd_var rfl z7s) shM shM) (by rw [eM]; rfl))) fun _ => evt_test (EvD.to (evd_neD (d := intsD W) (e := intsD W) (evd_fld TBest NBest.worths rfl hxs (bestFs_w pA qA) zqs) (evd_var rfl z8s) shW shW) (by rw [show PyData.eqv (intsD W) (intsD W) = true from eW]; rfl))) rfl) (fun h => nomatch h) fun _ H19 e19 => ?_
        have u19 := uS.scal e19
        refine z_if1 (b := false) u19.s (et_not (a := true) (evt_B (EvD.to (evd_call (eva_cons (evd_shows (l := ds) (R := R) rfl hxs zps zqs (eva_cons (evd_var rfl z1s) (eva_cons (evd_vi rfl) eva_nil)) (by omega) (by omega) (by omega) sd sM R10 sW) (eva_cons (evd_call (eva_cons (evd_var rfl z1s) (eva_cons (evd_vi rfl) (eva_cons (evd_var rfl z7s) (eva_cons (evd_var rfl z8s) eva_nil)))) ⟨ds, R, M, W, rfl, by omega, by omega, by omega, gd, sd, sM, rm0, R10, sW, rfl⟩) eva_nil)) ⟨showsF ds R M W, showsF ds R M W, rfl, rfl⟩) (by rw [decide_eq_true rfl])))) (fun h => nomatch h) fun _ H20 e20 => ?_
        exact ⟨Gs, _, _, _, _, rfl, u19.scal e20, gg15.trans gS⟩
      · rintro σ' G' H' ⟨r7, r8, r9, r10, rfl, u', g'⟩
        exact ⟨G', _, _, _, _, _, _, _, _, _, rfl, u', ggA.trans ((ex_gr uA.s).trans g')⟩
    · rintro σ' G' H' ⟨r4, r5, r6, r7, r8, r9, r10, r11, r12, rfl, u', g'⟩
      have d1 : ∀ x ∈ [((4, 2, 9, 1) : Day)], smallDay x := fun x hx => by
        rw [List.mem_singleton] at hx
        subst hx
        exact ⟨by show (4 : Int).natAbs < big; omega, by show (2 : Int).natAbs < big; omega, by show (9 : Int).natAbs < big; omega, by show (1 : Int).natAbs < big; omega⟩
      have d2 : ∀ x ∈ [((2, 1) : Deed)], smallDeed x := fun x hx => by
        rw [List.mem_singleton] at hx
        subst hx
        exact ⟨by show (2 : Int).natAbs < big; omega, by show (1 : Int).natAbs < big; omega⟩
      have d3 : ∀ x ∈ [((1, 1) : Deed)], smallDeed x := fun x hx => by
        rw [List.mem_singleton] at hx
        subst hx
        exact ⟨by show (1 : Int).natAbs < big; omega, by show (1 : Int).natAbs < big; omega⟩
      have d4 : ∀ w ∈ [(4 : Int)], w.natAbs < 10 * big := fun w hw => by
        rw [List.mem_singleton] at hw
        subst hw
        show (4 : Int).natAbs < _
        omega
      have e1 : showsF [(4, 2, 9, 1)] 1 [(2, 1)] [4] = false := by decide +kernel
      have e2 : showsF [(4, 2, 9, 1)] 0 [(1, 1)] [4] = true := by decide +kernel
      refine q_if1 (b := false) u'.s (et_not (a := true) (evt_B (EvD.to (evd_call (eva_cons (evd_showsNew (l := [(4, 2, 9, 1)]) (R := 1) (m := [(2, 1)]) (ws := [4]) (eva_cons (EvN.asD (evn_lst (eva_cons (evd_tup (eva_cons evd_ci (eva_cons evd_ci eva_nil))) eva_nil))) (eva_cons (EvN.asD (evn_lst (eva_cons evd_ci eva_nil))) eva_nil)) (eva_cons (EvN.asD (evn_lst (eva_cons (evd_tup (eva_cons evd_ci (eva_cons evd_ci (eva_cons evd_ci (eva_cons evd_ci eva_nil))))) eva_nil))) (eva_cons evd_ci eva_nil)) (by simp) (by simp) (by simp) d1 d2 (by show (1 : Int).natAbs < _; omega) d4) (eva_cons evd_cb eva_nil)) ⟨_, false, rfl, rfl⟩) (by rw [e1]; rfl)))) (fun h => nomatch h) fun _ H6 e6 => ?_
      refine z_ret (d := .bool true) (u'.scal e6).s (EvD.to (evd_call (eva_cons (evd_showsNew (l := [(4, 2, 9, 1)]) (R := 0) (m := [(1, 1)]) (ws := [4]) (eva_cons (EvN.asD (evn_lst (eva_cons (evd_tup (eva_cons evd_ci (eva_cons evd_ci eva_nil))) eva_nil))) (eva_cons (EvN.asD (evn_lst (eva_cons evd_ci eva_nil))) eva_nil)) (eva_cons (EvN.asD (evn_lst (eva_cons (evd_tup (eva_cons evd_ci (eva_cons evd_ci (eva_cons evd_ci (eva_cons evd_ci eva_nil))))) eva_nil))) (eva_cons evd_ci eva_nil)) (by simp) (by simp) (by simp) d1 d3 (by show (0 : Int).natAbs < _; omega) d4) (eva_cons evd_cb eva_nil)) ⟨_, true, rfl, rfl⟩) (by rw [e2]; rfl)) fun v H2 e z => ?_
      cases z
      exact k H2
end
end Gt

namespace Gt
open PySem PySem.Spec PyProof.Rows L2 Evl Gs
theorem all_mk {l : PySem.W.OpenLaw} {w : World} {K : PySem.W.Frag} {h : Heap} {mg : Str → Option Value} {fa f1 f2 f3 f4 f5 f6 f7 f8 f9 f10 f11 f12 f13 f14 f15 f16 f17 f18 f19 f20 f21 f22 f23 f24 f25 f26 f27 f28 CBest CWorths : Addr} (X : K.In h) (G : h.Ns mainGlobals mg) (hfa : mg "law" = some (.ref fa))
    {od1 an1 od2 an2 od3 an3 od4 an4 od5 an5 od6 an6 od7 an7 od8 an8 od9 an9 od10 an10 od11 an11 od12 an12 od13 an13 od14 an14 od15 an15 od16 an16 od17 an17 od18 an18 od19 an19 od20 an20 od21 an21 od22 an22 od23 an23 od24 an24 od25 an25 od26 an26 od27 an27 od28 an28 : Option Addr} {sl1 sl2 sl3 sl4 sl5 sl6 sl7 sl8 sl9 sl10 sl11 sl12 sl13 sl14 sl15 sl16 sl17 sl18 sl19 sl20 sl21 sl22 sl23 sl24 sl25 sl26 sl27 sl28 : Array (Option Value)} {oc1 kV1 dc1 pm1 cd1 ct1 oc2 kV2 dc2 pm2 cd2 ct2 oc3 kV3 dc3 pm3 cd3 ct3 oc4 kV4 dc4 pm4 cd4 ct4 oc5 kV5 dc5 pm5 cd5 ct5 oc6 kV6 dc6 pm6 cd6 ct6 oc7 kV7 dc7 pm7 cd7 ct7 oc8 kV8 dc8 pm8 cd8 ct8 oc9 kV9 dc9 pm9 cd9 ct9 oc10 kV10 dc10 pm10 cd10 ct10 oc11 kV11 dc11 pm11 cd11 ct11 oc12 kV12 dc12 pm12 cd12 ct12 oc13 kV13 dc13 pm13 cd13 ct13 oc14 kV14 dc14 pm14 cd14 ct14 oc15 kV15 dc15 pm15 cd15 ct15 oc16 kV16 dc16 pm16 cd16 ct16 oc17 kV17 dc17 pm17 cd17 ct17 oc18 kV18 dc18 pm18 cd18 ct18 oc19 kV19 dc19 pm19 cd19 ct19 oc20 kV20 dc20 pm20 cd20 ct20 oc21 kV21 dc21 pm21 cd21 ct21 oc22 kV22 dc22 pm22 cd22 ct22 oc23 kV23 dc23 pm23 cd23 ct23 oc24 kV24 dc24 pm24 cd24 ct24 oc25 kV25 dc25 pm25 cd25 ct25 oc26 kV26 dc26 pm26 cd26 ct26 oc27 kV27 dc27 pm27 cd27 ct27 oc28 kV28 dc28 pm28 cd28 ct28 : Value}
    (a1 : PySem.W.nsIn K mainGlobals "bound_of" = some (some (.ref f1)))
    (l1 : K.lookup f1 = some ⟨oc1, od1, .func (PySem.W.fnOf "bound_of" "bound_of" (defArgs st_bound_of) (defBody st_bound_of) (defScope st_bound_of) .none kV1 dc1 pm1 an1 cd1 ct1), sl1⟩)
    (c1 : PySem.W.codeIn K cd1 "bound_of" = true)
    (k1 : PySem.W.keepIn K (.ref f1) = true)
    (a2 : PySem.W.nsIn K mainGlobals "nights" = some (some (.ref f2)))
    (l2 : K.lookup f2 = some ⟨oc2, od2, .func (PySem.W.fnOf "nights" "nights" (defArgs st_nights) (defBody st_nights) (defScope st_nights) .none kV2 dc2 pm2 an2 cd2 ct2), sl2⟩)
    (c2 : PySem.W.codeIn K cd2 "nights" = true)
    (k2 : PySem.W.keepIn K (.ref f2) = true)
    (a3 : PySem.W.nsIn K mainGlobals "first_fault" = some (some (.ref f3)))
    (l3 : K.lookup f3 = some ⟨oc3, od3, .func (PySem.W.fnOf "first_fault" "first_fault" (defArgs st_first_fault) (defBody st_first_fault) (defScope st_first_fault) .none kV3 dc3 pm3 an3 cd3 ct3), sl3⟩)
    (c3 : PySem.W.codeIn K cd3 "first_fault" = true)
    (k3 : PySem.W.keepIn K (.ref f3) = true)
    (a4 : PySem.W.nsIn K mainGlobals "gain_of" = some (some (.ref f4)))
    (l4 : K.lookup f4 = some ⟨oc4, od4, .func (PySem.W.fnOf "gain_of" "gain_of" (defArgs st_gain_of) (defBody st_gain_of) (defScope st_gain_of) .none kV4 dc4 pm4 an4 cd4 ct4), sl4⟩)
    (c4 : PySem.W.codeIn K cd4 "gain_of" = true)
    (k4 : PySem.W.keepIn K (.ref f4) = true)
    (a5 : PySem.W.nsIn K mainGlobals "_law_bent" = some (some (.ref f5)))
    (l5 : K.lookup f5 = some ⟨oc5, od5, .func (PySem.W.fnOf "_law_bent" "_law_bent" (defArgs st__law_bent) (defBody st__law_bent) (defScope st__law_bent) .none kV5 dc5 pm5 an5 cd5 ct5), sl5⟩)
    (c5 : PySem.W.codeIn K cd5 "_law_bent" = true)
    (k5 : PySem.W.keepIn K (.ref f5) = true)
    (a6 : PySem.W.nsIn K mainGlobals "_law_bound" = some (some (.ref f6)))
    (l6 : K.lookup f6 = some ⟨oc6, od6, .func (PySem.W.fnOf "_law_bound" "_law_bound" (defArgs st__law_bound) (defBody st__law_bound) (defScope st__law_bound) .none kV6 dc6 pm6 an6 cd6 ct6), sl6⟩)
    (c6 : PySem.W.codeIn K cd6 "_law_bound" = true)
    (k6 : PySem.W.keepIn K (.ref f6) = true)
    (a7 : PySem.W.nsIn K mainGlobals "_law_can" = some (some (.ref f7)))
    (l7 : K.lookup f7 = some ⟨oc7, od7, .func (PySem.W.fnOf "_law_can" "_law_can" (defArgs st__law_can) (defBody st__law_can) (defScope st__law_can) .none kV7 dc7 pm7 an7 cd7 ct7), sl7⟩)
    (c7 : PySem.W.codeIn K cd7 "_law_can" = true)
    (k7 : PySem.W.keepIn K (.ref f7) = true)
    (a8 : PySem.W.nsIn K mainGlobals "_law_best" = some (some (.ref f8)))
    (l8 : K.lookup f8 = some ⟨oc8, od8, .func (PySem.W.fnOf "_law_best" "_law_best" (defArgs st__law_best) (defBody st__law_best) (defScope st__law_best) .none kV8 dc8 pm8 an8 cd8 ct8), sl8⟩)
    (c8 : PySem.W.codeIn K cd8 "_law_best" = true)
    (k8 : PySem.W.keepIn K (.ref f8) = true)
    (a9 : PySem.W.nsIn K mainGlobals "_law_days" = some (some (.ref f9)))
    (l9 : K.lookup f9 = some ⟨oc9, od9, .func (PySem.W.fnOf "_law_days" "_law_days" (defArgs st__law_days) (defBody st__law_days) (defScope st__law_days) .none kV9 dc9 pm9 an9 cd9 ct9), sl9⟩)
    (c9 : PySem.W.codeIn K cd9 "_law_days" = true)
    (k9 : PySem.W.keepIn K (.ref f9) = true)
    (a10 : PySem.W.nsIn K mainGlobals "_law_dealt" = some (some (.ref f10)))
    (l10 : K.lookup f10 = some ⟨oc10, od10, .func (PySem.W.fnOf "_law_dealt" "_law_dealt" (defArgs st__law_dealt) (defBody st__law_dealt) (defScope st__law_dealt) .none kV10 dc10 pm10 an10 cd10 ct10), sl10⟩)
    (c10 : PySem.W.codeIn K cd10 "_law_dealt" = true)
    (k10 : PySem.W.keepIn K (.ref f10) = true)
    (a11 : PySem.W.nsIn K mainGlobals "_law_room" = some (some (.ref f11)))
    (l11 : K.lookup f11 = some ⟨oc11, od11, .func (PySem.W.fnOf "_law_room" "_law_room" (defArgs st__law_room) (defBody st__law_room) (defScope st__law_room) .none kV11 dc11 pm11 an11 cd11 ct11), sl11⟩)
    (c11 : PySem.W.codeIn K cd11 "_law_room" = true)
    (k11 : PySem.W.keepIn K (.ref f11) = true)
    (a12 : PySem.W.nsIn K mainGlobals "_law_says" = some (some (.ref f12)))
    (l12 : K.lookup f12 = some ⟨oc12, od12, .func (PySem.W.fnOf "_law_says" "_law_says" (defArgs st__law_says) (defBody st__law_says) (defScope st__law_says) .none kV12 dc12 pm12 an12 cd12 ct12), sl12⟩)
    (c12 : PySem.W.codeIn K cd12 "_law_says" = true)
    (k12 : PySem.W.keepIn K (.ref f12) = true)
    (a13 : PySem.W.nsIn K mainGlobals "cut_front" = some (some (.ref f13)))
    (l13 : K.lookup f13 = some ⟨oc13, od13, .func (PySem.W.fnOf "cut_front" "cut_front" (defArgs st_cut_front) (defBody st_cut_front) (defScope st_cut_front) .none kV13 dc13 pm13 an13 cd13 ct13), sl13⟩)
    (c13 : PySem.W.codeIn K cd13 "cut_front" = true)
    (k13 : PySem.W.keepIn K (.ref f13) = true)
    (a14 : PySem.W.nsIn K mainGlobals "kept" = some (some (.ref f14)))
    (l14 : K.lookup f14 = some ⟨oc14, od14, .func (PySem.W.fnOf "kept" "kept" (defArgs st_kept) (defBody st_kept) (defScope st_kept) .none kV14 dc14 pm14 an14 cd14 ct14), sl14⟩)
    (c14 : PySem.W.codeIn K cd14 "kept" = true)
    (k14 : PySem.W.keepIn K (.ref f14) = true)
    (a15 : PySem.W.nsIn K mainGlobals "put_in" = some (some (.ref f15)))
    (l15 : K.lookup f15 = some ⟨oc15, od15, .func (PySem.W.fnOf "put_in" "put_in" (defArgs st_put_in) (defBody st_put_in) (defScope st_put_in) .none kV15 dc15 pm15 an15 cd15 ct15), sl15⟩)
    (c15 : PySem.W.codeIn K cd15 "put_in" = true)
    (k15 : PySem.W.keepIn K (.ref f15) = true)
    (a16 : PySem.W.nsIn K mainGlobals "is_number" = some (some (.ref f16)))
    (l16 : K.lookup f16 = some ⟨oc16, od16, .func (PySem.W.fnOf "is_number" "is_number" (defArgs st_is_number) (defBody st_is_number) (defScope st_is_number) .none kV16 dc16 pm16 an16 cd16 ct16), sl16⟩)
    (c16 : PySem.W.codeIn K cd16 "is_number" = true)
    (k16 : PySem.W.keepIn K (.ref f16) = true)
    (a17 : PySem.W.nsIn K mainGlobals "are_numbers" = some (some (.ref f17)))
    (l17 : K.lookup f17 = some ⟨oc17, od17, .func (PySem.W.fnOf "are_numbers" "are_numbers" (defArgs st_are_numbers) (defBody st_are_numbers) (defScope st_are_numbers) .none kV17 dc17 pm17 an17 cd17 ct17), sl17⟩)
    (c17 : PySem.W.codeIn K cd17 "are_numbers" = true)
    (k17 : PySem.W.keepIn K (.ref f17) = true)
    (a18 : PySem.W.nsIn K mainGlobals "asked_days" = some (some (.ref f18)))
    (l18 : K.lookup f18 = some ⟨oc18, od18, .func (PySem.W.fnOf "asked_days" "asked_days" (defArgs st_asked_days) (defBody st_asked_days) (defScope st_asked_days) .none kV18 dc18 pm18 an18 cd18 ct18), sl18⟩)
    (c18 : PySem.W.codeIn K cd18 "asked_days" = true)
    (k18 : PySem.W.keepIn K (.ref f18) = true)
    (a19 : PySem.W.nsIn K mainGlobals "asked_room" = some (some (.ref f19)))
    (l19 : K.lookup f19 = some ⟨oc19, od19, .func (PySem.W.fnOf "asked_room" "asked_room" (defArgs st_asked_room) (defBody st_asked_room) (defScope st_asked_room) .none kV19 dc19 pm19 an19 cd19 ct19), sl19⟩)
    (c19 : PySem.W.codeIn K cd19 "asked_room" = true)
    (k19 : PySem.W.keepIn K (.ref f19) = true)
    (a20 : PySem.W.nsIn K mainGlobals "best" = some (some (.ref f20)))
    (l20 : K.lookup f20 = some ⟨oc20, od20, .func (PySem.W.fnOf "best" "best" (defArgs st_best) (defBody st_best) (defScope st_best) .none kV20 dc20 pm20 an20 cd20 ct20), sl20⟩)
    (c20 : PySem.W.codeIn K cd20 "best" = true)
    (k20 : PySem.W.keepIn K (.ref f20) = true)
    (a21 : PySem.W.nsIn K mainGlobals "law" = some (some (.ref f21)))
    (l21 : K.lookup f21 = some ⟨oc21, od21, .func (PySem.W.fnOf "law" "law" (defArgs st_law) (defBody st_law) (defScope st_law) .none kV21 dc21 pm21 an21 cd21 ct21), sl21⟩)
    (c21 : PySem.W.codeIn K cd21 "law" = true)
    (k21 : PySem.W.keepIn K (.ref f21) = true)
    (aCBest : PySem.W.nsIn K mainGlobals "Best" = some (some (.ref CBest)))
    (pgBest : PySem.W.plainGet K CBest Str.empty = true)
    (hdBest : PySem.W.hasDictIn K CBest = true)
    (poBest : PySem.W.plainOver K CBest = true)
    (saBest : PySem.W.findIn K (.ref CBest) "__setattr__" = some (some (.builtin "object.__setattr__")))
    (mkBest : PySem.W.makesIn K CBest = true)
    (kcBest : PySem.W.keepIn K (.ref CBest) = true)
    (nBestdealing : PySem.W.findIn K (.ref CBest) "dealing" = some none)
    (nBestworths : PySem.W.findIn K (.ref CBest) "worths" = some none)
    (aCWorths : PySem.W.nsIn K mainGlobals "Worths" = some (some (.ref CWorths)))
    (pgWorths : PySem.W.plainGet K CWorths Str.empty = true)
    (hdWorths : PySem.W.hasDictIn K CWorths = true)
    (poWorths : PySem.W.plainOver K CWorths = true)
    (saWorths : PySem.W.findIn K (.ref CWorths) "__setattr__" = some (some (.builtin "object.__setattr__")))
    (mkWorths : PySem.W.makesIn K CWorths = true)
    (kcWorths : PySem.W.keepIn K (.ref CWorths) = true)
    (nWorthsdays : PySem.W.findIn K (.ref CWorths) "days" = some none)
    (nWorthsroom : PySem.W.findIn K (.ref CWorths) "room" = some none)
    (nWorthsgains : PySem.W.findIn K (.ref CWorths) "gains" = some none)
    (nWorthsbehind : PySem.W.findIn K (.ref CWorths) "behind" = some none)
    (nWorthswide : PySem.W.findIn K (.ref CWorths) "wide" = some none)
    (a22 : PySem.W.findIn K (.ref CBest) "__init__" = some (some (.ref f22)))
    (i22 : PySem.W.isFn K (.ref f22) = true)
    (l22 : K.lookup f22 = some ⟨oc22, od22, .func (PySem.W.fnOf "__init__" "Best.__init__" (defArgs st_Best___init__) (defBody st_Best___init__) (defScope st_Best___init__) .none kV22 dc22 pm22 an22 cd22 ct22), sl22⟩)
    (c22 : PySem.W.codeIn K cd22 "Best.__init__" = true)
    (k22 : PySem.W.keepIn K (.ref f22) = true)
    (a23 : PySem.W.findIn K (.ref CBest) "shows" = some (some (.ref f23)))
    (i23 : PySem.W.isFn K (.ref f23) = true)
    (l23 : K.lookup f23 = some ⟨oc23, od23, .func (PySem.W.fnOf "shows" "Best.shows" (defArgs st_Best_shows) (defBody st_Best_shows) (defScope st_Best_shows) .none kV23 dc23 pm23 an23 cd23 ct23), sl23⟩)
    (c23 : PySem.W.codeIn K cd23 "Best.shows" = true)
    (k23 : PySem.W.keepIn K (.ref f23) = true)
    (a24 : PySem.W.findIn K (.ref CWorths) "add" = some (some (.ref f24)))
    (i24 : PySem.W.isFn K (.ref f24) = true)
    (l24 : K.lookup f24 = some ⟨oc24, od24, .func (PySem.W.fnOf "add" "Worths.add" (defArgs st_Worths_add) (defBody st_Worths_add) (defScope st_Worths_add) .none kV24 dc24 pm24 an24 cd24 ct24), sl24⟩)
    (c24 : PySem.W.codeIn K cd24 "Worths.add" = true)
    (k24 : PySem.W.keepIn K (.ref f24) = true)
    (a25 : PySem.W.findIn K (.ref CWorths) "__init__" = some (some (.ref f25)))
    (i25 : PySem.W.isFn K (.ref f25) = true)
    (l25 : K.lookup f25 = some ⟨oc25, od25, .func (PySem.W.fnOf "__init__" "Worths.__init__" (defArgs st_Worths___init__) (defBody st_Worths___init__) (defScope st_Worths___init__) .none kV25 dc25 pm25 an25 cd25 ct25), sl25⟩)
    (c25 : PySem.W.codeIn K cd25 "Worths.__init__" = true)
    (k25 : PySem.W.keepIn K (.ref f25) = true)
    (a26 : PySem.W.findIn K (.ref CWorths) "deed" = some (some (.ref f26)))
    (i26 : PySem.W.isFn K (.ref f26) = true)
    (l26 : K.lookup f26 = some ⟨oc26, od26, .func (PySem.W.fnOf "deed" "Worths.deed" (defArgs st_Worths_deed) (defBody st_Worths_deed) (defScope st_Worths_deed) .none kV26 dc26 pm26 an26 cd26 ct26), sl26⟩)
    (c26 : PySem.W.codeIn K cd26 "Worths.deed" = true)
    (k26 : PySem.W.keepIn K (.ref f26) = true)
    (a27 : PySem.W.findIn K (.ref CWorths) "worth_below" = some (some (.ref f27)))
    (i27 : PySem.W.isFn K (.ref f27) = true)
    (l27 : K.lookup f27 = some ⟨oc27, od27, .func (PySem.W.fnOf "worth_below" "Worths.worth_below" (defArgs st_Worths_worth_below) (defBody st_Worths_worth_below) (defScope st_Worths_worth_below) .none kV27 dc27 pm27 an27 cd27 ct27), sl27⟩)
    (c27 : PySem.W.codeIn K cd27 "Worths.worth_below" = true)
    (k27 : PySem.W.keepIn K (.ref f27) = true)
    (a28 : PySem.W.findIn K (.ref CWorths) "worth_above" = some (some (.ref f28)))
    (i28 : PySem.W.isFn K (.ref f28) = true)
    (l28 : K.lookup f28 = some ⟨oc28, od28, .func (PySem.W.fnOf "worth_above" "Worths.worth_above" (defArgs st_Worths_worth_above) (defBody st_Worths_worth_above) (defScope st_Worths_worth_above) .none kV28 dc28 pm28 an28 cd28 ct28), sl28⟩)
    (c28 : PySem.W.codeIn K cd28 "Worths.worth_above" = true)
    (k28 : PySem.W.keepIn K (.ref f28) = true)
    (z_len : PySem.W.nsIn K mainGlobals "len" = some none)
    (z_sum : PySem.W.nsIn K mainGlobals "sum" = some none)
    (z_max : PySem.W.nsIn K mainGlobals "max" = some none)
    (z_min : PySem.W.nsIn K mainGlobals "min" = some none)
    (z_all : PySem.W.nsIn K mainGlobals "all" = some none)
    (z_any : PySem.W.nsIn K mainGlobals "any" = some none)
    (z_list : PySem.W.nsIn K mainGlobals "list" = some none)
    (z_range : PySem.W.nsIn K mainGlobals "range" = some none)
    (z_enumerate : PySem.W.nsIn K mainGlobals "enumerate" = some none)
    (z_zip : PySem.W.nsIn K mainGlobals "zip" = some none)
    (z_reversed : PySem.W.nsIn K mainGlobals "reversed" = some none)
    (z_isinstance : PySem.W.nsIn K mainGlobals "isinstance" = some none)
    (z_int : PySem.W.nsIn K mainGlobals "int" = some none)
    (z_bool : PySem.W.nsIn K mainGlobals "bool" = some none)
    (z_tuple : PySem.W.nsIn K mainGlobals "tuple" = some none)
    (z_sorted : PySem.W.nsIn K mainGlobals "sorted" = some none) :
    ∃ fd : FuncData, (∀ (s : Shared) (v : Value), BindsTo s fd ⟨[v], []⟩ [("_law_script", v)]) ∧ ∀ base : Heap, K.In base → base.Ns mainGlobals mg → FnOk l.prog w K mg base CX0 6 fa fd ["_law_script"] (sp_law K) := by
  have e := hfa.symm.trans (PySem.W.mg_of X G a21)
  cases e
  have B : Blt mg := ⟨PySem.W.mg_none_of X G z_len, PySem.W.mg_none_of X G z_sum, PySem.W.mg_none_of X G z_max, PySem.W.mg_none_of X G z_min, PySem.W.mg_none_of X G z_all, PySem.W.mg_none_of X G z_any, PySem.W.mg_none_of X G z_list, PySem.W.mg_none_of X G z_range, PySem.W.mg_none_of X G z_enumerate, PySem.W.mg_none_of X G z_zip, PySem.W.mg_none_of X G z_reversed, PySem.W.mg_none_of X G z_isinstance, PySem.W.mg_none_of X G z_int, PySem.W.mg_none_of X G z_bool, PySem.W.mg_none_of X G z_tuple, PySem.W.mg_none_of X G z_sorted⟩
  have TBest : Cls K CBest := ⟨pgBest, hdBest, poBest, saBest⟩
  have NBest : NaBest K CBest := ⟨nBestdealing, nBestworths⟩
  have TWorths : Cls K CWorths := ⟨pgWorths, hdWorths, poWorths, saWorths⟩
  have NWorths : NaWorths K CWorths := ⟨nWorthsdays, nWorthsroom, nWorthsgains, nWorthsbehind, nWorthswide⟩
  have F1 := fun_mk (st := st_bound_of) l1 c1 k1
  have H1 : FunH K mg "bound_of" "bound_of" st_bound_of ps_bound_of := ⟨f1, _, F1, PySem.W.mg_of X G a1, F1.binds (ps := ps_bound_of) fun _ _ _ _ _ _ us hl => match us, hl with | [_, _, _], _ => rfl⟩
  have F2 := fun_mk (st := st_nights) l2 c2 k2
  have H2 : FunH K mg "nights" "nights" st_nights ps_nights := ⟨f2, _, F2, PySem.W.mg_of X G a2, F2.binds (ps := ps_nights) fun _ _ _ _ _ _ us hl => match us, hl with | [_], _ => rfl⟩
  have F3 := fun_mk (st := st_first_fault) l3 c3 k3
  have H3 : FunH K mg "first_fault" "first_fault" st_first_fault ps_first_fault := ⟨f3, _, F3, PySem.W.mg_of X G a3, F3.binds (ps := ps_first_fault) fun _ _ _ _ _ _ us hl => match us, hl with | [_, _, _], _ => rfl⟩
  have F4 := fun_mk (st := st_gain_of) l4 c4 k4
  have H4 : FunH K mg "gain_of" "gain_of" st_gain_of ps_gain_of := ⟨f4, _, F4, PySem.W.mg_of X G a4, F4.binds (ps := ps_gain_of) fun _ _ _ _ _ _ us hl => match us, hl with | [_, _], _ => rfl⟩
  have F5 := fun_mk (st := st__law_bent) l5 c5 k5
  have H5 : FunH K mg "_law_bent" "_law_bent" st__law_bent ps__law_bent := ⟨f5, _, F5, PySem.W.mg_of X G a5, F5.binds (ps := ps__law_bent) fun _ _ _ _ _ _ us hl => match us, hl with | [_, _], _ => rfl⟩
  have F6 := fun_mk (st := st__law_bound) l6 c6 k6
  have H6 : FunH K mg "_law_bound" "_law_bound" st__law_bound ps__law_bound := ⟨f6, _, F6, PySem.W.mg_of X G a6, F6.binds (ps := ps__law_bound) fun _ _ _ _ _ _ us hl => match us, hl with | [_, _, _], _ => rfl⟩
  have F7 := fun_mk (st := st__law_can) l7 c7 k7
  have H7 : FunH K mg "_law_can" "_law_can" st__law_can ps__law_can := ⟨f7, _, F7, PySem.W.mg_of X G a7, F7.binds (ps := ps__law_can) fun _ _ _ _ _ _ us hl => match us, hl with | [_, _, _], _ => rfl⟩
  have F8 := fun_mk (st := st__law_best) l8 c8 k8
  have H8 : FunH K mg "_law_best" "_law_best" st__law_best ps__law_best := ⟨f8, _, F8, PySem.W.mg_of X G a8, F8.binds (ps := ps__law_best) fun _ _ _ _ _ _ us hl => match us, hl with | [_, _, _, _], _ => rfl⟩
  have F9 := fun_mk (st := st__law_days) l9 c9 k9
  have H9 : FunH K mg "_law_days" "_law_days" st__law_days ps__law_days := ⟨f9, _, F9, PySem.W.mg_of X G a9, F9.binds (ps := ps__law_days) fun _ _ _ _ _ _ us hl => match us, hl with | [_], _ => rfl⟩
  have F10 := fun_mk (st := st__law_dealt) l10 c10 k10
  have H10 : FunH K mg "_law_dealt" "_law_dealt" st__law_dealt ps__law_dealt := ⟨f10, _, F10, PySem.W.mg_of X G a10, F10.binds (ps := ps__law_dealt) fun _ _ _ _ _ _ us hl => match us, hl with | [_, _], _ => rfl⟩
  have F11 := fun_mk (st := st__law_room) l11 c11 k11
  have H11 : FunH K mg "_law_room" "_law_room" st__law_room ps__law_room := ⟨f11, _, F11, PySem.W.mg_of X G a11, F11.binds (ps := ps__law_room) fun _ _ _ _ _ _ us hl => match us, hl with | [_], _ => rfl⟩
  have F12 := fun_mk (st := st__law_says) l12 c12 k12
  have H12 : FunH K mg "_law_says" "_law_says" st__law_says ps__law_says := ⟨f12, _, F12, PySem.W.mg_of X G a12, F12.binds (ps := ps__law_says) fun _ _ _ _ _ _ us hl => match us, hl with | [_, _], _ => rfl⟩
  have F13 := fun_mk (st := st_cut_front) l13 c13 k13
  have H13 : FunH K mg "cut_front" "cut_front" st_cut_front ps_cut_front := ⟨f13, _, F13, PySem.W.mg_of X G a13, F13.binds (ps := ps_cut_front) fun _ _ _ _ _ _ us hl => match us, hl with | [_, _], _ => rfl⟩
  have F14 := fun_mk (st := st_kept) l14 c14 k14
  have H14 : FunH K mg "kept" "kept" st_kept ps_kept := ⟨f14, _, F14, PySem.W.mg_of X G a14, F14.binds (ps := ps_kept) fun _ _ _ _ _ _ us hl => match us, hl with | [_, _], _ => rfl⟩
  have F15 := fun_mk (st := st_put_in) l15 c15 k15
  have H15 : FunH K mg "put_in" "put_in" st_put_in ps_put_in := ⟨f15, _, F15, PySem.W.mg_of X G a15, F15.binds (ps := ps_put_in) fun _ _ _ _ _ _ us hl => match us, hl with | [_, _, _], _ => rfl⟩
  have F16 := fun_mk (st := st_is_number) l16 c16 k16
  have H16 : FunH K mg "is_number" "is_number" st_is_number ps_is_number := ⟨f16, _, F16, PySem.W.mg_of X G a16, F16.binds (ps := ps_is_number) fun _ _ _ _ _ _ us hl => match us, hl with | [_], _ => rfl⟩
  have F17 := fun_mk (st := st_are_numbers) l17 c17 k17
  have H17 : FunH K mg "are_numbers" "are_numbers" st_are_numbers ps_are_numbers := ⟨f17, _, F17, PySem.W.mg_of X G a17, F17.binds (ps := ps_are_numbers) fun _ _ _ _ _ _ us hl => match us, hl with | [_, _], _ => rfl⟩
  have F18 := fun_mk (st := st_asked_days) l18 c18 k18
  have H18 : FunH K mg "asked_days" "asked_days" st_asked_days ps_asked_days := ⟨f18, _, F18, PySem.W.mg_of X G a18, F18.binds (ps := ps_asked_days) fun _ _ _ _ _ _ us hl => match us, hl with | [_], _ => rfl⟩
  have F19 := fun_mk (st := st_asked_room) l19 c19 k19
  have H19 : FunH K mg "asked_room" "asked_room" st_asked_room ps_asked_room := ⟨f19, _, F19, PySem.W.mg_of X G a19, F19.binds (ps := ps_asked_room) fun _ _ _ _ _ _ us hl => match us, hl with | [_], _ => rfl⟩
  have F20 := fun_mk (st := st_best) l20 c20 k20
  have H20 : FunH K mg "best" "best" st_best ps_best := ⟨f20, _, F20, PySem.W.mg_of X G a20, F20.binds (ps := ps_best) fun _ _ _ _ _ _ us hl => match us, hl with | [_, _], _ => rfl⟩
  have F21 := fun_mk (st := st_law) l21 c21 k21
  have F22 := fun_mk (st := st_Best___init__) l22 c22 k22
  have H22 : IniH K mg CBest "Best" "Best.__init__" st_Best___init__ ps_Best___init__ := ⟨f22, _, F22, ⟨mkBest, a22, i22, kcBest⟩, PySem.W.mg_of X G aCBest, F22.binds (ps := ps_Best___init__) fun _ _ _ _ _ _ us hl => match us, hl with | [_, _, _], _ => rfl⟩
  have F23 := fun_mk (st := st_Best_shows) l23 c23 k23
  have H23 : MetH K CBest "shows" "Best.shows" st_Best_shows ps_Best_shows := ⟨f23, _, F23, ⟨a23, i23, k23⟩, F23.binds (ps := ps_Best_shows) fun _ _ _ _ _ _ us hl => match us, hl with | [_, _, _], _ => rfl⟩
  have F24 := fun_mk (st := st_Worths_add) l24 c24 k24
  have H24 : MetH K CWorths "add" "Worths.add" st_Worths_add ps_Worths_add := ⟨f24, _, F24, ⟨a24, i24, k24⟩, F24.binds (ps := ps_Worths_add) fun _ _ _ _ _ _ us hl => match us, hl with | [_, _], _ => rfl⟩
  have F25 := fun_mk (st := st_Worths___init__) l25 c25 k25
  have H25 : IniH K mg CWorths "Worths" "Worths.__init__" st_Worths___init__ ps_Worths___init__ := ⟨f25, _, F25, ⟨mkWorths, a25, i25, kcWorths⟩, PySem.W.mg_of X G aCWorths, F25.binds (ps := ps_Worths___init__) fun _ _ _ _ _ _ us hl => match us, hl with | [_, _, _], _ => rfl⟩
  have F26 := fun_mk (st := st_Worths_deed) l26 c26 k26
  have H26 : MetH K CWorths "deed" "Worths.deed" st_Worths_deed ps_Worths_deed := ⟨f26, _, F26, ⟨a26, i26, k26⟩, F26.binds (ps := ps_Worths_deed) fun _ _ _ _ _ _ us hl => match us, hl with | [_, _, _, _], _ => rfl⟩
  have F27 := fun_mk (st := st_Worths_worth_below) l27 c27 k27
  have H27 : MetH K CWorths "worth_below" "Worths.worth_below" st_Worths_worth_below ps_Worths_worth_below := ⟨f27, _, F27, ⟨a27, i27, k27⟩, F27.binds (ps := ps_Worths_worth_below) fun _ _ _ _ _ _ us hl => match us, hl with | [_, _, _], _ => rfl⟩
  have F28 := fun_mk (st := st_Worths_worth_above) l28 c28 k28
  have H28 : MetH K CWorths "worth_above" "Worths.worth_above" st_Worths_worth_above ps_Worths_worth_above := ⟨f28, _, F28, ⟨a28, i28, k28⟩, F28.binds (ps := ps_Worths_worth_above) fun _ _ _ _ _ _ us hl => match us, hl with | [_, _, _], _ => rfl⟩
  refine ⟨PySem.W.fnOf "law" "law" (defArgs st_law) (defBody st_law) (defScope st_law) .none kV21 dc21 pm21 an21 cd21 ct21, fun s v => .of_eq rfl, fun base _ _ => ?_⟩
  have h_Best := ok_Best___init__ (P := l.prog) (w := w) (base := base) TBest NBest H22 B 
  have h_bound_of := ok_bound_of (P := l.prog) (w := w) (base := base) H1 B 
  have h_nights := ok_nights (P := l.prog) (w := w) (base := base) H2 B 
  have h_first_fault := ok_first_fault (P := l.prog) (w := w) (base := base) H3 B h_nights
  have h_gain_of := ok_gain_of (P := l.prog) (w := w) (base := base) H4 B 
  have h_Best_shows := ok_Best_shows (P := l.prog) (w := w) (base := base) TBest NBest H23 B h_bound_of h_first_fault h_gain_of
  have h__law_bent := ok__law_bent (P := l.prog) (w := w) (base := base) H5 B 
  have h__law_bound := ok__law_bound (P := l.prog) (w := w) (base := base) H6 B 
  have h__law_can := ok__law_can (P := l.prog) (w := w) (base := base) H7 B 
  have h__law_best := ok__law_best (P := l.prog) (w := w) (base := base) H8 B h__law_bound h__law_can
  have h__law_days := ok__law_days (P := l.prog) (w := w) (base := base) H9 B 
  have h__law_dealt := ok__law_dealt (P := l.prog) (w := w) (base := base) H10 B 
  have h__law_room := ok__law_room (P := l.prog) (w := w) (base := base) H11 B 
  have h__law_says := ok__law_says (P := l.prog) (w := w) (base := base) H12 B 
  have h_cut_front := ok_cut_front (P := l.prog) (w := w) (base := base) H13 B 
  have h_kept := ok_kept (P := l.prog) (w := w) (base := base) H14 B 
  have h_put_in := ok_put_in (P := l.prog) (w := w) (base := base) H15 B 
  have h_Worths_add := ok_Worths_add (P := l.prog) (w := w) (base := base) TWorths NWorths H24 B h_cut_front h_kept h_put_in
  have h_Worths := ok_Worths___init__ (P := l.prog) (w := w) (base := base) TWorths NWorths H25 B h_Worths_add
  have h_Worths_deed := ok_Worths_deed (P := l.prog) (w := w) (base := base) TWorths NWorths H26 B 
  have h_Worths_worth_below := ok_Worths_worth_below (P := l.prog) (w := w) (base := base) TWorths NWorths H27 B h_kept
  have h_Worths_worth_above := ok_Worths_worth_above (P := l.prog) (w := w) (base := base) TWorths NWorths H28 B h_Worths_worth_below h_cut_front
  have h_is_number := ok_is_number (P := l.prog) (w := w) (base := base) H16 B 
  have h_are_numbers := ok_are_numbers (P := l.prog) (w := w) (base := base) H17 B h_is_number
  have h_asked_days := ok_asked_days (P := l.prog) (w := w) (base := base) H18 B h_are_numbers
  have h_asked_room := ok_asked_room (P := l.prog) (w := w) (base := base) H19 B h_is_number
  have h_best := ok_best (P := l.prog) (w := w) (base := base) TBest NBest TWorths NWorths H20 B h_Best h_Worths h_Worths_deed h_Worths_worth_above h_Worths_worth_below h_asked_days h_asked_room
  exact ok_law (P := l.prog) (w := w) (base := base) TBest NBest F21 B h_Best h_Best_shows h__law_bent h__law_best h__law_days h__law_dealt h__law_room h__law_says h_best
end Gt
open PySem PySem.W PyProof.Rows in
set_option maxRecDepth 100000 in
set_option maxHeartbeats 0 in
theorem PySem.Challenge.cw_grainstore_k05_answers_by_hand_holds : PySem.Challenge.rw_grainstore_k05_answers_by_hand.Holds := by
  w_on; o_law; k_head; (case hw => w_witness2)
  k_fill
  refine L2.walk_of (l := PySem.Challenge.rw_grainstore_k05_answers_by_hand) (n := 63) (k := 6) (x := "_law_script") (CX := fun _ => L2.CX0) (sp := fun w => Gt.sp_law _) rfl (by decide) rfl ⟨rfl, by decide, by decide⟩ (fun w h Y => PySem.W.kIn_of Y) ?F (fun _ H a ns hl _ hS => Gt.law_start hS hl) (fun _ _ _ _ _ h => h)
  case F =>
    intro w mg fa h KX G hmg
    refine' Gt.all_mk KX G hmg ?a1 ?l1 ?c1 ?k1 ?a2 ?l2 ?c2 ?k2 ?a3 ?l3 ?c3 ?k3 ?a4 ?l4 ?c4 ?k4 ?a5 ?l5 ?c5 ?k5 ?a6 ?l6 ?c6 ?k6 ?a7 ?l7 ?c7 ?k7 ?a8 ?l8 ?c8 ?k8 ?a9 ?l9 ?c9 ?k9 ?a10 ?l10 ?c10 ?k10 ?a11 ?l11 ?c11 ?k11 ?a12 ?l12 ?c12 ?k12 ?a13 ?l13 ?c13 ?k13 ?a14 ?l14 ?c14 ?k14 ?a15 ?l15 ?c15 ?k15 ?a16 ?l16 ?c16 ?k16 ?a17 ?l17 ?c17 ?k17 ?a18 ?l18 ?c18 ?k18 ?a19 ?l19 ?c19 ?k19 ?a20 ?l20 ?c20 ?k20 ?a21 ?l21 ?c21 ?k21 ?aCBest ?pgBest ?hdBest ?poBest ?saBest ?mkBest ?kcBest ?nBestdealing ?nBestworths ?aCWorths ?pgWorths ?hdWorths ?poWorths ?saWorths ?mkWorths ?kcWorths ?nWorthsdays ?nWorthsroom ?nWorthsgains ?nWorthsbehind ?nWorthswide ?a22 ?i22 ?l22 ?c22 ?k22 ?a23 ?i23 ?l23 ?c23 ?k23 ?a24 ?i24 ?l24 ?c24 ?k24 ?a25 ?i25 ?l25 ?c25 ?k25 ?a26 ?i26 ?l26 ?c26 ?k26 ?a27 ?i27 ?l27 ?c27 ?k27 ?a28 ?i28 ?l28 ?c28 ?k28 ?z_len ?z_sum ?z_max ?z_min ?z_all ?z_any ?z_list ?z_range ?z_enumerate ?z_zip ?z_reversed ?z_isinstance ?z_int ?z_bool ?z_tuple ?z_sorted
    (case a1 => k_is)
    (case l1 => k_is)
    (case c1 => k_is)
    (case k1 => k_is)
    (case a2 => k_is)
    (case l2 => k_is)
    (case c2 => k_is)
    (case k2 => k_is)
    (case a3 => k_is)
    (case l3 => k_is)
    (case c3 => k_is)
    (case k3 => k_is)
    (case a4 => k_is)
    (case l4 => k_is)
    (case c4 => k_is)
    (case k4 => k_is)
    (case a5 => k_is)
    (case l5 => k_is)
    (case c5 => k_is)
    (case k5 => k_is)
    (case a6 => k_is)
    (case l6 => k_is)
    (case c6 => k_is)
    (case k6 => k_is)
    (case a7 => k_is)
    (case l7 => k_is)
    (case c7 => k_is)
    (case k7 => k_is)
    (case a8 => k_is)
    (case l8 => k_is)
    (case c8 => k_is)
    (case k8 => k_is)
    (case a9 => k_is)
    (case l9 => k_is)
    (case c9 => k_is)
    (case k9 => k_is)
    (case a10 => k_is)
    (case l10 => k_is)
    (case c10 => k_is)
    (case k10 => k_is)
    (case a11 => k_is)
    (case l11 => k_is)
    (case c11 => k_is)
    (case k11 => k_is)
    (case a12 => k_is)
    (case l12 => k_is)
    (case c12 => k_is)
    (case k12 => k_is)
    (case a13 => k_is)
    (case l13 => k_is)
    (case c13 => k_is)
    (case k13 => k_is)
    (case a14 => k_is)
    (case l14 => k_is)
    (case c14 => k_is)
    (case k14 => k_is)
    (case a15 => k_is)
    (case l15 => k_is)
    (case c15 => k_is)
    (case k15 => k_is)
    (case a16 => k_is)
    (case l16 => k_is)
    (case c16 => k_is)
    (case k16 => k_is)
    (case a17 => k_is)
    (case l17 => k_is)
    (case c17 => k_is)
    (case k17 => k_is)
    (case a18 => k_is)
    (case l18 => k_is)
    (case c18 => k_is)
    (case k18 => k_is)
    (case a19 => k_is)
    (case l19 => k_is)
    (case c19 => k_is)
    (case k19 => k_is)
    (case a20 => k_is)
    (case l20 => k_is)
    (case c20 => k_is)
    (case k20 => k_is)
    (case a21 => k_is)
    (case l21 => k_is)
    (case c21 => k_is)
    (case k21 => k_is)
    (case aCBest => k_is)
    (case pgBest => k_is)
    (case hdBest => k_is)
    (case poBest => k_is)
    (case saBest => k_is)
    (case mkBest => k_is)
    (case kcBest => k_is)
    (case nBestdealing => k_is)
    (case nBestworths => k_is)
    (case aCWorths => k_is)
    (case pgWorths => k_is)
    (case hdWorths => k_is)
    (case poWorths => k_is)
    (case saWorths => k_is)
    (case mkWorths => k_is)
    (case kcWorths => k_is)
    (case nWorthsdays => k_is)
    (case nWorthsroom => k_is)
    (case nWorthsgains => k_is)
    (case nWorthsbehind => k_is)
    (case nWorthswide => k_is)
    (case a22 => k_is)
    (case i22 => k_is)
    (case l22 => k_is)
    (case c22 => k_is)
    (case k22 => k_is)
    (case a23 => k_is)
    (case i23 => k_is)
    (case l23 => k_is)
    (case c23 => k_is)
    (case k23 => k_is)
    (case a24 => k_is)
    (case i24 => k_is)
    (case l24 => k_is)
    (case c24 => k_is)
    (case k24 => k_is)
    (case a25 => k_is)
    (case i25 => k_is)
    (case l25 => k_is)
    (case c25 => k_is)
    (case k25 => k_is)
    (case a26 => k_is)
    (case i26 => k_is)
    (case l26 => k_is)
    (case c26 => k_is)
    (case k26 => k_is)
    (case a27 => k_is)
    (case i27 => k_is)
    (case l27 => k_is)
    (case c27 => k_is)
    (case k27 => k_is)
    (case a28 => k_is)
    (case i28 => k_is)
    (case l28 => k_is)
    (case c28 => k_is)
    (case k28 => k_is)
    (case z_len => k_is)
    (case z_sum => k_is)
    (case z_max => k_is)
    (case z_min => k_is)
    (case z_all => k_is)
    (case z_any => k_is)
    (case z_list => k_is)
    (case z_range => k_is)
    (case z_enumerate => k_is)
    (case z_zip => k_is)
    (case z_reversed => k_is)
    (case z_isinstance => k_is)
    (case z_int => k_is)
    (case z_bool => k_is)
    (case z_tuple => k_is)
    (case z_sorted => k_is)
